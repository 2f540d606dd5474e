import PyProof.Rows.All
import Wide.All
import OpenK.AllK
import Wide.FinOn
import PyProof.EqAt
import PyProof.EqKinds
import PyProof.TupleCall
import HandS.Base
import HandS.Call
import HandS.List
import HandS.Comp
import HandS.Exc
import HandS.Words
import HandS.Lambda
import HandS.Style
import HandS.Iter
import HandS.Zip
import HandS.WordsExc
import HandS.TupAny
import HandS.Deep
import HandS.Wide
import HandS.IsInst
import HandS.Conv
import HandS.Sort
import KE.SortData
import PyProof.Rows.RuleB_pow
import PyProof.WalksMore
import PyProof.SumWalkG
import HandS.Star
import HandS.ExcValue
import PyProof.Rows.SortShell
import PyProof.Rows.SortWalk
import PyProof.ReprRoads
import KE.GoesEnum
import KE.GoesMore
import PyProof.EnumMake
import HandS.TupLe
import HandS.Defaults
import HandS.EndTab
import HandS.EndBits
import HandS.HeadHook4
import HandS.Head0
import HandS.Head1
import HandS.Head2
import HandS.ExcInit
import KE.KExcSuper
import KE.KSuper
import HandS.ExcField
import HandS.ExcIs
import HandS.SetFor
import HandS.TupSets
import HandS.SetBool
import HandS.DictComp
import PyProof.ReprBulk
import PyProof.FitsBits
import PySem.Challenge.RW_keptissaid_k00_relations_made_of_others
set_option Elab.async false
set_option linter.all false
set_option maxRecDepth 100000
set_option maxHeartbeats 4000000
namespace KS
open PySem PySem.Spec PyProof.Rows L2
open LamX (Tabs TabS)

/-- frozen data -/
inductive Val where
  | non | bl (b : Bool) | int (i : Int) | str (s : PySem.Str)
  | tup (xs : List Val) | lst (xs : List Val) | scr (ns : List Int)
  | exc (n : PySem.Str) (v : Val)
  | dct (ks : List (Val × Val))
  | set (xs : List Val)
  | ty (n : String)
  | cls (n : PySem.Str)
  | lam (n : Nat) (caps : List Val)
/-- what a slot may own -/
inductive Own where
  | v (d : Val)
  | l (ds : List Val)
abbrev Ro := List (Option Own)
def Own.val : Own → Val
  | .v d => d
  | .l ds => .lst ds
/-- what a call comes to -/
inductive RP where
  | ok (d : Own) | ex (n : PySem.Str) (v : Val) | bad
/-- a lambda of the text: its qualified name, its captured names -/
structure LamD where
  qual : PySem.Str
  params : Arguments
  body : Expr
  scope : Scope
  names : List PySem.Str
structure G where
  P : Program
  w : World
  K : PySem.W.Frag
  mg : PySem.Str → Option Value
  base : Heap
  T : List (Addr × PySem.Str)
  L : Nat → LamD
  LP : Nat → List Val → List Val → RP
/-- a caught exception of the class at C, its own dict at dx -/
def ExcO (C dx a : Addr) : HO := .ext fun h => ∃ (oe : Obj) (vs : Array Value), h.get? a = some oe ∧ oe.cls = .ref C ∧ oe.dict = some dx ∧ oe.data = .fields vs

/-- a closure: its object, its code object, its cells hold xs -/
def LamAt (g : G) (M : Hp) (n : Nat) (f : Addr) (xs : List V) : Prop := ∃ (c' : Addr) (clo : List (PySem.Str × Addr)) (pm ctv : Value), M f = some (.frz (PySem.W.kla_obj "<lambda>" (g.L n).qual (g.L n).params (g.L n).body (g.L n).scope clo pm c' ctv) (.own f)) ∧
  M c' = some (LamX.CodeO c' (g.L n).qual) ∧ (∀ y z c, clo.lookup y = some c → clo.lookup z = some c → y = z) ∧ (∀ y c, clo.lookup y = some c → y ∈ (g.L n).names) ∧
  ∀ (i : Nat) (y : PySem.Str), (g.L n).names[i]? = some y → ∃ (c : Addr) (oc : Obj) (u : Value) (x : V), clo.lookup y = some c ∧ M c = some (.frz oc (.own c)) ∧ oc.data = .cell (some u) ∧ xs[i]? = some x ∧ RelV x u
theorem LamAt.imp {g : G} {M M' : Hp} {n : Nat} {f : Addr} {xs : List V} (h : LamAt g M n f xs) (k : ∀ a o, M a = some o → (∀ ys, o ≠ .lst ys) → M' a = some o) : LamAt g M' n f xs := by
  obtain ⟨c', clo, pm, ctv, h1, h2, h3, h4, h5⟩ := h
  refine ⟨c', clo, pm, ctv, k _ _ h1 (by intro ys z; cases z), k _ _ h2 (by intro ys z; unfold LamX.CodeO at z; cases z), h3, h4, fun i y e => ?_⟩
  obtain ⟨c, oc, u, x, e1, e2, e3⟩ := h5 i y e
  exact ⟨c, oc, u, x, e1, k _ _ e2 (by intro ys z; cases z), e3⟩
def keyV : Key → Val
  | .inl i => .int i
  | .inr s => .str s
def keyT (k : List Key) : Val := .tup (k.map keyV)
mutual
inductive Rep (g : G) (M : Hp) : Val → V → Prop
  | non : Rep g M .non .non
  | bl (b : Bool) : Rep g M (.bl b) (.bl b)
  | int (i : Int) : Rep g M (.int i) (.int i)
  | str (s : PySem.Str) : Rep g M (.str s) (.str s)
  | tup {a : Addr} {vs : List V} {ds : List Val} : M a = some (.tup vs) → RepL g M ds vs → Rep g M (.tup ds) (.ref a)
  | lst {a : Addr} {vs : List V} {ds : List Val} : M a = some (.lst vs) → RepL g M ds vs → Rep g M (.lst ds) (.ref a)
  | scr {a : Addr} {o : Obj} {ns : List Int} : M a = some (.frz o (.lst (ns.map V.int))) → Rep g M (.scr ns) (.ref a)
  | ty (n : String) : Rep g M (.ty n) (.ty n)
  | cls {C : Addr} {n : PySem.Str} : g.mg n = some (.ref C) → Rep g M (.cls n) (.ref C)
  | lam {f : Addr} {n : Nat} {caps : List Val} {xs : List V} : LamAt g M n f xs → RepL g M caps xs → Rep g M (.lam n caps) (.ref f)
  | dT {a : Addr} {kvs : List (List Key × V)} {ks : List (Val × Val)} : M a = some (.dT kvs) → ks.map Prod.fst = kvs.map (fun p => keyT p.1) → RepL g M (ks.map Prod.snd) (kvs.map Prod.snd) → Rep g M (.dct ks) (.ref a)
  | exc {a C dx : Addr} {n : PySem.Str} {d : Val} {x : V} : g.mg n = some (.ref C) → M a = some (ExcO C dx a) → M dx = some (.xd [(("value" : PySem.Str), x)]) → Rep g M d x → Rep g M (.exc n d) (.ref a)
inductive RepL (g : G) (M : Hp) : List Val → List V → Prop
  | nil : RepL g M [] []
  | cons {d : Val} {x : V} {ds : List Val} {xs : List V} : Rep g M d x → RepL g M ds xs → RepL g M (d :: ds) (x :: xs)
end
/-- more is known -/
def Le (M M' : Hp) : Prop := ∀ a o, M a = some o → M' a = some o
theorem Le.refl (M : Hp) : Le M M := fun _ _ h => h
theorem Le.trans {A B C : Hp} (h : Le A B) (k : Le B C) : Le A C := fun a o q => k a o (h a o q)
mutual
theorem Rep.mono {g : G} {M M' : Hp} (k : Le M M') : ∀ {d : Val} {x : V}, Rep g M d x → Rep g M' d x
  | _, _, .non => .non
  | _, _, .bl b => .bl b
  | _, _, .int i => .int i
  | _, _, .str s => .str s
  | _, _, .tup h t => .tup (k _ _ h) (RepL.mono k t)
  | _, _, .lst h t => .lst (k _ _ h) (RepL.mono k t)
  | _, _, .scr h => .scr (k _ _ h)
  | _, _, .ty n => .ty n
  | _, _, .cls h => .cls h
  | _, _, .lam h t => .lam (h.imp fun a o e _ => k a o e) (RepL.mono k t)
  | _, _, .dT h e t => .dT (k _ _ h) e (RepL.mono k t)
  | _, _, .exc c h hd r => .exc c (k _ _ h) (k _ _ hd) (Rep.mono k r)
theorem RepL.mono {g : G} {M M' : Hp} (k : Le M M') : ∀ {ds : List Val} {xs : List V}, RepL g M ds xs → RepL g M' ds xs
  | _, _, .nil => .nil
  | _, _, .cons h t => .cons (Rep.mono k h) (RepL.mono k t)
end
theorem RepL.length {g : G} {M : Hp} : ∀ {ds : List Val} {xs : List V}, RepL g M ds xs → ds.length = xs.length
  | _, _, .nil => rfl
  | _, _, .cons _ t => by simp [t.length]
theorem RepL.get {g : G} {M : Hp} : ∀ {ds : List Val} {xs : List V} {i : Nat} {d : Val}, RepL g M ds xs → ds[i]? = some d → ∃ x, xs[i]? = some x ∧ Rep g M d x
  | _, _, i, d, .nil, e => by simp at e
  | _, _, 0, d, .cons h _, e => by simp at e; subst e; exact ⟨_, rfl, h⟩
  | _, _, i + 1, d, .cons _ t, e => by
    obtain ⟨x, h1, h2⟩ := RepL.get (i := i) t (by simpa using e)
    exact ⟨x, by simpa using h1, h2⟩
theorem RepL.getV {g : G} {M : Hp} : ∀ {ds : List Val} {xs : List V} {i : Nat} {x : V}, RepL g M ds xs → xs[i]? = some x → ∃ d, ds[i]? = some d ∧ Rep g M d x
  | _, _, i, d, .nil, e => by simp at e
  | _, _, 0, d, .cons h _, e => by simp at e; subst e; exact ⟨_, rfl, h⟩
  | _, _, i + 1, d, .cons _ t, e => by
    obtain ⟨x, h1, h2⟩ := RepL.getV (i := i) t (by simpa using e)
    exact ⟨x, by simpa using h1, h2⟩
theorem RepL.append {g : G} {M : Hp} : ∀ {ds es : List Val} {xs ys : List V}, RepL g M ds xs → RepL g M es ys → RepL g M (ds ++ es) (xs ++ ys)
  | _, _, _, _, .nil, k => k
  | _, _, _, _, .cons h t, k => .cons h (RepL.append t k)
theorem RepL.take {g : G} {M : Hp} : ∀ {ds : List Val} {xs : List V} (n : Nat), RepL g M ds xs → RepL g M (ds.take n) (xs.take n)
  | _, _, 0, _ => .nil
  | _, _, _ + 1, .nil => .nil
  | _, _, n + 1, .cons h t => .cons h (RepL.take n t)
theorem RepL.drop {g : G} {M : Hp} : ∀ {ds : List Val} {xs : List V} (n : Nat), RepL g M ds xs → RepL g M (ds.drop n) (xs.drop n)
  | _, _, 0, r => r
  | _, _, _ + 1, .nil => .nil
  | _, _, n + 1, .cons _ t => RepL.drop n t
theorem RepL.set {g : G} {M : Hp} {d : Val} {x : V} (r : Rep g M d x) : ∀ {ds : List Val} {xs : List V} (i : Nat), RepL g M ds xs → RepL g M (ds.set i d) (xs.set i x)
  | _, _, _, .nil => .nil
  | _, _, 0, .cons _ t => .cons r t
  | _, _, i + 1, .cons q t => .cons q (RepL.set r i t)
theorem RepL.eraseIdx {g : G} {M : Hp} : ∀ {ds : List Val} {xs : List V} (i : Nat), RepL g M ds xs → RepL g M (ds.eraseIdx i) (xs.eraseIdx i)
  | _, _, _, .nil => .nil
  | _, _, 0, .cons _ t => t
  | _, _, i + 1, .cons q t => .cons q (RepL.eraseIdx i t)
theorem RepL.dropLast {g : G} {M : Hp} {ds : List Val} {xs : List V} (h : RepL g M ds xs) : RepL g M ds.dropLast xs.dropLast := by
  rw [List.dropLast_eq_take, List.dropLast_eq_take, h.length]
  exact h.take _
theorem RepL.reverse {g : G} {M : Hp} : ∀ {ds : List Val} {xs : List V}, RepL g M ds xs → RepL g M ds.reverse xs.reverse
  | _, _, .nil => .nil
  | _, _, .cons h t => by
    rw [List.reverse_cons, List.reverse_cons]
    exact (RepL.reverse t).append (.cons h .nil)
theorem RepL.ints {g : G} {M : Hp} : ∀ {ns : List Int} {xs : List V}, RepL g M (ns.map Val.int) xs → xs = ns.map V.int
  | [], _, h => by cases h; rfl
  | n :: ns, _, h => by
    cases h with
    | cons h t => cases h; rw [RepL.ints t]; rfl
theorem repL_ints {g : G} {M : Hp} : ∀ (ns : List Int), RepL g M (ns.map Val.int) (ns.map V.int)
  | [] => .nil
  | n :: ns => .cons (.int n) (repL_ints ns)
theorem RepL.bls {g : G} {M : Hp} : ∀ {ns : List Bool} {xs : List V}, RepL g M (ns.map Val.bl) xs → xs = ns.map V.bl
  | [], _, h => by cases h; rfl
  | n :: ns, _, h => by
    cases h with
    | cons h t => cases h; rw [RepL.bls t]; rfl

/-- what is owned: its own addresses stand in H, its leaves in M -/
inductive RepO (g : G) (M H : Hp) : Own → V → List Addr → Prop
  | v {d : Val} {x : V} : Rep g M d x → RepO g M H (.v d) x []
  | l {a : Addr} {vs : List V} {ds : List Val} : H a = some (.lst vs) → RepL g M ds vs → RepO g M H (.l ds) (.ref a) [a]
theorem RepO.mono {g : G} {M M' H H' : Hp} {o : Own} {x : V} {fd : List Addr} (r : RepO g M H o x fd) (k : Le M M') (kh : ∀ a ∈ fd, ∀ u, H a = some u → H' a = some u) : RepO g M' H' o x fd := by
  cases r with
  | v r => exact .v (r.mono k)
  | l h t => exact .l (kh _ (by simp) _ h) (t.mono k)
/-- owned things are no tables, no tuples -/
def Live (H : Hp) (a : Addr) : Prop := ∃ xs, H a = some (.lst xs)
theorem Live.tbl {H : Hp} {a : Addr} (l : Live H a) {o : HO} (h : H a = some o) : ∀ ps, o ≠ .tbl ps := by
  obtain ⟨xs, e⟩ := l
  rw [e] at h; cases h
  intro ps q; cases q
theorem RepO.live {g : G} {M H : Hp} {o : Own} {x : V} {fd : List Addr} (r : RepO g M H o x fd) : ∀ a ∈ fd, Live H a := by
  intro a ha
  cases r with
  | v _ => cases ha
  | l h _ => obtain rfl : a = _ := by simpa using ha
             exact ⟨_, h⟩
/-- frozen -/
theorem RepO.val {g : G} {M H M' : Hp} {o : Own} {x : V} {fd : List Addr} (r : RepO g M H o x fd) (k : Le M M') (kh : ∀ a ∈ fd, M' a = H a) : Rep g M' o.val x := by
  cases r with
  | v r => exact r.mono k
  | l h t => exact .lst ((kh _ (by simp)).trans h) (t.mono k)

/-- the state: M what is frozen, H all, r the slots' contents, f what each slot owns -/
structure Sta (g : G) (M H : Hp) (r : Ro) (s : L2.St) (f : Nat → List Addr) : Prop where
  sub : Le M H
  env : ∀ i d, r[i]? = some (some d) → ∃ x, s[i]? = some (some x) ∧ RepO g M H d x (f i)
  dis : ∀ i j a, a ∈ f i → a ∈ f j → i = j
  fre : ∀ i a, a ∈ f i → M a = none
  out : ∀ i, (∀ d, r[i]? ≠ some (some d)) → f i = []
  tab : Tabs g.T H
  len : s.length = r.length
  nt : ∀ p ∈ g.T, M p.1 = none
/-- the tables stand, none is frozen -/
def TabM (g : G) (M H : Hp) : Prop := Tabs g.T H ∧ ∀ p ∈ g.T, M p.1 = none
theorem tab_at {T : List (Addr × PySem.Str)} {H : Hp} (t : Tabs T H) {p : Addr × PySem.Str} (h : p ∈ T) : ∃ ps, H p.1 = some (.tbl ps) := by
  obtain ⟨ps, e, _⟩ := t p h
  exact ⟨ps, e⟩
theorem tab_live {T : List (Addr × PySem.Str)} {H : Hp} (t : Tabs T H) {p : Addr × PySem.Str} (h : p ∈ T) (l : Live H p.1) : False := by
  obtain ⟨ps, e⟩ := tab_at t h
  obtain ⟨xs, e2⟩ := l
  rw [e] at e2; cases e2
theorem Sta.live {g : G} {M H : Hp} {r : Ro} {s : L2.St} {f : Nat → List Addr} (st : Sta g M H r s f) {i : Nat} {a : Addr} (h : a ∈ f i) : Live H a := by
  by_cases hd : ∃ d, r[i]? = some (some d)
  · obtain ⟨d, hd⟩ := hd
    obtain ⟨x, _, ro⟩ := st.env i d hd
    exact ro.live a h
  · have := st.out i fun d e => hd ⟨d, e⟩
    rw [this] at h; cases h
open Classical in
/-- what may be read: the frozen, what the slots of S own, and fd -/
noncomputable def View (S : Nat → Bool) (M H : Hp) (f : Nat → List Addr) (fd : List Addr) : Hp := fun a => if (∃ i, S i = true ∧ a ∈ f i) ∨ a ∈ fd then H a else M a
section
variable {g : G} {S : Nat → Bool} {M H M' H' : Hp} {r r' : Ro} {s s' : L2.St} {f f' : Nat → List Addr} {fd : List Addr} {a : Addr} {o : HO}
theorem view_in {i : Nat} (h1 : S i = true) (h2 : a ∈ f i) : View S M H f fd a = H a := by
  unfold View; rw [if_pos (.inl ⟨i, h1, h2⟩)]
theorem view_fd (h : a ∈ fd) : View S M H f fd a = H a := by
  unfold View; rw [if_pos (.inr h)]
theorem view_out (h1 : ∀ i, S i = true → a ∉ f i) (h2 : a ∉ fd) : View S M H f fd a = M a := by
  unfold View; rw [if_neg]; rintro (⟨i, q, z⟩ | z); exact h1 i q z; exact h2 z
theorem view_cases (S : Nat → Bool) (M H : Hp) (f : Nat → List Addr) (fd : List Addr) (a : Addr) : ((∃ i, S i = true ∧ a ∈ f i) ∧ View S M H f fd a = H a) ∨ (a ∈ fd ∧ View S M H f fd a = H a) ∨ ((∀ i, S i = true → a ∉ f i) ∧ a ∉ fd ∧ View S M H f fd a = M a) := by
  by_cases h1 : ∃ i, S i = true ∧ a ∈ f i
  · obtain ⟨i, q, z⟩ := h1
    exact .inl ⟨⟨i, q, z⟩, view_in q z⟩
  · by_cases h2 : a ∈ fd
    · exact .inr (.inl ⟨h2, view_fd h2⟩)
    · have h3 : ∀ i, S i = true → a ∉ f i := fun i q z => h1 ⟨i, q, z⟩
      exact .inr (.inr ⟨h3, h2, view_out h3 h2⟩)
theorem Sta.view_sub (st : Sta g M H r s f) : Le (View S M H f fd) H := fun a o e => by
  rcases view_cases S M H f fd a with ⟨_, q⟩ | ⟨_, q⟩ | ⟨_, _, q⟩ <;> rw [q] at e
  · exact e
  · exact e
  · exact st.sub a o e
theorem Sta.view_nt (st : Sta g M H r s f) (hl : ∀ a ∈ fd, Live H a) : ∀ p ∈ g.T, View S M H f fd p.1 = none := fun p hp => by
  rcases view_cases S M H f fd p.1 with ⟨⟨i, _, h⟩, _⟩ | ⟨h, _⟩ | ⟨_, _, q⟩
  · exact (tab_live st.tab hp (st.live h)).elim
  · exact (tab_live st.tab hp (hl _ h)).elim
  · rw [q]; exact st.nt p hp
theorem Sta.view_tab (st : Sta g M H r s f) (hl : ∀ a ∈ fd, Live H a) : TabM g (View S M H f fd) H := ⟨st.tab, st.view_nt hl⟩
theorem Sta.view_le (st : Sta g M H r s f) : Le M (View S M H f fd) := fun a o e => by
  rcases view_cases S M H f fd a with ⟨_, q⟩ | ⟨_, q⟩ | ⟨_, _, q⟩ <;> rw [q]
  · exact st.sub a o e
  · exact st.sub a o e
  · exact e
/-- a step of an expression: slots of S stay as they are -/
structure Step (g : G) (S : Nat → Bool) (M H : Hp) (r : Ro) (f : Nat → List Addr) (M' H' : Hp) (r' : Ro) (f' : Nat → List Addr) : Prop where
  mono : Le M M'
  keep : ∀ a o, H a = some o → (∀ i, S i = false → a ∉ f i) → (∀ ps, o ≠ .tbl ps) → H' a = some o
  dom : ∀ a, H' a = none → H a = none
  newM : ∀ a o, M' a = some o → M a = some o ∨ H a = none
  same : ∀ i, S i = true → f' i = f i ∧ r'[i]? = r[i]?
  newF : ∀ i a, a ∈ f' i → a ∈ f i ∨ H a = none
  rlen : r'.length = r.length
theorem Step.refl : Step g S M H r f M H r f := ⟨Le.refl M, fun _ _ h _ _ => h, fun _ h => h, fun _ _ h => .inl h, fun _ _ => ⟨rfl, rfl⟩, fun _ _ h => .inl h, rfl⟩
theorem Step.trans {M2 H2 : Hp} {r2 : Ro} {f2 : Nat → List Addr} (p : Step g S M H r f M' H' r' f') (q : Step g S M' H' r' f' M2 H2 r2 f2) : Step g S M H r f M2 H2 r2 f2 where
  mono := p.mono.trans q.mono
  keep := fun a o h n t => q.keep a o (p.keep a o h n t) (fun i hi z => by
    rcases p.newF i a z with z | z
    · exact n i hi z
    · rw [z] at h; cases h) t
  dom := fun a h => p.dom a (q.dom a h)
  newM := fun a o h => by
    rcases q.newM a o h with h | h
    · exact p.newM a o h
    · exact .inr (p.dom a h)
  same := fun i hi => ⟨(q.same i hi).1.trans (p.same i hi).1, (q.same i hi).2.trans (p.same i hi).2⟩
  newF := fun i a h => by
    rcases q.newF i a h with h | h
    · exact p.newF i a h
    · exact .inr (p.dom a h)
  rlen := q.rlen.trans p.rlen
theorem Sta.ndis (st : Sta g M H r s f) {i : Nat} (hi : S i = true) (h : a ∈ f i) : ∀ j, S j = false → a ∉ f j := fun j hj z => by
  have e := st.dis i j a h z
  subst e
  rw [hi] at hj; cases hj
theorem Step.view (p : Step g S M H r f M' H' r' f') (st : Sta g M H r s f) (st' : Sta g M' H' r' s' f') (hl : ∀ a ∈ fd, Live H a ∧ ∀ i, a ∉ f i) : Le (View S M H f fd) (View S M' H' f' fd) := fun a o e => by
  rcases view_cases S M H f fd a with ⟨⟨i, h1, h2⟩, q⟩ | ⟨h, q⟩ | ⟨h1, h2, q⟩ <;> rw [q] at e
  · rw [view_in h1 (by rw [(p.same i h1).1]; exact h2)]
    exact p.keep a o e (st.ndis h1 h2) ((st.live h2).tbl e)
  · rw [view_fd h]
    exact p.keep a o e (fun i _ => (hl a h).2 i) ((hl a h).1.tbl e)
  · exact st'.view_le a o (p.mono a o e)
/-- a value on the way: nobody else owns what it owns -/
structure Tmp (g : G) (S : Nat → Bool) (M H : Hp) (f : Nat → List Addr) (d : Own) (x : V) (fd : List Addr) : Prop where
  rep : RepO g (View S M H f []) H d x fd
  sep : ∀ a ∈ fd, M a = none ∧ ∀ i, a ∉ f i
theorem Tmp.live {d : Own} {x : V} (t : Tmp g S M H f d x fd) : ∀ a ∈ fd, Live H a := t.rep.live
theorem Tmp.step {d : Own} {x : V} (t : Tmp g S M H f d x fd) (p : Step g S M H r f M' H' r' f') (st : Sta g M H r s f) (st' : Sta g M' H' r' s' f') : Tmp g S M' H' f' d x fd where
  rep := t.rep.mono (p.view st st' (by simp)) fun a ha u hu => p.keep a u hu (fun i _ => (t.sep a ha).2 i) ((t.live a ha).tbl hu)
  sep := fun a ha => by
    obtain ⟨xs, hx⟩ := t.live a ha
    refine ⟨?_, fun i z => ?_⟩
    · cases e : M' a with
      | none => rfl
      | some o =>
        rcases p.newM a o e with q | q
        · rw [(t.sep a ha).1] at q; cases q
        · rw [hx] at q; cases q
    · rcases p.newF i a z with q | q
      · exact (t.sep a ha).2 i q
      · rw [hx] at q; cases q
/-- a pure step: all that stands, stands -/
structure New (g : G) (M H M' H' : Hp) : Prop where
  mono : Le M M'
  sub : Le M' H'
  keep : ∀ a o, H a = some o → (∀ ps, o ≠ .tbl ps) → H' a = some o
  dom : ∀ a, H' a = none → H a = none
  newM : ∀ a o, M' a = some o → M a = some o ∨ H a = none
  tab : Tabs g.T H'
theorem New.refl (h : Le M H) (t : Tabs g.T H) : New g M H M H := ⟨Le.refl M, h, fun _ _ h _ => h, fun _ h => h, fun _ _ h => .inl h, t⟩
theorem New.trans {M2 H2 : Hp} (p : New g M H M' H') (q : New g M' H' M2 H2) : New g M H M2 H2 where
  mono := p.mono.trans q.mono
  sub := q.sub
  keep := fun a o h t => q.keep a o (p.keep a o h t) t
  dom := fun a h => p.dom a (q.dom a h)
  newM := fun a o h => by
    rcases q.newM a o h with h | h
    · exact p.newM a o h
    · exact .inr (p.dom a h)
  tab := q.tab
/-- many values on the way -/
inductive Tmps (g : G) (S : Nat → Bool) (M H : Hp) (f : Nat → List Addr) : List Own → List V → List Addr → Prop
  | nil : Tmps g S M H f [] [] []
  | cons {d : Own} {x : V} {ds : List Own} {xs : List V} {f1 f2 : List Addr} : Tmp g S M H f d x f1 → Tmps g S M H f ds xs f2 → (∀ a ∈ f1, a ∉ f2) → Tmps g S M H f (d :: ds) (x :: xs) (f1 ++ f2)
theorem Tmps.sep {ds : List Own} {xs : List V} (t : Tmps g S M H f ds xs fd) : ∀ a ∈ fd, Live H a ∧ M a = none ∧ ∀ i, a ∉ f i := by
  induction t with
  | nil => intro a h; cases h
  | cons h _ _ ih =>
    intro a ha
    rcases List.mem_append.mp ha with ha | ha
    · exact ⟨h.live a ha, h.sep a ha⟩
    · exact ih a ha
theorem Tmps.step {ds : List Own} {xs : List V} (t : Tmps g S M H f ds xs fd) (p : Step g S M H r f M' H' r' f') (st : Sta g M H r s f) (st' : Sta g M' H' r' s' f') : Tmps g S M' H' f' ds xs fd := by
  induction t with
  | nil => exact .nil
  | cons h _ n ih => exact .cons (h.step p st st') ih n
/-- frozen for a pure step -/
theorem Tmps.vals {ds : List Own} {xs : List V} (st : Sta g M H r s f) (t : Tmps g S M H f ds xs fd) : RepL g (View S M H f fd) (ds.map Own.val) xs := by
  have gen : ∀ fd', (∀ a ∈ fd, a ∈ fd') → RepL g (View S M H f fd') (ds.map Own.val) xs := by
    induction t with
    | nil => intro _ _; exact .nil
    | cons h _ n ih =>
      intro fd' hs
      refine .cons (h.rep.val (fun a o e => ?_) fun a ha => view_fd (hs a (List.mem_append_left _ ha))) (ih fd' fun a ha => hs a (List.mem_append_right _ ha))
      rcases view_cases S M H f [] a with ⟨⟨i, h1, h2⟩, q⟩ | ⟨h, q⟩ | ⟨h1, h2, q⟩ <;> rw [q] at e
      · rw [view_in h1 h2]; exact e
      · cases h
      · exact st.view_le a o e
  exact gen fd fun _ h => h
open Classical in
theorem nt_new {M' H' : Hp} (st : Sta g M H r s f) (hl : ∀ a ∈ fd, Live H a) (nw : New g (View S M H f fd) H M' H') : ∀ p ∈ g.T, (if ∃ i, p.1 ∈ f i then none else M' p.1) = none := fun p hp => by
  split
  · rfl
  · cases e : M' p.1 with
    | none => rfl
    | some u =>
      rcases nw.newM p.1 u e with q | q
      · rw [st.view_nt hl p hp] at q; cases q
      · obtain ⟨ps, z⟩ := tab_at st.tab hp
        rw [q] at z; cases z
open Classical in
/-- behind a pure step: back to the slots -/
theorem land {o : Own} {z : V} {fz : List Addr} {M0 H0 : Hp} {r0 : Ro} {f0 : Nat → List Addr} (st : Sta g M H r s f) (p : Step g S M0 H0 r0 f0 M H r f) (hfd : ∀ a ∈ fd, H0 a = none) (hsep : ∀ a ∈ fd, Live H a ∧ ∀ i, a ∉ f i) (nw : New g (View S M H f fd) H M' H') (ro : RepO g M' H' o z fz) (hz : ∀ a ∈ fz, H a = none ∧ M' a = none) :
    ∃ M2, Sta g M2 H' r s f ∧ Tmp g S M2 H' f o z fz ∧ Step g S M0 H0 r0 f0 M2 H' r f ∧ ∀ a ∈ fz, H0 a = none := by
  have hlive : ∀ {i a}, a ∈ f i → ∃ xs, H a = some (.lst xs) := fun h => st.live h
  have hown : ∀ i a, a ∈ f i → S i = false → M' a = none := fun i a h hS => by
    cases e : M' a with
    | none => rfl
    | some u =>
      rcases nw.newM a u e with q | q
      · rw [view_out (fun j hj z => by have := st.dis i j a h z; subst this; rw [hS] at hj; cases hj) (fun z => (hsep a z).2 i h), st.fre i a h] at q
        cases q
      · obtain ⟨xs, hx⟩ := hlive h
        rw [hx] at q; cases q
  refine ⟨fun a => if ∃ i, a ∈ f i then none else M' a, ⟨fun a u e => ?_, fun i d e => ?_, st.dis, fun i a h => by rw [if_pos ⟨i, h⟩], st.out, nw.tab, st.len, fun p hp => nt_new st (fun a h => (hsep a h).1) nw p hp⟩, ⟨ro.mono (fun a u e => ?_) fun _ _ _ h => h, fun a ha => ⟨?_, fun i h => ?_⟩⟩, ⟨fun a u e => ?_, fun a u h n t => nw.keep a u (p.keep a u h n t) t, fun a h => p.dom a (nw.dom a h), fun a u e => ?_, p.same, p.newF, p.rlen⟩, fun a ha => p.dom a (hz a ha).1⟩
  · by_cases h : ∃ i, a ∈ f i
    · rw [if_pos h] at e; cases e
    · rw [if_neg h] at e; exact nw.sub a u e
  · obtain ⟨x, h1, h2⟩ := st.env i d e
    refine ⟨x, h1, h2.mono (fun a u q => ?_) fun a ha u hu => nw.keep a u hu ((st.live ha).tbl hu)⟩
    have hn : ¬ ∃ i, a ∈ f i := fun ⟨j, hj⟩ => by rw [st.fre j a hj] at q; cases q
    rw [if_neg hn]
    exact nw.mono a u (st.view_le a u q)
  · by_cases h : ∃ i, a ∈ f i
    · obtain ⟨i, hi⟩ := h
      cases hS : S i with
      | true => rw [view_in hS hi]; exact nw.sub a u e
      | false => rw [hown i a hi hS] at e; cases e
    · rw [view_out (fun i _ z => h ⟨i, z⟩) (by simp), if_neg h]; exact e
  · by_cases h : ∃ i, a ∈ f i
    · rw [if_pos h]
    · rw [if_neg h]; exact (hz a ha).2
  · obtain ⟨xs, hx⟩ := hlive h
    rw [(hz a ha).1] at hx; cases hx
  · have e := p.mono a u e
    have hn : ¬ ∃ i, a ∈ f i := fun ⟨j, hj⟩ => by rw [st.fre j a hj] at e; cases e
    rw [if_neg hn]
    exact nw.mono a u (st.view_le a u e)
  · by_cases h : ∃ i, a ∈ f i
    · rw [if_pos h] at e; cases e
    · rw [if_neg h] at e
      rcases nw.newM a u e with q | q
      · rcases view_cases S M H f fd a with ⟨⟨i, h1, h2⟩, _⟩ | ⟨h1, q2⟩ | ⟨_, _, q2⟩
        · exact (h ⟨i, h2⟩).elim
        · exact .inr (hfd a h1)
        · rw [q2] at q; exact p.newM a u q
      · exact .inr (p.dom a q)
end

/-! ### what reading an expression comes to -/
inductive Rs (α : Type) where
  | ok (a : α) (r : Ro)
  | ex (n : PySem.Str) (v : Val)
  | bad
def Rs.bind {α β : Type} : Rs α → (α → Ro → Rs β) → Rs β
  | .ok a r, k => k a r
  | .ex n v, _ => .ex n v
  | .bad, _ => .bad
abbrev Mo (α : Type) := Ro → Rs α
/-- which slots may be read as wholes -/
inductive Vw where
  | no | but (xs : List Nat)
def Vw.fn : Vw → Nat → Bool
  | .no, _ => false
  | .but xs, i => !xs.contains i
mutual
def nl : Val → Bool
  | .tup xs => nlL xs
  | .lst _ => false
  | .dct ks => nlP ks
  | .set _ => false
  | .exc _ v => nl v
  | .lam _ vs => nlL vs
  | _ => true
def nlL : List Val → Bool
  | [] => true
  | x :: xs => nl x && nlL xs
def nlP : List (Val × Val) → Bool
  | [] => true
  | (_, x) :: xs => nl x && nlP xs
end
theorem nlP_eq : ∀ (ks : List (Val × Val)), nlP ks = nlL (ks.map Prod.snd)
  | [] => rfl
  | (_, x) :: xs => by simp [nlP, nlL, nlP_eq xs]
mutual
theorem Rep.nl {g : G} {M M' : Hp} (k : ∀ a o, M a = some o → (∀ xs, o ≠ .lst xs) → M' a = some o) : ∀ {d : Val} {x : V}, KS.nl d = true → Rep g M d x → Rep g M' d x
  | _, _, _, .non => .non
  | _, _, _, .bl b => .bl b
  | _, _, _, .int i => .int i
  | _, _, _, .str s => .str s
  | _, _, e, .tup h t => .tup (k _ _ h (by intro _ q; cases q)) (RepL.nl k (by simpa [KS.nl] using e) t)
  | _, _, e, .lst h t => by simp [KS.nl] at e
  | _, _, _, .scr h => .scr (k _ _ h (by intro _ q; cases q))
  | _, _, _, .ty n => .ty n
  | _, _, _, .cls h => .cls h
  | _, _, e, .lam h t => .lam (h.imp k) (RepL.nl k (by simpa [KS.nl] using e) t)
  | _, _, e, .dT h q t => .dT (k _ _ h (by intro _ q; cases q)) q (RepL.nl k (by rw [← nlP_eq]; simpa [KS.nl] using e) t)
  | _, _, e, .exc c h hd r => .exc c (k _ _ h (by intro _ q; cases q)) (k _ _ hd (by intro _ q; cases q)) (Rep.nl k (by simpa [KS.nl] using e) r)
theorem RepL.nl {g : G} {M M' : Hp} (k : ∀ a o, M a = some o → (∀ xs, o ≠ .lst xs) → M' a = some o) : ∀ {ds : List Val} {xs : List V}, nlL ds = true → RepL g M ds xs → RepL g M' ds xs
  | _, _, _, .nil => .nil
  | _, _, e, .cons h t => by
    simp [nlL] at e
    exact .cons (Rep.nl k e.1 h) (RepL.nl k e.2 t)
end
/-- an exception's objects -/
def ExOk (g : G) (M : Hp) (n : PySem.Str) (v : Val) (c : Value) (d : Option Addr) : Prop :=
  ∃ (C dx : Addr) (y : V), g.mg n = some (.ref C) ∧ c = .ref C ∧ d = some dx ∧ M dx = some (.xd [(("value" : PySem.Str), y)]) ∧ Rep g M v y
/-- what stands when an exception leaves -/
structure XStep (g : G) (S : Nat → Bool) (M H : Hp) (f : Nat → List Addr) (M' H' : Hp) : Prop where
  mono : Le M M'
  sub : Le M' H'
  keep : ∀ a o, H a = some o → (∀ i, S i = false → a ∉ f i) → (∀ ps, o ≠ .tbl ps) → H' a = some o
  dom : ∀ a, H' a = none → H a = none
  newM : ∀ a o, M' a = some o → M a = some o ∨ H a = none ∨ ∃ i, S i = false ∧ a ∈ f i
  tab : Tabs g.T H'
theorem XStep.after {g : G} {S : Nat → Bool} {M H M1 H1 M' H' : Hp} {r r1 : Ro} {f f1 : Nat → List Addr} (x : XStep g S M1 H1 f1 M' H') (p : Step g S M H r f M1 H1 r1 f1) : XStep g S M H f M' H' where
  mono := p.mono.trans x.mono
  sub := x.sub
  keep := fun a o h n t => x.keep a o (p.keep a o h n t) (fun i hi z => by
    rcases p.newF i a z with z | z
    · exact n i hi z
    · rw [z] at h; cases h) t
  dom := fun a h => p.dom a (x.dom a h)
  newM := fun a o h => by
    rcases x.newM a o h with h | h | ⟨i, hi, h⟩
    · rcases p.newM a o h with h | h
      · exact .inl h
      · exact .inr (.inl h)
    · exact .inr (.inl (p.dom a h))
    · rcases p.newF i a h with h | h
      · exact .inr (.inr ⟨i, hi, h⟩)
      · exact .inr (.inl h)
  tab := x.tab
def Ew (g : G) (E : XK) (S : Nat → Bool) (M H : Hp) (f : Nat → List Addr) (n : PySem.Str) (v : Val) : Prop := ∀ M' H' c dx, XStep g S M H f M' H' → ExOk g M' n v c dx → E c dx H'
theorem Ew.after {g : G} {E : XK} {S : Nat → Bool} {M H M1 H1 : Hp} {r r1 : Ro} {f f1 : Nat → List Addr} {n : PySem.Str} {v : Val} (e : Ew g E S M H f n v) (p : Step g S M H r f M1 H1 r1 f1) : Ew g E S M1 H1 f1 n v :=
  fun M' H' c dx x k => e M' H' c dx (x.after p) k

/-- the reading of an expression whose worth is m -/
def tD (g : G) (E : XK) (S : Vw) (m : Mo Own) : TE := fun s H Q => ∃ r M f, Sta g M H r s f ∧
  match m r with
  | .ok d r' => ∀ x M' H' f' fd, Sta g M' H' r' s f' → Tmp g S.fn M' H' f' d x fd → Step g S.fn M H r f M' H' r' f' → (∀ a ∈ fd, H a = none) → Q x H'
  | .ex n v => Ew g E S.fn M H f n v
  | .bad => False
def tA (g : G) (E : XK) (S : Vw) (m : Mo (List Own)) : TA := fun s H Q => ∃ r M f, Sta g M H r s f ∧
  match m r with
  | .ok ds r' => ∀ xs M' H' f' fd, Sta g M' H' r' s f' → Tmps g S.fn M' H' f' ds xs fd → Step g S.fn M H r f M' H' r' f' → (∀ a ∈ fd, H a = none) → Q xs H'
  | .ex n v => Ew g E S.fn M H f n v
  | .bad => False
def tB (g : G) (E : XK) (S : Vw) (m : Mo Bool) : TT := fun s H Q => ∃ r M f, Sta g M H r s f ∧
  match m r with
  | .ok b r' => ∀ M' H' f', Sta g M' H' r' s f' → Step g S.fn M H r f M' H' r' f' → Q b H'
  | .ex n v => Ew g E S.fn M H f n v
  | .bad => False
def mNil : Mo (List Own) := fun r => .ok [] r
def mCons (m : Mo Own) (ms : Mo (List Own)) : Mo (List Own) := fun r => (m r).bind fun d r1 => (ms r1).bind fun ds r2 => .ok (d :: ds) r2
theorem imp_nil {g : G} {E : XK} {S : Vw} {s : L2.St} {H : Hp} {Q : List V → Hp → Prop} (h : tA g E S mNil s H Q) : tNil s H Q := by
  obtain ⟨r, M, f, st, h⟩ := h
  exact h [] M H f [] st .nil .refl (by simp)
theorem imp_cons {g : G} {E : XK} {S : Vw} {m : Mo Own} {ms : Mo (List Own)} {s : L2.St} {H : Hp} {Q : List V → Hp → Prop} (h : tA g E S (mCons m ms) s H Q) : tCons (tD g E S m) (tA g E S ms) s H Q := by
  obtain ⟨r, M, f, st, h⟩ := h
  refine ⟨r, M, f, st, ?_⟩
  unfold mCons at h
  cases hm : m r with
  | bad => rw [hm] at h; exact h
  | ex n v => rw [hm] at h; exact h
  | ok d r1 =>
    rw [hm] at h
    show ∀ x M' H' f' fd, _
    intro x M1 H1 f1 fd st1 t1 p1 fr1
    refine ⟨r1, M1, f1, st1, ?_⟩
    cases hn : ms r1 with
    | bad => simp only [Rs.bind, hn] at h
    | ex n v => simp only [Rs.bind, hn] at h; exact h.after p1
    | ok ds r2 =>
      simp only [Rs.bind, hn] at h
      intro xs M2 H2 f2 fd2 st2 t2 p2 fr2
      refine h (x :: xs) M2 H2 f2 (fd ++ fd2) st2 (.cons (t1.step p2 st1 st2) t2 fun a ha hb => ?_) (p1.trans p2) fun a ha => ?_
      · obtain ⟨u, hu⟩ := t1.live a ha
        rw [fr2 a hb] at hu; cases hu
      · rcases List.mem_append.mp ha with ha | ha
        · exact fr1 a ha
        · exact p1.dom a (fr2 a ha)
/-- two in a row -/
theorem imp_two {g : G} {E : XK} {S : Vw} {m1 m2 : Mo Own} {s : L2.St} {H : Hp} {R : List V → Hp → Prop} (h : tA g E S (mCons m1 (mCons m2 mNil)) s H R) : tD g E S m1 s H fun x H1 => tD g E S m2 s H1 fun y H2 => R [x, y] H2 := by
  have h1 := imp_cons h
  obtain ⟨r, M, f, st, h1⟩ := h1
  refine ⟨r, M, f, st, ?_⟩
  cases hm : m1 r with
  | bad => rw [hm] at h1; exact h1
  | ex n v => rw [hm] at h1; exact h1
  | ok d r1 =>
    rw [hm] at h1
    intro x M1 H1 f1 fd st1 t1 p1 fr1
    have h2 := imp_cons (h1 x M1 H1 f1 fd st1 t1 p1 fr1)
    obtain ⟨r', M', f', st', h2⟩ := h2
    refine ⟨r', M', f', st', ?_⟩
    cases hm2 : m2 r' with
    | bad => rw [hm2] at h2; exact h2
    | ex n v => rw [hm2] at h2; exact h2
    | ok d r1 =>
      rw [hm2] at h2
      intro y M2 H2 f2 fd2 st2 t2 p2 fr2
      exact imp_nil (h2 y M2 H2 f2 fd2 st2 t2 p2 fr2)
theorem imp_one {g : G} {E : XK} {S : Vw} {m1 : Mo Own} {s : L2.St} {H : Hp} {R : List V → Hp → Prop} (h : tA g E S (mCons m1 mNil) s H R) : tD g E S m1 s H fun x H1 => R [x] H1 := by
  have h1 := imp_cons h
  obtain ⟨r, M, f, st, h1⟩ := h1
  refine ⟨r, M, f, st, ?_⟩
  cases hm : m1 r with
  | bad => rw [hm] at h1; exact h1
  | ex n v => rw [hm] at h1; exact h1
  | ok d r1 =>
    rw [hm] at h1
    intro x M1 H1 f1 fd st1 t1 p1 fr1
    exact imp_nil (h1 x M1 H1 f1 fd st1 t1 p1 fr1)
/-- an operation on values: k tells its worth -/
def Pure (g : G) (t : List V → Hp → VK → Prop) (k : List Val → Option Own) : Prop :=
  ∀ (M H : Hp) (xs : List V) (ds : List Val) (o : Own) (Q : VK), Le M H → Tabs g.T H → RepL g M ds xs → k ds = some o →
    (∀ z M' H' fz, New g M H M' H' → RepO g M' H' o z fz → (∀ a ∈ fz, H a = none ∧ M' a = none) → Q z H') → t xs H Q
def mPure (k : List Val → Option Own) (ms : Mo (List Own)) : Mo Own := fun r => (ms r).bind fun ds r1 => match k (ds.map Own.val) with
  | some o => .ok o r1
  | none => .bad
theorem imp_pure {g : G} {E : XK} {S : Vw} {ms : Mo (List Own)} {s : L2.St} {H : Hp} {Q : VK} {t : List V → Hp → VK → Prop} {k : List Val → Option Own} (hk : Pure g t k) (h : tD g E S (mPure k ms) s H Q) : tA g E S ms s H fun xs H1 => t xs H1 Q := by
  obtain ⟨r, M, f, st, h⟩ := h
  refine ⟨r, M, f, st, ?_⟩
  unfold mPure at h
  cases hm : ms r with
  | bad => rw [hm] at h; exact h
  | ex n v => rw [hm] at h; exact h
  | ok ds r1 =>
    simp only [hm, Rs.bind] at h
    cases ho : k (ds.map Own.val) with
    | none => rw [ho] at h; exact h.elim
    | some o =>
      simp only [ho] at h
      intro xs M1 H1 f1 fd st1 t1 p1 fr1
      refine hk (View S.fn M1 H1 f1 fd) H1 xs _ o Q st1.view_sub st1.tab (t1.vals st1) ho fun z M' H' fz nw ro hz => ?_
      obtain ⟨M2, st2, t2, p2, q2⟩ := land st1 p1 fr1 (fun a ha => ⟨(t1.sep a ha).1, (t1.sep a ha).2.2⟩) nw ro hz
      exact h z M2 H' f1 fz st2 t2 p2 q2
end KS
set_option Elab.async false
set_option linter.all false
set_option maxRecDepth 100000
set_option maxHeartbeats 4000000
namespace KS
open PySem PySem.Spec PyProof.Rows L2
open LamX (Tabs TabS)

/-- where one stands: X is g's, E what is wished of exceptions -/
structure Cxt (g : G) (E : XK) (k : Nat) (X : Cx) : Prop where
  prog : X.prog = g.P
  w : X.w = g.w
  K : X.K = g.K
  mg : X.mg = g.mg
  base : X.base = g.base
  calm : X.calm = true
  nd : X.N.Nodup
  pass : Passes (L2.CX X.prog X.w) X E
  room : Room k X.A
  own : PassesOwn (model X.prog X.w) X.A X.env X.xe
  takes : Takes X (fun cls d _ H => E cls d H)
  grd : X.A.guards = some []
/-- a def's promise, where no repr is under way -/
structure FnG (P : Program) (w : World) (K : PySem.W.Frag) (mg : PySem.Str → Option Value) (base : Heap) (k : Nat) (f : Addr) (fd : FuncData) (ps : List PySem.Str) (sp : Sp) : Prop where
  len : ∀ vs H Q E, sp vs H Q E → vs.length = ps.length
  run : ∀ (A : Around) (outer : List Env) (s : Shared) (H : Hp) (args : Args) (us : List Value) (vs : List V) (Q : VK) (E : XK), A.guards = some [] → Room k A → Env0 P w K mg base A outer s H → BindsTo s fd args (ps.zip us) → Vals vs us → sp vs H Q E → codeAny (model P w) A (.call (.ref f) args) (CR (L2.CX P w) outer P w H s Q E) s
section
variable {X : Cx} {k : Nat} {f : Addr} {fd : FuncData} {ps ks : List PySem.Str} {sp : Sp} {E : XK} {x : PySem.Str} {p pos : Pos} {e : Expr} {es : List Expr} {kws : List Keyword} {t tk : TA} {gg : List Value → List Value → List Value} {gV : List V → List V → List V}
theorem run_G {pins : List (Addr × Obj)} {σ : L2.St} {H : Hp} {s : Shared} {Q : VK} {args : Args} {us : List Value} {vs : List V} (F : FnG X.prog X.w X.K X.mg X.base k f fd ps sp) (gr : X.A.guards = some []) (hr : Room k X.A) (hx : Passes (L2.CX X.prog X.w) X E)
    (I : Inv X pins σ H s) (hb : BindsTo s fd args (ps.zip us)) (r : Vals vs us) (h : sp vs H Q E) : codeAny (model X.prog X.w) X.A (.call (.ref f) args) (fun r s' => match r with | .ok (.ret u) => EP X pins σ Q u s' | .ok _ => False | .error e => X.xe e s') s := by
  refine codeAny_mono (F.run _ _ _ _ _ us vs Q E gr hr I.env0 hb r h) fun r s' hq => ?_
  cases r with
  | error e => exact hx pins σ H s e s' I hq
  | ok fl => cases fl with
    | ret u => exact I.after hq
    | next => exact hq
    | brk => exact hq
    | cont => exact hq
theorem fin_G {pins : List (Addr × Obj)} {σ : L2.St} {Q : VK} {s : Shared} {args : List Value} {kw : List (PySem.Str × Value)} (h : codeAny (model X.prog X.w) X.A (.call (.ref f) ⟨args, kw⟩) (fun r s' => match r with | .ok (.ret u) => EP X pins σ Q u s' | .ok _ => False | .error e => X.xe e s') s) :
    wpAny (model X.prog X.w) X.A (call (.ref f) args kw) (EP X pins σ Q) X.xe s := by
  refine wpAny_call (codeAny_mono h fun r s' hq => ?_)
  cases r with
  | error e => exact hq
  | ok fl => cases fl with
    | ret u => exact hq
    | next => exact hq
    | brk => exact hq
    | cont => exact hq
theorem len_G {vs : List V} {us : List Value} {H : Hp} {Q : VK} (F : FnG X.prog X.w X.K X.mg X.base k f fd ps sp) (r : Vals vs us) (h : sp vs H Q E) : us.length = ps.length := by rw [← r.length]; exact F.len _ _ _ _ h
theorem pe_callG (F : FnG X.prog X.w X.K X.mg X.base k f fd ps sp) (gr : X.A.guards = some []) (hr : Room k X.A) (hg : Gl X x) (hm : X.mg x = some (.ref f)) (hk : PySem.W.keepIn X.K (.ref f) = true) (hb : Binds X.K fd ps []) (hx : Passes (L2.CX X.prog X.w) X E)
    (ha : PA X (e :: es) t) (hdb : (x == ("__debug__" : PySem.Str)) = false) (he : starEach (e :: es) X.env = (false, eval e X.env) :: starEach es X.env) (hpl : (backTo pos (starEach es X.env)).any (·.1) = false) :
    PE X (.Call (.Name x p) (e :: es) [] pos) (fun σ H Q => t σ H fun vs H1 => sp vs H1 Q E) := ⟨fun pins s σ H Q I h => wpAny_Call_Name_kw (ld_glob I hg hm
      (PySem.W.callWith_K (h₀ := X.base) I.ok.mod.kin hk (thn (ha.run pos pins s σ H _ I h) fun us s1 ⟨vs, H1, I1, r, q⟩ => ⟨I1.kIn, fin_G (run_G F gr hr hx I1 (by
        have := hb s1 us I1.kIn (by rw [List.append_nil]; exact len_G F r q)
        rwa [List.append_nil] at this) r q)⟩) he hpl) hdb)⟩
theorem pe_callG0 (F : FnG X.prog X.w X.K X.mg X.base k f fd ps sp) (gr : X.A.guards = some []) (hr : Room k X.A) (hg : Gl X x) (hm : X.mg x = some (.ref f)) (hk : PySem.W.keepIn X.K (.ref f) = true) (hb : Binds X.K fd ps []) (hx : Passes (L2.CX X.prog X.w) X E)
    (hdb : (x == ("__debug__" : PySem.Str)) = false) : PE X (.Call (.Name x p) [] [] pos) (fun _ H Q => sp [] H Q E) := ⟨fun pins s σ H Q I h => wpAny_Call_Name_kw (ld_glob I hg hm
      (PySem.W.callWith_K0 I.kIn hk (fin_G (run_G F gr hr hx I (hb s [] I.kIn (by
        have := F.len _ _ _ _ h
        rw [← this]; rfl)) .nil h))) hdb)⟩
theorem pe_callGK (F : FnG X.prog X.w X.K X.mg X.base k f fd ps sp) (gr : X.A.guards = some []) (hr : Room k X.A) (hg : Gl X x) (hm : X.mg x = some (.ref f)) (hk : PySem.W.keepIn X.K (.ref f) = true) (hb : KBinds X.K fd ps ks gg gV) (hx : Passes (L2.CX X.prog X.w) X E)
    (ha : PA X (e :: es) t) (hkw : PK X kws tk) (hall : (backToKw pos (keywordEach kws X.env)).all (·.1.isSome) = true) (hks : (backToKw pos (keywordEach kws X.env)).filterMap (·.1) = ks) (hdb : (x == ("__debug__" : PySem.Str)) = false) (he : starEach (e :: es) X.env = (false, eval e X.env) :: starEach es X.env)
    (hpl : ((backTo pos (starEach (e :: es) X.env)).any (·.1) || (backToKw pos (keywordEach kws X.env)).any (·.1.isNone)) = false) : PE X (.Call (.Name x p) (e :: es) kws pos) (fun σ H Q => t σ H fun vs H1 => tk σ H1 fun zs H2 => sp (gV vs zs) H2 Q E) := ⟨fun pins s σ H Q I h => wpAny_Call_Name_kw (ld_glob I hg hm
      (PySem.W.callWith_KW (h₀ := X.base) I.ok.mod.kin hk hall (thn (ha.run pos pins s σ H _ I h) fun us s1 ⟨vs, H1, I1, r, q⟩ => thn (hkw.run pos pins s1 σ H1 _ I1 q) fun ws s2 ⟨zs, H2, I2, rz, q2⟩ => ⟨I2.kIn, by
        rw [hks]
        have r2 := hb.rel r rz
        exact fin_G (run_G F gr hr hx I2 (hb.to s2 us ws I2.kIn (len_G F r2 q2)) r2 q2)⟩) hpl he) hdb)⟩
/-- a def by its body -/
theorem fnG_of {P : Program} {w : World} {K : PySem.W.Frag} {mg : PySem.Str → Option Value} {base : Heap} {qual : PySem.Str} {st : Stmt} {N : List PySem.Str} (F : Fun K x qual st f fd) (S : FnScope N ps (defScope st)) (len : ∀ vs H Q E, sp vs H Q E → vs.length = ps.length)
    (hbody : ∀ (cdv : Value), fd.code = cdv → ∀ (A : Around) (outer : List Env) (s : Shared) (H : Hp) (vs : List V) (Q : VK) (E : XK), (A.deeper (envOfC qual (defScope st) s.heap.objs.size f cdv)).guards = some [] → Room k (A.deeper (envOfC qual (defScope st) s.heap.objs.size f cdv)) → sp vs H Q E →
      ∃ t, PSs (cxOf (L2.CX P w) P w K mg base N qual (defScope st) f cdv A outer s H E) (defBody st) t ∧ t { nx := fun _ H' => Q .non H', rt := Q } (L2.start N vs) H) : FnG P w K mg base (k + 1) f fd ps sp := by
  obtain ⟨oc, od, kV, doc, pm, an, cdv, ct, osl, rfl, lk, hcd⟩ := F.ex
  exact ⟨len, fun A outer s H args us vs Q E gr hr e0 hb r h => LamX.run_ofS lk hcd S hr e0 hb r (len _ _ _ _ h) fun hr' => hbody cdv rfl A outer s H vs Q E gr hr' h⟩
end
section
variable {g : G} {E : XK} {S : Vw} {k : Nat} {X : Cx}
theorem PE.imp {e : Expr} {t t' : TE} (h : PE X e t') (i : ∀ s H Q, t s H Q → t' s H Q) : PE X e t := ⟨fun pins s σ H Q I q => h.run pins s σ H Q I (i σ H Q q)⟩
theorem PT.imp {e : Expr} {t t' : TT} (h : PT X e t') (i : ∀ s H Q, t s H Q → t' s H Q) : PT X e t := ⟨fun pins s σ H Q I q => h.run pins s σ H Q I (i σ H Q q)⟩
theorem PW.imp {e : Expr} {t t' : TT} (h : PW X e t') (i : ∀ s H Q, t s H Q → t' s H Q) : PW X e t := ⟨fun wh pins s σ H Q I q => h.run wh pins s σ H Q I (i σ H Q q)⟩
theorem PA.imp {es : List Expr} {t t' : TA} (h : PA X es t') (i : ∀ s H Q, t s H Q → t' s H Q) : PA X es t := ⟨fun p pins s σ H Q I q => h.run p pins s σ H Q I (i σ H Q q)⟩
theorem PS.imp {st : Stmt} {t t' : TS} (h : PS X st t') (i : ∀ D s H, t D s H → t' D s H) : PS X st t := ⟨fun pins s σ H D I q => h.run pins s σ H D I (i D σ H q)⟩
theorem PSs.imp {st : List Stmt} {t t' : TS} (h : PSs X st t') (i : ∀ D s H, t D s H → t' D s H) : PSs X st t := ⟨fun pins s σ H D I q => h.run pins s σ H D I (i D σ H q)⟩

/-! ### names, constants -/
def mVar (S : Vw) (i : Nat) : Mo Own := fun r => match r[i]? with
  | some (some (.v d)) => .ok (.v d) r
  | some (some (.l ds)) => if S.fn i = true then .ok (.v (.lst ds)) r else .bad
  | _ => .bad
def mC (d : Val) : Mo Own := fun r => .ok (.v d) r
theorem imp_var {i : Nat} {s : L2.St} {H : Hp} {Q : VK} (h : tD g E S (mVar S i) s H Q) : tVar i s H Q := by
  obtain ⟨r, M, f, st, h⟩ := h
  unfold mVar at h
  cases e : r[i]? with
  | none => simp only [e] at h
  | some o =>
    cases o with
    | none => simp only [e] at h
    | some d =>
      obtain ⟨x, hx, ro⟩ := st.env i d e
      refine ⟨x, hx, ?_⟩
      cases d with
      | v d =>
        simp only [e] at h
        generalize f i = fi at ro
        cases ro with
        | v ro => exact h x M H f [] st ⟨.v (ro.mono st.view_le), by simp⟩ .refl (by simp)
      | l ds =>
        simp only [e] at h
        by_cases hS : S.fn i = true
        · rw [if_pos hS] at h
          have hl := ro.live
          generalize hf : f i = fi at ro hl
          cases ro with
          | l h1 h2 =>
            rename_i a vs
            exact h (.ref a) M H f [] st ⟨.v (.lst ((view_in hS (by rw [hf]; simp)).trans h1) (h2.mono st.view_le)), by simp⟩ .refl (by simp)
        · rw [if_neg hS] at h; exact h.elim
theorem dx_var (i : Nat) {x : PySem.Str} {pos : Pos} (hN : X.N[i]? = some x := by rfl) (hv : Vis X.env.scope x := by first | exact Or.inl rfl | exact Or.inr (Or.inl rfl) | exact Or.inr (Or.inr rfl)) (hd : (x == ("__debug__" : PySem.Str)) = false := by decide)
    (hcd : (x == ("__classdict__" : PySem.Str)) = false := by decide) : PE X (.Name x pos) (tD g E S (mVar S i)) := PE.imp (pe_var hN hv hd hcd) fun _ _ _ => imp_var
theorem imp_c {d : Val} {x : V} (hr : ∀ M, Rep g M d x) {s : L2.St} {H : Hp} {Q : VK} (h : tD g E S (mC d) s H Q) : tC x s H Q := by
  obtain ⟨r, M, f, st, h⟩ := h
  exact h x M H f [] st ⟨.v (hr _), by simp⟩ .refl (by simp)
theorem dx_int {i j pos} : PE X (.Constant (.int i) j pos) (tD g E S (mC (.int i))) := PE.imp pe_int fun _ _ _ => imp_c fun _ => .int i
theorem dx_bl {b j pos} : PE X (.Constant (.bool b) j pos) (tD g E S (mC (.bl b))) := PE.imp pe_bl fun _ _ _ => imp_c fun _ => .bl b
theorem dx_non {j pos} : PE X (.Constant .none j pos) (tD g E S (mC .non)) := PE.imp pe_non fun _ _ _ => imp_c fun _ => .non
theorem dx_str {x j pos} : PE X (.Constant (.str x) j pos) (tD g E S (mC (.str x))) := PE.imp pe_str fun _ _ _ => imp_c fun _ => .str x
/-- a module's constant -/
theorem dx_gint {x : PySem.Str} {n : Int} {t : Tok} {pos : Pos} (c : Cxt g E k X) (hm : g.mg x = some (.int n t)) (hg : Gl X x := by rfl) (hd : (x == ("__debug__" : PySem.Str)) = false := by decide) : PE X (.Name x pos) (tD g E S (mC (.int n))) :=
  PE.imp (pe_glob (v := V.int n) hg (by rw [c.mg]; exact hm) ⟨t, rfl⟩ hd) fun _ _ _ => imp_c fun _ => .int n
theorem dx_gstr {x : PySem.Str} {n : PySem.Str} {t : Tok} {pos : Pos} (c : Cxt g E k X) (hm : g.mg x = some (.str n t)) (hg : Gl X x := by rfl) (hd : (x == ("__debug__" : PySem.Str)) = false := by decide) : PE X (.Name x pos) (tD g E S (mC (.str n))) :=
  PE.imp (pe_glob (v := V.str n) hg (by rw [c.mg]; exact hm) ⟨t, rfl⟩ hd) fun _ _ _ => imp_c fun _ => .str n

/-! ### arguments -/
theorem da_nil : PA X [] (tA g E S mNil) := PA.imp pa_nil fun _ _ _ => imp_nil
theorem da_cons {e : Expr} {es : List Expr} {m : Mo Own} {ms : Mo (List Own)} (ha : PE X e (tD g E S m)) (hr : PA X es (tA g E S ms)) (hs : starEach (e :: es) X.env = (false, eval e X.env) :: starEach es X.env := by rfl) : PA X (e :: es) (tA g E S (mCons m ms)) :=
  PA.imp (pa_cons ha hr hs) fun _ _ _ => imp_cons

/-! ### operators -/
def R2p (r : R2) : List V → Hp → VK → Prop := fun xs H Q => ∃ x y, xs = [x, y] ∧ r x y H Q
def mP2 (k : List Val → Option Own) (a b : Mo Own) : Mo Own := mPure k (mCons a (mCons b mNil))
theorem imp_op {r : R2} {kk : List Val → Option Own} {a b : Mo Own} (hk : Pure g (R2p r) kk) {s : L2.St} {H : Hp} {Q : VK} (h : tD g E S (mP2 kk a b) s H Q) : tOp r (tD g E S a) (tD g E S b) s H Q := by
  have h1 := imp_two (imp_pure hk h)
  obtain ⟨r0, M, f, st, h1⟩ := h1
  refine ⟨r0, M, f, st, ?_⟩
  cases e : a r0 with
  | bad => rw [e] at h1; exact h1
  | ex n v => rw [e] at h1; exact h1
  | ok d r1 =>
    rw [e] at h1
    intro x M1 H1 f1 fd st1 t1 p1 q1
    obtain ⟨r2, M2, f2, st2, h2⟩ := h1 x M1 H1 f1 fd st1 t1 p1 q1
    refine ⟨r2, M2, f2, st2, ?_⟩
    cases e2 : b r2 with
    | bad => rw [e2] at h2; exact h2
    | ex n v => rw [e2] at h2; exact h2
    | ok d r1 =>
      rw [e2] at h2
      intro y M3 H3 f3 fd3 st3 t3 p3 q3
      obtain ⟨_, _, e3, h3⟩ := h2 y M3 H3 f3 fd3 st3 t3 p3 q3
      injection e3 with e3 e4
      injection e4 with e4 _
      subst e3 e4
      exact h3
theorem dx_bin {op : Operator} {r : R2} {kk : List Val → Option Own} {a b : Expr} {ma mb : Mo Own} {pos : Pos} (ho : OpR X (binaryOp op) r) (hk : Pure g (R2p r) kk) (ha : PE X a (tD g E S ma)) (hb : PE X b (tD g E S mb)) : PE X (.BinOp a op b pos) (tD g E S (mP2 kk ma mb)) :=
  PE.imp (pe_op ho ha hb) fun _ _ _ => imp_op hk
theorem dx_cmp {op : CmpOp} {r : R2} {kk : List Val → Option Own} {a b : Expr} {ma mb : Mo Own} {pos : Pos} (ho : OpR X (compareOp op) r) (hk : Pure g (R2p r) kk) (ha : PE X a (tD g E S ma)) (hb : PE X b (tD g E S mb)) (hm : behindInMarks op b = false) : PE X (.Compare a [op] [b] pos) (tD g E S (mP2 kk ma mb)) :=
  PE.imp (pe_cmpR ho ha hb hm) fun _ _ _ => imp_op hk
/-- a value that is a bool, as a test -/
def mTest (m : Mo Own) : Mo Bool := fun r => (m r).bind fun d r1 => match d with
  | .v (.bl b) => .ok b r1
  | _ => .bad
theorem imp_test {m : Mo Own} {s : L2.St} {H : Hp} {Q : Bool → Hp → Prop} (h : tB g E S (mTest m) s H Q) : tD g E S m s H fun x H1 => ∃ c, x = .bl c ∧ Q c H1 := by
  obtain ⟨r, M, f, st, h⟩ := h
  refine ⟨r, M, f, st, ?_⟩
  unfold mTest at h
  cases e : m r with
  | bad => rw [e] at h; exact h
  | ex n v => rw [e] at h; exact h
  | ok d r1 =>
    simp only [e, Rs.bind] at h
    intro x M1 H1 f1 fd st1 t1 p1 q1
    have ro := t1.rep
    cases ro with
    | l _ _ => exact h.elim
    | v ro =>
      cases ro with
      | bl b => exact ⟨b, rfl, h M1 H1 f1 st1 p1⟩
      | _ => exact h.elim
theorem dt_cmp {op : CmpOp} {r : R2} {kk : List Val → Option Own} {a b : Expr} {ma mb : Mo Own} {pos : Pos} (ho : OpR X (compareOp op) r) (hk : Pure g (R2p r) kk) (ha : PE X a (tD g E S ma)) (hb : PE X b (tD g E S mb)) (hm : behindInMarks op b = false) : PT X (.Compare a [op] [b] pos) (tB g E S (mTest (mP2 kk ma mb))) :=
  PT.imp (pt_cmpR ho ha hb hm) fun _ _ _ h => by
    have h1 := imp_test h
    exact imp_op hk h1
/-- a call, a name: a bool -/
theorem dt_val {e : Expr} {m : Mo Own} (h : PE X e (tD g E S m)) (he : ∀ whole, isTrue e X.env whole = (do let v ← whole; standAt e.pos; holding [v] (truthy v)) := by intro _; rfl) : PT X e (tB g E S (mTest m)) :=
  PT.imp (pt_val h he) fun _ _ _ q => imp_test q
def mNot (m : Mo Bool) : Mo Bool := fun r => (m r).bind fun b r1 => .ok (!b) r1
def mAnd (a b : Mo Bool) : Mo Bool := fun r => (a r).bind fun x r1 => if x = true then b r1 else .ok false r1
def mOr (a b : Mo Bool) : Mo Bool := fun r => (a r).bind fun x r1 => if x = true then .ok true r1 else b r1
theorem dt_not {a : Expr} {m : Mo Bool} {pos : Pos} (h : PT X a (tB g E S m)) : PT X (.UnaryOp .Not a pos) (tB g E S (mNot m)) :=
  PT.imp (pt_not h) fun s H Q q => by
    obtain ⟨r, M, f, st, h⟩ := q
    refine ⟨r, M, f, st, ?_⟩
    unfold mNot at h
    cases e : m r with
    | bad => rw [e] at h; exact h
    | ex n v => rw [e] at h; exact h
    | ok d r1 => simp only [e, Rs.bind] at h; exact h
theorem dw_and1 {a : Expr} {m : Mo Bool} {pos : Pos} (h : PT X a (tB g E S m)) : PW X (.BoolOp .And [a] pos) (tB g E S m) := pw_and1 h
theorem dw_or1 {a : Expr} {m : Mo Bool} {pos : Pos} (h : PT X a (tB g E S m)) : PW X (.BoolOp .Or [a] pos) (tB g E S m) := pw_or1 h
theorem dw_and {a b : Expr} {rest : List Expr} {ma mb : Mo Bool} {pos : Pos} (ha : PT X a (tB g E S ma)) (hb : PW X (.BoolOp .And (b :: rest) pos) (tB g E S mb)) : PW X (.BoolOp .And (a :: b :: rest) pos) (tB g E S (mAnd ma mb)) :=
  PW.imp (pw_and ha hb) fun s H Q q => by
    obtain ⟨r, M, f, st, h⟩ := q
    refine ⟨r, M, f, st, ?_⟩
    unfold mAnd at h
    cases e : ma r with
    | bad => rw [e] at h; exact h
    | ex n v => rw [e] at h; exact h
    | ok d r1 =>
      simp only [e, Rs.bind] at h
      intro M1 H1 f1 st1 p1
      cases d with
      | false => exact h M1 H1 f1 st1 p1
      | true =>
        simp only [if_true] at h ⊢
        refine ⟨r1, M1, f1, st1, ?_⟩
        cases e2 : mb r1 with
        | bad => rw [e2] at h; exact h
        | ex n v => rw [e2] at h; exact h.after p1
        | ok d r2 =>
          rw [e2] at h
          exact fun M2 H2 f2 st2 p2 => h M2 H2 f2 st2 (p1.trans p2)
theorem dw_or {a b : Expr} {rest : List Expr} {ma mb : Mo Bool} {pos : Pos} (ha : PT X a (tB g E S ma)) (hb : PW X (.BoolOp .Or (b :: rest) pos) (tB g E S mb)) : PW X (.BoolOp .Or (a :: b :: rest) pos) (tB g E S (mOr ma mb)) :=
  PW.imp (pw_or ha hb) fun s H Q q => by
    obtain ⟨r, M, f, st, h⟩ := q
    refine ⟨r, M, f, st, ?_⟩
    unfold mOr at h
    cases e : ma r with
    | bad => rw [e] at h; exact h
    | ex n v => rw [e] at h; exact h
    | ok d r1 =>
      simp only [e, Rs.bind] at h
      intro M1 H1 f1 st1 p1
      cases d with
      | true => exact h M1 H1 f1 st1 p1
      | false =>
        simp only [Bool.false_eq_true, if_false] at h ⊢
        refine ⟨r1, M1, f1, st1, ?_⟩
        cases e2 : mb r1 with
        | bad => rw [e2] at h; exact h
        | ex n v => rw [e2] at h; exact h.after p1
        | ok d r2 =>
          rw [e2] at h
          exact fun M2 H2 f2 st2 p2 => h M2 H2 f2 st2 (p1.trans p2)
/-- a test's two ways -/
def mIf (c : Mo Bool) (a b : Mo Own) : Mo Own := fun r => (c r).bind fun x r1 => if x = true then a r1 else b r1
theorem imp_if {c : Mo Bool} {a b : Mo Own} {s : L2.St} {H : Hp} {Q : VK} (q : tD g E S (mIf c a b) s H Q) : tIf (tB g E S c) (tD g E S a) (tD g E S b) s H Q := by
  obtain ⟨r, M, f, st, h⟩ := q
  refine ⟨r, M, f, st, ?_⟩
  unfold mIf at h
  cases e : c r with
  | bad => rw [e] at h; exact h
  | ex n v => rw [e] at h; exact h
  | ok d r1 =>
    simp only [e, Rs.bind] at h
    intro M1 H1 f1 st1 p1
    have go : ∀ m : Mo Own, (match m r1 with
        | .ok d r' => ∀ x M' H' f' fd, Sta g M' H' r' s f' → Tmp g S.fn M' H' f' d x fd → Step g S.fn M H r f M' H' r' f' → (∀ a ∈ fd, H a = none) → Q x H'
        | .ex n v => Ew g E S.fn M H f n v
        | .bad => False) → tD g E S m s H1 Q := fun m h => by
      refine ⟨r1, M1, f1, st1, ?_⟩
      cases e2 : m r1 with
      | bad => rw [e2] at h; exact h
      | ex n v => rw [e2] at h; exact h.after p1
      | ok d r2 =>
        rw [e2] at h
        exact fun x M2 H2 f2 fd st2 t2 p2 q2 => h x M2 H2 f2 fd st2 t2 (p1.trans p2) fun a ha => p1.dom a (q2 a ha)
    cases d with
    | true => simp only [if_true] at h ⊢; exact go a h
    | false => simp only [Bool.false_eq_true, if_false] at h ⊢; exact go b h
theorem dx_if {c a b : Expr} {mc : Mo Bool} {ma mb : Mo Own} {pos : Pos} (hc : PT X c (tB g E S mc)) (ha : PE X a (tD g E S ma)) (hb : PE X b (tD g E S mb)) : PE X (.IfExp c a b pos) (tD g E S (mIf mc ma mb)) :=
  PE.imp (pe_ifExp hc ha hb) fun _ _ _ => imp_if
/-- and, or, not as values, of bools -/
def mAndV (a b : Mo Own) : Mo Own := mIf (mTest a) b (mC (.bl false))
def mOrV (a b : Mo Own) : Mo Own := mIf (mTest a) (mC (.bl true)) b
theorem imp_ifv {a b c : Mo Own} {s : L2.St} {H : Hp} {Q : VK} (q : tD g E S (mIf (mTest a) b c) s H Q) : tD g E S a s H fun x H1 => ∃ k, x = .bl k ∧ if k = true then tD g E S b s H1 Q else tD g E S c s H1 Q := by
  have q1 := imp_if q
  exact imp_test q1
theorem dx_one {op} {a : Expr} {m : Mo Own} {pos : Pos} (h : PE X a (tD g E S m)) : PE X (.BoolOp op [a] pos) (tD g E S m) := pe_one h
theorem dx_and {a b : Expr} {rest : List Expr} {ma mb : Mo Own} {pos : Pos} (ha : PE X a (tD g E S ma)) (hb : PE X (.BoolOp .And (b :: rest) pos) (tD g E S mb)) : PE X (.BoolOp .And (a :: b :: rest) pos) (tD g E S (mAndV ma mb)) :=
  PE.imp (pe_and ha hb) fun s H Q q => by
    have q1 := imp_ifv q
    obtain ⟨r, M, f, st, h⟩ := q1
    refine ⟨r, M, f, st, ?_⟩
    cases e : ma r with
    | bad => rw [e] at h; exact h
    | ex n v => rw [e] at h; exact h
    | ok d r1 =>
      rw [e] at h
      intro x M1 H1 f1 fd st1 t1 p1 q1
      obtain ⟨b, hb, h1⟩ := h x M1 H1 f1 fd st1 t1 p1 q1
      refine ⟨b, hb, ?_⟩
      cases b with
      | true => exact h1
      | false => simp only [Bool.false_eq_true, if_false] at h1 ⊢; exact imp_c (fun _ => .bl false) h1
theorem dx_or {a b : Expr} {rest : List Expr} {ma mb : Mo Own} {pos : Pos} (ha : PE X a (tD g E S ma)) (hb : PE X (.BoolOp .Or (b :: rest) pos) (tD g E S mb)) : PE X (.BoolOp .Or (a :: b :: rest) pos) (tD g E S (mOrV ma mb)) :=
  PE.imp (pe_or ha hb) fun s H Q q => by
    have q1 := imp_ifv q
    obtain ⟨r, M, f, st, h⟩ := q1
    refine ⟨r, M, f, st, ?_⟩
    cases e : ma r with
    | bad => rw [e] at h; exact h
    | ex n v => rw [e] at h; exact h
    | ok d r1 =>
      rw [e] at h
      intro x M1 H1 f1 fd st1 t1 p1 q1
      obtain ⟨b, hb, h1⟩ := h x M1 H1 f1 fd st1 t1 p1 q1
      refine ⟨b, hb, ?_⟩
      cases b with
      | false => exact h1
      | true => simp only [if_true] at h1 ⊢; exact imp_c (fun _ => .bl true) h1
def mNotV (a : Mo Own) : Mo Own := mIf (mTest a) (mC (.bl false)) (mC (.bl true))
theorem dx_not {a : Expr} {ma : Mo Own} {pos : Pos} (ha : PE X a (tD g E S ma)) : PE X (.UnaryOp .Not a pos) (tD g E S (mNotV ma)) :=
  PE.imp (pe_not ha) fun s H Q q => by
    have q1 := imp_ifv q
    obtain ⟨r, M, f, st, h⟩ := q1
    refine ⟨r, M, f, st, ?_⟩
    cases e : ma r with
    | bad => rw [e] at h; exact h
    | ex n v => rw [e] at h; exact h
    | ok d r1 =>
      rw [e] at h
      intro x M1 H1 f1 fd st1 t1 p1 q1
      obtain ⟨b, hb, h1⟩ := h x M1 H1 f1 fd st1 t1 p1 q1
      refine ⟨b, hb, ?_⟩
      cases b with
      | false => simp only [Bool.false_eq_true, if_false] at h1 ⊢; exact imp_c (fun _ => .bl true) h1
      | true => simp only [if_true] at h1 ⊢; exact imp_c (fun _ => .bl false) h1
end
end KS
set_option Elab.async false
set_option linter.all false
set_option maxRecDepth 100000
set_option maxHeartbeats 4000000
namespace KS
open PySem PySem.Spec PyProof.Rows L2
open LamX (Tabs TabS)

inductive RS where
  | nxt (r : Ro) | ret (d : Own) (r : Ro) | brk (r : Ro) | cnt (r : Ro)
  | ex (n : PySem.Str) (v : Val) | bad
abbrev Ms := Ro → RS
def no : Nat → Bool := fun _ => false
/-- a step of a statement -/
structure SStep (g : G) (M H : Hp) (f : Nat → List Addr) (M' H' : Hp) (f' : Nat → List Addr) : Prop where
  mono : Le M M'
  keep : ∀ a o, H a = some o → (∀ i, a ∉ f i) → (∀ ps, o ≠ .tbl ps) → H' a = some o
  dom : ∀ a, H' a = none → H a = none
  newM : ∀ a o, M' a = some o → M a = some o ∨ H a = none ∨ ∃ i, a ∈ f i
  newF : ∀ i a, a ∈ f' i → (∃ j, a ∈ f j) ∨ H a = none
section
variable {g : G} {S : Nat → Bool} {M H M1 H1 M2 H2 M' H' : Hp} {r r1 : Ro} {s s' : L2.St} {f f1 f2 f' : Nat → List Addr}
theorem SStep.refl : SStep g M H f M H f := ⟨Le.refl M, fun _ _ h _ _ => h, fun _ h => h, fun _ _ h => .inl h, fun i _ h => .inl ⟨i, h⟩⟩
theorem Step.ss (p : Step g S M H r f M1 H1 r1 f1) : SStep g M H f M1 H1 f1 := ⟨p.mono, fun a o h n t => p.keep a o h (fun i _ => n i) t, p.dom, fun a o h => (p.newM a o h).imp id .inl, fun i a h => (p.newF i a h).imp (fun z => ⟨i, z⟩) id⟩
theorem SStep.trans (p : SStep g M H f M1 H1 f1) (q : SStep g M1 H1 f1 M2 H2 f2) : SStep g M H f M2 H2 f2 where
  mono := p.mono.trans q.mono
  keep := fun a o h n t => q.keep a o (p.keep a o h n t) (fun i z => by
    rcases p.newF i a z with ⟨j, z⟩ | z
    · exact n j z
    · rw [z] at h; cases h) t
  dom := fun a h => p.dom a (q.dom a h)
  newM := fun a o h => by
    rcases q.newM a o h with h | h | ⟨i, h⟩
    · exact p.newM a o h
    · exact .inr (.inl (p.dom a h))
    · rcases p.newF i a h with h | h
      · exact .inr (.inr h)
      · exact .inr (.inl h)
  newF := fun i a h => by
    rcases q.newF i a h with ⟨j, h⟩ | h
    · exact p.newF j a h
    · exact .inr (p.dom a h)
theorem XStep.afterS (x : XStep g no M1 H1 f1 M' H') (p : SStep g M H f M1 H1 f1) : XStep g no M H f M' H' where
  mono := p.mono.trans x.mono
  sub := x.sub
  keep := fun a o h n t => x.keep a o (p.keep a o h (fun i => n i rfl) t) (fun i _ z => by
    rcases p.newF i a z with ⟨j, z⟩ | z
    · exact n j rfl z
    · rw [z] at h; cases h) t
  dom := fun a h => p.dom a (x.dom a h)
  newM := fun a o h => by
    rcases x.newM a o h with h | h | ⟨i, _, h⟩
    · rcases p.newM a o h with h | h | ⟨i, h⟩
      · exact .inl h
      · exact .inr (.inl h)
      · exact .inr (.inr ⟨i, rfl, h⟩)
    · exact .inr (.inl (p.dom a h))
    · rcases p.newF i a h with ⟨j, h⟩ | h
      · exact .inr (.inr ⟨j, rfl, h⟩)
      · exact .inr (.inl h)
  tab := x.tab
/-- less is asked where S is less -/
theorem XStep.no (x : XStep g S M H f M' H') : XStep g KS.no M H f M' H' := ⟨x.mono, x.sub, fun a o h n t => x.keep a o h (fun i _ => n i rfl) t, x.dom, fun a o h => by
  rcases x.newM a o h with h | h | ⟨i, _, h⟩
  · exact .inl h
  · exact .inr (.inl h)
  · exact .inr (.inr ⟨i, rfl, h⟩), x.tab⟩
theorem Ew.of_no {E : XK} {n : PySem.Str} {v : Val} (e : Ew g E KS.no M H f n v) : Ew g E S M H f n v := fun M' H' c dx x k => e M' H' c dx x.no k
theorem Ew.afterS {E : XK} {n : PySem.Str} {v : Val} (e : Ew g E KS.no M H f n v) (p : SStep g M H f M1 H1 f1) : Ew g E KS.no M1 H1 f1 n v := fun M' H' c dx x k => e M' H' c dx (x.afterS p) k
end
/-- the first slot stays (pn: a def that changes its first argument's object) -/
def Pin (pn : Option V) (s : L2.St) : Prop := ∀ v, pn = some v → s[0]? = some (some v)
def RetOk (g : G) (pn : Option V) (M H M' H' : Hp) (f f' : Nat → List Addr) (d : Own) (x : V) (fd : List Addr) : Prop :=
  RepO g M' H' d x fd ∧ (∀ a ∈ fd, M' a = none ∧ (pn ≠ none → a ∉ f' 0) ∧ ((∃ i, a ∈ f i) ∨ H a = none))
def tS (g : G) (E : XK) (pn : Option V) (m : Ms) : TS := fun D s H => ∃ r M f, Sta g M H r s f ∧ Pin pn s ∧
  match m r with
  | .nxt r' => ∀ s' M' H' f', Sta g M' H' r' s' f' → Pin pn s' → SStep g M H f M' H' f' → D.nx s' H'
  | .brk r' => ∀ s' M' H' f', Sta g M' H' r' s' f' → Pin pn s' → SStep g M H f M' H' f' → D.bk s' H'
  | .cnt r' => ∀ s' M' H' f', Sta g M' H' r' s' f' → Pin pn s' → SStep g M H f M' H' f' → D.ct s' H'
  | .ret d r' => ∀ x s' M' H' f' fd, Sta g M' H' r' s' f' → Pin pn s' → SStep g M H f M' H' f' → RetOk g pn M H M' H' f f' d x fd → D.rt x H'
  | .ex n v => Ew g E no M H f n v
  | .bad => False
section
variable {g : G} {E : XK} {S : Vw} {k : Nat} {X : Cx} {pn : Option V}
def sSkip : Ms := fun r => .nxt r
def RS.andThen : RS → Ms → RS
  | .nxt r, u => u r
  | x, _ => x
def sSeq (t u : Ms) : Ms := fun r => (t r).andThen u
theorem ss_nil : PSs X [] (tS g E pn sSkip) := PSs.imp pss_nil fun D s H h => by
  obtain ⟨r, M, f, st, p, h⟩ := h
  exact h s M H f st p .refl
theorem RetOk.after {M H M1 H1 M' H' : Hp} {f f1 f' : Nat → List Addr} {d : Own} {x : V} {fd : List Addr} (h : RetOk g pn M1 H1 M' H' f1 f' d x fd) (p : SStep g M H f M1 H1 f1) : RetOk g pn M H M' H' f f' d x fd :=
  ⟨h.1, fun a ha => ⟨(h.2 a ha).1, (h.2 a ha).2.1, by
    rcases (h.2 a ha).2.2 with ⟨i, z⟩ | z
    · exact p.newF i a z
    · exact .inr (p.dom a z)⟩⟩
/-- going on behind a step -/
theorem tS.go {u : Ms} {D : Ends} {M H M1 H1 : Hp} {r1 : Ro} {f f1 : Nat → List Addr} {s1 : L2.St} (st1 : Sta g M1 H1 r1 s1 f1) (pn1 : Pin pn s1) (p1 : SStep g M H f M1 H1 f1)
    (h : match u r1 with
      | .nxt r' => ∀ s' M' H' f', Sta g M' H' r' s' f' → Pin pn s' → SStep g M H f M' H' f' → D.nx s' H'
      | .brk r' => ∀ s' M' H' f', Sta g M' H' r' s' f' → Pin pn s' → SStep g M H f M' H' f' → D.bk s' H'
      | .cnt r' => ∀ s' M' H' f', Sta g M' H' r' s' f' → Pin pn s' → SStep g M H f M' H' f' → D.ct s' H'
      | .ret d r' => ∀ x s' M' H' f' fd, Sta g M' H' r' s' f' → Pin pn s' → SStep g M H f M' H' f' → RetOk g pn M H M' H' f f' d x fd → D.rt x H'
      | .ex n v => Ew g E no M H f n v
      | .bad => False) : tS g E pn u D s1 H1 := by
  refine ⟨r1, M1, f1, st1, pn1, ?_⟩
  cases e : u r1 with
  | bad => rw [e] at h; exact h
  | ex n v => rw [e] at h; exact h.afterS p1
  | nxt r' => rw [e] at h; exact fun s2 M2 H2 f2 st2 pn2 p2 => h s2 M2 H2 f2 st2 pn2 (p1.trans p2)
  | brk r' => rw [e] at h; exact fun s2 M2 H2 f2 st2 pn2 p2 => h s2 M2 H2 f2 st2 pn2 (p1.trans p2)
  | cnt r' => rw [e] at h; exact fun s2 M2 H2 f2 st2 pn2 p2 => h s2 M2 H2 f2 st2 pn2 (p1.trans p2)
  | ret d r' => rw [e] at h; exact fun x s2 M2 H2 f2 fd st2 pn2 p2 q2 => h x s2 M2 H2 f2 fd st2 pn2 (p1.trans p2) (q2.after p1)
theorem ss_cons {st : Stmt} {rest : List Stmt} {t u : Ms} (h1 : PS X st (tS g E pn t)) (h2 : PSs X rest (tS g E pn u)) : PSs X (st :: rest) (tS g E pn (sSeq t u)) := PSs.imp (pss_cons h1 h2) fun D s H h => by
  obtain ⟨r, M, f, sta, p, h⟩ := h
  refine ⟨r, M, f, sta, p, ?_⟩
  unfold sSeq at h
  cases e : t r with
  | nxt r1 =>
    rw [e] at h
    intro s1 M1 H1 f1 st1 pn1 p1
    exact tS.go st1 pn1 p1 h
  | bad => rw [e] at h; exact h
  | ex n v => rw [e] at h; exact h
  | brk r' => rw [e] at h; exact h
  | cnt r' => rw [e] at h; exact h
  | ret d r' => rw [e] at h; exact h
theorem ss_one {st : Stmt} {t : Ms} (h1 : PS X st (tS g E pn t)) : PSs X [st] (tS g E pn t) := pss_one h1
/-! ### a value that may be bound: not seen elsewhere -/
def okB (S : Vw) : Own → Bool
  | .v w => nl w || (match S with | .no => true | _ => false)
  | .l ds => nlL ds || (match S with | .no => true | _ => false)
theorem view_no {M H : Hp} {f : Nat → List Addr} : View Vw.no.fn M H f [] = M := by
  funext a
  exact view_out (fun i h => by cases h) (by simp)
theorem view_nl {M H : Hp} {r : Ro} {s : L2.St} {f : Nat → List Addr} {S : Nat → Bool} (st : Sta g M H r s f) : ∀ a o, View S M H f [] a = some o → (∀ xs, o ≠ .lst xs) → M a = some o := fun a o e n => by
  rcases view_cases S M H f [] a with ⟨⟨i, h1, h2⟩, q⟩ | ⟨h, q⟩ | ⟨h1, h2, q⟩
  · rw [q] at e
    obtain ⟨xs, hx⟩ := st.live h2
    rw [hx] at e; cases e
    exact (n xs rfl).elim
  · cases h
  · rw [q] at e; exact e
theorem bound {M H : Hp} {r : Ro} {s : L2.St} {f : Nat → List Addr} {d : Own} {x : V} {fd : List Addr} (st : Sta g M H r s f) (t : Tmp g S.fn M H f d x fd) (h : okB S d = true) : RepO g M H d x fd := by
  have t := t.rep
  cases S with
  | no => rw [view_no] at t; exact t
  | but xs =>
    cases t with
    | v ro => exact .v (ro.nl (view_nl st) (by simpa [okB] using h))
    | l h1 h2 => exact .l h1 (h2.nl (view_nl st) (by simpa [okB] using h))
/-- slot i gets it -/
theorem Sta.put {M H : Hp} {r : Ro} {s : L2.St} {f : Nat → List Addr} {d : Own} {x : V} {fd : List Addr} (st : Sta g M H r s f) (ro : RepO g M H d x fd) (hs : ∀ a ∈ fd, M a = none ∧ ∀ i, a ∉ f i) (i : Nat) :
    Sta g M H (r.set i (some d)) (s.set i (some x)) (fun j => if j = i then (if i < r.length then fd else []) else f j) where
  sub := st.sub
  env := fun j e h => by
    by_cases hj : j = i
    · subst hj
      by_cases hl : j < r.length
      · rw [List.getElem?_set_self hl] at h
        cases h
        refine ⟨x, List.getElem?_set_self (by rw [st.len]; exact hl), ?_⟩
        simp only [if_pos hl, if_true]; exact ro
      · rw [List.getElem?_eq_none (by simpa using hl)] at h; cases h
    · rw [List.getElem?_set_ne (Ne.symm hj)] at h
      obtain ⟨y, h1, h2⟩ := st.env j e h
      refine ⟨y, by rw [List.getElem?_set_ne (Ne.symm hj)]; exact h1, ?_⟩
      simp only [if_neg hj]; exact h2
  dis := fun j l a h1 h2 => by
    have key : ∀ {j : Nat}, a ∈ (if j = i then (if i < r.length then fd else []) else f j) → (j = i ∧ a ∈ fd) ∨ (j ≠ i ∧ a ∈ f j) := fun {j} h => by
      by_cases hj : j = i
      · rw [if_pos hj] at h
        split at h
        · exact .inl ⟨hj, h⟩
        · cases h
      · rw [if_neg hj] at h; exact .inr ⟨hj, h⟩
    rcases key h1 with ⟨e1, h1⟩ | ⟨e1, h1⟩ <;> rcases key h2 with ⟨e2, h2⟩ | ⟨e2, h2⟩
    · rw [e1, e2]
    · exact ((hs a h1).2 l h2).elim
    · exact ((hs a h2).2 j h1).elim
    · exact st.dis j l a h1 h2
  fre := fun j a h => by
    by_cases hj : j = i
    · simp only [if_pos hj] at h
      split at h
      · exact (hs a h).1
      · cases h
    · simp only [if_neg hj] at h; exact st.fre j a h
  out := fun j h => by
    by_cases hj : j = i
    · subst hj
      by_cases hl : j < r.length
      · exact (h d (List.getElem?_set_self hl)).elim
      · simp only [if_true, if_neg hl]
    · simp only [if_neg hj]
      exact st.out j fun e q => h e (by rw [List.getElem?_set_ne (Ne.symm hj)]; exact q)
  tab := st.tab
  len := by simp [st.len]
  nt := st.nt
/-- a slot is forgotten -/
theorem Sta.drop {M H : Hp} {r : Ro} {s : L2.St} {f : Nat → List Addr} (st : Sta g M H r s f) (i : Nat) : Sta g M H (r.set i none) s (fun j => if j = i then [] else f j) where
  sub := st.sub
  env := fun j e h => by
    by_cases hj : j = i
    · subst hj
      by_cases hl : j < r.length
      · rw [List.getElem?_set_self hl] at h; cases h
      · rw [List.getElem?_eq_none (by simpa using hl)] at h; cases h
    · rw [List.getElem?_set_ne (Ne.symm hj)] at h
      simp only [if_neg hj]; exact st.env j e h
  dis := fun j l a h1 h2 => by
    by_cases hj : j = i
    · simp only [if_pos hj] at h1; cases h1
    · by_cases hl : l = i
      · simp only [if_pos hl] at h2; cases h2
      · simp only [if_neg hj] at h1; simp only [if_neg hl] at h2; exact st.dis j l a h1 h2
  fre := fun j a h => by
    by_cases hj : j = i
    · simp only [if_pos hj] at h; cases h
    · simp only [if_neg hj] at h; exact st.fre j a h
  out := fun j h => by
    by_cases hj : j = i
    · simp only [if_pos hj]
    · simp only [if_neg hj]
      exact st.out j fun e q => h e (by rw [List.getElem?_set_ne (Ne.symm hj)]; exact q)
  tab := st.tab
  len := by simp [st.len]
  nt := st.nt
open Classical in
/-- what a slot owns is frozen -/
theorem Sta.freeze {M H : Hp} {r : Ro} {s : L2.St} {f : Nat → List Addr} {i : Nat} {d : Own} (st : Sta g M H r s f) (h : r[i]? = some (some d)) :
    ∃ M', Sta g M' H (r.set i (some (.v d.val))) s (fun j => if j = i then [] else f j) ∧ Le M M' ∧ ∀ a o, M' a = some o → M a = some o ∨ a ∈ f i := by
  have hl : i < r.length := (List.getElem?_eq_some_iff.mp h).1
  have mono : Le M (fun a => if a ∈ f i then H a else M a) := fun a o e => by
    have : a ∉ f i := fun z => by rw [st.fre i a z] at e; cases e
    simp only [if_neg this]; exact e
  refine ⟨fun a => if a ∈ f i then H a else M a, ⟨fun a o e => ?_, fun j e q => ?_, fun j l a h1 h2 => ?_, fun j a h1 => ?_, fun j q => ?_, st.tab, by simp [st.len], fun p hp => ?_⟩, mono, fun a o e => ?_⟩
  · split at e
    · exact e
    · exact st.sub a o e
  · by_cases hj : j = i
    · subst hj
      rw [List.getElem?_set_self hl] at q
      cases q
      obtain ⟨x, h1, h2⟩ := st.env j d h
      refine ⟨x, h1, ?_⟩
      simp only [if_true]
      exact .v (h2.val mono fun a ha => by simp only [if_pos ha])
    · rw [List.getElem?_set_ne (Ne.symm hj)] at q
      obtain ⟨x, h1, h2⟩ := st.env j e q
      refine ⟨x, h1, ?_⟩
      simp only [if_neg hj]
      exact h2.mono mono fun _ _ _ z => z
  · by_cases hj : j = i
    · simp only [if_pos hj] at h1; cases h1
    · by_cases hk : l = i
      · simp only [if_pos hk] at h2; cases h2
      · simp only [if_neg hj] at h1; simp only [if_neg hk] at h2; exact st.dis j l a h1 h2
  · by_cases hj : j = i
    · simp only [if_pos hj] at h1; cases h1
    · simp only [if_neg hj] at h1
      have : a ∉ f i := fun z => hj (st.dis j i a h1 z)
      simp only [if_neg this]; exact st.fre j a h1
  · by_cases hj : j = i
    · simp only [if_pos hj]
    · simp only [if_neg hj]
      exact st.out j fun e z => q e (by rw [List.getElem?_set_ne (Ne.symm hj)]; exact z)
  · have : p.1 ∉ f i := fun z => tab_live st.tab hp (st.live z)
    simp only [if_neg this]; exact st.nt p hp
  · by_cases hz : a ∈ f i
    · exact .inr hz
    · simp only [if_neg hz] at e; exact .inl e
def frzAt (i : Nat) (r : Ro) : Ro := match r[i]? with
  | some (some d) => r.set i (some (.v d.val))
  | _ => r
/-- slot i's list is shared from here on -/
def sFrz (i : Nat) (m : Ms) : Ms := fun r => m (frzAt i r)
theorem ss_frz {sts : List Stmt} {m : Ms} (i : Nat) (h : PSs X sts (tS g E pn m)) (hi : i ≠ 0 ∨ pn = none := by first | exact .inl (by decide) | exact .inr rfl) : PSs X sts (tS g E pn (sFrz i m)) := PSs.imp h fun D s H q => by
  obtain ⟨r, M, f, st, p, q⟩ := q
  unfold sFrz frzAt at q
  cases e : r[i]? with
  | none => simp only [e] at q; exact ⟨r, M, f, st, p, q⟩
  | some o =>
    cases o with
    | none => simp only [e] at q; exact ⟨r, M, f, st, p, q⟩
    | some d =>
      simp only [e] at q
      obtain ⟨M', st', mo, nw⟩ := st.freeze e
      refine tS.go (M := M) (f := f) st' p ⟨mo, fun a o h _ _ => h, fun _ h => h, fun a o h => (nw a o h).imp id fun z => .inr ⟨i, z⟩, fun j a h => ?_⟩ q
      by_cases hj : j = i
      · simp only [if_pos hj] at h; cases h
      · simp only [if_neg hj] at h; exact .inl ⟨j, h⟩
theorem ps_frz {stm : Stmt} {m : Ms} (i : Nat) (h : PS X stm (tS g E pn m)) : PS X stm (tS g E pn (sFrz i m)) := PS.imp h fun D s H q => by
  obtain ⟨r, M, f, st, p, q⟩ := q
  unfold sFrz frzAt at q
  cases e : r[i]? with
  | none => simp only [e] at q; exact ⟨r, M, f, st, p, q⟩
  | some o =>
    cases o with
    | none => simp only [e] at q; exact ⟨r, M, f, st, p, q⟩
    | some d =>
      simp only [e] at q
      obtain ⟨M', st', mo, nw⟩ := st.freeze e
      refine tS.go (M := M) (f := f) st' p ⟨mo, fun a o h _ _ => h, fun _ h => h, fun a o h => (nw a o h).imp id fun z => .inr ⟨i, z⟩, fun j a h => ?_⟩ q
      by_cases hj : j = i
      · simp only [if_pos hj] at h; cases h
      · simp only [if_neg hj] at h; exact .inl ⟨j, h⟩
/-! ### x = e -/
def sSet (S : Vw) (i : Nat) (m : Mo Own) : Ms := fun r => match m r with
  | .ok d r1 => if okB S d = true then .nxt (r1.set i (some d)) else .bad
  | .ex n v => .ex n v
  | .bad => .bad
theorem put_step {M H M1 H1 : Hp} {r r1 : Ro} {f f1 : Nat → List Addr} {fd : List Addr} {i : Nat} {S : Nat → Bool} (p : Step g S M H r f M1 H1 r1 f1) (hf : ∀ a ∈ fd, H a = none) :
    SStep g M H f M1 H1 (fun j => if j = i then (if i < r1.length then fd else []) else f1 j) where
  mono := p.mono
  keep := p.ss.keep
  dom := p.dom
  newM := p.ss.newM
  newF := fun j a h => by
    by_cases hj : j = i
    · simp only [if_pos hj] at h
      split at h
      · exact .inr (hf a h)
      · cases h
    · simp only [if_neg hj] at h; exact p.ss.newF j a h
theorem Pin.set {s : L2.St} {i : Nat} {x : V} (p : Pin pn s) (hi : i ≠ 0 ∨ pn = none) : Pin pn (s.set i (some x)) := fun v e => by
  rcases hi with hi | hi
  · rw [List.getElem?_set_ne hi]; exact p v e
  · rw [hi] at e; cases e
theorem imp_set {m : Mo Own} {i : Nat} (hi : i ≠ 0 ∨ pn = none) {D : Ends} {s : L2.St} {H : Hp} (q : tS g E pn (sSet S i m) D s H) : tAsg (tD g E S m) (gName i) D s H := by
  obtain ⟨r, M, f, st, p, q⟩ := q
  refine ⟨r, M, f, st, ?_⟩
  unfold sSet at q
  cases e : m r with
  | bad => rw [e] at q; exact q
  | ex n v => rw [e] at q; exact q.of_no
  | ok d r1 =>
    simp only [e] at q
    intro x M1 H1 f1 fd st1 t1 p1 q1
    by_cases hb : okB S d = true
    · rw [if_pos hb] at q
      exact q _ M1 H1 _ (st1.put (bound st1 t1 hb) t1.sep i) (p.set hi) (put_step p1 q1)
    · rw [if_neg hb] at q; exact q.elim
theorem ds_set {i : Nat} {x : PySem.Str} {e : Expr} {m : Mo Own} {pos pos' : Pos} (c : Cxt g E k X) (he : PE X e (tD g E S m)) (hN : X.N[i]? = some x := by rfl) (hx : Loc X.env.scope x := by first | exact .inl rfl | exact .inr rfl)
    (hs : swapsWith e (some (.Name x pos')) pos.line X.env = pure false := by rfl) (hf : X.fn x = true ∨ X.env.scope.names.lookup x = some .local := by first | exact .inl rfl | exact .inr rfl) (hi : i ≠ 0 ∨ pn = none := by first | exact .inl (by decide) | exact .inr rfl) :
    PS X (.Assign [.Name x pos'] e pos) (tS g E pn (sSet S i m)) := PS.imp (ps_set c.nd hN hx he hs hf) fun D s H => imp_set hi
/-! ### return, expression, if -/
/-- what is returned: a list of one's own goes with it -/
def sRet (S : Vw) (m : Mo Own) : Ms := fun r => match m r with
  | .ok d r1 => if okB S d = true then .ret d r1 else .bad
  | .ex n v => .ex n v
  | .bad => .bad
theorem ds_ret {e : Expr} {m : Mo Own} {pos : Pos} (he : PE X e (tD g E S m)) : PS X (.Return (some e) pos) (tS g E pn (sRet S m)) := PS.imp (ps_ret he) fun D s H q => by
  obtain ⟨r, M, f, st, p, q⟩ := q
  refine ⟨r, M, f, st, ?_⟩
  unfold sRet at q
  cases e : m r with
  | bad => rw [e] at q; exact q
  | ex n v => rw [e] at q; exact q.of_no
  | ok d r1 =>
    simp only [e] at q
    intro x M1 H1 f1 fd st1 t1 p1 q1
    by_cases hb : okB S d = true
    · rw [if_pos hb] at q
      exact q x s M1 H1 f1 fd st1 p p1.ss ⟨bound st1 t1 hb, fun a ha => ⟨(t1.sep a ha).1, fun _ => (t1.sep a ha).2 0, .inr (q1 a ha)⟩⟩
    · rw [if_neg hb] at q; exact q.elim
/-- return x: the slot's own list is given away -/
def sRetV (i : Nat) : Ms := fun r => match r[i]? with
  | some (some d) => .ret d r
  | _ => .bad
theorem ds_retV (i : Nat) {x : PySem.Str} {p1 pos : Pos} (hN : X.N[i]? = some x := by rfl) (hv : Vis X.env.scope x := by first | exact Or.inl rfl | exact Or.inr (Or.inl rfl) | exact Or.inr (Or.inr rfl)) (hd : (x == ("__debug__" : PySem.Str)) = false := by decide)
    (hcd : (x == ("__classdict__" : PySem.Str)) = false := by decide) (hi : i ≠ 0 ∨ pn = none := by first | exact .inl (by decide) | exact .inr rfl) : PS X (.Return (some (.Name x p1)) pos) (tS g E pn (sRetV i)) := PS.imp (ps_ret (pe_var hN hv hd hcd)) fun D s H q => by
  obtain ⟨r, M, f, st, p, q⟩ := q
  unfold sRetV at q
  cases e : r[i]? with
  | none => simp only [e] at q
  | some o =>
    cases o with
    | none => simp only [e] at q
    | some d =>
      simp only [e] at q
      obtain ⟨x, h1, h2⟩ := st.env i d e
      refine ⟨x, h1, q x s M H f (f i) st p .refl ⟨h2, fun a ha => ⟨st.fre i a ha, fun hp hz => ?_, .inl ⟨i, ha⟩⟩⟩⟩
      rcases hi with hi | hi
      · exact hi (st.dis i 0 a ha hz)
      · exact hp hi
def sRetN : Ms := fun r => .ret (.v .non) r
theorem ds_retN {pos : Pos} : PS X (.Return none pos) (tS g E pn sRetN) := PS.imp ps_retN fun D s H q => by
  obtain ⟨r, M, f, st, p, q⟩ := q
  exact q .non s M H f [] st p .refl ⟨.v .non, by simp⟩
def sExp (m : Mo Own) : Ms := fun r => match m r with
  | .ok _ r1 => .nxt r1
  | .ex n v => .ex n v
  | .bad => .bad
theorem ds_exp {e : Expr} {m : Mo Own} {pos : Pos} (he : PE X e (tD g E S m)) (hs : swapsWith e none pos.line X.env = pure false := by rfl) : PS X (.Expr e pos) (tS g E pn (sExp m)) := PS.imp (ps_expr he hs) fun D s H q => by
  obtain ⟨r, M, f, st, p, q⟩ := q
  refine ⟨r, M, f, st, ?_⟩
  unfold sExp at q
  cases e : m r with
  | bad => rw [e] at q; exact q
  | ex n v => rw [e] at q; exact q.of_no
  | ok d r1 =>
    simp only [e] at q
    intro x M1 H1 f1 fd st1 t1 p1 q1
    exact q s M1 H1 f1 st1 p p1.ss
def sIf (c : Mo Bool) (a b : Ms) : Ms := fun r => match c r with
  | .ok x r1 => if x = true then a r1 else b r1
  | .ex n v => .ex n v
  | .bad => .bad
theorem ds_if {c : Expr} {a b : List Stmt} {mc : Mo Bool} {ma mb : Ms} {pos : Pos} (hc : PT X c (tB g E S mc)) (ha : PSs X a (tS g E pn ma)) (hb : PSs X b (tS g E pn mb)) : PS X (.If c a b pos) (tS g E pn (sIf mc ma mb)) := PS.imp (ps_if hc ha hb) fun D s H q => by
  obtain ⟨r, M, f, st, p, q⟩ := q
  refine ⟨r, M, f, st, ?_⟩
  unfold sIf at q
  cases e : mc r with
  | bad => rw [e] at q; exact q
  | ex n v => rw [e] at q; exact q.of_no
  | ok d r1 =>
    simp only [e] at q
    intro M1 H1 f1 st1 p1
    cases d with
    | true => simp only [if_true] at q ⊢; exact tS.go st1 p p1.ss q
    | false => simp only [Bool.false_eq_true, if_false] at q ⊢; exact tS.go st1 p p1.ss q
def sBrk : Ms := fun r => .brk r
def sCnt : Ms := fun r => .cnt r
theorem ds_pass {pos : Pos} : PS X (.Pass pos) (tS g E pn sSkip) := PS.imp ps_pass fun D s H h => by
  obtain ⟨r, M, f, st, p, h⟩ := h
  exact h s M H f st p .refl
theorem ds_brk {pos : Pos} : PS X (.Break pos) (tS g E pn sBrk) := PS.imp ps_break fun D s H h => by
  obtain ⟨r, M, f, st, p, h⟩ := h
  exact h s M H f st p .refl
theorem ds_cnt {pos : Pos} : PS X (.Continue pos) (tS g E pn sCnt) := PS.imp ps_continue fun D s H h => by
  obtain ⟨r, M, f, st, p, h⟩ := h
  exact h s M H f st p .refl
end
end KS
set_option Elab.async false
set_option linter.all false
set_option maxRecDepth 100000
set_option maxHeartbeats 4000000
namespace KS
open PySem PySem.Spec PyProof.Rows L2
open LamX (Tabs TabS)

section
variable {g : G} {M H M' H' : Hp} {r : Ro} {s : L2.St} {f : Nat → List Addr} {fd : List Addr}
open Classical in
/-- behind a pure step: what is frozen, without what the slots own -/
theorem land0 {S : Nat → Bool} {M0 H0 : Hp} {r0 : Ro} {f0 : Nat → List Addr} (st : Sta g M H r s f) (p : Step g S M0 H0 r0 f0 M H r f) (hfd : ∀ a ∈ fd, H0 a = none) (hsep : ∀ a ∈ fd, Live H a ∧ ∀ i, a ∉ f i) (nw : New g (View S M H f fd) H M' H') :
    ∃ M2, Sta g M2 H' r s f ∧ Step g S M0 H0 r0 f0 M2 H' r f ∧ Le M2 M' ∧ Le M' (View S M2 H' f []) ∧ (∀ a o, M' a = some o → (∀ xs, o ≠ .lst xs) → M2 a = some o) ∧ ((∀ i, S i = false) → Le M' M2) ∧ XStep g S M0 H0 f0 M2 H' ∧ (∀ a, M' a = none → M2 a = none) := by
  have hlive : ∀ {i a}, a ∈ f i → ∃ xs, H a = some (.lst xs) := fun h => st.live h
  have hown : ∀ i a, a ∈ f i → S i = false → M' a = none := fun i a h hS => by
    cases e : M' a with
    | none => rfl
    | some u =>
      rcases nw.newM a u e with q | q
      · rw [view_out (fun j hj z => by have := st.dis i j a h z; subst this; rw [hS] at hj; cases hj) (fun z => (hsep a z).2 i h), st.fre i a h] at q
        cases q
      · obtain ⟨xs, hx⟩ := hlive h
        rw [hx] at q; cases q
  have hkeep : ∀ i a, a ∈ f i → H' a = H a := fun i a h => by
    obtain ⟨xs, hx⟩ := hlive h
    rw [hx]
    exact nw.keep a _ hx (by intro ps q; cases q)
  have le2 : Le (fun a => if ∃ i, a ∈ f i then none else M' a) M' := fun a u e => by
    by_cases h : ∃ i, a ∈ f i
    · simp only [if_pos h] at e; cases e
    · simp only [if_neg h] at e; exact e
  have mono : Le M (fun a => if ∃ i, a ∈ f i then none else M' a) := fun a u e => by
    have hn : ¬ ∃ i, a ∈ f i := fun ⟨j, hj⟩ => by rw [st.fre j a hj] at e; cases e
    simp only [if_neg hn]
    exact nw.mono a u (st.view_le a u e)
  have keep0 : ∀ a o, H0 a = some o → (∀ i, S i = false → a ∉ f0 i) → (∀ ps, o ≠ .tbl ps) → H' a = some o := fun a u h n t => nw.keep a u (p.keep a u h n t) t
  have newM : ∀ a o, (fun a => if ∃ i, a ∈ f i then none else M' a) a = some o → M0 a = some o ∨ H0 a = none := fun a u e => by
    by_cases h : ∃ i, a ∈ f i
    · simp only [if_pos h] at e; cases e
    · simp only [if_neg h] at e
      rcases nw.newM a u e with q | q
      · rcases view_cases S M H f fd a with ⟨⟨i, h1, h2⟩, _⟩ | ⟨h1, q2⟩ | ⟨_, _, q2⟩
        · exact (h ⟨i, h2⟩).elim
        · exact .inr (hfd a h1)
        · rw [q2] at q; exact p.newM a u q
      · exact .inr (p.dom a q)
  have dom : ∀ a, H' a = none → H0 a = none := fun a h => p.dom a (nw.dom a h)
  refine ⟨fun a => if ∃ i, a ∈ f i then none else M' a, ⟨fun a u e => nw.sub a u (le2 a u e), fun i d e => ?_, st.dis, fun i a h => by simp only [if_pos (⟨i, h⟩ : ∃ i, a ∈ f i)], st.out, nw.tab, st.len, fun p hp => nt_new st (fun a h => (hsep a h).1) nw p hp⟩,
    ⟨p.mono.trans mono, keep0, dom, newM, p.same, p.newF, p.rlen⟩, le2, fun a u e => ?_, fun a u e n => ?_, fun hS a u e => ?_, ⟨p.mono.trans mono, fun a u e => nw.sub a u (le2 a u e), keep0, dom, fun a o e => (newM a o e).imp id .inl, nw.tab⟩, fun a e => ?_⟩
  · obtain ⟨x, h1, h2⟩ := st.env i d e
    exact ⟨x, h1, h2.mono mono fun a ha u hu => by rw [hkeep i a ha]; exact hu⟩
  · by_cases h : ∃ i, a ∈ f i
    · obtain ⟨i, hi⟩ := h
      cases hS : S i with
      | true => rw [view_in hS hi]; exact nw.sub a u e
      | false => rw [hown i a hi hS] at e; cases e
    · rw [view_out (fun i _ z => h ⟨i, z⟩) (by simp), if_neg h]; exact e
  · by_cases h : ∃ i, a ∈ f i
    · obtain ⟨i, hi⟩ := h
      obtain ⟨xs, hx⟩ := hlive hi
      have q := nw.sub a u e
      rw [hkeep i a hi, hx] at q
      cases q
      exact (n xs rfl).elim
    · simp only [if_neg h]; exact e
  · by_cases h : ∃ i, a ∈ f i
    · obtain ⟨i, hi⟩ := h
      rw [hown i a hi (hS i)] at e; cases e
    · simp only [if_neg h]; exact e
  · by_cases h : ∃ i, a ∈ f i
    · simp only [if_pos h]
    · simp only [if_neg h]; exact e
end

/-! ### a def that changes nothing: its worth by its arguments' worths -/
def spP (g : G) (P : List Val → RP) : Sp := fun vs H Q E => ∃ ds M, Le M H ∧ TabM g M H ∧ RepL g M ds vs ∧ match P ds with
  | .ok o => ∀ z M' H' fz, New g M H M' H' → RepO g M' H' o z fz → (∀ a ∈ fz, H a = none ∧ M' a = none) → Q z H'
  | .ex n v => ∀ M' H' c dx, New g M H M' H' → ExOk g M' n v c dx → E c dx H'
  | .bad => False
/-- what the text has: the def of that name keeps P -/
structure DefP (g : G) (k : Nat) (x : PySem.Str) (st : Stmt) (ps : List PySem.Str) (P : List Val → RP) : Prop where
  ex : ∃ f fd, FnG g.P g.w g.K g.mg g.base k f fd ps (spP g P) ∧ g.mg x = some (.ref f) ∧ Fun g.K x x st f fd ∧ Binds g.K fd ps []
section
variable {g : G} {E : XK} {S : Vw} {k : Nat} {X : Cx} {pn : Option V}
def exB (S : Vw) (v : Val) : Bool := nl v || (match S with | .no => true | _ => false)
def RP.at (S : Vw) (p : RP) (r : Ro) : Rs Own := match p with
  | .ok o => .ok o r
  | .ex n v => if exB S v = true then .ex n v else .bad
  | .bad => .bad
def mCall (S : Vw) (P : List Val → RP) (ms : Mo (List Own)) : Mo Own := fun r => (ms r).bind fun ds r1 => (P (ds.map Own.val)).at S r1
theorem ExOk.land {M M2 : Hp} {n : PySem.Str} {v : Val} {c : Value} {d : Option Addr} (h : ExOk g M n v c d) (k : ∀ a o, M a = some o → (∀ xs, o ≠ .lst xs) → M2 a = some o) (k2 : (∀ i, S.fn i = false) → Le M M2) (hb : exB S v = true) : ExOk g M2 n v c d := by
  obtain ⟨C, dx, y, h1, h2, h3, h4, h5⟩ := h
  refine ⟨C, dx, y, h1, h2, h3, k _ _ h4 (by intro xs q; cases q), ?_⟩
  cases S with
  | no => exact h5.mono (k2 fun _ => rfl)
  | but xs => exact h5.nl k (by simpa [exB] using hb)
theorem imp_call {P : List Val → RP} {ms : Mo (List Own)} {s : L2.St} {H : Hp} {Q : VK} (h : tD g E S (mCall S P ms) s H Q) : tA g E S ms s H fun vs H1 => spP g P vs H1 Q E := by
  obtain ⟨r, M, f, st, h⟩ := h
  refine ⟨r, M, f, st, ?_⟩
  unfold mCall at h
  cases hm : ms r with
  | bad => rw [hm] at h; exact h
  | ex n v => rw [hm] at h; exact h
  | ok ds r1 =>
    simp only [hm, Rs.bind] at h
    intro xs M1 H1 f1 fd st1 t1 p1 fr1
    refine ⟨_, View S.fn M1 H1 f1 fd, st1.view_sub, st1.view_tab fun a ha => (t1.sep a ha).1, t1.vals st1, ?_⟩
    cases hp : P (ds.map Own.val) with
    | bad => simp only [hp, RP.at] at h
    | ok o =>
      simp only [hp, RP.at] at h
      intro z M' H' fz nw ro hz
      obtain ⟨M2, st2, p2, l1, l2, _, _, _, l5⟩ := land0 st1 p1 fr1 (fun a ha => ⟨(t1.sep a ha).1, (t1.sep a ha).2.2⟩) nw
      refine h z M2 H' f1 fz st2 ⟨ro.mono l2 fun _ _ _ q => q, fun a ha => ⟨l5 a (hz a ha).2, fun i hi => ?_⟩⟩ p2 fun a ha => p1.dom a (hz a ha).1
      obtain ⟨us, hu⟩ := st1.live hi
      rw [(hz a ha).1] at hu; cases hu
    | ex n v =>
      simp only [hp, RP.at] at h
      intro M' H' c dx nw hx
      by_cases hb : exB S v = true
      · rw [if_pos hb] at h
        obtain ⟨M2, st2, p2, l1, l2, l3, l4, l6, l5⟩ := land0 st1 p1 fr1 (fun a ha => ⟨(t1.sep a ha).1, (t1.sep a ha).2.2⟩) nw
        exact h M2 H' c dx l6 (hx.land l3 l4 hb)
      · rw [if_neg hb] at h; exact h.elim
/-- f(e, ..) -/
theorem dx_call {x : PySem.Str} {st : Stmt} {ps : List PySem.Str} {P : List Val → RP} {j : Nat} {e : Expr} {es : List Expr} {ms : Mo (List Own)} {p pos : Pos} (c : Cxt g E k X) (D : DefP g j x st ps P) (hj : j ≤ k) (ha : PA X (e :: es) (tA g E S ms)) (hg : Gl X x := by rfl)
    (he : starEach (e :: es) X.env = (false, eval e X.env) :: starEach es X.env := by rfl) (hpl : (backTo pos (starEach es X.env)).any (·.1) = false := by rfl) (hdb : (x == ("__debug__" : PySem.Str)) = false := by decide) :
    PE X (.Call (.Name x p) (e :: es) [] pos) (tD g E S (mCall S P ms)) := by
  obtain ⟨f, fd, F, hm, hf, hb⟩ := D.ex
  have F' : FnG X.prog X.w X.K X.mg X.base j f fd ps (spP g P) := by rw [c.prog, c.w, c.K, c.mg, c.base]; exact F
  refine PE.imp (pe_callG (E := E) F' c.grd (c.room.mono hj) hg (by rw [c.mg]; exact hm) (by rw [c.K]; exact hf.kp) (by rw [c.K]; exact hb) c.pass ha hdb he hpl) fun s H Q q => ?_
  have h := imp_call q
  exact h
theorem dx_call0 {x : PySem.Str} {st : Stmt} {ps : List PySem.Str} {P : List Val → RP} {j : Nat} {p pos : Pos} (c : Cxt g E k X) (D : DefP g j x st ps P) (hj : j ≤ k) (hg : Gl X x := by rfl) (hdb : (x == ("__debug__" : PySem.Str)) = false := by decide) :
    PE X (.Call (.Name x p) [] [] pos) (tD g E S (mCall S P mNil)) := by
  obtain ⟨f, fd, F, hm, hf, hb⟩ := D.ex
  have F' : FnG X.prog X.w X.K X.mg X.base j f fd ps (spP g P) := by rw [c.prog, c.w, c.K, c.mg, c.base]; exact F
  refine PE.imp (pe_callG0 (E := E) F' c.grd (c.room.mono hj) hg (by rw [c.mg]; exact hm) (by rw [c.K]; exact hf.kp) (by rw [c.K]; exact hb) c.pass hdb) fun s H Q q => ?_
  have h := imp_nil (imp_call q)
  exact h
/-! ### keywords -/
def pick {α : Type} (n m : Nat) (ix : List Nat) (us ws : List α) : List α := if us.length = n ∧ ws.length = m then ix.filterMap (fun i => (us ++ ws)[i]?) else []
theorem pick_vals {n m : Nat} {ix : List Nat} {vs zs : List V} {us ws : List Value} (h1 : Vals vs us) (h2 : Vals zs ws) : Vals (pick n m ix vs zs) (pick n m ix us ws) := by
  unfold pick
  rw [h1.length, h2.length]
  split
  · have h := Vals.append h1 h2
    generalize vs ++ zs = a at h
    generalize us ++ ws = b at h
    induction ix with
    | nil => exact .nil
    | cons i ix ih =>
      rw [List.filterMap_cons, List.filterMap_cons]
      cases e : a[i]? with
      | none => rw [Vals.none_of h e]; exact ih
      | some x =>
        obtain ⟨u, hu, ru⟩ := Vals.get h e
        rw [hu]
        exact .cons ru ih
  · exact .nil
theorem pick_rep {M : Hp} {n m : Nat} {ix : List Nat} {vs zs : List V} {ds es : List Val} (h1 : RepL g M ds vs) (h2 : RepL g M es zs) : RepL g M (pick n m ix ds es) (pick n m ix vs zs) := by
  unfold pick
  rw [h1.length, h2.length]
  split
  · have h := RepL.append h1 h2
    generalize vs ++ zs = a at h
    generalize ds ++ es = b at h
    induction ix with
    | nil => exact .nil
    | cons i ix ih =>
      rw [List.filterMap_cons, List.filterMap_cons]
      cases e : b[i]? with
      | none =>
        rw [List.getElem?_eq_none (by have := h.length; have := List.getElem?_eq_none_iff.mp e; omega)]; exact ih
      | some x =>
        obtain ⟨u, hu, ru⟩ := RepL.get h e
        rw [hu]
        exact .cons ru ih
  · exact .nil
theorem Tmps.append {S : Nat → Bool} {M H : Hp} {f : Nat → List Addr} {ds es : List Own} {xs ys : List V} {fd fe : List Addr} (h : Tmps g S M H f ds xs fd) (k : Tmps g S M H f es ys fe) (n : ∀ a ∈ fd, a ∉ fe) : Tmps g S M H f (ds ++ es) (xs ++ ys) (fd ++ fe) := by
  induction h with
  | nil => exact k
  | cons h1 _ n1 ih =>
    rw [List.append_assoc]
    refine .cons h1 (ih fun a ha => n a (List.mem_append_right _ ha)) fun a ha hb => ?_
    rcases List.mem_append.mp hb with hb | hb
    · exact n1 a ha hb
    · exact n a (List.mem_append_left _ ha) hb
theorem da_knil : PK X [] (tA g E S mNil) := ⟨fun p pins s σ H Q I q => pk_nil.run p pins s σ H Q I (imp_nil q)⟩
theorem da_kcons {nm : Option PySem.Str} {e : Expr} {kpos : Pos} {kws : List Keyword} {m : Mo Own} {ms : Mo (List Own)} (ha : PE X e (tD g E S m)) (hr : PK X kws (tA g E S ms)) : PK X (⟨nm, e, kpos⟩ :: kws) (tA g E S (mCons m ms)) :=
  ⟨fun p pins s σ H Q I q => (pk_cons ha hr).run p pins s σ H Q I (imp_cons q)⟩
def mCallK (S : Vw) (P : List Val → RP) (n m : Nat) (ix : List Nat) (ms ks : Mo (List Own)) : Mo Own := fun r => (ms r).bind fun ds r1 => (ks r1).bind fun es r2 => (P (pick n m ix (ds.map Own.val) (es.map Own.val))).at S r2
theorem imp_callK {P : List Val → RP} {n m : Nat} {ix : List Nat} {ms ks : Mo (List Own)} {s : L2.St} {H : Hp} {Q : VK} (h : tD g E S (mCallK S P n m ix ms ks) s H Q) :
    tA g E S ms s H fun vs H1 => tA g E S ks s H1 fun zs H2 => spP g P (pick n m ix vs zs) H2 Q E := by
  obtain ⟨r, M, f, st, h⟩ := h
  refine ⟨r, M, f, st, ?_⟩
  unfold mCallK at h
  cases hm : ms r with
  | bad => rw [hm] at h; exact h
  | ex n v => rw [hm] at h; exact h
  | ok ds r1 =>
    simp only [hm, Rs.bind] at h
    intro xs M1 H1 f1 fd st1 t1 p1 fr1
    refine ⟨r1, M1, f1, st1, ?_⟩
    cases hk : ks r1 with
    | bad => simp only [hk] at h
    | ex n v => simp only [hk] at h; exact h.after p1
    | ok es r2 =>
      simp only [hk] at h
      intro ys M2 H2 f2 fe st2 t2 p2 fr2
      have t3 : Tmps g S.fn M2 H2 f2 (ds ++ es) (xs ++ ys) (fd ++ fe) := (t1.step p2 st1 st2).append t2 fun a ha hb => by
        obtain ⟨u, hu⟩ := (t1.sep a ha).1
        rw [fr2 a hb] at hu; cases hu
      have p3 := p1.trans p2
      have fr3 : ∀ a ∈ fd ++ fe, H a = none := fun a ha => by
        rcases List.mem_append.mp ha with ha | ha
        · exact fr1 a ha
        · exact p1.dom a (fr2 a ha)
      have rep := t3.vals st2
      have hrep : RepL g (View S.fn M2 H2 f2 (fd ++ fe)) (pick n m ix (ds.map Own.val) (es.map Own.val)) (pick n m ix xs ys) := by
        have l1 : (ds.map Own.val).length = xs.length := by
          have := (t1.vals st1).length; exact this
        rw [List.map_append] at rep
        have sp : ∀ {A B : List Val} {C D : List V}, A.length = C.length → RepL g (View S.fn M2 H2 f2 (fd ++ fe)) (A ++ B) (C ++ D) → RepL g (View S.fn M2 H2 f2 (fd ++ fe)) A C ∧ RepL g (View S.fn M2 H2 f2 (fd ++ fe)) B D := by
          intro A
          induction A with
          | nil => intro B C D hl q; cases C with
            | nil => exact ⟨.nil, q⟩
            | cons _ _ => simp at hl
          | cons a A ih => intro B C D hl q; cases C with
            | nil => simp at hl
            | cons c C =>
              cases q with
              | cons q1 q2 => exact ⟨.cons q1 (ih (by simpa using hl) q2).1, (ih (by simpa using hl) q2).2⟩
        exact pick_rep (sp l1 rep).1 (sp l1 rep).2
      refine ⟨_, View S.fn M2 H2 f2 (fd ++ fe), st2.view_sub, st2.view_tab fun a ha => (t3.sep a ha).1, hrep, ?_⟩
      cases hp : P (pick n m ix (ds.map Own.val) (es.map Own.val)) with
      | bad => simp only [hp, RP.at] at h
      | ok o =>
        simp only [hp, RP.at] at h
        intro z M' H' fz nw ro hz
        obtain ⟨M3, st3, p4, l1, l2, _, _, _, l5⟩ := land0 st2 p3 fr3 (fun a ha => ⟨(t3.sep a ha).1, (t3.sep a ha).2.2⟩) nw
        refine h z M3 H' f2 fz st3 ⟨ro.mono l2 fun _ _ _ q => q, fun a ha => ⟨l5 a (hz a ha).2, fun i hi => ?_⟩⟩ p4 fun a ha => p3.dom a (hz a ha).1
        obtain ⟨us, hu⟩ := st2.live hi
        rw [(hz a ha).1] at hu; cases hu
      | ex n v =>
        simp only [hp, RP.at] at h
        intro M' H' c dx nw hx
        by_cases hb : exB S v = true
        · rw [if_pos hb] at h
          obtain ⟨M3, st3, p4, l1, l2, l3, l4, l6, l5⟩ := land0 st2 p3 fr3 (fun a ha => ⟨(t3.sep a ha).1, (t3.sep a ha).2.2⟩) nw
          exact h M3 H' c dx l6 (hx.land l3 l4 hb)
        · rw [if_neg hb] at h; exact h.elim
/-- how the def binds n positional arguments and the keywords ks -/
def KwB (x : PySem.Str) (st : Stmt) (ps ks : List PySem.Str) (n m : Nat) (ix : List Nat) : Prop :=
  ix.length = ps.length ∧ (∀ i ∈ ix, i < n + m) ∧ ∀ (kV doc pm : Value) (an : Option Addr) (cdv ct : Value) (us ws : List Value), us.length = n → ws.length = m →
    bindArgs (PySem.W.fnOf x x (defArgs st) (defBody st) (defScope st) .none kV doc pm an cdv ct) ⟨us, ks.zip ws⟩ = pure (ps.zip (ix.filterMap fun i => (us ++ ws)[i]?))
theorem KwB.binds {K : PySem.W.Frag} {x : PySem.Str} {st : Stmt} {ps ks : List PySem.Str} {n m : Nat} {ix : List Nat} {f : Addr} {fd : FuncData} (B : KwB x st ps ks n m ix) (F : Fun K x x st f fd) (hps : ps ≠ []) : KBinds K fd ps ks (pick n m ix) (pick n m ix) where
  to := fun s us ws _ hl => by
    obtain ⟨oc, od, kV, doc, pm, an, cdv, ct, osl, rfl, lk, hcd⟩ := F.ex
    unfold pick at hl ⊢
    split at hl
    · rename_i q
      rw [if_pos q]
      exact .of_eq (B.2.2 kV doc pm an cdv ct us ws q.1 q.2)
    · exfalso
      cases ps with
      | nil => exact hps rfl
      | cons a b => simp at hl
  rel := fun h1 h2 => pick_vals h1 h2
theorem dx_callK {x : PySem.Str} {st : Stmt} {ps ks : List PySem.Str} {P : List Val → RP} {j n m : Nat} {ix : List Nat} {e : Expr} {es : List Expr} {kws : List Keyword} {ms mk : Mo (List Own)} {p pos : Pos} (c : Cxt g E k X) (D : DefP g j x st ps P) (B : KwB x st ps ks n m ix) (hps : ps ≠ []) (hj : j ≤ k)
    (ha : PA X (e :: es) (tA g E S ms)) (hkw : PK X kws (tA g E S mk)) (hg : Gl X x := by rfl)
    (hall : (backToKw pos (keywordEach kws X.env)).all (·.1.isSome) = true := by rfl) (hks : (backToKw pos (keywordEach kws X.env)).filterMap (·.1) = ks := by rfl)
    (hdb : (x == ("__debug__" : PySem.Str)) = false := by decide) (he : starEach (e :: es) X.env = (false, eval e X.env) :: starEach es X.env := by rfl)
    (hpl : ((backTo pos (starEach (e :: es) X.env)).any (·.1) || (backToKw pos (keywordEach kws X.env)).any (·.1.isNone)) = false := by rfl) :
    PE X (.Call (.Name x p) (e :: es) kws pos) (tD g E S (mCallK S P n m ix ms mk)) := by
  obtain ⟨f, fd, F, hm, hf, hb⟩ := D.ex
  have F' : FnG X.prog X.w X.K X.mg X.base j f fd ps (spP g P) := by rw [c.prog, c.w, c.K, c.mg, c.base]; exact F
  exact PE.imp (pe_callGK (E := E) F' c.grd (c.room.mono hj) hg (by rw [c.mg]; exact hm) (by rw [c.K]; exact hf.kp) (by rw [c.K]; exact B.binds hf hps) c.pass ha hkw hall hks hdb he hpl) fun s H Q q => imp_callK q
theorem pe_callK0 {f : Addr} {fd : FuncData} {ps ks : List PySem.Str} {sp : Sp} {x : PySem.Str} {p pos : Pos} {kws : List Keyword} {tk : TA} {gg : List Value → List Value → List Value} {gV : List V → List V → List V} {k : Nat}
    (F : FnG X.prog X.w X.K X.mg X.base k f fd ps sp) (gr : X.A.guards = some []) (hr : Room k X.A) (hg : Gl X x) (hm : X.mg x = some (.ref f)) (hk : PySem.W.keepIn X.K (.ref f) = true) (hb : KBinds X.K fd ps ks gg gV) (hx : Passes (L2.CX X.prog X.w) X E)
    (hkw : PK X kws tk) (hall : (backToKw pos (keywordEach kws X.env)).all (·.1.isSome) = true) (hks : (backToKw pos (keywordEach kws X.env)).filterMap (·.1) = ks)
    (hdb : (x == ("__debug__" : PySem.Str)) = false)
    (hpl : ((backTo pos (starEach [] X.env)).any (·.1) || (backToKw pos (keywordEach kws X.env)).any (·.1.isNone)) = false) :
    PE X (.Call (.Name x p) [] kws pos) (fun σ H Q => tk σ H fun zs H2 => sp (gV [] zs) H2 Q E) := ⟨fun pins s σ H Q I h => wpAny_Call_Name_kw (ld_glob I hg hm
      (PySem.W.callWith_KW0 (h₀ := X.base) I.ok.mod.kin hk hall (thn (hkw.run pos pins s σ H _ I h) fun ws s2 ⟨zs, H2, I2, rz, q2⟩ => ⟨I2.kIn, by
        rw [hks]
        have r2 := hb.rel .nil rz
        exact fin_G (run_G F gr hr hx I2 (hb.to s2 [] ws I2.kIn (len_G F r2 q2)) r2 q2)⟩) hpl) hdb)⟩
theorem dx_callK0 {x : PySem.Str} {st : Stmt} {ps ks : List PySem.Str} {P : List Val → RP} {j m : Nat} {ix : List Nat} {kws : List Keyword} {mk : Mo (List Own)} {p pos : Pos} (c : Cxt g E k X) (D : DefP g j x st ps P) (B : KwB x st ps ks 0 m ix) (hps : ps ≠ []) (hj : j ≤ k)
    (hkw : PK X kws (tA g E S mk)) (hg : Gl X x := by rfl)
    (hall : (backToKw pos (keywordEach kws X.env)).all (·.1.isSome) = true := by rfl) (hks : (backToKw pos (keywordEach kws X.env)).filterMap (·.1) = ks := by rfl)
    (hdb : (x == ("__debug__" : PySem.Str)) = false := by decide)
    (hpl : ((backTo pos (starEach [] X.env)).any (·.1) || (backToKw pos (keywordEach kws X.env)).any (·.1.isNone)) = false := by rfl) :
    PE X (.Call (.Name x p) [] kws pos) (tD g E S (mCallK S P 0 m ix mNil mk)) := by
  obtain ⟨f, fd, F, hm, hf, hb⟩ := D.ex
  have F' : FnG X.prog X.w X.K X.mg X.base j f fd ps (spP g P) := by rw [c.prog, c.w, c.K, c.mg, c.base]; exact F
  exact PE.imp (pe_callK0 (E := E) F' c.grd (c.room.mono hj) hg (by rw [c.mg]; exact hm) (by rw [c.K]; exact hf.kp) (by rw [c.K]; exact B.binds hf hps) c.pass hkw hall hks hdb hpl) fun s H Q q => imp_nil (imp_callK q)
end
end KS
set_option Elab.async false
set_option linter.all false
set_option maxRecDepth 100000
set_option maxHeartbeats 4000000
namespace KS
open PySem PySem.Spec PyProof.Rows L2
open LamX (Tabs TabS)

/-! ### temps frozen, slots forgotten -/
section
variable {g : G} {S : Nat → Bool} {M H M' H' : Hp} {r : Ro} {s : L2.St} {f : Nat → List Addr} {fd : List Addr}
open Classical in
theorem Sta.temp (st : Sta g M H r s f) (hl : ∀ a ∈ fd, Live H a) (hs : ∀ a ∈ fd, M a = none ∧ ∀ i, a ∉ f i) : ∃ M', Sta g M' H r s f ∧ Le M M' ∧ (∀ a o, M' a = some o → M a = some o ∨ a ∈ fd) ∧ (∀ a ∈ fd, M' a = H a) := by
  have mono : Le M (fun a => if a ∈ fd then H a else M a) := fun a o e => by
    have : a ∉ fd := fun z => by rw [(hs a z).1] at e; cases e
    simp only [if_neg this]; exact e
  refine ⟨fun a => if a ∈ fd then H a else M a, ⟨fun a o e => ?_, fun i d e => ?_, st.dis, fun i a h => ?_, st.out, st.tab, st.len, fun p hp => ?_⟩, mono, fun a o e => ?_, fun a ha => by simp only [if_pos ha]⟩
  · split at e
    · exact e
    · exact st.sub a o e
  · obtain ⟨x, h1, h2⟩ := st.env i d e
    exact ⟨x, h1, h2.mono mono fun _ _ _ z => z⟩
  · have : a ∉ fd := fun z => (hs a z).2 i h
    simp only [if_neg this]; exact st.fre i a h
  · have : p.1 ∉ fd := fun z => tab_live st.tab hp (hl _ z)
    simp only [if_neg this]; exact st.nt p hp
  · by_cases hz : a ∈ fd
    · exact .inr hz
    · simp only [if_neg hz] at e; exact .inl e
theorem Step.temp {M0 H0 : Hp} {r0 : Ro} {f0 : Nat → List Addr} (p : Step g S M0 H0 r0 f0 M H r f) (mo : Le M M') (nw : ∀ a o, M' a = some o → M a = some o ∨ a ∈ fd) (fr : ∀ a ∈ fd, H0 a = none) : Step g S M0 H0 r0 f0 M' H r f :=
  ⟨p.mono.trans mo, p.keep, p.dom, fun a o e => by
    rcases nw a o e with h | h
    · exact p.newM a o h
    · exact .inr (fr a h), p.same, p.newF, p.rlen⟩
def wipeR (r : Ro) : List Nat → Ro
  | [] => r
  | v :: vs => (wipeR r vs).set v none
theorem wipeR_len (r : Ro) : ∀ vs, (wipeR r vs).length = r.length
  | [] => rfl
  | v :: vs => by rw [wipeR, List.length_set, wipeR_len r vs]
theorem wipeR_ne {r : Ro} {i : Nat} : ∀ {vs : List Nat}, i ∉ vs → (wipeR r vs)[i]? = r[i]?
  | [], _ => rfl
  | v :: vs, h => by
    rw [wipeR, List.getElem?_set_ne (fun e => h (by simp [e])), wipeR_ne (fun z => h (List.mem_cons_of_mem _ z))]
theorem wipeR_in {r : Ro} {i : Nat} : ∀ {vs : List Nat}, i ∈ vs → ∀ d, (wipeR r vs)[i]? ≠ some (some d)
  | v :: vs, h, d, e => by
    rw [wipeR] at e
    by_cases hv : v = i
    · subst hv
      by_cases hl : v < (wipeR r vs).length
      · rw [List.getElem?_set_self hl] at e; cases e
      · rw [List.getElem?_eq_none (by simpa using hl)] at e; cases e
    · rw [List.getElem?_set_ne hv] at e
      rcases List.mem_cons.mp h with h | h
      · exact hv h.symm
      · exact wipeR_in h d e
theorem Sta.wipe (st : Sta g M H r s f) : ∀ vs : List Nat, ∃ f', Sta g M H (wipeR r vs) s f' ∧ (∀ i, f' i = f i ∨ (i ∈ vs ∧ f' i = []))
  | [] => ⟨f, st, fun _ => .inl rfl⟩
  | v :: vs => by
    obtain ⟨f', st', h⟩ := st.wipe vs
    refine ⟨_, st'.drop v, fun i => ?_⟩
    by_cases hi : i = v
    · exact .inr ⟨by simp [hi], by simp only [if_pos hi]⟩
    · simp only [if_neg hi]
      rcases h i with h | ⟨h1, h2⟩
      · exact .inl h
      · exact .inr ⟨List.mem_cons_of_mem _ h1, h2⟩
theorem Sta.swap {s' : L2.St} (st : Sta g M H r s f) (h : ∀ (i : Nat) (d : Own), r[i]? = some (some d) → s'[i]? = s[i]?) (hl : s'.length = s.length) : Sta g M H r s' f :=
  ⟨st.sub, fun i d e => by rw [h i d e]; exact st.env i d e, st.dis, st.fre, st.out, st.tab, hl.trans st.len, st.nt⟩
theorem wipe_ne {s : L2.St} {i : Nat} : ∀ {vs : List Nat}, i ∉ vs → (L2.wipe s vs)[i]? = s[i]?
  | [], _ => rfl
  | v :: vs, h => by
    rw [L2.wipe, List.getElem?_set_ne (fun e => h (by simp [e])), wipe_ne (fun z => h (List.mem_cons_of_mem _ z))]
/-- the block's slots: wiped on both sides -/
theorem Sta.blk {S : Vw} (st : Sta g M H r s f) {vs : List Nat} (hS : ∀ v ∈ vs, S.fn v = false) : ∃ f', Sta g M H (wipeR r vs) (L2.wipe s vs) f' ∧ (∀ i, f' i = f i ∨ (i ∈ vs ∧ f' i = [])) ∧ Step g S.fn M H r f M H (wipeR r vs) f' := by
  obtain ⟨f', st', h⟩ := st.wipe vs
  have st2 : Sta g M H (wipeR r vs) (L2.wipe s vs) f' := st'.swap (fun i d e => wipe_ne fun z => wipeR_in z d e) (L2.wipe_length s vs)
  refine ⟨f', st2, h, ⟨Le.refl M, fun _ _ h _ _ => h, fun _ h => h, fun _ _ h => .inl h, fun i hi => ?_, fun i a ha => ?_, wipeR_len r vs⟩⟩
  · have hn : i ∉ vs := fun z => by rw [hS i z] at hi; cases hi
    rcases h i with h | ⟨h1, _⟩
    · exact ⟨h, wipeR_ne hn⟩
    · exact (hn h1).elim
  · rcases h i with h | ⟨_, h⟩
    · rw [h] at ha; exact .inl ha
    · rw [h] at ha; cases ha
theorem tabs_updD {D : Addr} {o u : HO} (t : Tabs g.T H) (h : H D = some u) (hu : ∀ ps, u ≠ .tbl ps) (hq : ∀ q, u ≠ LamX.CodeO D q) : Tabs g.T (upd H D o) := fun p hp => by
  obtain ⟨ps, h1, h2, h3⟩ := t p hp
  refine ⟨ps, ?_, h2, fun pos cv hc => ?_⟩
  · rw [upd_ne (fun z => by rw [z, h] at h1; cases h1; exact hu _ rfl)]; exact h1
  · obtain ⟨c, e1, e2⟩ := h3 pos cv hc
    refine ⟨c, e1, ?_⟩
    rw [upd_ne (fun z => by subst z; rw [h] at e2; cases e2; exact hq _ rfl)]; exact e2
/-- a new list of ours is written -/
theorem Sta.updD {D : Addr} {o : HO} {xs : List V} (st : Sta g M H r s f) (hH : H D = some (.lst xs)) (hM : M D = none) (hf : ∀ i, D ∉ f i) : Sta g M (upd H D o) r s f where
  sub := fun a u e => by
    rw [upd_ne (fun z => by rw [z, hM] at e; cases e)]; exact st.sub a u e
  env := fun i d e => by
    obtain ⟨x, h1, h2⟩ := st.env i d e
    refine ⟨x, h1, h2.mono (Le.refl M) fun a ha u hu => ?_⟩
    rw [upd_ne (fun z => by rw [z] at ha; exact hf i ha)]; exact hu
  dis := st.dis
  fre := st.fre
  out := st.out
  tab := tabs_updD st.tab hH (by intro ps q; cases q) (by intro q z; cases z)
  len := st.len
  nt := st.nt
theorem view_updD {D : Addr} {o : HO} (hf : ∀ i, D ∉ f i) : View S M (upd H D o) f [] = View S M H f [] := by
  funext a
  rcases view_cases S M H f [] a with ⟨⟨i, h1, h2⟩, q⟩ | ⟨h, q⟩ | ⟨h1, h2, q⟩
  · rw [q, view_in h1 h2, upd_ne (fun z => by rw [z] at h2; exact hf i h2)]
  · cases h
  · rw [q, view_out h1 h2]
end

/-! ### targets -/
inductive Tg where
  | nm (i : Nat) | tp (ts : List Tg)
mutual
def Tg.put : Tg → Val → Ro → Option Ro
  | .nm i, d, r => some (r.set i (some (.v d)))
  | .tp ts, .tup ds, r => Tg.puts ts ds r
  | .tp _, _, _ => none
def Tg.puts : List Tg → List Val → Ro → Option Ro
  | [], [], r => some r
  | t :: ts, d :: ds, r => match t.put d r with
    | some r1 => Tg.puts ts ds r1
    | none => none
  | _, _, _ => none
end
mutual
def Tg.slots : Tg → List Nat
  | .nm i => [i]
  | .tp ts => Tg.slotsL ts
def Tg.slotsL : List Tg → List Nat
  | [] => []
  | t :: ts => t.slots ++ Tg.slotsL ts
end
/-- the target's reading puts as t does -/
def TgOk (g : G) (t : Tg) (gt : TG) : Prop := ∀ (M H : Hp) (r r' : Ro) (s : L2.St) (f : Nat → List Addr) (d : Val) (x : V) (Q : L2.St → Hp → Prop), Sta g M H r s f → Rep g M d x → t.put d r = some r' →
  (∀ s' f', Sta g M H r' s' f' → (∀ i, f' i = f i ∨ f' i = []) → (∀ i, i ∉ t.slots → s'[i]? = s[i]? ∧ r'[i]? = r[i]? ∧ f' i = f i) → s'.length = s.length → Q s' H) → gt x s H Q
def TgsOk (g : G) (ts : List Tg) (gt : TGs) : Prop := ∀ (M H : Hp) (r r' : Ro) (s : L2.St) (f : Nat → List Addr) (ds : List Val) (xs : List V) (Q : L2.St → Hp → Prop), Sta g M H r s f → RepL g M ds xs → Tg.puts ts ds r = some r' →
  (∀ s' f', Sta g M H r' s' f' → (∀ i, f' i = f i ∨ f' i = []) → (∀ i, i ∉ Tg.slotsL ts → s'[i]? = s[i]? ∧ r'[i]? = r[i]? ∧ f' i = f i) → s'.length = s.length → Q s' H) → gt xs s H Q
mutual
def gOf (K : PySem.W.Frag) : Tg → TG
  | .nm i => gName i
  | .tp ts => gTup K ts.length (gsOf K ts)
def gsOf (K : PySem.W.Frag) : List Tg → TGs
  | [] => gNil
  | t :: ts => gCons (gOf K t) (gsOf K ts)
end
def DG (X : Cx) (e : Expr) (t : Tg) : Prop := PG X e (gOf X.K t)
def DGs (X : Cx) (es : List Expr) (t : List Tg) : Prop := PGs X es (gsOf X.K t)
theorem puts_len : ∀ {ts : List Tg} {ds : List Val} {r r' : Ro}, Tg.puts ts ds r = some r' → ts.length = ds.length := by
  intro ts
  induction ts with
  | nil => intro ds r r' q; cases ds with
    | nil => rfl
    | cons _ _ => simp [Tg.puts] at q
  | cons t ts ih => intro ds r r' q; cases ds with
    | nil => simp [Tg.puts] at q
    | cons d ds =>
      simp only [Tg.puts] at q
      split at q
      · simp [ih q]
      · cases q
section
variable {g : G} {E : XK} {S : Vw} {k : Nat} {X : Cx} {pn : Option V}
theorem tgOk_name (i : Nat) : TgOk g (.nm i) (gName i) := by
  intro M H r r' s f d x Q st rp e h
  simp only [Tg.put, Option.some.injEq] at e
  subst e
  refine h _ _ (st.put (.v rp) (by simp) i) (fun j => ?_) (fun j hj => ?_) (by simp)
  · by_cases hj : j = i
    · simp only [if_pos hj]
      split <;> exact .inr rfl
    · simp only [if_neg hj]; exact .inl trivial
  · have hj : j ≠ i := by simpa [Tg.slots] using hj
    rw [List.getElem?_set_ne (Ne.symm hj), List.getElem?_set_ne (Ne.symm hj)]
    exact ⟨rfl, rfl, by simp only [if_neg hj]⟩
theorem dg_name (c : Cxt g E k X) (i : Nat) {x : PySem.Str} {pos : Pos} (hi : X.N[i]? = some x := by rfl) (hx : Loc X.env.scope x := by first | exact .inl rfl | exact .inr rfl) (hf : X.fn x = true ∨ X.env.scope.names.lookup x = some .local := by first | exact .inl rfl | exact .inr rfl) : DG X (.Name x pos) (.nm i) := by
  show PG X _ (gOf X.K (.nm i))
  simp only [gOf]
  exact pg_name c.nd hi hx hf
theorem dgs_nil : DGs X [] [] := by
  show PGs X _ (gsOf X.K [])
  simp only [gsOf]
  exact pgs_nil
theorem dgs_cons {e : Expr} {es : List Expr} {t : Tg} {ts : List Tg} (h1 : DG X e t) (h2 : DGs X es ts) (hs : (assignEach (e :: es) X.env).map (·.2) = assign e X.env :: (assignEach es X.env).map (·.2) := by rfl) : DGs X (e :: es) (t :: ts) := by
  show PGs X _ (gsOf X.K (t :: ts))
  simp only [gsOf]
  exact pgs_cons h1 h2 hs
theorem dg_tup {es : List Expr} {ts : List Tg} {kk : Nat} {pos : Pos} (c : Cxt g E k X) (h : DGs X es ts) (hn : (assignEach es X.env).length = ts.length := by rfl) (hst : (assignEach es X.env).findIdx? (·.1) = none := by rfl) : DG X (.Tuple es kk pos) (.tp ts) := by
  show PG X _ (gOf X.K (.tp ts))
  simp only [gOf]
  exact pg_tup c.calm h hn hst
mutual
theorem tgOk (K : PySem.W.Frag) : ∀ t : Tg, TgOk g t (gOf K t)
  | .nm i => by simp only [gOf]; exact tgOk_name i
  | .tp ts => by
    simp only [gOf]
    intro M H r r' s f d x Q st rp eq h
    cases rp with
    | tup h1 h2 =>
      rename_i a vs ds
      have e2 : Tg.puts ts ds r = some r' := by simpa only [Tg.put] using eq
      exact ⟨a, vs, rfl, SqT.of (st.sub _ _ h1), by rw [← h2.length, ← puts_len e2], tgsOk K ts M H r r' s f ds vs Q st h2 e2 fun s' f' st' hf hs hl => h s' f' st' hf (fun i hi => hs i (by simpa only [Tg.slots] using hi)) hl⟩
    | _ => simp [Tg.put] at eq
theorem tgsOk (K : PySem.W.Frag) : ∀ ts : List Tg, TgsOk g ts (gsOf K ts)
  | [] => by
    simp only [gsOf]
    intro M H r r' s f ds xs Q st rp e h
    cases rp with
    | nil =>
      simp only [Tg.puts, Option.some.injEq] at e
      subst e
      exact ⟨rfl, h s f st (fun _ => .inl rfl) (fun _ _ => ⟨rfl, rfl, rfl⟩) rfl⟩
    | cons _ _ => simp [Tg.puts] at e
  | t :: ts => by
    simp only [gsOf]
    intro M H r r' s f ds xs Q st rp eq h
    cases rp with
    | nil => simp [Tg.puts] at eq
    | cons ra rb =>
      rename_i d x ds xs
      simp only [Tg.puts] at eq
      cases ep : t.put d r with
      | none => rw [ep] at eq; cases eq
      | some r1 =>
        simp only [ep] at eq
        exact ⟨x, xs, rfl, tgOk K t M H r r1 s f d x _ st ra ep fun s1 f1 st1 hf1 hs1 hl1 =>
          tgsOk K ts M H r1 r' s1 f1 ds xs Q st1 rb eq fun s2 f2 st2 hf2 hs2 hl2 => h s2 f2 st2 (fun i => by
            rcases hf2 i with q | q
            · rw [q]; exact hf1 i
            · exact .inr q) (fun i hi => by
            have n1 : i ∉ t.slots := fun z => hi (by simp [Tg.slotsL, z])
            have n2 : i ∉ Tg.slotsL ts := fun z => hi (by simp [Tg.slotsL, z])
            obtain ⟨a1, a2, a3⟩ := hs1 i n1
            obtain ⟨b1, b2, b3⟩ := hs2 i n2
            exact ⟨b1.trans a1, b2.trans a2, b3.trans a3⟩) (hl2.trans hl1)⟩
end
end
end KS
set_option Elab.async false
set_option linter.all false
set_option maxRecDepth 100000
set_option maxHeartbeats 4000000
namespace KS
open PySem PySem.Spec PyProof.Rows L2
open LamX (Tabs TabS)

/-- what a walk yields: items, wherever V is known -/
def Src (g : G) (V : Hp) (J : It) (items : List Val) : Prop := ∀ V1 H, Le V V1 → Le V1 H → Tabs g.T H → ∀ i,
  (∀ d, items[i]? = some d → J.go i H ∧ ∀ x H', J.yld i H x H' → ∃ V', New g V1 H V' H' ∧ Rep g V' d x) ∧ (items.length ≤ i → J.stop i H)
/-- what the source is read in: b: the frozen alone -/
noncomputable def Vf (b : Bool) (S : Vw) (M H : Hp) (f : Nat → List Addr) : Hp := if b = true then M else View S.fn M H f []
def tI (g : G) (E : XK) (b : Bool) (S : Vw) (m : Mo (List Val)) : TI := fun s H R => ∃ r M f, Sta g M H r s f ∧
  match m r with
  | .ok items r' => ∀ J M' H' f', Sta g M' H' r' s f' → Step g S.fn M H r f M' H' r' f' → Src g (Vf b S M' H' f') J items → R J H'
  | .ex n v => Ew g E S.fn M H f n v
  | .bad => False
section
variable {g : G} {E : XK} {S : Vw} {k : Nat} {X : Cx} {pn : Option V} {b : Bool}
theorem PI.imp {tg e : Expr} {t t' : TI} (h : PI X tg e t') (i : ∀ s H Q, t s H Q → t' s H Q) : PI X tg e t := ⟨fun pins s σ H Q I q => h.run pins s σ H Q I (i σ H Q q)⟩
theorem src_list {K : PySem.W.Frag} {U : Hp} {a : Addr} {vs : List V} {ds : List Val} (h : U a = some (.lst vs)) (t : RepL g U ds vs) : Src g U (Itl K a) ds := fun V1 H l1 l2 tb i => by
  have ha := l2 _ _ (l1 _ _ h)
  refine ⟨fun d e => ?_, fun e => ⟨vs, .of ha, by rw [← t.length]; exact e⟩⟩
  obtain ⟨x, hx, rx⟩ := t.get e
  refine ⟨⟨vs, x, .of ha, hx⟩, fun y H' q => ?_⟩
  obtain ⟨rfl, q⟩ := q
  have := q vs (.of ha)
  rw [hx] at this; cases this
  exact ⟨V1, .refl l2 tb, rx.mono l1⟩
theorem src_tup {K : PySem.W.Frag} {U : Hp} {a : Addr} {vs : List V} {ds : List Val} (h : U a = some (.tup vs)) (t : RepL g U ds vs) : Src g U (Itt K a) ds := fun V1 H l1 l2 tb i => by
  have ha := l2 _ _ (l1 _ _ h)
  refine ⟨fun d e => ?_, fun e => ⟨vs, .of ha, by rw [← t.length]; exact e⟩⟩
  obtain ⟨x, hx, rx⟩ := t.get e
  refine ⟨⟨vs, x, .of ha, hx⟩, fun y H' q => ?_⟩
  obtain ⟨rfl, q⟩ := q
  have := q vs (.of ha)
  rw [hx] at this; cases this
  exact ⟨V1, .refl l2 tb, rx.mono l1⟩
def intsFrom (lo : Int) (n : Nat) : List Val := (List.range n).map fun i => Val.int (lo + (i : Nat))
theorem src_range {U : Hp} {lo : Int} {n : Nat} : Src g U (Itr lo n) (intsFrom lo n) := fun V1 H l1 l2 tb i => by
  have hl : (intsFrom lo n).length = n := by simp [intsFrom]
  refine ⟨fun d e => ?_, fun e => by rw [hl] at e; exact e⟩
  have hi : i < n := by
    have := (List.getElem?_eq_some_iff.mp e).1
    rw [hl] at this; exact this
  refine ⟨hi, fun y H' q => ?_⟩
  obtain ⟨rfl, rfl⟩ := q
  have : d = .int (lo + (i : Nat)) := by
    unfold intsFrom at e
    rw [List.getElem?_map, List.getElem?_range hi] at e
    cases e; rfl
  subst this
  exact ⟨V1, .refl l2 tb, .int _⟩
/-- a temp that is walked is frozen -/
theorem tmp_vf {M H : Hp} {r : Ro} {s : L2.St} {f : Nat → List Addr} {d : Own} {x : V} {fd : List Addr} (st : Sta g M H r s f) (t : Tmp g S.fn M H f d x fd) (hb : b = true → okB S d = true) :
    ∃ M', Sta g M' H r s f ∧ Le M M' ∧ (∀ a o, M' a = some o → M a = some o ∨ a ∈ fd) ∧ Rep g (Vf b S M' H f) d.val x := by
  obtain ⟨M', st', mo, nw, hfd⟩ := st.temp t.live t.sep
  refine ⟨M', st', mo, nw, ?_⟩
  cases b with
  | true =>
    have q := bound st t (hb rfl)
    exact q.val mo hfd
  | false =>
    refine t.rep.val (fun a o e => ?_) fun a ha => ?_
    · show View S.fn M' H f [] a = some o
      rcases view_cases S.fn M H f [] a with ⟨⟨i, h1, h2⟩, q⟩ | ⟨h, q⟩ | ⟨h1, h2, q⟩ <;> rw [q] at e
      · rw [view_in h1 h2]; exact e
      · cases h
      · exact st'.view_le a o (mo a o e)
    · show View S.fn M' H f [] a = H a
      rw [view_out (fun i _ z => (t.sep a ha).2 i z) (by simp)]
      exact hfd a ha
/-- a list or a tuple -/
def mSeq (b : Bool) (S : Vw) (m : Mo Own) : Mo (List Val) := fun r => (m r).bind fun d r1 => if b = true ∧ okB S d = false then .bad else match d.val with
  | .lst ds => .ok ds r1
  | .tup ds => .ok ds r1
  | .scr ns => .ok (ns.map Val.int) r1
  | _ => .bad
def iSeq (K : PySem.W.Frag) (tl : TE) : TI := fun σ H R => tl σ H fun x H1 => ∃ a, x = .ref a ∧ (((∃ xs, SqL K H1 a xs) ∧ R (Itl K a) H1) ∨ ((∃ xs, SqT K H1 a xs) ∧ R (Itt K a) H1))
theorem pi_seq {tg l : Expr} {tl : TE} (hl : PE X l tl) : PI X tg l (iSeq X.K tl) := by
  refine ⟨fun pins s σ H R I h => ?_⟩
  refine thn (hl.run pins s σ H _ I h) fun v s1 ⟨x, H1, I1, r1, q1⟩ => ?_
  obtain ⟨a, e, ⟨⟨xs, hq⟩, q⟩ | ⟨⟨xs, hq⟩, q⟩⟩ := q1
  · subst e
    cases r1
    obtain ⟨its, rv, p, hz⟩ := I1.list hq
    refine wpAny_pyIter_list p.isList ?_
    refine ⟨s1.heap.objs.size, [s1.heap.objs.size], _, _, H1, rfl, I1.kept (t' := s1.toks) fun b o e => Heap.get?_push_of_some _ e, turn_list a _, ⟨_, Heap.get?_push_size _ rfl, rfl, rfl⟩, fun b hb => ?_, q⟩
    have e : b = s1.heap.objs.size := by simpa using hb
    subst e
    exact I1.fpOk (Nat.le_refl _) (I1.hok.fresh (Nat.le_refl _))
  · subst e
    cases r1
    obtain ⟨its, rv, p, hz⟩ := I1.tuple hq
    refine wpAny_pyIter_tuple (show s1.heap.IsTuple a its.toArray from p) ?_
    refine ⟨s1.heap.objs.size, [s1.heap.objs.size], _, _, H1, rfl, I1.kept (t' := s1.toks) fun b o e => Heap.get?_push_of_some _ e, turn_tuple a _, ⟨_, Heap.get?_push_size _ rfl, rfl, rfl⟩, fun b hb => ?_, q⟩
    have e : b = s1.heap.objs.size := by simpa using hb
    subst e
    exact I1.fpOk (Nat.le_refl _) (I1.hok.fresh (Nat.le_refl _))
theorem Sta.vf {M H : Hp} {r : Ro} {s : L2.St} {f : Nat → List Addr} (st : Sta g M H r s f) : Le (Vf b S M H f) H := fun a o e => by
  unfold Vf at e
  split at e
  · exact st.sub a o e
  · exact st.view_sub a o e
theorem repL_intsI {M : Hp} : ∀ (ns : List Int), RepL g M (ns.map Val.int) (ns.map V.int) := fun ns => repL_ints ns
theorem src_scr {K : PySem.W.Frag} {U : Hp} {a : Addr} {ob : Obj} {ns : List Int} (h : U a = some (.frz ob (.lst (ns.map V.int)))) : Src g U (Itl K a) (ns.map Val.int) := fun V1 H l1 l2 tb i => by
  have ha : SqL K H a (ns.map V.int) := .inl (.inr ⟨ob, l2 _ _ (l1 _ _ h)⟩)
  refine ⟨fun d e => ?_, fun e => ⟨_, ha, by simpa using e⟩⟩
  obtain ⟨x, hx, rx⟩ := (repL_ints (g := g) (M := V1) ns).get e
  refine ⟨⟨_, x, ha, hx⟩, fun y H' q => ?_⟩
  obtain ⟨rfl, q⟩ := q
  have := q _ ha
  rw [hx] at this; cases this
  exact ⟨V1, .refl l2 tb, rx⟩
theorem di_seq {tg l : Expr} {m : Mo Own} (hl : PE X l (tD g E S m)) : PI X tg l (tI g E b S (mSeq b S m)) := PI.imp (pi_seq hl) fun s H R q => by
  obtain ⟨r, M, f, st, q⟩ := q
  refine ⟨r, M, f, st, ?_⟩
  unfold mSeq at q
  cases e : m r with
  | bad => rw [e] at q; exact q
  | ex n v => rw [e] at q; exact q
  | ok d r1 =>
    simp only [e, Rs.bind] at q
    intro x M1 H1 f1 fd st1 t1 p1 q1
    by_cases hb : b = true ∧ okB S d = false
    · rw [if_pos hb] at q; exact q.elim
    · rw [if_neg hb] at q
      obtain ⟨M2, st2, mo, nw, rp⟩ := tmp_vf (b := b) st1 t1 (fun z => by
        cases h : okB S d with
        | true => rfl
        | false => exact (hb ⟨z, h⟩).elim)
      have p2 := p1.temp mo nw q1
      generalize d.val = dv at q rp
      cases rp with
      | lst h1 h2 => exact ⟨_, rfl, .inl ⟨⟨_, .of (st2.vf _ _ h1)⟩, q _ M2 H1 f1 st2 p2 (src_list h1 h2)⟩⟩
      | tup h1 h2 => exact ⟨_, rfl, .inr ⟨⟨_, .of (st2.vf _ _ h1)⟩, q _ M2 H1 f1 st2 p2 (src_tup h1 h2)⟩⟩
      | scr h1 => exact ⟨_, rfl, .inl ⟨⟨_, .inl (.inr ⟨_, st2.vf _ _ h1⟩)⟩, q _ M2 H1 f1 st2 p2 (src_scr h1)⟩⟩
      | _ => exact q.elim
def mRng (ms : Mo (List Own)) : Mo (List Val) := fun r => (ms r).bind fun ds r1 => match ds with
  | [.v (.int n)] => if n < 4611686018427387904 ∧ -4611686018427387904 ≤ n then .ok (intsFrom 0 n.toNat) r1 else .bad
  | [.v (.int a), .v (.int c)] => if (a < 4611686018427387904 ∧ -4611686018427387904 ≤ a) ∧ c < 4611686018427387904 ∧ -4611686018427387904 ≤ c then .ok (intsFrom a (c - a).toNat) r1 else .bad
  | _ => .bad
theorem tmps_int1 {M H : Hp} {f : Nat → List Addr} {n : Int} {xs : List V} {fd : List Addr} (t : Tmps g S.fn M H f [.v (.int n)] xs fd) : xs = [.int n] := by
  cases t with
  | cons h t _ =>
    cases t
    obtain ⟨h, _⟩ := h
    cases h with
    | v h => cases h; rfl
theorem tmps_int2 {M H : Hp} {f : Nat → List Addr} {n m : Int} {xs : List V} {fd : List Addr} (t : Tmps g S.fn M H f [.v (.int n), .v (.int m)] xs fd) : xs = [.int n, .int m] := by
  cases t with
  | cons h t _ =>
    have := tmps_int1 t
    subst this
    obtain ⟨h, _⟩ := h
    cases h with
    | v h => cases h; rfl
theorem di_rng1 {tg a : Expr} {m : Mo Own} {p pos : Pos} (c : Cxt g E k X) (hm : g.mg "range" = none) (ha : PE X a (tD g E S m)) (hg : Gl X "range" := by rfl) (hs : starEach [a] X.env = [(false, eval a X.env)] := by rfl) :
    PI X tg (.Call (.Name "range" p) [a] [] pos) (tI g E b S (mRng (mCons m mNil))) := PI.imp (pi_range1 hg (by rw [c.mg]; exact hm) (da_cons ha da_nil hs) hs) fun s H R q => by
  obtain ⟨r, M, f, st, q⟩ := q
  refine ⟨r, M, f, st, ?_⟩
  unfold mRng at q
  cases e : mCons m mNil r with
  | bad => rw [e] at q; exact q
  | ex n v => rw [e] at q; exact q
  | ok ds r1 =>
    simp only [e, Rs.bind] at q
    intro xs M1 H1 f1 fd st1 t1 p1 q1
    split at q
    · rename_i q2
      split at q2
      · rename_i n
        split at q2
        · cases q2
          rename_i hc
          obtain rfl := tmps_int1 t1
          exact ⟨_, rfl, by omega, by omega, q _ M1 H1 f1 st1 p1 src_range⟩
        · cases q2
      · rename_i a c
        exfalso
        cases t1 with
        | cons _ t _ =>
          cases t with
          | cons _ t _ =>
            cases t
            -- two arguments cannot come of one
            unfold mCons mNil at e
            cases e3 : m r with
            | bad => simp [e3, Rs.bind] at e
            | ex n v => simp [e3, Rs.bind] at e
            | ok d r2 => simp [e3, Rs.bind] at e
      · cases q2
    · rename_i q2
      split at q2
      · split at q2 <;> cases q2
      · split at q2 <;> cases q2
      · cases q2
    · exact q.elim
theorem di_rng2 {tg a a2 : Expr} {m m2 : Mo Own} {p pos : Pos} (c : Cxt g E k X) (hm : g.mg "range" = none) (ha : PE X a (tD g E S m)) (ha2 : PE X a2 (tD g E S m2)) (hg : Gl X "range" := by rfl) (hs : starEach [a, a2] X.env = [(false, eval a X.env), (false, eval a2 X.env)] := by rfl) (hs2 : starEach [a2] X.env = [(false, eval a2 X.env)] := by rfl) :
    PI X tg (.Call (.Name "range" p) [a, a2] [] pos) (tI g E b S (mRng (mCons m (mCons m2 mNil)))) := PI.imp (pi_range2 hg (by rw [c.mg]; exact hm) (da_cons ha (da_cons ha2 da_nil hs2) (by rw [hs, hs2])) hs hs2) fun s H R q => by
  obtain ⟨r, M, f, st, q⟩ := q
  refine ⟨r, M, f, st, ?_⟩
  unfold mRng at q
  cases e : mCons m (mCons m2 mNil) r with
  | bad => rw [e] at q; exact q
  | ex n v => rw [e] at q; exact q
  | ok ds r1 =>
    simp only [e, Rs.bind] at q
    intro xs M1 H1 f1 fd st1 t1 p1 q1
    split at q
    · rename_i q2
      split at q2
      · exfalso
        unfold mCons mNil at e
        cases e3 : m r with
        | bad => simp [e3, Rs.bind] at e
        | ex n v => simp [e3, Rs.bind] at e
        | ok d r2 =>
          cases e4 : m2 r2 with
          | bad => simp [e3, e4, Rs.bind] at e
          | ex n v => simp [e3, e4, Rs.bind] at e
          | ok d r2 => simp [e3, e4, Rs.bind] at e
      · rename_i a c
        split at q2
        · cases q2
          rename_i hc
          obtain rfl := tmps_int2 t1
          exact ⟨_, _, rfl, by omega, q _ M1 H1 f1 st1 p1 src_range⟩
        · cases q2
      · cases q2
    · rename_i q2
      split at q2
      · split at q2 <;> cases q2
      · split at q2 <;> cases q2
      · cases q2
    · exact q.elim
/-! ### zip -/
def zipT : List Val → List Val → List Val
  | a :: as, c :: cs => .tup [a, c] :: zipT as cs
  | _, _ => []
theorem zipT_get : ∀ {as cs : List Val} {i : Nat} {d : Val}, (zipT as cs)[i]? = some d → ∃ a c, as[i]? = some a ∧ cs[i]? = some c ∧ d = .tup [a, c]
  | [], _, i, d, h => by simp [zipT] at h
  | _ :: _, [], i, d, h => by simp [zipT] at h
  | a :: as, c :: cs, 0, d, h => by simp [zipT] at h; exact ⟨a, c, rfl, rfl, h.symm⟩
  | a :: as, c :: cs, i + 1, d, h => by
    simp only [zipT, List.getElem?_cons_succ] at h
    obtain ⟨x, y, h1, h2, h3⟩ := zipT_get h
    exact ⟨x, y, by simpa using h1, by simpa using h2, h3⟩
theorem zipT_len : ∀ (as cs : List Val), (zipT as cs).length = min as.length cs.length
  | [], _ => by simp [zipT]
  | _ :: _, [] => by simp [zipT]
  | a :: as, c :: cs => by simp [zipT, zipT_len as cs, Nat.add_min_add_right]
/-- a new tuple -/
theorem new_tup {U H : Hp} {T : Addr} {ds : List Val} {xs : List V} (hT : H T = none) (l : Le U H) (tb : Tabs g.T H) (t : RepL g U ds xs) : ∃ U', New g U H U' (upd H T (.tup xs)) ∧ Rep g U' (.tup ds) (.ref T) := by
  have hU : U T = none := by
    cases e : U T with
    | none => rfl
    | some o => rw [l _ _ e] at hT; cases hT
  have k1 : Le H (upd H T (.tup xs)) := fun a o e => by rw [upd_ne (fun z => by rw [z, hT] at e; cases e)]; exact e
  have k2 : Le U (upd U T (.tup xs)) := fun a o e => by rw [upd_ne (fun z => by rw [z, hU] at e; cases e)]; exact e
  refine ⟨upd U T (.tup xs), ⟨k2, fun a o e => ?_, fun a o e _ => k1 a o e, fun a e => ?_, fun a o e => ?_, tb.ext k1⟩, .tup upd_same (t.mono k2)⟩
  · by_cases h : a = T
    · subst h; rw [upd_same] at e ⊢; exact e
    · rw [upd_ne h] at e ⊢; exact l _ _ e
  · by_cases h : a = T
    · subst h; exact hT
    · rw [upd_ne h] at e; exact e
  · by_cases h : a = T
    · subst h; exact .inr hT
    · rw [upd_ne h] at e; exact .inl e
theorem src_zip {K : PySem.W.Frag} {U : Hp} {a c : Addr} {vs ws : List V} {ds es : List Val} (h : U a = some (.lst vs)) (t : RepL g U ds vs) (h2 : U c = some (.lst ws)) (t2 : RepL g U es ws) : Src g U (Itz K a c) (zipT ds es) := fun V1 H l1 l2 tb i => by
  have ha := l2 _ _ (l1 _ _ h)
  have hc := l2 _ _ (l1 _ _ h2)
  refine ⟨fun d e => ?_, fun e => ⟨vs, ws, .of ha, .of hc, by rw [zipT_len, t.length, t2.length] at e; omega⟩⟩
  obtain ⟨x, y, e1, e2, rfl⟩ := zipT_get e
  obtain ⟨u, hu, ru⟩ := t.get e1
  obtain ⟨v, hv, rv⟩ := t2.get e2
  refine ⟨⟨vs, ws, u, v, .of ha, .of hc, hu, hv⟩, fun z H' q => ?_⟩
  obtain ⟨T, u', v', rfl, hT, rfl, q1, q2⟩ := q
  have e3 := q1 vs (.of ha)
  have e4 := q2 ws (.of hc)
  rw [hu] at e3; cases e3
  rw [hv] at e4; cases e4
  exact new_tup hT l2 tb (.cons (ru.mono l1) (.cons (rv.mono l1) .nil))
theorem src_zipT {K : PySem.W.Frag} {U : Hp} {a c : Addr} {vs ws : List V} {ds es : List Val} (h : U a = some (.tup vs)) (t : RepL g U ds vs) (h2 : U c = some (.tup ws)) (t2 : RepL g U es ws) : Src g U (RZ.ItzT K a c) (zipT ds es) := fun V1 H l1 l2 tb i => by
  have ha := l2 _ _ (l1 _ _ h)
  have hc := l2 _ _ (l1 _ _ h2)
  refine ⟨fun d e => ?_, fun e => ⟨vs, ws, .of ha, .of hc, by rw [zipT_len, t.length, t2.length] at e; omega⟩⟩
  obtain ⟨x, y, e1, e2, rfl⟩ := zipT_get e
  obtain ⟨u, hu, ru⟩ := t.get e1
  obtain ⟨v, hv, rv⟩ := t2.get e2
  refine ⟨⟨vs, ws, u, v, .of ha, .of hc, hu, hv⟩, fun z H' q => ?_⟩
  obtain ⟨T, u', v', rfl, hT, rfl, q1, q2⟩ := q
  have e3 := q1 vs (.of ha)
  have e4 := q2 ws (.of hc)
  rw [hu] at e3; cases e3
  rw [hv] at e4; cases e4
  exact new_tup hT l2 tb (.cons (ru.mono l1) (.cons (rv.mono l1) .nil))
def mZip (b : Bool) (S : Vw) (ms : Mo (List Own)) : Mo (List Val) := fun r => (ms r).bind fun ds r1 => if b = true ∧ ds.all (okB S) = false then .bad else match ds.map Own.val with
  | [.lst as, .lst cs] => .ok (zipT as cs) r1
  | [.tup as, .tup cs] => .ok (zipT as cs) r1
  | _ => .bad
theorem tmps_vf {M H : Hp} {r : Ro} {s : L2.St} {f : Nat → List Addr} {ds : List Own} {xs : List V} {fd : List Addr} (st : Sta g M H r s f) (t : Tmps g S.fn M H f ds xs fd) (hb : b = true → ds.all (okB S) = true) :
    ∃ M', Sta g M' H r s f ∧ Le M M' ∧ (∀ a o, M' a = some o → M a = some o ∨ a ∈ fd) ∧ RepL g (Vf b S M' H f) (ds.map Own.val) xs := by
  obtain ⟨M', st', mo, nw, hfd⟩ := st.temp (fd := fd) (fun a ha => (t.sep a ha).1) fun a ha => ⟨(t.sep a ha).2.1, (t.sep a ha).2.2⟩
  refine ⟨M', st', mo, nw, ?_⟩
  have gen : ∀ {fe : List Addr} {ds : List Own} {xs : List V}, Tmps g S.fn M H f ds xs fe → (b = true → ds.all (okB S) = true) → (∀ a ∈ fe, M' a = H a) → RepL g (Vf b S M' H f) (ds.map Own.val) xs := by
    intro fe ds xs t
    induction t with
    | nil => intro _ _; exact .nil
    | cons h1 _ _ ih =>
      rename_i d x ds xs fa fb _ _
      intro hb hf
      have hb1 : b = true → okB S d = true ∧ ds.all (okB S) = true := fun z => by simpa using hb z
      refine .cons ?_ (ih (fun z => (hb1 z).2) fun a ha => hf a (List.mem_append_right _ ha))
      have hf1 : ∀ a ∈ fa, M' a = H a := fun a ha => hf a (List.mem_append_left _ ha)
      cases b with
      | true => exact (bound st h1 (hb1 rfl).1).val mo hf1
      | false =>
        refine h1.rep.val (fun a o e => ?_) fun a ha => ?_
        · show View S.fn M' H f [] a = some o
          rcases view_cases S.fn M H f [] a with ⟨⟨i, k1, k2⟩, q⟩ | ⟨h, q⟩ | ⟨k1, k2, q⟩ <;> rw [q] at e
          · rw [view_in k1 k2]; exact e
          · cases h
          · exact st'.view_le a o (mo a o e)
        · show View S.fn M' H f [] a = H a
          rw [view_out (fun i _ z => (h1.sep a ha).2 i z) (by simp)]
          exact hf1 a ha
  exact gen t hb hfd
theorem di_zip {a a2 : Expr} {ms : Mo (List Own)} {p pos tpos : Pos} {elts : List Expr} {kk : Nat} (c : Cxt g E k X) (hm : g.mg "zip" = none) (ha : PA X [a, a2] (tA g E S ms)) (hg : Gl X "zip" := by rfl)
    (hs : starEach [a, a2] X.env = (false, eval a X.env) :: starEach [a2] X.env := by rfl) (hpl : (backTo pos (starEach [a2] X.env)).any (·.1) = false := by rfl) :
    PI X (.Tuple elts kk tpos) (.Call (.Name "zip" p) [a, a2] [] pos) (tI g E b S (mZip b S ms)) := PI.imp (RZ.pi_zipA hg (by rw [c.mg]; exact hm) ha hs hpl) fun s H R q => by
  obtain ⟨r, M, f, st, q⟩ := q
  refine ⟨r, M, f, st, ?_⟩
  unfold mZip at q
  cases e : ms r with
  | bad => rw [e] at q; exact q
  | ex n v => rw [e] at q; exact q
  | ok ds r1 =>
    simp only [e, Rs.bind] at q
    intro xs M1 H1 f1 fd st1 t1 p1 q1
    by_cases hb : b = true ∧ ds.all (okB S) = false
    · rw [if_pos hb] at q; exact q.elim
    · rw [if_neg hb] at q
      obtain ⟨M2, st2, mo, nw, rp⟩ := tmps_vf (b := b) st1 t1 (fun z => by
        cases h : ds.all (okB S) with
        | true => rfl
        | false => exact (hb ⟨z, h⟩).elim)
      have p2 := p1.temp mo nw q1
      generalize ds.map Own.val = dv at q rp
      split at q
      · rename_i q2
        split at q2
        · cases q2
          cases rp with
          | cons u1 rp =>
            cases rp with
            | cons u2 rp =>
              cases rp
              cases u1 with
              | lst h1 h2 =>
                cases u2 with
                | lst h3 h4 => exact ⟨_, _, _, _, rfl, .inl ⟨.of (st2.vf _ _ h1), .of (st2.vf _ _ h3), q _ M2 H1 f1 st2 p2 (src_zip h1 h2 h3 h4)⟩⟩
        · cases q2
          cases rp with
          | cons u1 rp =>
            cases rp with
            | cons u2 rp =>
              cases rp
              cases u1 with
              | tup h1 h2 =>
                cases u2 with
                | tup h3 h4 => exact ⟨_, _, _, _, rfl, .inr ⟨.of (st2.vf _ _ h1), .of (st2.vf _ _ h3), q _ M2 H1 f1 st2 p2 (src_zipT h1 h2 h3 h4)⟩⟩
        · cases q2
      · rename_i q2
        split at q2 <;> cases q2
      · exact q.elim
end
end KS
set_option Elab.async false
set_option linter.all false
set_option maxRecDepth 100000
set_option maxHeartbeats 4000000
namespace KS
open PySem PySem.Spec PyProof.Rows L2
open LamX (Tabs TabS)

def E0x : XK := fun _ _ _ => False
/-- what raises nothing -/
def Rs.noex {α : Type} : Rs α → Rs α
  | .ex _ _ => .bad
  | x => x
def compGo (S : Vw) (vs : List Nat) (t : Tg) (mt : Mo Bool) (me : Mo Own) : List Val → Ro → Rs (List Val)
  | [], r => .ok [] r
  | d :: ds, r => if okB S (.v d) = true then
      match t.put d (wipeR r vs) with
      | none => .bad
      | some r1 => (mt r1).noex.bind fun b r2 => if b = true then (me r2).noex.bind fun o r3 => (compGo S vs t mt me ds r3).bind fun acc r4 => .ok (o.val :: acc) r4 else compGo S vs t mt me ds r2
    else .bad
def mLc (S : Vw) (vs : List Nat) (t : Tg) (mi : Mo (List Val)) (mt : Mo Bool) (me : Mo Own) : Mo Own := fun r => (mi r).bind fun items r1 =>
  if items.length ≤ 16777216 then (compGo S vs t mt me items r1).bind fun acc r2 => .ok (.l acc) (wipeR r2 vs) else .bad
section
variable {g : G} {E : XK} {S : Vw} {k : Nat} {X : Cx} {pn : Option V}
theorem wipe_eq {s s' : L2.St} (hl : s'.length = s.length) : ∀ {vs : List Nat}, (∀ i, i ∉ vs → s'[i]? = s[i]?) → L2.wipe s' vs = L2.wipe s vs := by
  intro vs h
  apply List.ext_getElem?
  intro i
  by_cases hi : i ∈ vs
  · have gen : ∀ (s : L2.St) {vs : List Nat}, i ∈ vs → (L2.wipe s vs)[i]? = if i < s.length then some none else none := by
      intro s vs
      induction vs with
      | nil => intro h; cases h
      | cons v vs ih =>
        intro h
        rw [L2.wipe]
        by_cases hv : v = i
        · subst hv
          by_cases hl : v < s.length
          · rw [if_pos hl, List.getElem?_set_self (by rw [L2.wipe_length]; exact hl)]
          · rw [if_neg hl, List.getElem?_eq_none (by rw [List.length_set, L2.wipe_length]; omega)]
        · rw [List.getElem?_set_ne hv]
          rcases List.mem_cons.mp h with h | h
          · exact (hv h.symm).elim
          · exact ih h
    rw [gen s' hi, gen s hi, hl]
  · rw [wipe_ne hi, wipe_ne hi]; exact h i hi
/-- the reading of no test -/
def mYes : Mo Bool := fun r => .ok true r
theorem dts_nil : PTs X [] (tB g E S mYes) := ⟨fun pins s σ H Q I q => pts_nil.run pins s σ H Q I (by
  obtain ⟨r, M, f, st, q⟩ := q
  exact q M H f st .refl)⟩
theorem dts_one {c : Expr} {m : Mo Bool} (h : PT X c (tB g E S m)) : PTs X [c] (tB g E S m) := pts_one h
theorem okB_rep {M H : Hp} {r : Ro} {s : L2.St} {f : Nat → List Addr} {M' : Hp} {d : Val} {x : V} (hb : okB S (.v d) = true) (h : Rep g M' d x) (k : ∀ a o, M' a = some o → (∀ xs, o ≠ .lst xs) → M a = some o) (k2 : (∀ i, S.fn i = false) → Le M' M) : Rep g M d x := by
  cases S with
  | no => exact h.mono (k2 fun _ => rfl)
  | but xs => exact h.nl k (by simpa [okB] using hb)
theorem sizeLine_val : (sizeLine : Nat) = 16777216 := by rw [sizeLine_eq]
theorem imp_lc {vs : List Nat} {t : Tg} {gt : TG} {mi : Mo (List Val)} {mt : Mo Bool} {me : Mo Own} {s : L2.St} {H : Hp} {Q : VK} (tg : TgOk g t gt) (hvs : ∀ v ∈ vs, S.fn v = false) (hsl : ∀ i ∈ t.slots, i ∈ vs)
    (h : tD g E S (mLc S vs t mi mt me) s H Q) : tLc (tI g E false S mi) gt (tB g E0x S mt) (tD g E0x S me) vs s H Q := by
  obtain ⟨r0, M0, f0, st0, h⟩ := h
  refine ⟨r0, M0, f0, st0, ?_⟩
  unfold mLc at h
  cases hm : mi r0 with
  | bad => rw [hm] at h; exact h
  | ex n v => rw [hm] at h; exact h
  | ok items r1 =>
    simp only [hm, Rs.bind] at h
    intro J M1 H1 f1 st1 p1 src D hD
    by_cases hlen : items.length ≤ 16777216
    rotate_left
    · rw [if_neg hlen] at h; exact h.elim
    rw [if_pos hlen] at h
    cases hgo : compGo S vs t mt me items r1 with
    | bad => rw [hgo] at h; exact h.elim
    | ex n v =>
      -- no way ends so
      exfalso
      have gen : ∀ (its : List Val) (r : Ro), compGo S vs t mt me its r ≠ .ex n v := by
        intro its
        induction its with
        | nil => intro r e; simp [compGo] at e
        | cons d ds ih =>
          intro r e
          simp only [compGo] at e
          split at e
          · split at e
            · cases e
            · rename_i r1 _
              cases e1 : mt r1 with
              | bad => simp [e1, Rs.noex, Rs.bind] at e
              | ex n v => simp [e1, Rs.noex, Rs.bind] at e
              | ok b r2 =>
                simp only [e1, Rs.noex, Rs.bind] at e
                split at e
                · cases e2 : me r2 with
                  | bad => simp [e2] at e
                  | ex n v => simp [e2] at e
                  | ok o r3 =>
                    simp only [e2] at e
                    cases e3 : compGo S vs t mt me ds r3 with
                    | bad => simp [e3] at e
                    | ex n' v' => simp only [e3, Rs.ex.injEq] at e; exact ih r3 (by rw [e3, e.1, e.2])
                    | ok _ _ => simp [e3] at e
                · exact ih r2 e
          · cases e
      exact gen items r1 hgo
    | ok total rEnd =>
      rw [hgo] at h
      have hD1 : M1 D = none := by
        cases e : M1 D with
        | none => rfl
        | some o => rw [st1.sub _ _ e] at hD; cases hD
      have hDf : ∀ i, D ∉ f1 i := fun i z => by
        obtain ⟨xs, hx⟩ := st1.live z
        rw [hD] at hx; cases hx
      -- the word
      refine ⟨fun i m H => m = items.length - i ∧ i ≤ items.length ∧ ∃ r M f acc accV rest, Sta g M H (wipeR r vs) (L2.wipe s vs) f ∧ Step g S.fn M1 H1 r1 f1 M H (wipeR r vs) f ∧
        compGo S vs t mt me (items.drop i) r = .ok rest rEnd ∧ acc ++ rest = total ∧ acc.length ≤ i ∧ RepL g (View S.fn M H f []) acc accV ∧ H D = some (.lst accV) ∧ M D = none ∧ ∀ j, D ∉ f j, ⟨items.length, by simp, Nat.zero_le _, ?_⟩, ?_⟩
      · -- the start
        have kk : Le H1 (upd H1 D (.lst [])) := fun a o e => by rw [upd_ne (fun z => by rw [z, hD] at e; cases e)]; exact e
        have st1' : Sta g M1 (upd H1 D (.lst [])) r1 s f1 := ⟨fun a o e => kk a o (st1.sub a o e), fun i d e => by
          obtain ⟨x, h1, h2⟩ := st1.env i d e
          exact ⟨x, h1, h2.mono (Le.refl _) fun a _ u hu => kk a u hu⟩, st1.dis, st1.fre, st1.out, st1.tab.ext kk, st1.len, st1.nt⟩
        obtain ⟨f2, st2, hf2, p2⟩ := st1'.blk (S := S) hvs
        have p0 : Step g S.fn M1 H1 r1 f1 M1 (upd H1 D (.lst [])) r1 f1 := ⟨Le.refl _, fun a o e _ _ => kk a o e, fun a e => by
          by_cases hz : a = D
          · subst hz; exact hD
          · rw [upd_ne hz] at e; exact e, fun _ _ e => .inl e, fun _ _ => ⟨rfl, rfl⟩, fun _ _ e => .inl e, rfl⟩
        refine ⟨r1, M1, f2, [], [], total, st2, p0.trans p2, by rw [List.drop_zero]; exact hgo, rfl, by simp, .nil, upd_same, hD1, fun j z => ?_⟩
        rcases hf2 j with q | ⟨_, q⟩
        · rw [q] at z; exact hDf j z
        · rw [q] at z; cases z
      · rintro i m H ⟨rfl, hi, r, M, f, acc, accV, rest, st, p, hrest, hacc, hal, racc, hHD, hMD, hDf'⟩
        have hview : Le (View S.fn M1 H1 f1 []) (View S.fn M H f []) := p.view st1 st (by simp)
        by_cases hlt : i < items.length
        rotate_left
        · have he : i = items.length := by omega
          subst he
          left
          refine ⟨(src (View S.fn M H f []) H hview st.view_sub st.tab _).2 (Nat.le_refl _), ?_⟩
          rw [List.drop_length] at hrest
          simp only [compGo] at hrest
          cases hrest
          rw [List.append_nil] at hacc
          subst hacc
          have pp := p1.trans p
          refine h (.ref D) M H f [D] (st.swap (s' := s) (fun i d e => ?_) (L2.wipe_length s vs).symm) ⟨.l hHD racc, fun a ha => ?_⟩ pp fun a ha => ?_
          · exact (wipe_ne fun z => wipeR_in z d e).symm
          · obtain rfl : a = D := by simpa using ha
            exact ⟨hMD, hDf'⟩
          · obtain rfl : a = D := by simpa using ha
            exact p1.dom _ hD
        · right
          obtain ⟨d, hd⟩ : ∃ d, items[i]? = some d := ⟨items[i], by simp [hlt]⟩
          obtain ⟨hgoJ, hyl⟩ := (src (View S.fn M H f []) H hview st.view_sub st.tab i).1 d hd
          have hdrop : items.drop i = d :: items.drop (i + 1) := by
            rw [List.drop_eq_getElem_cons hlt]
            congr 1
            have := List.getElem?_eq_getElem hlt
            rw [hd] at this; cases this; rfl
          rw [hdrop] at hrest
          simp only [compGo] at hrest
          by_cases hok : okB S (.v d) = true
          rotate_left
          · rw [if_neg hok] at hrest; cases hrest
          rw [if_pos hok] at hrest
          cases hput : t.put d (wipeR r vs) with
          | none => rw [hput] at hrest; cases hrest
          | some r2 =>
            simp only [hput] at hrest
            refine ⟨hgoJ, fun H' => ∃ r M f acc accV rest, Sta g M H' (wipeR r vs) (L2.wipe s vs) f ∧ Step g S.fn M1 H1 r1 f1 M H' (wipeR r vs) f ∧
              compGo S vs t mt me (items.drop (i + 1)) r = .ok rest rEnd ∧ acc ++ rest = total ∧ acc.length ≤ i + 1 ∧ RepL g (View S.fn M H' f []) acc accV ∧ H' D = some (.lst accV) ∧ M D = none ∧ ∀ j, D ∉ f j, fun H' hN => ⟨items.length - (i + 1), by omega, rfl, by omega, hN⟩, fun x H' hy => ?_⟩
            obtain ⟨V', nw, rx⟩ := hyl x H' hy
            obtain ⟨M2, st2, p2, l1, l2, l3, l4, _, l5⟩ := land0 (fd := []) st p (by simp) (by simp) nw
            have rx2 : Rep g M2 d x := okB_rep (M := M2) (H := H') (r := wipeR r vs) (s := L2.wipe s vs) (f := f) hok rx l3 l4
            have hMD2 : M2 D = none := by
              cases e : M2 D with
              | none => rfl
              | some o =>
                rcases nw.newM D o (l1 D o e) with q | q
                · rw [view_out (fun j _ z => hDf' j z) (by simp), hMD] at q; cases q
                · rw [hHD] at q; cases q
            have hHD2 : H' D = some (.lst accV) := nw.keep D _ hHD (by intro ps q; cases q)
            have racc2 : RepL g (View S.fn M2 H' f []) acc accV := racc.mono fun a o e => by
              rcases view_cases S.fn M H f [] a with ⟨⟨j, h1, h2⟩, q⟩ | ⟨h, q⟩ | ⟨h1, h2, q⟩ <;> rw [q] at e
              · rw [view_in h1 h2]; exact nw.keep a o e ((st.live h2).tbl e)
              · cases h
              · exact l2 a o (nw.mono a o (st.view_le a o e))
            refine tg M2 H' (wipeR r vs) r2 (L2.wipe s vs) f d x _ st2 rx2 hput fun s3 f3 st3 hf3 hsl3 hl3 => ?_
            have hws : L2.wipe s3 vs = L2.wipe s vs := by
              rw [← wipe_eq (s := s) (s' := L2.wipe s vs) (L2.wipe_length s vs) (vs := vs) fun i hi => wipe_ne hi]
              exact wipe_eq hl3 fun i hi => (hsl3 i fun z => hi (hsl i z)).1
            have hww : L2.wipe (L2.wipe s vs) vs = L2.wipe s vs := wipe_eq (L2.wipe_length s vs) fun i hi => wipe_ne hi
            refine ⟨hws, ?_⟩
            have hDf3 : ∀ j, D ∉ f3 j := fun j z => by
              rcases hf3 j with q | q
              · rw [q] at z; exact hDf' j z
              · rw [q] at z; cases z
            have p3 : Step g S.fn M2 H' (wipeR r vs) f M2 H' r2 f3 := ⟨Le.refl _, fun _ _ h _ _ => h, fun _ h => h, fun _ _ h => .inl h, fun j hj => by
              have hn : j ∉ t.slots := fun z => by rw [hvs j (hsl j z)] at hj; cases hj
              exact ⟨(hsl3 j hn).2.2, (hsl3 j hn).2.1⟩, fun j a z => (by
              rcases hf3 j with q | q
              · rw [q] at z; exact .inl z
              · rw [q] at z; cases z), (by rw [← st3.len, hl3, st2.len])⟩
            have racc3 : RepL g (View S.fn M2 H' f3 []) acc accV := racc2.mono (p3.view st2 st3 (by simp))
            refine ⟨r2, M2, f3, st3, ?_⟩
            cases e1 : mt r2 with
            | bad => simp [e1, Rs.noex, Rs.bind] at hrest
            | ex n v => simp [e1, Rs.noex, Rs.bind] at hrest
            | ok bb r3 =>
              simp only [e1, Rs.noex, Rs.bind] at hrest
              intro M4 H4 f4 st4 p4
              have keepD : ∀ {M H : Hp} {r r' : Ro} {f f' : Nat → List Addr} {M' H' : Hp} {s s' : L2.St}, Step g S.fn M H r f M' H' r' f' → Sta g M H r s f → Sta g M' H' r' s' f' → H D = some (.lst accV) → M D = none → (∀ j, D ∉ f j) → H' D = some (.lst accV) ∧ M' D = none ∧ ∀ j, D ∉ f' j := by
                intro M H r r' f f' M' H' s s' p st st' h1 h2 h3
                have e := p.keep D _ h1 (fun i _ => h3 i) (by intro ps q; cases q)
                refine ⟨e, ?_, fun j z => ?_⟩
                · cases q : M' D with
                  | none => rfl
                  | some o =>
                    rcases p.newM D o q with q | q
                    · rw [h2] at q; cases q
                    · rw [h1] at q; cases q
                · rcases p.newF j D z with q | q
                  · exact h3 j q
                  · rw [h1] at q; cases q
              obtain ⟨d1, d2, d3⟩ := keepD p4 st3 st4 hHD2 hMD2 hDf3
              have racc4 : RepL g (View S.fn M4 H4 f4 []) acc accV := racc3.mono (p4.view st3 st4 (by simp))
              have pp := (p2.trans p3).trans p4
              cases bb with
              | false =>
                simp only [Bool.false_eq_true, if_false] at hrest ⊢
                obtain ⟨f5, st5, hf5, p5⟩ := st4.blk (S := S) hvs
                rw [hws] at st5
                refine ⟨r3, M4, f5, acc, accV, rest, st5, pp.trans p5, hrest, hacc, by omega, racc4.mono (p5.view st4 st5 (by simp)), d1, d2, fun j z => ?_⟩
                rcases hf5 j with q | ⟨_, q⟩
                · rw [q] at z; exact d3 j z
                · rw [q] at z; cases z
              | true =>
                simp only [if_true] at hrest ⊢
                refine ⟨r3, M4, f4, st4, ?_⟩
                cases e2 : me r3 with
                | bad => simp [e2] at hrest
                | ex n v => simp [e2] at hrest
                | ok o r4 =>
                  simp only [e2] at hrest
                  cases e3 : compGo S vs t mt me (items.drop (i + 1)) r4 with
                  | bad => simp [e3] at hrest
                  | ex n v => simp [e3] at hrest
                  | ok rest2 rE =>
                    simp only [e3, Rs.ok.injEq] at hrest
                    obtain ⟨hr1, hr2⟩ := hrest
                    subst hr1 hr2
                    intro y M5 H5 f5 fd st5 t5 p5 fr5
                    obtain ⟨d4, d5, d6⟩ := keepD p5 st4 st5 d1 d2 d3
                    have racc5 : RepL g (View S.fn M5 H5 f5 []) acc accV := racc4.mono (p5.view st4 st5 (by simp))
                    have hDfd : D ∉ fd := fun z => by
                      rw [fr5 D z] at d1; cases d1
                    obtain ⟨M6, st6, mo6, nw6, ro6⟩ := tmp_vf (b := false) st5 t5 (fun z => by cases z)
                    have ro6 : Rep g (View S.fn M6 H5 f5 []) o.val y := ro6
                    have d7 : M6 D = none := by
                      cases q : M6 D with
                      | none => rfl
                      | some o =>
                        rcases nw6 D o q with q | q
                        · rw [d5] at q; cases q
                        · exact (hDfd q).elim
                    have p6 := ((pp.trans p5).temp mo6 nw6 (fun a ha => pp.dom a (fr5 a ha)))
                    have hsz : accV.length < sizeLine := by
                      rw [← racc5.length, sizeLine_val]; omega
                    refine ⟨accV, d4, hsz, ?_⟩
                    have st7 := st6.updD (o := .lst (accV ++ [y])) d4 d7 d6
                    obtain ⟨f8, st8, hf8, p8⟩ := st7.blk (S := S) hvs
                    rw [hws] at st8
                    have hvu : View S.fn M6 (upd H5 D (.lst (accV ++ [y]))) f5 [] = View S.fn M6 H5 f5 [] := view_updD d6
                    have p7 : Step g S.fn M1 H1 r1 f1 M6 (upd H5 D (.lst (accV ++ [y]))) r4 f5 := ⟨p6.mono, fun a u e n tt => ?_, fun a e => ?_, p6.newM, p6.same, p6.newF, p6.rlen⟩
                    · refine ⟨r4, M6, f8, acc ++ [o.val], accV ++ [y], rest2, st8, p7.trans p8, e3, by rw [List.append_assoc]; exact hacc, by simp; omega, ?_, upd_same, d7, fun j z => ?_⟩
                      · refine RepL.append (RepL.mono ?_ racc5) (.cons (ro6.mono ?_) .nil)
                        · refine Le.trans (fun a u e => ?_) (p8.view st7 st8 (by simp))
                          rw [hvu]
                          rcases view_cases S.fn M5 H5 f5 [] a with ⟨⟨j, h1, h2⟩, q⟩ | ⟨h, q⟩ | ⟨h1, h2, q⟩ <;> rw [q] at e
                          · rw [view_in h1 h2]; exact e
                          · cases h
                          · exact st6.view_le a u (mo6 a u e)
                        · refine Le.trans ?_ (p8.view st7 st8 (by simp))
                          rw [hvu]; exact Le.refl _
                      · rcases hf8 j with q | ⟨_, q⟩
                        · rw [q] at z; exact d6 j z
                        · rw [q] at z; cases z
                    · by_cases hz : a = D
                      · subst hz; rw [hD] at e; cases e
                      · rw [upd_ne hz]; exact p6.keep a u e n tt
                    · by_cases hz : a = D
                      · subst hz; rw [upd_same] at e; cases e
                      · rw [upd_ne hz] at e; exact p6.dom a e
theorem Cxt.blk (c : Cxt g E k X) {s : Shared} {H : Hp} {scope : Scope} {cenv : Env} {fp : List Addr} : Cxt g E0x k (X.blk s H scope cenv fp) :=
  ⟨c.prog, c.w, c.K, c.mg, c.base, c.calm, c.nd, passL, c.room, PassesOwn.never, fun _ _ x => by
    obtain ⟨_, _, _, _, _, _, _, _, _, _, _, _, _, _, _, _, z⟩ := x
    exact z.elim, c.grd⟩
/-- [e for t in iter if ..] -/
theorem dx_lc {elt tg iter : Expr} {ifs : List Expr} {scope : Scope} {own : List (PySem.Str × Nat)} {pos : Pos} {t : Tg} {mi : Mo (List Val)} {mt : Mo Bool} {me : Mo Own} (c : Cxt g E k X) (hi : PI X tg iter (tI g E false S mi)) (ok : blkC X.N X.env.scope scope own = true)
    (hg : ∀ (s : Shared) (H : Hp) (C : Addr) (cl : List (PySem.Str × Addr)) (fp : List Addr), DG (X.blk s H scope (compEnvC scope cl C X.env) fp) tg t) (ht : ∀ (s : Shared) (H : Hp) (C : Addr) (cl : List (PySem.Str × Addr)) (fp : List Addr), PTs (X.blk s H scope (compEnvC scope cl C X.env) fp) ifs (tB g E0x S mt))
    (he : ∀ (s : Shared) (H : Hp) (C : Addr) (cl : List (PySem.Str × Addr)) (fp : List Addr), PE (X.blk s H scope (compEnvC scope cl C X.env) fp) elt (tD g E0x S me)) (hv : ((own.map (·.2)).all fun v => !S.fn v) = true := by rfl) (hsl : (t.slots.all fun i => (own.map (·.2)).contains i) = true := by rfl)
    (hs : ∀ x, foldedSetIterable iter X.env x = pure x := by intro _; rfl) : PE X (.ListComp elt [⟨tg, iter, ifs, 0⟩] scope pos) (tD g E S (mLc S (own.map (·.2)) t mi mt me)) :=
  PE.imp (pe_lc (g := gOf X.K t) c.calm c.nd hi (blkOk_by ok) hg ht he hs) fun s H Q q => imp_lc (tgOk X.K t) (fun v h => by simpa using List.all_eq_true.mp hv v h) (fun i h => by simpa using List.all_eq_true.mp hsl i h) q
theorem ds_setLc {i : Nat} {y : PySem.Str} {py spos : Pos} {elt tg iter : Expr} {ifs : List Expr} {scope : Scope} {own : List (PySem.Str × Nat)} {pos : Pos} {t : Tg} {mi : Mo (List Val)} {mt : Mo Bool} {me : Mo Own} (c : Cxt g E k X) (hi : PI X tg iter (tI g E false S mi)) (ok : blkC X.N X.env.scope scope own = true)
    (hg : ∀ (s : Shared) (H : Hp) (C : Addr) (cl : List (PySem.Str × Addr)) (fp : List Addr), DG (X.blk s H scope (compEnvC scope cl C X.env) fp) tg t) (ht : ∀ (s : Shared) (H : Hp) (C : Addr) (cl : List (PySem.Str × Addr)) (fp : List Addr), PTs (X.blk s H scope (compEnvC scope cl C X.env) fp) ifs (tB g E0x S mt))
    (he : ∀ (s : Shared) (H : Hp) (C : Addr) (cl : List (PySem.Str × Addr)) (fp : List Addr), PE (X.blk s H scope (compEnvC scope cl C X.env) fp) elt (tD g E0x S me)) (hy : X.N[i]? = some y := by rfl) (hyl : X.env.scope.names.lookup y = some .local := by rfl)
    (hsw : swapsWith (.ListComp elt [⟨tg, iter, ifs, 0⟩] scope pos) (some (.Name y py)) spos.line X.env = pure true := by exact sw_true rfl rfl rfl (by decide +kernel)) (hi0 : i ≠ 0 ∨ pn = none := by first | exact .inl (by decide) | exact .inr rfl)
    (hv : ((own.map (·.2)).all fun v => !S.fn v) = true := by rfl) (hsl : (t.slots.all fun i => (own.map (·.2)).contains i) = true := by rfl)
    (hs : ∀ x, foldedSetIterable iter X.env x = pure x := by intro _; rfl) : PS X (.Assign [.Name y py] (.ListComp elt [⟨tg, iter, ifs, 0⟩] scope pos) spos) (tS g E pn (sSet S i (mLc S (own.map (·.2)) t mi mt me))) :=
  PS.imp (ps_setLc (g := gOf X.K t) c.calm c.nd hy hyl hsw hi (blkOk_by ok) hg ht he hs) fun D s H q => by
    have q1 := imp_set hi0 q
    exact imp_lc (tgOk X.K t) (fun v h => by simpa using List.all_eq_true.mp hv v h) (fun i h => by simpa using List.all_eq_true.mp hsl i h) q1
end
end KS
set_option Elab.async false
set_option linter.all false
set_option maxRecDepth 100000
set_option maxHeartbeats 4000000
namespace KS
open PySem PySem.Spec PyProof.Rows L2
open LamX (Tabs TabS)

/-- what is wished behind a statement that comes to x -/
def Wish (g : G) (E : XK) (pn : Option V) (D : Ends) (M H : Hp) (f : Nat → List Addr) (x : RS) : Prop :=
  match x with
  | .nxt r' => ∀ s' M' H' f', Sta g M' H' r' s' f' → Pin pn s' → SStep g M H f M' H' f' → D.nx s' H'
  | .brk r' => ∀ s' M' H' f', Sta g M' H' r' s' f' → Pin pn s' → SStep g M H f M' H' f' → D.bk s' H'
  | .cnt r' => ∀ s' M' H' f', Sta g M' H' r' s' f' → Pin pn s' → SStep g M H f M' H' f' → D.ct s' H'
  | .ret d r' => ∀ x s' M' H' f' fd, Sta g M' H' r' s' f' → Pin pn s' → SStep g M H f M' H' f' → RetOk g pn M H M' H' f f' d x fd → D.rt x H'
  | .ex n v => Ew g E no M H f n v
  | .bad => False
section
variable {g : G} {E : XK} {S : Vw} {k : Nat} {X : Cx} {pn : Option V}
theorem tS_iff {m : Ms} {D : Ends} {s : L2.St} {H : Hp} : tS g E pn m D s H ↔ ∃ r M f, Sta g M H r s f ∧ Pin pn s ∧ Wish g E pn D M H f (m r) := Iff.rfl
def forGo (fg : List Nat) (t : Tg) (body : Ms) : List Val → Ro → RS
  | [], r => .nxt (wipeR r fg)
  | d :: ds, r => match t.put d (wipeR r fg) with
    | none => .bad
    | some r1 => match body r1 with
      | .nxt r2 => forGo fg t body ds r2
      | .cnt r2 => forGo fg t body ds r2
      | .brk r2 => .nxt (wipeR r2 fg)
      | .ret d r2 => .ret d r2
      | .ex n v => .ex n v
      | .bad => .bad
def sFor (fg : List Nat) (t : Tg) (mi : Mo (List Val)) (body : Ms) : Ms := fun r => match mi r with
  | .ok items r1 => forGo fg t body items r1
  | .ex n v => .ex n v
  | .bad => .bad
theorem wipe_ss {M0 H0 M H : Hp} {f0 f f' : Nat → List Addr} {fg : List Nat} (p : SStep g M0 H0 f0 M H f) (h : ∀ i, f' i = f i ∨ (i ∈ fg ∧ f' i = [])) : SStep g M0 H0 f0 M H f' :=
  ⟨p.mono, p.keep, p.dom, p.newM, fun i a z => by
    rcases h i with q | ⟨_, q⟩
    · rw [q] at z; exact p.newF i a z
    · rw [q] at z; cases z⟩
theorem imp_for {fg : List Nat} {t : Tg} {mi : Mo (List Val)} {body : Ms} {D : Ends} {s : L2.St} {H : Hp} (K : PySem.W.Frag) (h0 : 0 ∉ t.slots ∨ pn = none) (q : tS g E pn (sFor fg t mi body) D s H) : tFor (tI g E true S mi) (gOf K t) (tS g E pn body) D s H := by
  obtain ⟨r0, M0, f0, st0, pin0, q⟩ := q
  refine ⟨r0, M0, f0, st0, ?_⟩
  have q : Wish g E pn D M0 H f0 (sFor fg t mi body r0) := q
  unfold sFor at q
  cases hm : mi r0 with
  | bad => rw [hm] at q; exact q
  | ex n v => rw [hm] at q; exact Ew.of_no q
  | ok items r1 =>
    simp only [hm] at q
    intro J M1 H1 f1 st1 p1 src
    have src : Src g M1 J items := src
    refine ⟨fun i m s H' => m = items.length - i ∧ i ≤ items.length ∧ ∃ r M f, Sta g M H' (wipeR r fg) s f ∧ Pin pn s ∧ SStep g M0 H f0 M H' f ∧ Le M1 M ∧ Wish g E pn D M0 H f0 (forGo fg t body (items.drop i) r), ⟨items.length, by simp, Nat.zero_le _, ?_⟩, ?_⟩
    · obtain ⟨f2, st2, hf2⟩ := st1.wipe fg
      exact ⟨r1, M1, f2, st2, pin0, wipe_ss p1.ss hf2, Le.refl _, by rw [List.drop_zero]; exact q⟩
    · rintro i m s1 H2 ⟨rfl, hi, r, M, f, st, pin, p, le, w⟩
      by_cases hlt : i < items.length
      rotate_left
      · have he : i = items.length := by omega
        subst he
        left
        refine ⟨(src M H2 le st.sub st.tab _).2 (Nat.le_refl _), ?_⟩
        rw [List.drop_length] at w
        exact w s1 M H2 f st pin p
      · right
        obtain ⟨d, hd⟩ : ∃ d, items[i]? = some d := ⟨items[i], by simp [hlt]⟩
        obtain ⟨hgoJ, hyl⟩ := (src M H2 le st.sub st.tab i).1 d hd
        have hdrop : items.drop i = d :: items.drop (i + 1) := by
          rw [List.drop_eq_getElem_cons hlt]
          congr 1
          have := List.getElem?_eq_getElem hlt
          rw [hd] at this; cases this; rfl
        rw [hdrop] at w
        simp only [forGo] at w
        cases hput : t.put d (wipeR r fg) with
        | none => rw [hput] at w; exact w.elim
        | some r2 =>
          simp only [hput] at w
          refine ⟨hgoJ, fun s H' => ∃ r M f, Sta g M H' (wipeR r fg) s f ∧ Pin pn s ∧ SStep g M0 H f0 M H' f ∧ Le M1 M ∧ Wish g E pn D M0 H f0 (forGo fg t body (items.drop (i + 1)) r), fun s H' hN => ⟨items.length - (i + 1), by omega, rfl, by omega, hN⟩, fun x H' hy => ?_⟩
          obtain ⟨V', nw, rx⟩ := hyl x H' hy
          have nw' : New g (View Vw.no.fn M H2 f []) H2 V' H' := by rw [view_no]; exact nw
          obtain ⟨M2, st2, p2, l1, l2, l3, l4, _, l5⟩ := land0 (fd := []) (S := Vw.no.fn) st (Step.refl (g := g)) (by simp) (by simp) nw'
          have rx2 : Rep g M2 d x := rx.mono (l4 fun _ => rfl)
          refine tgOk K t M2 H' (wipeR r fg) r2 s1 f d x _ st2 rx2 hput fun s3 f3 st3 hf3 hsl3 hl3 => ?_
          have pin3 : Pin pn s3 := fun v e => by
            rcases h0 with h0 | h0
            · rw [(hsl3 0 h0).1]; exact pin v e
            · rw [h0] at e; cases e
          have p3 : SStep g M0 H f0 M2 H' f3 := by
            have p4 := p.trans p2.ss
            exact ⟨p4.mono, p4.keep, p4.dom, p4.newM, fun j a z => by
              rcases hf3 j with q | q
              · rw [q] at z; exact p4.newF j a z
              · rw [q] at z; cases z⟩
          have le2 : Le M1 M2 := le.trans p2.mono
          have w2 : Wish g E pn { D with nx := fun s H' => ∃ r M f, Sta g M H' (wipeR r fg) s f ∧ Pin pn s ∧ SStep g M0 H f0 M H' f ∧ Le M1 M ∧ Wish g E pn D M0 H f0 (forGo fg t body (items.drop (i + 1)) r), ct := fun s H' => ∃ r M f, Sta g M H' (wipeR r fg) s f ∧ Pin pn s ∧ SStep g M0 H f0 M H' f ∧ Le M1 M ∧ Wish g E pn D M0 H f0 (forGo fg t body (items.drop (i + 1)) r), bk := D.nx } M2 H' f3 (body r2) := by
            cases hb : body r2 with
            | bad => simp only [hb] at w; exact w
            | ex n v => simp only [hb] at w; exact Ew.afterS w p3
            | ret d r3 => simp only [hb] at w; exact fun x s' M' H' f' fd a1 a2 a3 a4 => w x s' M' H' f' fd a1 a2 (p3.trans a3) (a4.after p3)
            | brk r3 =>
              simp only [hb] at w
              intro s' M' H' f' a1 a2 a3
              obtain ⟨f5, st5, hf5⟩ := a1.wipe fg
              exact w s' M' H' f5 st5 a2 (wipe_ss (p3.trans a3) hf5)
            | nxt r3 =>
              simp only [hb] at w
              intro s' M' H' f' a1 a2 a3
              obtain ⟨f5, st5, hf5⟩ := a1.wipe fg
              exact ⟨r3, M', f5, st5, a2, wipe_ss (p3.trans a3) hf5, le2.trans a3.mono, w⟩
            | cnt r3 =>
              simp only [hb] at w
              intro s' M' H' f' a1 a2 a3
              obtain ⟨f5, st5, hf5⟩ := a1.wipe fg
              exact ⟨r3, M', f5, st5, a2, wipe_ss (p3.trans a3) hf5, le2.trans a3.mono, w⟩
          exact ⟨r2, M2, f3, st3, pin3, w2⟩
theorem ds_for {tg iter : Expr} {body : List Stmt} {t : Tg} {mi : Mo (List Val)} {mb : Ms} {pos : Pos} (fg : List Nat) (c : Cxt g E k X) (hi : PI X tg iter (tI g E true S mi)) (hg : DG X tg t) (hb : PSs X body (tS g E pn mb))
    (h0 : 0 ∉ t.slots ∨ pn = none := by first | exact .inl (by decide) | exact .inr rfl) (hs : ∀ x, foldedSetIterable iter X.env x = pure x := by intro _; rfl) : PS X (.For tg iter body [] pos) (tS g E pn (sFor fg t mi mb)) :=
  PS.imp (ps_for c.own c.calm hi hg hb hs) fun D s H q => imp_for X.K h0 q

/-! ### while -/
/-- n turns at most -/
def whileN (fg : List Nat) (c : Mo Bool) (body : Ms) : Nat → Ro → Option RS
  | 0, _ => none
  | n + 1, r => match c r with
    | .ok b r1 => if b = true then match body r1 with
        | .nxt r2 => whileN fg c body n (wipeR r2 fg)
        | .cnt r2 => whileN fg c body n (wipeR r2 fg)
        | .brk r2 => some (.nxt (wipeR r2 fg))
        | .ret d r2 => some (.ret d r2)
        | .ex n v => some (.ex n v)
        | .bad => some .bad
      else some (.nxt r1)
    | .ex n v => some (.ex n v)
    | .bad => some .bad
open Classical in
noncomputable def sWhile (fg : List Nat) (c : Mo Bool) (body : Ms) : Ms := fun r => if h : ∃ n x, whileN fg c body n r = some x then Classical.choose (Classical.choose_spec h) else .bad
theorem whileN_mono {fg : List Nat} {c : Mo Bool} {body : Ms} : ∀ {n : Nat} {r : Ro} {x : RS}, whileN fg c body n r = some x → whileN fg c body (n + 1) r = some x
  | 0, r, x, h => by simp [whileN] at h
  | n + 1, r, x, h => by
    rw [whileN] at h ⊢
    cases e : c r with
    | bad => simp only [e] at h ⊢; exact h
    | ex _ _ => simp only [e] at h ⊢; exact h
    | ok b r1 =>
      simp only [e] at h ⊢
      split at h
      · rename_i hb
        rw [if_pos hb]
        cases e2 : body r1 with
        | nxt r2 => simp only [e2] at h ⊢; exact whileN_mono h
        | cnt r2 => simp only [e2] at h ⊢; exact whileN_mono h
        | brk r2 => simp only [e2] at h ⊢; exact h
        | ret d r2 => simp only [e2] at h ⊢; exact h
        | ex _ _ => simp only [e2] at h ⊢; exact h
        | bad => simp only [e2] at h ⊢; exact h
      · rename_i hb
        rw [if_neg hb]; exact h
theorem whileN_le {fg : List Nat} {c : Mo Bool} {body : Ms} {n m : Nat} {r : Ro} {x : RS} (h : whileN fg c body n r = some x) (hl : n ≤ m) : whileN fg c body m r = some x := by
  induction hl with
  | refl => exact h
  | step _ ih => exact whileN_mono ih
theorem sWhile_eq {fg : List Nat} {c : Mo Bool} {body : Ms} {n : Nat} {r : Ro} {x : RS} (h : whileN fg c body n r = some x) : sWhile fg c body r = x := by
  have hh : ∃ n x, whileN fg c body n r = some x := ⟨n, x, h⟩
  unfold sWhile
  rw [dif_pos hh]
  have e := Classical.choose_spec (Classical.choose_spec hh)
  have e1 := whileN_le e (Nat.le_max_left (Classical.choose hh) n)
  have e2 := whileN_le h (Nat.le_max_right (Classical.choose hh) n)
  rw [e1] at e2
  exact Option.some.inj e2
theorem imp_while {fg : List Nat} {c : Mo Bool} {body : Ms} {D : Ends} {s : L2.St} {H : Hp} (q : tS g E pn (sWhile fg c body) D s H) : tWhile (tB g E S c) (tS g E pn body) D s H := by
  obtain ⟨r0, M0, f0, st0, pin0, q⟩ := q
  have q : Wish g E pn D M0 H f0 (sWhile fg c body r0) := q
  by_cases hh : ∃ n x, whileN fg c body n r0 = some x
  rotate_left
  · unfold sWhile at q
    rw [dif_neg hh] at q
    exact q.elim
  obtain ⟨n0, x0, h0⟩ := hh
  rw [sWhile_eq h0] at q
  refine ⟨fun n s H' => ∃ r M f, Sta g M H' r s f ∧ Pin pn s ∧ SStep g M0 H f0 M H' f ∧ whileN fg c body n r = some x0, ⟨n0, r0, M0, f0, st0, pin0, .refl, h0⟩, ?_⟩
  rintro n s1 H1 ⟨r, M, f, st, pin, p, h⟩
  cases n with
  | zero => simp [whileN] at h
  | succ n =>
    rw [whileN] at h
    refine ⟨r, M, f, st, ?_⟩
    cases e : c r with
    | bad => simp only [e, Option.some.injEq] at h; subst h; exact q
    | ex n v => simp only [e, Option.some.injEq] at h; subst h; exact (Ew.afterS q p).of_no
    | ok b r1 =>
      simp only [e] at h
      intro M2 H2 f2 st2 p2
      have p2' := p.trans p2.ss
      cases b with
      | false =>
        simp only [Bool.false_eq_true, if_false, Option.some.injEq] at h ⊢
        subst h
        exact q s1 M2 H2 f2 st2 pin p2'
      | true =>
        simp only [if_true] at h ⊢
        refine ⟨fun s H' => ∃ r M f, Sta g M H' r s f ∧ Pin pn s ∧ SStep g M0 H f0 M H' f ∧ whileN fg c body n r = some x0, fun s H' hN => ⟨n, Nat.lt_succ_self n, hN⟩, ?_⟩
        have w2 : Wish g E pn { D with nx := fun s H' => ∃ r M f, Sta g M H' r s f ∧ Pin pn s ∧ SStep g M0 H f0 M H' f ∧ whileN fg c body n r = some x0, ct := fun s H' => ∃ r M f, Sta g M H' r s f ∧ Pin pn s ∧ SStep g M0 H f0 M H' f ∧ whileN fg c body n r = some x0, bk := D.nx } M2 H2 f2 (body r1) := by
          cases hb : body r1 with
          | bad => simp only [hb, Option.some.injEq] at h; subst h; exact q
          | ex n v => simp only [hb, Option.some.injEq] at h; subst h; exact Ew.afterS q p2'
          | ret d r3 => simp only [hb, Option.some.injEq] at h; subst h; exact fun x s' M' H' f' fd a1 a2 a3 a4 => q x s' M' H' f' fd a1 a2 (p2'.trans a3) (a4.after p2')
          | brk r3 =>
            simp only [hb, Option.some.injEq] at h; subst h
            intro s' M' H' f' a1 a2 a3
            obtain ⟨f5, st5, hf5⟩ := a1.wipe fg
            exact q s' M' H' f5 st5 a2 (wipe_ss (p2'.trans a3) hf5)
          | nxt r3 =>
            simp only [hb] at h
            intro s' M' H' f' a1 a2 a3
            obtain ⟨f5, st5, hf5⟩ := a1.wipe fg
            exact ⟨_, M', f5, st5, a2, wipe_ss (p2'.trans a3) hf5, h⟩
          | cnt r3 =>
            simp only [hb] at h
            intro s' M' H' f' a1 a2 a3
            obtain ⟨f5, st5, hf5⟩ := a1.wipe fg
            exact ⟨_, M', f5, st5, a2, wipe_ss (p2'.trans a3) hf5, h⟩
        exact ⟨r1, M2, f2, st2, pin, w2⟩
theorem ds_while {ce : Expr} {body : List Stmt} {mc : Mo Bool} {mb : Ms} {pos : Pos} (fg : List Nat) (c : Cxt g E k X) (hc : PT X ce (tB g E S mc)) (hb : PSs X body (tS g E pn mb)) : PS X (.While ce body [] pos) (tS g E pn (sWhile fg mc mb)) :=
  PS.imp (ps_while c.own hc hb) fun D s H q => imp_while q
end
end KS
set_option Elab.async false
set_option linter.all false
set_option maxRecDepth 100000
set_option maxHeartbeats 4000000
namespace KS
open PySem PySem.Spec PyProof.Rows L2
open LamX (Tabs TabS)

/-! ### a def by its body -/
def entry (N : Nat) (os : List Own) : Ro := os.map some ++ List.replicate (N - os.length) none
def runP (n N : Nat) (m : Ms) (ds : List Val) : RP := if ds.length = n then match m (entry N (ds.map Own.v)) with
    | .ret d _ => .ok d
    | .nxt _ => .ok (.v .non)
    | .ex n v => .ex n v
    | _ => .bad
  else .bad
section
variable {g : G} {E : XK} {k : Nat} {pn : Option V}
theorem env_of {M H : Hp} {ds : List Val} {vs : List V} (r : RepL g M ds vs) (N : Nat) : ∀ (i : Nat) (d : Own), (entry N (ds.map Own.v))[i]? = some (some d) → ∃ x, (vs.map some ++ List.replicate (N - vs.length) none)[i]? = some (some x) ∧ RepO g M H d x [] := by
  intro i d h
  unfold entry at h
  have hl := r.length
  by_cases hi : i < ds.length
  · rw [List.getElem?_append_left (by simpa using hi)] at h
    rw [List.getElem?_map, List.getElem?_map] at h
    obtain ⟨e, he⟩ : ∃ e, ds[i]? = some e := ⟨ds[i], by simp [hi]⟩
    rw [he] at h
    obtain ⟨x, hx, rx⟩ := r.get he
    refine ⟨x, ?_, ?_⟩
    · rw [List.getElem?_append_left (by rw [List.length_map, ← hl]; exact hi), List.getElem?_map, hx]; rfl
    · simp only [Option.map_some, Option.some.injEq] at h
      subst h
      exact .v rx
  · rw [List.getElem?_append_right (by simpa using hi)] at h
    rw [List.getElem?_replicate] at h
    split at h <;> cases h
theorem sta_of {M H : Hp} {ds : List Val} {vs : List V} (le : Le M H) (tb : TabM g M H) (r : RepL g M ds vs) (N : List PySem.Str) : Sta g M H (entry N.length (ds.map Own.v)) (L2.start N vs) (fun _ => []) where
  sub := le
  env := env_of r N.length
  dis := fun _ _ _ h => by cases h
  fre := fun _ _ h => by cases h
  out := fun _ _ => rfl
  tab := tb.1
  nt := tb.2
  len := by simp [entry, L2.start, r.length]
theorem new_ss {M H M' H' : Hp} {f' : Nat → List Addr} {r' : Ro} {s' : L2.St} (p : SStep g M H (fun _ => []) M' H' f') (st : Sta g M' H' r' s' f') : New g M H M' H' :=
  ⟨p.mono, st.sub, fun a o h t => p.keep a o h (fun _ z => by cases z) t, p.dom, fun a o h => (by
    rcases p.newM a o h with h | h | ⟨_, h⟩
    · exact .inl h
    · exact .inr h
    · cases h), st.tab⟩
/-- the context of a body -/
theorem cxt_of {N ps : List PySem.Str} {qual : PySem.Str} {scope : Scope} {f : Addr} {cdv : Value} {A : Around} {outer : List Env} {s : Shared} {H : Hp} (S : FnScope N ps scope) (gr : (A.deeper (envOfC qual scope s.heap.objs.size f cdv)).guards = some []) (hr : Room k (A.deeper (envOfC qual scope s.heap.objs.size f cdv))) :
    Cxt g E k (cxOf (L2.CX g.P g.w) g.P g.w g.K g.mg g.base N qual scope f cdv A outer s H E) := by
  have tk : Takes (cxOf (L2.CX g.P g.w) g.P g.w g.K g.mg g.base N qual scope f cdv A outer s H E) (fun cls d _ H => E cls d H) := takes_of rfl rfl rfl rfl
  exact ⟨rfl, rfl, rfl, rfl, rfl, rfl, S.nd, passes_call tk (fun _ _ _ _ h => h), hr, passes_of rfl, tk, gr⟩
theorem ok_of {x qual : PySem.Str} {st : Stmt} {f : Addr} {fd : FuncData} {N ps : List PySem.Str} {m : Ms} (F : Fun g.K x qual st f fd) (S : FnScope N ps (defScope st))
    (hb : ∀ (E : XK) (cdv : Value), fd.code = cdv → ∀ (A : Around) (outer : List Env) (s : Shared) (H : Hp), Cxt g E k (cxOf (L2.CX g.P g.w) g.P g.w g.K g.mg g.base N qual (defScope st) f cdv A outer s H E) → PSs (cxOf (L2.CX g.P g.w) g.P g.w g.K g.mg g.base N qual (defScope st) f cdv A outer s H E) (defBody st) (tS g E none m)) :
    FnG g.P g.w g.K g.mg g.base (k + 1) f fd ps (spP g (runP ps.length N.length m)) := by
  refine fnG_of F S (fun vs H Q E h => ?_) fun cdv hcd A outer s H vs Q E gr hr h => ⟨_, hb E cdv hcd A outer s H (cxt_of S gr hr), ?_⟩
  · obtain ⟨ds, M, _, _, r, h⟩ := h
    unfold runP at h
    by_cases hn : ds.length = ps.length
    · rw [← r.length]; exact hn
    · rw [if_neg hn] at h; exact h.elim
  · obtain ⟨ds, M, le, tb, r, h⟩ := h
    unfold runP at h
    by_cases hn : ds.length = ps.length
    rotate_left
    · rw [if_neg hn] at h; exact h.elim
    rw [if_pos hn] at h
    refine ⟨entry N.length (ds.map Own.v), M, fun _ => [], sta_of le tb r N, fun v e => (by cases e), ?_⟩
    cases e : m (entry N.length (ds.map Own.v)) with
    | bad => rw [e] at h; exact h
    | brk r' => rw [e] at h; exact h.elim
    | cnt r' => rw [e] at h; exact h.elim
    | nxt r' =>
      rw [e] at h
      exact fun s' M' H' f' st' _ p => h .non M' H' [] (new_ss p st') (.v .non) (by simp)
    | ret d r' =>
      rw [e] at h
      exact fun x s' M' H' f' fd st' _ p q => h x M' H' fd (new_ss p st') q.1 fun a ha => ⟨by
        rcases (q.2 a ha).2.2 with ⟨_, z⟩ | z
        · cases z
        · exact z, (q.2 a ha).1⟩
    | ex n v =>
      rw [e] at h
      exact fun M' H' c dx xs hx => h M' H' c dx ⟨xs.mono, xs.sub, fun a o e t => xs.keep a o e (fun _ _ z => by cases z) t, xs.dom, fun a o e => (by
        rcases xs.newM a o e with q | q | ⟨_, _, q⟩
        · exact .inl q
        · exact .inr q
        · cases q), xs.tab⟩ hx

/-! ### a def that changes its first argument's list -/
inductive RI where
  | ok (d : Own) (ds : List Val) | bad
/-- all but the object at a -/
structure NewI (g : G) (a : Addr) (M H M' H' : Hp) : Prop where
  mono : Le M M'
  sub : Le M' H'
  keep : ∀ b o, b ≠ a → H b = some o → (∀ ps, o ≠ .tbl ps) → H' b = some o
  dom : ∀ b, H' b = none → H b = none
  newM : ∀ b o, M' b = some o → M b = some o ∨ H b = none
  tab : Tabs g.T H'
def spI (g : G) (F : List Val → List Val → RI) : Sp := fun vs H Q E => ∃ a xs ds0 vs0 ds M, vs = .ref a :: xs ∧ Le M H ∧ TabM g M H ∧ H a = some (.lst vs0) ∧ M a = none ∧ RepL g M ds0 vs0 ∧ RepL g M ds xs ∧ match F ds0 ds with
  | .ok o ds0' => ∀ z M' H' fz vs0', NewI g a M H M' H' → H' a = some (.lst vs0') → M' a = none → RepL g M' ds0' vs0' → RepO g M' H' o z fz → (∀ b ∈ fz, b ≠ a ∧ H b = none ∧ M' b = none) → Q z H'
  | .bad => False
structure DefI (g : G) (k : Nat) (x : PySem.Str) (st : Stmt) (ps : List PySem.Str) (F : List Val → List Val → RI) : Prop where
  ex : ∃ f fd, FnG g.P g.w g.K g.mg g.base k f fd ps (spI g F) ∧ g.mg x = some (.ref f) ∧ Fun g.K x x st f fd ∧ Binds g.K fd ps []
def runI (n N : Nat) (m : Ms) (ds0 ds : List Val) : RI := if ds.length + 1 = n then match m (entry N (.l ds0 :: ds.map Own.v)) with
    | .ret d r => match (r[0]? : Option (Option Own)) with
      | some (some (Own.l ds1)) => .ok d ds1
      | _ => .bad
    | .nxt r => match (r[0]? : Option (Option Own)) with
      | some (some (Own.l ds1)) => .ok (.v .non) ds1
      | _ => .bad
    | _ => .bad
  else .bad
theorem ok_ofI {x qual : PySem.Str} {st : Stmt} {f : Addr} {fd : FuncData} {N ps : List PySem.Str} {m : Ms} (F : Fun g.K x qual st f fd) (S : FnScope N ps (defScope st))
    (hb : ∀ (E : XK) (pn : Option V) (cdv : Value), fd.code = cdv → ∀ (A : Around) (outer : List Env) (s : Shared) (H : Hp), Cxt g E k (cxOf (L2.CX g.P g.w) g.P g.w g.K g.mg g.base N qual (defScope st) f cdv A outer s H E) → PSs (cxOf (L2.CX g.P g.w) g.P g.w g.K g.mg g.base N qual (defScope st) f cdv A outer s H E) (defBody st) (tS g E pn m)) :
    FnG g.P g.w g.K g.mg g.base (k + 1) f fd ps (spI g (runI ps.length N.length m)) := by
  refine fnG_of F S (fun vs H Q E h => ?_) fun cdv hcd A outer s H vs Q E gr hr h => ?_
  · obtain ⟨a, xs, ds0, vs0, ds, M, rfl, _, _, _, _, _, r, h⟩ := h
    unfold runI at h
    by_cases hn : ds.length + 1 = ps.length
    · rw [List.length_cons, ← r.length]; exact hn
    · rw [if_neg hn] at h; exact h.elim
  · obtain ⟨a, xs, ds0, vs0, ds, M, rfl, le, tb, ha, hMa, r0, r, h⟩ := h
    refine ⟨_, hb E (some (.ref a)) cdv hcd A outer s H (cxt_of S gr hr), ?_⟩
    unfold runI at h
    by_cases hn : ds.length + 1 = ps.length
    rotate_left
    · rw [if_neg hn] at h; exact h.elim
    rw [if_pos hn] at h
    have st0 : Sta g M H (entry N.length (.l ds0 :: ds.map Own.v)) (L2.start N (.ref a :: xs)) (fun i => if i = 0 then [a] else []) := by
      refine ⟨le, fun i d e => ?_, fun i j b h1 h2 => ?_, fun i b h1 => ?_, fun i hi => ?_, tb.1, by simp [entry, L2.start, r.length], tb.2⟩
      · cases i with
        | zero =>
          simp only [entry, List.map_cons, List.cons_append, List.getElem?_cons_zero, Option.some.injEq] at e
          subst e
          exact ⟨.ref a, by simp [L2.start], .l ha r0⟩
        | succ i =>
          obtain ⟨x, h1, h2⟩ := env_of (H := H) r (N.length - 1) i d (by
            simp only [entry, List.map_cons, List.cons_append, List.getElem?_cons_succ] at e
            simp only [entry]
            rw [show N.length - 1 - (ds.map Own.v).length = N.length - (Own.l ds0 :: ds.map Own.v).length by simp; omega]
            exact e)
          refine ⟨x, ?_, by simpa using h2⟩
          simp only [L2.start, List.map_cons, List.cons_append, List.getElem?_cons_succ]
          rw [show N.length - (V.ref a :: xs).length = N.length - 1 - xs.length by simp; omega]
          exact h1
      · by_cases hi : i = 0
        · by_cases hj : j = 0
          · rw [hi, hj]
          · simp [hj] at h2
        · simp [hi] at h1
      · by_cases hi : i = 0
        · simp only [hi, if_true, List.mem_singleton] at h1; rw [h1]; exact hMa
        · simp [hi] at h1
      · by_cases h0 : i = 0
        · subst h0; exact (hi (.l ds0) (by simp [entry])).elim
        · simp only [if_neg h0]
    have pin0 : Pin (some (.ref a)) (L2.start N (.ref a :: xs)) := fun v e => by cases e; simp [L2.start]
    have fin : ∀ {r' : Ro} {ds0' : List Val} {s' : L2.St} {M' H' : Hp} {f' : Nat → List Addr}, r'[0]? = some (some (.l ds0')) → Sta g M' H' r' s' f' → Pin (some (.ref a)) s' → SStep g M H (fun i => if i = 0 then [a] else []) M' H' f' →
        f' 0 = [a] ∧ NewI g a M H M' H' ∧ M' a = none ∧ ∃ vs0', H' a = some (.lst vs0') ∧ RepL g M' ds0' vs0' := by
      intro r' ds0' s' M' H' f' e st' pin' p
      obtain ⟨x, h1, h2⟩ := st'.env 0 _ e
      rw [pin' _ rfl] at h1
      cases h1
      generalize hf : f' 0 = f0 at h2
      cases h2 with
      | l h3 h4 =>
        have hm : M' a = none := st'.fre 0 a (by rw [hf]; simp)
        refine ⟨rfl, ⟨p.mono, st'.sub, fun b o hb q t => p.keep b o q (fun i z => ?_) t, p.dom, fun b o q => ?_, st'.tab⟩, hm, ⟨_, h3, h4⟩⟩
        · by_cases hi : i = 0
          · simp only [hi, if_true, List.mem_singleton] at z; exact hb z
          · simp [hi] at z
        · rcases p.newM b o q with q2 | q2 | ⟨i, z⟩
          · exact .inl q2
          · exact .inr q2
          · by_cases hi : i = 0
            · simp only [hi, if_true, List.mem_singleton] at z
              rw [z, hm] at q; cases q
            · simp [hi] at z
    refine ⟨_, M, _, st0, pin0, ?_⟩
    cases e : m (entry N.length (.l ds0 :: ds.map Own.v)) with
    | bad => rw [e] at h; exact h
    | brk r' => rw [e] at h; exact h.elim
    | cnt r' => rw [e] at h; exact h.elim
    | nxt r' =>
      simp only [e] at h
      cases e2 : r'[0]? with
      | none => simp only [e2] at h
      | some o =>
        cases o with
        | none => simp only [e2] at h
        | some o =>
          cases o with
          | v d => simp only [e2] at h
          | l ds0' =>
            simp only [e2] at h
            intro s' M' H' f' st' pin' p
            obtain ⟨_, nw, hm, vs0', h3, h4⟩ := fin e2 st' pin' p
            exact h .non M' H' [] vs0' nw h3 hm h4 (.v .non) (by simp)
    | ret d r' =>
      simp only [e] at h
      cases e2 : r'[0]? with
      | none => simp only [e2] at h
      | some o =>
        cases o with
        | none => simp only [e2] at h
        | some o =>
          cases o with
          | v d => simp only [e2] at h
          | l ds0' =>
            simp only [e2] at h
            intro x s' M' H' f' fd st' pin' p q
            obtain ⟨hf0, nw, hm, vs0', h3, h4⟩ := fin e2 st' pin' p
            refine h x M' H' fd vs0' nw h3 hm h4 q.1 fun b hb => ?_
            have hba : b ≠ a := fun z => (q.2 b hb).2.1 (by simp) (by rw [hf0, z]; simp)
            refine ⟨hba, ?_, (q.2 b hb).1⟩
            rcases (q.2 b hb).2.2 with ⟨i, z⟩ | z
            · by_cases hi : i = 0
              · simp only [hi, if_true, List.mem_singleton] at z; exact (hba z).elim
              · simp [hi] at z
            · exact z
    | ex n v => simp only [e] at h
end
end KS
set_option Elab.async false
set_option linter.all false
set_option maxRecDepth 100000
set_option maxHeartbeats 4000000
namespace KS
open PySem PySem.Spec PyProof.Rows L2
open LamX (Tabs TabS)

section
variable {g : G} {E : XK} {S : Vw} {k : Nat} {X : Cx} {pn : Option V}
open Classical in
theorem nt_newI {S : Nat → Bool} {M H M' H' : Hp} {r : Ro} {s : L2.St} {f : Nat → List Addr} {fd : List Addr} {a : Addr} (st : Sta g M H r s f) (hl : ∀ a ∈ fd, Live H a) (nw : NewI g a (View S M H f fd) H M' H') : ∀ p ∈ g.T, (if ∃ i, p.1 ∈ f i then none else M' p.1) = none := fun p hp => by
  split
  · rfl
  · cases e : M' p.1 with
    | none => rfl
    | some u =>
      rcases nw.newM p.1 u e with q | q
      · rw [st.view_nt hl p hp] at q; cases q
      · obtain ⟨ps, z⟩ := tab_at st.tab hp
        rw [q] at z; cases z
open Classical in
/-- behind a step that changed the list of slot i, at a -/
theorem landI {M H M' H' M0 H0 : Hp} {r r0 : Ro} {s : L2.St} {f f0 : Nat → List Addr} {fd : List Addr} {i : Nat} {a : Addr} {ds' : List Val} {vs' : List V} (st : Sta g M H r s f) (p : Step g S.fn M0 H0 r0 f0 M H r f) (hfd : ∀ b ∈ fd, H0 b = none) (hsep : ∀ b ∈ fd, Live H b ∧ ∀ j, b ∉ f j)
    (hi : i < r.length) (hS : S.fn i = false) (hs : s[i]? = some (some (.ref a))) (hf : f i = [a]) (nw : NewI g a (View S.fn M H f fd) H M' H') (ha : H' a = some (.lst vs')) (hMa : M' a = none) (rp : RepL g M' ds' vs') (hok : okB S (.l ds') = true) :
    ∃ M2, Sta g M2 H' (r.set i (some (.l ds'))) s f ∧ Step g S.fn M0 H0 r0 f0 M2 H' (r.set i (some (.l ds'))) f ∧ Le M2 M' ∧ Le M' (View S.fn M2 H' f []) ∧ (∀ b o, M' b = some o → (∀ xs, o ≠ .lst xs) → M2 b = some o) ∧ ((∀ j, S.fn j = false) → Le M' M2) ∧ (∀ b, M' b = none → M2 b = none) := by
  have hlive : ∀ {j b}, b ∈ f j → ∃ xs, H b = some (.lst xs) := fun h => st.live h
  have hown : ∀ j b, b ∈ f j → S.fn j = false → M' b = none := fun j b h hS => by
    cases e : M' b with
    | none => rfl
    | some u =>
      rcases nw.newM b u e with q | q
      · rw [view_out (fun l hl z => by have := st.dis j l b h z; subst this; rw [hS] at hl; cases hl) (fun z => (hsep b z).2 j h), st.fre j b h] at q
        cases q
      · obtain ⟨xs, hx⟩ := hlive h
        rw [hx] at q; cases q
  have hkeep : ∀ j b, b ∈ f j → j ≠ i → H' b = H b := fun j b h hj => by
    obtain ⟨xs, hx⟩ := hlive h
    rw [hx]
    refine nw.keep b _ (fun z => hj (st.dis j i b h (by rw [hf, z]; simp))) hx (by intro ps q; cases q)
  have le2 : Le (fun b => if ∃ j, b ∈ f j then none else M' b) M' := fun b u e => by
    by_cases h : ∃ j, b ∈ f j
    · simp only [if_pos h] at e; cases e
    · simp only [if_neg h] at e; exact e
  have mono : Le M (fun b => if ∃ j, b ∈ f j then none else M' b) := fun b u e => by
    have hn : ¬ ∃ j, b ∈ f j := fun ⟨j, hj⟩ => by rw [st.fre j b hj] at e; cases e
    simp only [if_neg hn]
    exact nw.mono b u (st.view_le b u e)
  have nonl : ∀ b u, M' b = some u → (∀ xs, u ≠ .lst xs) → (fun b => if ∃ j, b ∈ f j then none else M' b) b = some u := fun b u e n => by
    by_cases h : ∃ j, b ∈ f j
    · obtain ⟨j, hj⟩ := h
      obtain ⟨xs, hx⟩ := hlive hj
      have q := nw.sub b u e
      by_cases hji : j = i
      · subst hji
        rw [hf] at hj
        obtain rfl : b = a := by simpa using hj
        rw [hMa] at e; cases e
      · rw [hkeep j b hj hji, hx] at q
        cases q
        exact (n xs rfl).elim
    · simp only [if_neg h]; exact e
  have allS : (∀ j, S.fn j = false) → Le M' (fun b => if ∃ j, b ∈ f j then none else M' b) := fun hS b u e => by
    by_cases h : ∃ j, b ∈ f j
    · obtain ⟨j, hj⟩ := h
      rw [hown j b hj (hS j)] at e; cases e
    · simp only [if_neg h]; exact e
  have rp2 : RepL g (fun b => if ∃ j, b ∈ f j then none else M' b) ds' vs' := by
    cases S with
    | no => exact rp.mono (allS fun _ => rfl)
    | but xs => exact rp.nl nonl (by simpa [okB] using hok)
  refine ⟨_, ⟨fun b u e => nw.sub b u (le2 b u e), fun j d e => ?_, st.dis, fun j b h => by simp only [if_pos (⟨j, h⟩ : ∃ j, b ∈ f j)], fun j h => ?_, nw.tab, by simp [st.len], fun p hp => nt_newI st (fun a h => (hsep a h).1) nw p hp⟩,
    ⟨p.mono.trans mono, fun b o h n t => ?_, fun b h => p.dom b (nw.dom b h), fun b u e => ?_, fun j hj => ?_, p.newF, by simp [p.rlen]⟩, le2, fun b u e => ?_, nonl, allS, fun b e => ?_⟩
  · by_cases hj : j = i
    · subst hj
      rw [List.getElem?_set_self hi] at e
      cases e
      refine ⟨_, hs, ?_⟩
      rw [hf]
      exact .l ha rp2
    · rw [List.getElem?_set_ne (Ne.symm hj)] at e
      obtain ⟨x, h1, h2⟩ := st.env j d e
      exact ⟨x, h1, h2.mono mono fun b hb u hu => by rw [hkeep j b hb hj]; exact hu⟩
  · by_cases hj : j = i
    · subst hj
      exact (h _ (List.getElem?_set_self hi)).elim
    · exact st.out j fun d e => h d (by rw [List.getElem?_set_ne (Ne.symm hj)]; exact e)
  · have h1 := p.keep b o h n t
    refine nw.keep b o (fun z => ?_) h1 t
    rcases p.newF i b (by rw [hf, z]; simp) with q | q
    · exact n i hS q
    · rw [q] at h; cases h
  · by_cases h : ∃ j, b ∈ f j
    · simp only [if_pos h] at e; cases e
    · simp only [if_neg h] at e
      rcases nw.newM b u e with q | q
      · rcases view_cases S.fn M H f fd b with ⟨⟨j, h1, h2⟩, _⟩ | ⟨h1, q2⟩ | ⟨_, _, q2⟩
        · exact (h ⟨j, h2⟩).elim
        · exact .inr (hfd b h1)
        · rw [q2] at q; exact p.newM b u q
      · exact .inr (p.dom b q)
  · refine ⟨(p.same j hj).1, ?_⟩
    have hji : j ≠ i := fun z => by rw [z, hS] at hj; cases hj
    rw [List.getElem?_set_ne (Ne.symm hji)]
    exact (p.same j hj).2
  · by_cases h : ∃ j, b ∈ f j
    · obtain ⟨j, hj⟩ := h
      cases hSj : S.fn j with
      | true => rw [view_in hSj hj]; exact nw.sub b u e
      | false => rw [hown j b hj hSj] at e; cases e
    · rw [view_out (fun j _ z => h ⟨j, z⟩) (by simp), if_neg h]; exact e
  · by_cases h : ∃ j, b ∈ f j
    · simp only [if_pos h]
    · simp only [if_neg h]; exact e
/-- slot i's own list -/
theorem own_at {M H : Hp} {r : Ro} {s : L2.St} {f : Nat → List Addr} {i : Nat} {ds : List Val} (st : Sta g M H r s f) (e : r[i]? = some (some (.l ds))) :
    i < r.length ∧ ∃ a vs, s[i]? = some (some (.ref a)) ∧ f i = [a] ∧ H a = some (.lst vs) ∧ RepL g M ds vs ∧ M a = none := by
  obtain ⟨x, h1, h2⟩ := st.env i _ e
  refine ⟨(List.getElem?_eq_some_iff.mp e).1, ?_⟩
  generalize hf : f i = fi at h2
  cases h2 with
  | l h3 h4 => exact ⟨_, _, h1, rfl, h3, h4, st.fre i _ (by rw [hf]; simp)⟩
/-! ### f(x, ..), x's list is changed -/
def mCallI (S : Vw) (i : Nat) (F : List Val → List Val → RI) (ms : Mo (List Own)) : Mo Own := fun r => match (r[i]? : Option (Option Own)) with
  | some (some (Own.l _)) => (ms r).bind fun ds r1 => if S.fn i = true then .bad else match (r1[i]? : Option (Option Own)) with
    | some (some (Own.l ds0)) => match F ds0 (ds.map Own.val) with
      | .ok d ds1 => if okB S (.l ds1) = true then .ok d (r1.set i (some (.l ds1))) else .bad
      | .bad => .bad
    | _ => .bad
  | _ => .bad
theorem imp_callI {i : Nat} {F : List Val → List Val → RI} {ms : Mo (List Own)} {s : L2.St} {H : Hp} {Q : VK} (h : tD g E S (mCallI S i F ms) s H Q) : tCons (tVar i) (tA g E S ms) s H fun vs H1 => spI g F vs H1 Q E := by
  obtain ⟨r, M, f, st, h⟩ := h
  unfold mCallI at h
  cases er : (r[i]? : Option (Option Own)) with
  | none => simp only [er] at h
  | some o =>
    cases o with
    | none => simp only [er] at h
    | some o =>
      cases o with
      | v d => simp only [er] at h
      | l dsr =>
        simp only [er] at h
        obtain ⟨x, hx, _⟩ := st.env i _ er
        refine ⟨x, hx, r, M, f, st, ?_⟩
        cases hm : ms r with
        | bad => rw [hm] at h; exact h
        | ex n v => rw [hm] at h; exact h
        | ok ds r1 =>
          simp only [hm, Rs.bind] at h
          intro xs M1 H1 f1 fd st1 t1 p1 fr1
          cases hS : S.fn i with
          | true => rw [if_pos hS] at h; exact h.elim
          | false =>
            rw [if_neg (by rw [hS]; simp)] at h
            cases e : (r1[i]? : Option (Option Own)) with
            | none => simp only [e] at h
            | some o =>
              cases o with
              | none => simp only [e] at h
              | some o =>
                cases o with
                | v d => simp only [e] at h
                | l ds0 =>
                  simp only [e] at h
                  obtain ⟨hi, a, vs, h1, h2, h3, h4, h5⟩ := own_at st1 e
                  rw [hx] at h1
                  cases h1
                  have haV : View S.fn M1 H1 f1 fd a = none := by
                    rw [view_out (fun j hj z => by have := st1.dis i j a (by rw [h2]; simp) z; subst this; rw [hS] at hj; cases hj) (fun z => (t1.sep a z).2.2 i (by rw [h2]; simp))]; exact h5
                  refine ⟨a, xs, ds0, vs, ds.map Own.val, View S.fn M1 H1 f1 fd, rfl, st1.view_sub, st1.view_tab fun b hb => (t1.sep b hb).1, h3, haV, h4.mono st1.view_le, t1.vals st1, ?_⟩
                  cases hF : F ds0 (ds.map Own.val) with
                  | bad => simp only [hF] at h
                  | ok d ds1 =>
                    simp only [hF] at h
                    intro z M' H' fz vs0' nw q1 q2 q3 q4 q5
                    by_cases hok : okB S (.l ds1) = true
                    · rw [if_pos hok] at h
                      obtain ⟨M2, st2, p2, l1, l2, _, _, l5⟩ := landI st1 p1 fr1 (fun b hb => ⟨(t1.sep b hb).1, (t1.sep b hb).2.2⟩) hi hS hx h2 nw q1 q2 q3 hok
                      refine h z M2 H' f1 fz st2 ⟨q4.mono l2 fun _ _ _ w => w, fun b hb => ⟨l5 b (q5 b hb).2.2, fun j hj => ?_⟩⟩ p2 fun b hb => p1.dom b (q5 b hb).2.1
                      obtain ⟨us, hu⟩ := st1.live hj
                      rw [(q5 b hb).2.1] at hu; cases hu
                    · rw [if_neg hok] at h; exact h.elim
/-- f(x, e, ..) -/
theorem dx_callI (i : Nat) {x y : PySem.Str} {st : Stmt} {ps : List PySem.Str} {F : List Val → List Val → RI} {j : Nat} {es : List Expr} {ms : Mo (List Own)} {p py pos : Pos} (c : Cxt g E k X) (D : DefI g j x st ps F) (hj : j ≤ k) (ha : PA X es (tA g E S ms)) (hg : Gl X x := by rfl)
    (hN : X.N[i]? = some y := by rfl) (hv : Vis X.env.scope y := by first | exact Or.inl rfl | exact Or.inr (Or.inl rfl) | exact Or.inr (Or.inr rfl))
    (he : starEach (Expr.Name y py :: es) X.env = (false, eval (.Name y py) X.env) :: starEach es X.env := by rfl) (hpl : (backTo pos (starEach es X.env)).any (·.1) = false := by rfl) (hdb : (x == ("__debug__" : PySem.Str)) = false := by decide)
    (hd : (y == ("__debug__" : PySem.Str)) = false := by decide) (hcd : (y == ("__classdict__" : PySem.Str)) = false := by decide) :
    PE X (.Call (.Name x p) (.Name y py :: es) [] pos) (tD g E S (mCallI S i F ms)) := by
  obtain ⟨f, fd, F', hm, hf, hb⟩ := D.ex
  have F2 : FnG X.prog X.w X.K X.mg X.base j f fd ps (spI g F) := by rw [c.prog, c.w, c.K, c.mg, c.base]; exact F'
  refine PE.imp (pe_callG (E := E) F2 c.grd (c.room.mono hj) hg (by rw [c.mg]; exact hm) (by rw [c.K]; exact hf.kp) (by rw [c.K]; exact hb) c.pass (pa_cons (pe_var hN hv hd hcd) ha he) hdb he hpl) fun s H Q q => ?_
  have h := imp_callI q
  exact h
open Classical in
/-- behind a step that changed a list on the way, at a -/
theorem landT {M H M' H' M0 H0 : Hp} {r r0 : Ro} {s : L2.St} {f f0 : Nat → List Addr} {fd : List Addr} {a : Addr} (st : Sta g M H r s f) (p : Step g S.fn M0 H0 r0 f0 M H r f) (hfd : ∀ b ∈ fd, H0 b = none) (hsep : ∀ b ∈ fd, Live H b ∧ ∀ j, b ∉ f j)
    (ha0 : H0 a = none) (haf : ∀ j, a ∉ f j) (nw : NewI g a (View S.fn M H f fd) H M' H') :
    ∃ M2, Sta g M2 H' r s f ∧ Step g S.fn M0 H0 r0 f0 M2 H' r f ∧ Le M' (View S.fn M2 H' f []) ∧ (∀ b, M' b = none → M2 b = none) := by
  have hlive : ∀ {j b}, b ∈ f j → ∃ xs, H b = some (.lst xs) := fun h => st.live h
  have hown : ∀ j b, b ∈ f j → S.fn j = false → M' b = none := fun j b h hS => by
    cases e : M' b with
    | none => rfl
    | some u =>
      rcases nw.newM b u e with q | q
      · rw [view_out (fun l hl z => by have := st.dis j l b h z; subst this; rw [hS] at hl; cases hl) (fun z => (hsep b z).2 j h), st.fre j b h] at q
        cases q
      · obtain ⟨xs, hx⟩ := hlive h
        rw [hx] at q; cases q
  have hkeep : ∀ j b, b ∈ f j → H' b = H b := fun j b h => by
    obtain ⟨xs, hx⟩ := hlive h
    rw [hx]
    exact nw.keep b _ (fun z => haf j (by rw [← z]; exact h)) hx (by intro ps q; cases q)
  have le2 : Le (fun b => if ∃ j, b ∈ f j then none else M' b) M' := fun b u e => by
    by_cases h : ∃ j, b ∈ f j
    · simp only [if_pos h] at e; cases e
    · simp only [if_neg h] at e; exact e
  have mono : Le M (fun b => if ∃ j, b ∈ f j then none else M' b) := fun b u e => by
    have hn : ¬ ∃ j, b ∈ f j := fun ⟨j, hj⟩ => by rw [st.fre j b hj] at e; cases e
    simp only [if_neg hn]
    exact nw.mono b u (st.view_le b u e)
  refine ⟨_, ⟨fun b u e => nw.sub b u (le2 b u e), fun j d e => ?_, st.dis, fun j b h => by simp only [if_pos (⟨j, h⟩ : ∃ j, b ∈ f j)], st.out, nw.tab, st.len, fun p hp => nt_newI st (fun a h => (hsep a h).1) nw p hp⟩,
    ⟨p.mono.trans mono, fun b o h n t => ?_, fun b h => p.dom b (nw.dom b h), fun b u e => ?_, p.same, p.newF, p.rlen⟩, fun b u e => ?_, fun b e => ?_⟩
  · obtain ⟨x, h1, h2⟩ := st.env j d e
    exact ⟨x, h1, h2.mono mono fun b hb u hu => by rw [hkeep j b hb]; exact hu⟩
  · exact nw.keep b o (fun z => by rw [z, ha0] at h; cases h) (p.keep b o h n t) t
  · by_cases h : ∃ j, b ∈ f j
    · simp only [if_pos h] at e; cases e
    · simp only [if_neg h] at e
      rcases nw.newM b u e with q | q
      · rcases view_cases S.fn M H f fd b with ⟨⟨j, h1, h2⟩, _⟩ | ⟨h1, q2⟩ | ⟨_, _, q2⟩
        · exact (h ⟨j, h2⟩).elim
        · exact .inr (hfd b h1)
        · rw [q2] at q; exact p.newM b u q
      · exact .inr (p.dom b q)
  · by_cases h : ∃ j, b ∈ f j
    · obtain ⟨j, hj⟩ := h
      cases hSj : S.fn j with
      | true => rw [view_in hSj hj]; exact nw.sub b u e
      | false => rw [hown j b hj hSj] at e; cases e
    · rw [view_out (fun j _ z => h ⟨j, z⟩) (by simp), if_neg h]; exact e
  · by_cases h : ∃ j, b ∈ f j
    · simp only [if_pos h]
    · simp only [if_neg h]; exact e
/-- f(e0, ..), e0 a list of one's own, just made -/
def mCallT (S : Vw) (F : List Val → List Val → RI) (ms : Mo (List Own)) : Mo Own := fun r => (ms r).bind fun ds r1 => match ds with
  | .l ds0 :: ds => match F ds0 (ds.map Own.val) with
    | .ok d _ => .ok d r1
    | .bad => .bad
  | _ => .bad
theorem imp_callT {F : List Val → List Val → RI} {ms : Mo (List Own)} {s : L2.St} {H : Hp} {Q : VK} (h : tD g E S (mCallT S F ms) s H Q) : tA g E S ms s H fun vs H1 => spI g F vs H1 Q E := by
  obtain ⟨r, M, f, st, h⟩ := h
  unfold mCallT at h
  refine ⟨r, M, f, st, ?_⟩
  cases hm : ms r with
  | bad => rw [hm] at h; exact h
  | ex n v => rw [hm] at h; exact h
  | ok ds r1 =>
    simp only [hm, Rs.bind] at h
    intro xs M1 H1 f1 fd st1 t1 p1 fr1
    cases t1 with
    | nil => exact h.elim
    | cons ta tb hn =>
      rename_i d x ds xs fa fb
      cases d with
      | v d => exact h.elim
      | l ds0 =>
        simp only at h
        cases hF : F ds0 (ds.map Own.val) with
        | bad => simp only [hF] at h
        | ok d ds1 =>
          simp only [hF] at h
          have hsep := ta.sep
          cases ta.rep with
          | l h1 h2 =>
            rename_i a vs
            have ha := hsep a (by simp)
            have haV : View S.fn M1 H1 f1 fb a = none := by
              rw [view_out (fun j _ => ha.2 j) (hn a (by simp))]; exact ha.1
            have mono : Le (View S.fn M1 H1 f1 []) (View S.fn M1 H1 f1 fb) := fun b o e => by
              rcases view_cases S.fn M1 H1 f1 [] b with ⟨⟨j, k1, k2⟩, q⟩ | ⟨h, q⟩ | ⟨k1, k2, q⟩ <;> rw [q] at e
              · rw [view_in k1 k2]; exact e
              · cases h
              · exact st1.view_le b o e
            refine ⟨a, xs, ds0, vs, ds.map Own.val, View S.fn M1 H1 f1 fb, rfl, st1.view_sub, st1.view_tab fun b hb => (tb.sep b hb).1, h1, haV, h2.mono mono, tb.vals st1, ?_⟩
            rw [hF]
            intro z M' H' fz vs0' nw q1 q2 q3 q4 q5
            obtain ⟨M2, st2, p2, l2, l5⟩ := landT st1 p1 (fun b hb => fr1 b (List.mem_append_right _ hb)) (fun b hb => ⟨(tb.sep b hb).1, (tb.sep b hb).2.2⟩) (fr1 a (List.mem_append_left _ (by simp))) ha.2 nw
            refine h z M2 H' f1 fz st2 ⟨q4.mono l2 fun _ _ _ w => w, fun b hb => ⟨l5 b (q5 b hb).2.2, fun j hj => ?_⟩⟩ p2 fun b hb => p1.dom b (q5 b hb).2.1
            obtain ⟨us, hu⟩ := st1.live hj
            rw [(q5 b hb).2.1] at hu; cases hu
theorem dx_callT {x : PySem.Str} {st : Stmt} {ps : List PySem.Str} {F : List Val → List Val → RI} {j : Nat} {e : Expr} {es : List Expr} {ms : Mo (List Own)} {p pos : Pos} (c : Cxt g E k X) (D : DefI g j x st ps F) (hj : j ≤ k) (ha : PA X (e :: es) (tA g E S ms)) (hg : Gl X x := by rfl)
    (he : starEach (e :: es) X.env = (false, eval e X.env) :: starEach es X.env := by rfl) (hpl : (backTo pos (starEach es X.env)).any (·.1) = false := by rfl) (hdb : (x == ("__debug__" : PySem.Str)) = false := by decide) :
    PE X (.Call (.Name x p) (e :: es) [] pos) (tD g E S (mCallT S F ms)) := by
  obtain ⟨f, fd, F', hm, hf, hb⟩ := D.ex
  have F2 : FnG X.prog X.w X.K X.mg X.base j f fd ps (spI g F) := by rw [c.prog, c.w, c.K, c.mg, c.base]; exact F'
  refine PE.imp (pe_callG (E := E) F2 c.grd (c.room.mono hj) hg (by rw [c.mg]; exact hm) (by rw [c.K]; exact hf.kp) (by rw [c.K]; exact hb) c.pass ha hdb he hpl) fun s H Q q => ?_
  have h := imp_callT q
  exact h
/-! ### x[e], x a name -/
def intOf : Own → Option Int
  | .v (.int n) => some n
  | _ => none
def ixO : Own → Int → Option Val
  | .l ds, n => atI ds n
  | .v (.lst ds), n => atI ds n
  | .v (.tup ds), n => atI ds n
  | .v (.scr ds), n => (atI ds n).map Val.int
  | _, _ => none
def mIxV (i : Nat) (m : Mo Own) : Mo Own := fun r => match (r[i]? : Option (Option Own)) with
  | some (some _) => (m r).bind fun d r1 => match intOf d, (r1[i]? : Option (Option Own)) with
    | some n, some (some o) => match ixO o n with
      | some d => .ok (.v d) r1
      | none => .bad
    | _, _ => .bad
  | _ => .bad
theorem atI_rep {M : Hp} {ds : List Val} {vs : List V} (r : RepL g M ds vs) {n : Int} {d : Val} (h : atI ds n = some d) : ∃ x, atI vs n = some x ∧ Rep g M d x := by
  unfold atI at h ⊢
  rw [← r.length]
  cases e : ixN ds.length n with
  | none => rw [e] at h; cases h
  | some j =>
    rw [e] at h
    obtain ⟨x, hx, rx⟩ := r.get (i := j) h
    exact ⟨x, hx, rx⟩
theorem atI_map {α β : Type} {f : α → β} {xs : List α} {n : Int} {d : α} (h : atI xs n = some d) : atI (xs.map f) n = some (f d) := by
  unfold atI at h ⊢
  rw [List.length_map]
  cases e3 : ixN xs.length n with
  | none => rw [e3] at h; cases h
  | some j =>
    rw [e3] at h
    have h : xs[j]? = some d := h
    show (xs.map f)[j]? = _
    rw [List.getElem?_map, h]; rfl
theorem ixO_rep {M H : Hp} {o : Own} {x : V} {fd : List Addr} {n : Int} {d : Val} (K : PySem.W.Frag) (le : Le M H) (ro : RepO g M H o x fd) (h : ixO o n = some d) : ∃ z, Rep g M d z ∧ ∀ Q : VK, Q z H → rIxL K x (.int n) H Q ∨ rIxT K x (.int n) H Q := by
  cases ro with
  | l h1 h2 =>
    obtain ⟨z, hz, rz⟩ := atI_rep h2 h
    exact ⟨z, rz, fun Q q => .inl ⟨_, _, n, z, rfl, rfl, .of h1, hz, q⟩⟩
  | v ro =>
    cases ro with
    | lst h1 h2 =>
      obtain ⟨z, hz, rz⟩ := atI_rep h2 h
      exact ⟨z, rz, fun Q q => .inl ⟨_, _, n, z, rfl, rfl, .of (le _ _ h1), hz, q⟩⟩
    | tup h1 h2 =>
      obtain ⟨z, hz, rz⟩ := atI_rep h2 h
      exact ⟨z, rz, fun Q q => .inr ⟨_, _, n, z, rfl, rfl, .of (le _ _ h1), hz, q⟩⟩
    | scr h1 =>
      rename_i ob ns
      simp only [ixO] at h
      cases ea : atI ns n with
      | none => rw [ea] at h; cases h
      | some c =>
        rw [ea] at h
        cases h
        exact ⟨.int c, .int c, fun Q q => .inl ⟨_, _, n, _, rfl, rfl, .inl (.inr ⟨_, le _ _ h1⟩), atI_map ea, q⟩⟩
    | _ => simp [ixO] at h
theorem intOf_rep {M H : Hp} {d : Own} {x : V} {fd : List Addr} {n : Int} (ro : RepO g M H d x fd) (h : intOf d = some n) : x = .int n := by
  cases ro with
  | l _ _ => simp [intOf] at h
  | v ro => cases ro <;> simp_all [intOf]
theorem imp_ixV {i : Nat} {m : Mo Own} {s : L2.St} {H : Hp} {Q : VK} (K : PySem.W.Frag) (h : tD g E S (mIxV i m) s H Q) : tOp (fun x y H Q => rIxL K x y H Q ∨ rIxT K x y H Q) (tVar i) (tD g E S m) s H Q := by
  obtain ⟨r, M, f, st, h⟩ := h
  unfold mIxV at h
  cases er : (r[i]? : Option (Option Own)) with
  | none => simp only [er] at h
  | some o =>
    cases o with
    | none => simp only [er] at h
    | some o =>
      simp only [er] at h
      obtain ⟨x, hx, _⟩ := st.env i _ er
      refine ⟨x, hx, r, M, f, st, ?_⟩
      cases hm : m r with
      | bad => rw [hm] at h; exact h
      | ex n v => rw [hm] at h; exact h
      | ok d r1 =>
        simp only [hm, Rs.bind] at h
        intro y M1 H1 f1 fd st1 t1 p1 fr1
        cases en : intOf d with
        | none => simp only [en] at h
        | some n =>
          obtain rfl := intOf_rep t1.rep en
          simp only [en] at h
          cases e : (r1[i]? : Option (Option Own)) with
          | none => simp only [e] at h
          | some o =>
            cases o with
            | none => simp only [e] at h
            | some o =>
              simp only [e] at h
              cases eo : ixO o n with
              | none => simp only [eo] at h
              | some d =>
                simp only [eo] at h
                obtain ⟨x', hx', ro⟩ := st1.env i _ e
                rw [hx] at hx'; cases hx'
                obtain ⟨z, rz, k⟩ := ixO_rep K st1.sub ro eo
                exact k Q (h z M1 H1 f1 [] st1 ⟨.v (rz.mono st1.view_le), by simp⟩ p1 (by simp))
theorem dx_ixV (i : Nat) {x : PySem.Str} {py pos : Pos} {b : Expr} {m : Mo Own} (hb : PE X b (tD g E S m)) (hN : X.N[i]? = some x := by rfl) (hv : Vis X.env.scope x := by first | exact Or.inl rfl | exact Or.inr (Or.inl rfl) | exact Or.inr (Or.inr rfl))
    (hs : PlainIx b := by intro _ _; rfl) (hd : (x == ("__debug__" : PySem.Str)) = false := by decide) (hcd : (x == ("__classdict__" : PySem.Str)) = false := by decide) : PE X (.Subscript (.Name x py) b pos) (tD g E S (mIxV i m)) :=
  PE.imp (pe_ix (ix_list.or ix_tup) (pe_var hN hv hd hcd) hb hs) fun s H Q q => imp_ixV X.K q
/-! ### x[i] = e, x.append(e), x.extend(e), x.pop(), x.pop(i): the list of slot i -/
/-- a change of slot i's list by values -/
def Chg (g : G) (t : V → List V → Hp → VK → Prop) (k : List Val → List Val → Option (Val × List Val)) : Prop :=
  ∀ (M H : Hp) (a : Addr) (vs : List V) (ds : List Val) (es : List Val) (xs : List V) (d : Val) (ds' : List Val) (Q : VK), Le M H → H a = some (.lst vs) → RepL g M ds vs → RepL g M es xs → M a = none → k ds es = some (d, ds') →
    (∀ z vs', Rep g M d z → RepL g M ds' vs' → Q z (upd H a (.lst vs'))) → t (.ref a) xs H Q
def mChg (S : Vw) (i : Nat) (kk : List Val → List Val → Option (Val × List Val)) (ms : Mo (List Own)) : Mo Own := fun r => match (r[i]? : Option (Option Own)) with
  | some (some (Own.l _)) => (ms r).bind fun es r1 => if S.fn i = true then .bad else match (r1[i]? : Option (Option Own)) with
    | some (some (Own.l ds)) => match kk ds (es.map Own.val) with
      | some (d, ds') => if okB S (.l ds') = true then .ok (.v d) (r1.set i (some (.l ds'))) else .bad
      | none => .bad
    | _ => .bad
  | _ => .bad
theorem new_upd {M H : Hp} {a : Addr} {vs vs' : List V} (le : Le M H) (tb : Tabs g.T H) (ha : H a = some (.lst vs)) (hM : M a = none) : NewI g a M H M (upd H a (.lst vs')) :=
  ⟨Le.refl M, fun b o e => by rw [upd_ne (fun z => by rw [z, hM] at e; cases e)]; exact le b o e, fun b o hb e _ => by rw [upd_ne hb]; exact e, fun b e => by
    by_cases hb : b = a
    · subst hb; rw [upd_same] at e; cases e
    · rw [upd_ne hb] at e; exact e, fun b o e => .inl e, tabs_updD tb ha (by intro ps q; cases q) (by intro q z; cases z)⟩
theorem imp_chg {i : Nat} {t : V → List V → Hp → VK → Prop} {kk : List Val → List Val → Option (Val × List Val)} (hk : Chg g t kk) {ms : Mo (List Own)} {s : L2.St} {H : Hp} {Q : VK} (h : tD g E S (mChg S i kk ms) s H Q) :
    ∃ x, s[i]? = some (some x) ∧ (∃ a vs, x = .ref a ∧ H a = some (.lst vs)) ∧ tA g E S ms s H fun xs H1 => t x xs H1 Q := by
  obtain ⟨r, M, f, st, h⟩ := h
  unfold mChg at h
  cases er : (r[i]? : Option (Option Own)) with
  | none => simp only [er] at h
  | some o =>
    cases o with
    | none => simp only [er] at h
    | some o =>
      cases o with
      | v d => simp only [er] at h
      | l dsr =>
        simp only [er] at h
        obtain ⟨_, a0, vs0, hx, _, ha0, _, _⟩ := own_at st er
        refine ⟨.ref a0, hx, ⟨a0, vs0, rfl, ha0⟩, r, M, f, st, ?_⟩
        cases hm : ms r with
        | bad => rw [hm] at h; exact h
        | ex n v => rw [hm] at h; exact h
        | ok es r1 =>
          simp only [hm, Rs.bind] at h
          intro xs M1 H1 f1 fd st1 t1 p1 fr1
          cases hS : S.fn i with
          | true => rw [if_pos hS] at h; exact h.elim
          | false =>
            rw [if_neg (by rw [hS]; simp)] at h
            cases e : (r1[i]? : Option (Option Own)) with
            | none => simp only [e] at h
            | some o =>
              cases o with
              | none => simp only [e] at h
              | some o =>
                cases o with
                | v d => simp only [e] at h
                | l ds0 =>
                  simp only [e] at h
                  obtain ⟨hi, a, vs, h1, h2, h3, h4, h5⟩ := own_at st1 e
                  rw [hx] at h1
                  cases h1
                  have haV : View S.fn M1 H1 f1 fd a0 = none := by
                    rw [view_out (fun j hj z => by have := st1.dis i j a0 (by rw [h2]; simp) z; subst this; rw [hS] at hj; cases hj) (fun z => (t1.sep a0 z).2.2 i (by rw [h2]; simp))]; exact h5
                  cases hF : kk ds0 (es.map Own.val) with
                  | none => simp only [hF] at h
                  | some dd =>
                    obtain ⟨d, ds1⟩ := dd
                    simp only [hF] at h
                    by_cases hok : okB S (.l ds1) = true
                    · rw [if_pos hok] at h
                      refine hk (View S.fn M1 H1 f1 fd) H1 a0 vs ds0 _ xs d ds1 Q st1.view_sub h3 (h4.mono st1.view_le) (t1.vals st1) haV hF fun z vs' rz rv => ?_
                      have nw := new_upd (vs' := vs') st1.view_sub st1.tab h3 haV
                      obtain ⟨M2, st2, p2, l1, l2, _, _, l5⟩ := landI st1 p1 fr1 (fun b hb => ⟨(t1.sep b hb).1, (t1.sep b hb).2.2⟩) hi hS hx h2 nw upd_same haV rv hok
                      exact h z M2 _ f1 [] st2 ⟨.v (rz.mono l2), by simp⟩ p2 (by simp)
                    · rw [if_neg hok] at h; exact h.elim
def kAppend : List Val → List Val → Option (Val × List Val)
  | ds, [e] => if ds.length < 16777216 then some (.non, ds ++ [e]) else none
  | _, _ => none
def kExtend : List Val → List Val → Option (Val × List Val)
  | ds, [.lst es] => if ds.length + es.length ≤ 16777216 then some (.non, ds ++ es) else none
  | _, _ => none
def kPop : List Val → List Val → Option (Val × List Val)
  | ds, [] => match ds[ds.length - 1]? with
    | some d => some (d, ds.dropLast)
    | none => none
  | _, _ => none
def kPopAt : List Val → List Val → Option (Val × List Val)
  | ds, [.int n] => if -(2 ^ 63) ≤ n ∧ n < 2 ^ 63 then match seqIndex? n ds.length with
      | some j => match ds[j]? with
        | some d => some (d, ds.eraseIdx j)
        | none => none
      | none => none
    else none
  | _, _ => none
theorem chg_append : Chg g rAppend kAppend := by
  intro M H a vs ds es xs d ds' Q le ha r1 r2 hM h q
  cases r2 with
  | nil => simp [kAppend] at h
  | cons u v =>
    cases v with
    | cons _ _ => simp [kAppend] at h
    | nil =>
      simp only [kAppend] at h
      split at h
      · cases h
        rename_i hz
        exact ⟨a, vs, _, rfl, rfl, ha, by rw [sizeLine_val, ← r1.length]; exact hz, q .non _ .non (r1.append (.cons u .nil))⟩
      · cases h
theorem chg_extend : Chg g rExtend kExtend := by
  intro M H a vs ds es xs d ds' Q le ha r1 r2 hM h q
  cases r2 with
  | nil => simp [kExtend] at h
  | cons u v =>
    cases v with
    | cons _ _ => simp [kExtend] at h
    | nil =>
      cases u with
      | lst h1 h2 =>
        simp only [kExtend] at h
        split at h
        · cases h
          rename_i hz
          exact ⟨a, _, vs, _, rfl, rfl, ha, le _ _ h1, by rw [sizeLine_val, ← r1.length, ← h2.length]; exact hz, q .non _ .non (r1.append h2)⟩
        · cases h
      | _ => simp [kExtend] at h
theorem chg_pop : Chg g rPop kPop := by
  intro M H a vs ds es xs d ds' Q le ha r1 r2 hM h q
  cases r2 with
  | cons u v => simp [kPop] at h
  | nil =>
    simp only [kPop] at h
    split at h
    · rename_i e
      cases h
      obtain ⟨x, hx, rx⟩ := r1.get e
      exact ⟨a, vs, x, rfl, rfl, ha, by rw [← r1.length]; exact hx, q x _ rx r1.dropLast⟩
    · cases h
theorem chg_popAt : Chg g rPopAt kPopAt := by
  intro M H a vs ds es xs d ds' Q le ha r1 r2 hM h q
  cases r2 with
  | nil => simp [kPopAt] at h
  | cons u v =>
    cases v with
    | cons _ _ => cases u <;> simp [kPopAt] at h
    | nil =>
      cases u with
      | int n =>
        simp only [kPopAt] at h
        split at h
        · rename_i hn
          split at h
          · rename_i j ej
            split at h
            · rename_i e
              cases h
              obtain ⟨x, hx, rx⟩ := r1.get e
              exact ⟨a, vs, n, j, x, rfl, rfl, ha, hn.1, hn.2, by rw [← r1.length]; exact ej, hx, q x _ rx (r1.eraseIdx j)⟩
            · cases h
          · cases h
        · cases h
      | _ => simp [kPopAt] at h
variable {T : String} {name : PySem.Str} {id : String} {o e : Expr} {es : List Expr} {apos cpos : Pos} {x : PySem.Str} {py : Pos}
/-- x.m(e, ..), a change of the list -/
theorem dx_chg (i : Nat) {r : V → List V → Hp → VK → Prop} {kk : List Val → List Val → Option (Val × List Val)} {ms : Mo (List Own)} (slot : Slot "list" name id) (hty : typeOf (.builtin id) = pure (.type "method_descriptor")) (hm : MtR X id r) (hk : Chg g r kk) (ha : PA X (e :: es) (tA g E S ms))
    (hN : X.N[i]? = some x := by rfl) (hv : Vis X.env.scope x := by first | exact Or.inl rfl | exact Or.inr (Or.inl rfl) | exact Or.inr (Or.inr rfl)) (hd : (x == ("__debug__" : PySem.Str)) = false := by decide) (hcd : (x == ("__classdict__" : PySem.Str)) = false := by decide)
    (hbase : attributeBase (.Name x py) name X.env (eval (.Name x py) X.env) = eval (.Name x py) X.env := by rfl)
    (hfew : ((backTo cpos (starEach (e :: es) X.env)).all (fun x => !x.1) && (backToKw cpos (keywordEach [] X.env)).all (fun x => x.1.isSome)
      && decide ((e :: es).length + ([] : List Keyword).length + (if ([] : List Keyword).isEmpty then 0 else 1) < 30)) = true := by rfl)
    (hline : (apos.endLine == cpos.line) = true := by rfl) (hs : starEach (e :: es) X.env = (false, eval e X.env) :: starEach es X.env := by rfl) (hplain : (backTo cpos (starEach es X.env)).any (·.1) = false := by rfl) :
    PE X (.Call (.Attribute (.Name x py) name apos) (e :: es) [] cpos) (tD g E S (mChg S i kk ms)) :=
  PE.imp (pe_bm PySem.F.plainAttrs_list slot hty hm (pe_var hN hv hd hcd) ha hbase hfew hline hs hplain) fun s H Q q => by
    obtain ⟨x, hx, ⟨a, vs, rfl, hl⟩, h⟩ := imp_chg hk q
    exact ⟨.ref a, hx, .inl ⟨rfl, vs, .of hl⟩, h⟩
theorem dx_chg0 (i : Nat) {r : V → List V → Hp → VK → Prop} {kk : List Val → List Val → Option (Val × List Val)} (slot : Slot "list" name id) (hty : typeOf (.builtin id) = pure (.type "method_descriptor")) (hm : MtR X id r) (hk : Chg g r kk)
    (hN : X.N[i]? = some x := by rfl) (hv : Vis X.env.scope x := by first | exact Or.inl rfl | exact Or.inr (Or.inl rfl) | exact Or.inr (Or.inr rfl)) (hd : (x == ("__debug__" : PySem.Str)) = false := by decide) (hcd : (x == ("__classdict__" : PySem.Str)) = false := by decide)
    (hbase : attributeBase (.Name x py) name X.env (eval (.Name x py) X.env) = eval (.Name x py) X.env := by rfl) (hline : (apos.endLine == cpos.line) = true := by rfl) :
    PE X (.Call (.Attribute (.Name x py) name apos) [] [] cpos) (tD g E S (mChg S i kk mNil)) :=
  PE.imp (pe_bm0 PySem.F.plainAttrs_list slot hty hm (pe_var hN hv hd hcd) hbase hline) fun s H Q q => by
    obtain ⟨x, hx, ⟨a, vs, rfl, hl⟩, h⟩ := imp_chg hk q
    exact ⟨.ref a, hx, .inl ⟨rfl, vs, .of hl⟩, imp_nil h⟩
theorem dx_append (i : Nat) {ms : Mo (List Own)} (ha : PA X [e] (tA g E S ms))
    (hN : X.N[i]? = some x := by rfl) (hv : Vis X.env.scope x := by first | exact Or.inl rfl | exact Or.inr (Or.inl rfl) | exact Or.inr (Or.inr rfl)) (hd : (x == ("__debug__" : PySem.Str)) = false := by decide) (hcd : (x == ("__classdict__" : PySem.Str)) = false := by decide)
    (hbase : attributeBase (.Name x py) "append" X.env (eval (.Name x py) X.env) = eval (.Name x py) X.env := by rfl)
    (hfew : ((backTo cpos (starEach [e] X.env)).all (fun x => !x.1) && (backToKw cpos (keywordEach [] X.env)).all (fun x => x.1.isSome)
      && decide ([e].length + ([] : List Keyword).length + (if ([] : List Keyword).isEmpty then 0 else 1) < 30)) = true := by rfl)
    (hline : (apos.endLine == cpos.line) = true := by rfl) (hs : starEach [e] X.env = (false, eval e X.env) :: starEach [] X.env := by rfl) :
    PE X (.Call (.Attribute (.Name x py) "append" apos) [e] [] cpos) (tD g E S (mChg S i kAppend ms)) :=
  dx_chg i PySem.F.slot_list_append PySem.F.type_list_append mt_append chg_append ha hN hv hd hcd hbase hfew hline hs rfl
theorem dx_extend (i : Nat) {ms : Mo (List Own)} (ha : PA X [e] (tA g E S ms))
    (hN : X.N[i]? = some x := by rfl) (hv : Vis X.env.scope x := by first | exact Or.inl rfl | exact Or.inr (Or.inl rfl) | exact Or.inr (Or.inr rfl)) (hd : (x == ("__debug__" : PySem.Str)) = false := by decide) (hcd : (x == ("__classdict__" : PySem.Str)) = false := by decide)
    (hbase : attributeBase (.Name x py) "extend" X.env (eval (.Name x py) X.env) = eval (.Name x py) X.env := by rfl)
    (hfew : ((backTo cpos (starEach [e] X.env)).all (fun x => !x.1) && (backToKw cpos (keywordEach [] X.env)).all (fun x => x.1.isSome)
      && decide ([e].length + ([] : List Keyword).length + (if ([] : List Keyword).isEmpty then 0 else 1) < 30)) = true := by rfl)
    (hline : (apos.endLine == cpos.line) = true := by rfl) (hs : starEach [e] X.env = (false, eval e X.env) :: starEach [] X.env := by rfl) :
    PE X (.Call (.Attribute (.Name x py) "extend" apos) [e] [] cpos) (tD g E S (mChg S i kExtend ms)) :=
  dx_chg i PySem.F.slot_list_extend PySem.F.type_list_extend mt_extend chg_extend ha hN hv hd hcd hbase hfew hline hs rfl
theorem dx_popAt (i : Nat) {ms : Mo (List Own)} (ha : PA X [e] (tA g E S ms))
    (hN : X.N[i]? = some x := by rfl) (hv : Vis X.env.scope x := by first | exact Or.inl rfl | exact Or.inr (Or.inl rfl) | exact Or.inr (Or.inr rfl)) (hd : (x == ("__debug__" : PySem.Str)) = false := by decide) (hcd : (x == ("__classdict__" : PySem.Str)) = false := by decide)
    (hbase : attributeBase (.Name x py) "pop" X.env (eval (.Name x py) X.env) = eval (.Name x py) X.env := by rfl)
    (hfew : ((backTo cpos (starEach [e] X.env)).all (fun x => !x.1) && (backToKw cpos (keywordEach [] X.env)).all (fun x => x.1.isSome)
      && decide ([e].length + ([] : List Keyword).length + (if ([] : List Keyword).isEmpty then 0 else 1) < 30)) = true := by rfl)
    (hline : (apos.endLine == cpos.line) = true := by rfl) (hs : starEach [e] X.env = (false, eval e X.env) :: starEach [] X.env := by rfl) :
    PE X (.Call (.Attribute (.Name x py) "pop" apos) [e] [] cpos) (tD g E S (mChg S i kPopAt ms)) :=
  dx_chg i PySem.F.slot_list_pop PySem.F.type_list_pop mt_popAt chg_popAt ha hN hv hd hcd hbase hfew hline hs rfl
theorem dx_pop (i : Nat) (hN : X.N[i]? = some x := by rfl) (hv : Vis X.env.scope x := by first | exact Or.inl rfl | exact Or.inr (Or.inl rfl) | exact Or.inr (Or.inr rfl)) (hd : (x == ("__debug__" : PySem.Str)) = false := by decide) (hcd : (x == ("__classdict__" : PySem.Str)) = false := by decide)
    (hbase : attributeBase (.Name x py) "pop" X.env (eval (.Name x py) X.env) = eval (.Name x py) X.env := by rfl) (hline : (apos.endLine == cpos.line) = true := by rfl) :
    PE X (.Call (.Attribute (.Name x py) "pop" apos) [] [] cpos) (tD g E S (mChg S i kPop mNil)) :=
  dx_chg0 i PySem.F.slot_list_pop PySem.F.type_list_pop mt_pop chg_pop hN hv hd hcd hbase hline
def kSetIx : List Val → List Val → Option (Val × List Val)
  | ds, [d, .int n] => (ixN ds.length n).map fun j => (.non, ds.set j d)
  | _, _ => none
theorem chg_set : Chg g (fun o xs H Q => ∃ v k, xs = [v, k] ∧ rSetL o k v H fun H' => Q .non H') kSetIx := by
  intro M H a vs ds es xs d ds' Q le ha r1 r2 hM h q
  cases r2 with
  | nil => simp [kSetIx] at h
  | cons u v =>
    cases v with
    | nil => simp [kSetIx] at h
    | cons u2 v =>
      cases v with
      | cons _ _ => cases u2 <;> simp [kSetIx] at h
      | nil =>
        cases u2 with
        | int n =>
          simp only [kSetIx] at h
          cases e : ixN ds.length n with
          | none => rw [e] at h; cases h
          | some j =>
            rw [e] at h
            cases h
            exact ⟨_, _, rfl, a, vs, n, j, rfl, rfl, ha, by rw [← r1.length]; exact e, q .non _ .non (r1.set u j)⟩
        | _ => simp [kSetIx] at h
def sSetIx (S : Vw) (i : Nat) (m mi : Mo Own) : Ms := sExp (mChg S i kSetIx (mCons m (mCons mi mNil)))
theorem ds_setIx (i : Nat) {ie : Expr} {m mi : Mo Own} {pos spos : Pos} (he : PE X e (tD g E S m)) (hi : PE X ie (tD g E S mi))
    (hN : X.N[i]? = some x := by rfl) (hv : Vis X.env.scope x := by first | exact Or.inl rfl | exact Or.inr (Or.inl rfl) | exact Or.inr (Or.inr rfl)) (hd : (x == ("__debug__" : PySem.Str)) = false := by decide) (hcd : (x == ("__classdict__" : PySem.Str)) = false := by decide)
    (ha : ∀ v, assign (.Subscript (.Name x py) ie pos) X.env v = (do
      let ov ← holding [v] (eval (.Name x py) X.env)
      let iv ← holding [v, ov] (eval ie X.env)
      standAt pos
      holding [v, ov, iv] (setItem ov iv v)
      release [v, ov, iv] []) := by intro _; rfl)
    (hs : swapsWithSole [.Subscript (.Name x py) ie pos] e spos.line X.env = pure false := by rfl) (hw : swappedStores [.Subscript (.Name x py) ie pos] e X.env = pure none := by rfl)
    (h1 : (assignEach [.Subscript (.Name x py) ie pos] X.env).map (·.2) = [assign (.Subscript (.Name x py) ie pos) X.env] := by rfl) :
    PS X (.Assign [.Subscript (.Name x py) ie pos] e spos) (tS g E pn (sSetIx S i m mi)) :=
  PS.imp (ps_asg he (pg_sub (pe_var hN hv hd hcd) hi set_list ha) hs hw h1) fun D s H q => by
    obtain ⟨r, M, f, st, p, q⟩ := q
    have q2 : tD g E S (mChg S i kSetIx (mCons m (mCons mi mNil))) s H (fun _ H1 => D.nx s H1) := by
      refine ⟨r, M, f, st, ?_⟩
      unfold sSetIx sExp at q
      cases e : mChg S i kSetIx (mCons m (mCons mi mNil)) r with
      | bad => rw [e] at q; exact q
      | ex n v => rw [e] at q; exact q.of_no
      | ok d r1 =>
        simp only [e] at q
        intro x M1 H1 f1 fd st1 t1 p1 q1
        exact q s M1 H1 f1 st1 p p1.ss
    obtain ⟨x, hx, _, h⟩ := imp_chg chg_set q2
    have h2 := imp_two h
    obtain ⟨r', M', f', st', h2⟩ := h2
    refine ⟨r', M', f', st', ?_⟩
    cases e1 : m r' with
    | bad => rw [e1] at h2; exact h2
    | ex n v => rw [e1] at h2; exact h2
    | ok d r1 =>
      rw [e1] at h2
      intro v M1 H1 f1 fd st1 t1 p1 q1
      refine ⟨x, hx, ?_⟩
      obtain ⟨r3, M3, f3, st3, h3⟩ := h2 v M1 H1 f1 fd st1 t1 p1 q1
      refine ⟨r3, M3, f3, st3, ?_⟩
      cases e3 : mi r3 with
      | bad => rw [e3] at h3; exact h3
      | ex n v => rw [e3] at h3; exact h3
      | ok d4 r4 =>
        rw [e3] at h3
        intro y M5 H5 f5 fd5 st5 t5 p5 q5
        obtain ⟨v', k', ev, h6⟩ := h3 y M5 H5 f5 fd5 st5 t5 p5 q5
        injection ev with ev1 ev2
        injection ev2 with ev2 _
        subst ev1 ev2
        exact h6
end
end KS
set_option Elab.async false
set_option linter.all false
set_option maxRecDepth 100000
set_option maxHeartbeats 4000000
namespace KS
open PySem PySem.Spec PyProof.Rows L2
open LamX (Tabs TabS)

section
variable {g : G} {E : XK} {S : Vw} {k : Nat} {X : Cx} {pn : Option V}
/-- a pure value: nothing is made -/
theorem Pure.val {t : List V → Hp → VK → Prop} {kk : List Val → Option Own} (h : ∀ (M H : Hp) (xs : List V) (ds : List Val) (o : Own), Le M H → RepL g M ds xs → kk ds = some o → ∃ d z, o = .v d ∧ Rep g M d z ∧ ∀ Q : VK, Q z H → t xs H Q) : Pure g t kk := by
  intro M H xs ds o Q le tb r e q
  obtain ⟨d, z, rfl, rz, k⟩ := h M H xs ds o le r e
  exact k Q (q z M H [] (.refl le tb) (.v rz) (by simp))
/-- two values -/
theorem repL2 {M : Hp} {ds : List Val} {xs : List V} (r : RepL g M ds xs) {d e : Val} (h : ds = [d, e]) : ∃ x y, xs = [x, y] ∧ Rep g M d x ∧ Rep g M e y := by
  subst h
  cases r with
  | cons a r =>
    cases r with
    | cons b r => cases r; exact ⟨_, _, rfl, a, b⟩
theorem repL1 {M : Hp} {ds : List Val} {xs : List V} (r : RepL g M ds xs) {d : Val} (h : ds = [d]) : ∃ x, xs = [x] ∧ Rep g M d x := by
  subst h
  cases r with
  | cons a r => cases r; exact ⟨_, rfl, a⟩
theorem Rep.intE {M : Hp} {n : Int} {x : V} (r : Rep g M (.int n) x) : x = .int n := by cases r; rfl
theorem Rep.strE {M : Hp} {n : PySem.Str} {x : V} (r : Rep g M (.str n) x) : x = .str n := by cases r; rfl
theorem Rep.blE {M : Hp} {n : Bool} {x : V} (r : Rep g M (.bl n) x) : x = .bl n := by cases r; rfl
theorem Rep.tupE {M : Hp} {ds : List Val} {x : V} (r : Rep g M (.tup ds) x) : ∃ a vs, x = .ref a ∧ M a = some (.tup vs) ∧ RepL g M ds vs := by
  cases r with
  | tup h t => exact ⟨_, _, rfl, h, t⟩
theorem Rep.lstE {M : Hp} {ds : List Val} {x : V} (r : Rep g M (.lst ds) x) : ∃ a vs, x = .ref a ∧ M a = some (.lst vs) ∧ RepL g M ds vs := by
  cases r with
  | lst h t => exact ⟨_, _, rfl, h, t⟩
/-- a new list -/
theorem new_lst {U H : Hp} {T : Addr} {ds : List Val} {xs : List V} (hT : H T = none) (l : Le U H) (tb : Tabs g.T H) (t : RepL g U ds xs) : New g U H U (upd H T (.lst xs)) ∧ RepO g U (upd H T (.lst xs)) (.l ds) (.ref T) [T] ∧ ∀ a ∈ [T], H a = none ∧ U a = none := by
  have hU : U T = none := by
    cases e : U T with
    | none => rfl
    | some o => rw [l _ _ e] at hT; cases hT
  have k1 : Le H (upd H T (.lst xs)) := fun a o e => by rw [upd_ne (fun z => by rw [z, hT] at e; cases e)]; exact e
  refine ⟨⟨Le.refl U, l.trans k1, fun a o e _ => k1 a o e, fun a e => ?_, fun a o e => .inl e, tb.ext k1⟩, .l upd_same t, fun a ha => ?_⟩
  · by_cases h : a = T
    · subst h; exact hT
    · rw [upd_ne h] at e; exact e
  · obtain rfl : a = T := by simpa using ha
    exact ⟨hT, hU⟩
/-! ### arithmetic -/
def bigN : Nat := 2 ^ 4000
def small (n : Int) : Bool := decide (n.natAbs < bigN)
theorem small_log {n : Int} (h : small n = true) : n.natAbs.log2 < 4001 := by
  have h : n.natAbs < 2 ^ 4000 := of_decide_eq_true h
  by_cases hz : n.natAbs = 0
  · rw [hz]; decide
  · have := (Nat.log2_lt hz).mpr h
    omega
def kAdd : List Val → Option Own
  | [.int a, .int b] => some (.v (.int (a + b)))
  | [.str a, .str b] => if a.length + b.length ≤ 16777216 then some (.v (.str (a ++ b))) else none
  | [.tup a, .tup b] => if a.length + b.length ≤ 16777216 then some (.v (.tup (a ++ b))) else none
  | [.lst a, .lst b] => if a.length + b.length ≤ 16777216 then some (.l (a ++ b)) else none
  | _ => none
def rAddA (K : PySem.W.Frag) : R2 := fun x y H Q => (∃ i j, x = .int i ∧ y = .int j ∧ Q (.int (i + j)) H) ∨ (∃ i j, x = .str i ∧ y = .str j ∧ i.length + j.length ≤ sizeLine ∧ Q (.str (i ++ j)) H) ∨ rCatA K x y H Q ∨ rCat x y H Q
theorem op_addA : OpR X (binaryOp .Add) (rAddA X.K) := op_add.or (op_add_str.or (op_catA.or op_cat))
theorem pure_add (K : PySem.W.Frag) : Pure g (R2p (rAddA K)) kAdd := by
  intro M H xs ds o Q le tb r e q
  unfold kAdd at e
  split at e
  · obtain ⟨x, y, rfl, r1, r2⟩ := repL2 r rfl
    cases r1.intE; cases r2.intE; cases e
    exact ⟨_, _, rfl, .inl ⟨_, _, rfl, rfl, q _ M H [] (.refl le tb) (.v (.int _)) (by simp)⟩⟩
  · obtain ⟨x, y, rfl, r1, r2⟩ := repL2 r rfl
    cases r1.strE; cases r2.strE
    split at e
    · cases e
      rename_i hz
      exact ⟨_, _, rfl, .inr (.inl ⟨_, _, rfl, rfl, by rw [sizeLine_val]; exact hz, q _ M H [] (.refl le tb) (.v (.str _)) (by simp)⟩)⟩
    · cases e
  · rename_i a b
    obtain ⟨x, y, rfl, r1, r2⟩ := repL2 r rfl
    obtain ⟨p, vs, rfl, h1, t1⟩ := r1.tupE
    obtain ⟨p2, ws, rfl, h2, t2⟩ := r2.tupE
    split at e
    · cases e
      rename_i hz
      refine ⟨_, _, rfl, .inr (.inr (.inl ⟨p, p2, vs, ws, rfl, rfl, .of (le _ _ h1), .of (le _ _ h2), by rw [sizeLine_val, ← t1.length, ← t2.length]; exact hz, fun he => ?_, fun _ he => ?_, fun _ _ T hT => ?_⟩))⟩
      · have : a = [] := by
          have := t1.length; rw [he] at this; exact List.eq_nil_of_length_eq_zero this
        rw [this, List.nil_append] at q
        exact q _ M H [] (.refl le tb) (.v (.tup h2 t2)) (by simp)
      · have : b = [] := by
          have := t2.length; rw [he] at this; exact List.eq_nil_of_length_eq_zero this
        rw [this, List.append_nil] at q
        exact q _ M H [] (.refl le tb) (.v (.tup h1 t1)) (by simp)
      · obtain ⟨U, nw, rz⟩ := new_tup hT le tb (t1.append t2)
        exact q _ U _ [] nw (.v rz) (by simp)
    · cases e
  · rename_i a b
    obtain ⟨x, y, rfl, r1, r2⟩ := repL2 r rfl
    obtain ⟨p, vs, rfl, h1, t1⟩ := r1.lstE
    obtain ⟨p2, ws, rfl, h2, t2⟩ := r2.lstE
    split at e
    · cases e
      rename_i hz
      refine ⟨_, _, rfl, .inr (.inr (.inr ⟨p, p2, vs, ws, rfl, rfl, le _ _ h1, le _ _ h2, by rw [sizeLine_val, ← t1.length, ← t2.length]; exact hz, fun T hT => ?_⟩))⟩
      obtain ⟨nw, ro, hz⟩ := new_lst hT le tb (t1.append t2)
      exact q _ M _ [T] nw ro hz
    · cases e
  · cases e
def kInt2 (C : Int → Int → Bool) (f : Int → Int → Val) : List Val → Option Own
  | [.int a, .int b] => if C a b = true then some (.v (f a b)) else none
  | _ => none
theorem pure_int2 {C : Int → Int → Prop} {B : Int → Int → Bool} {f : Int → Int → Val} {fv : Int → Int → V} (hC : ∀ i j, B i j = true → C i j) (hf : ∀ M i j, Rep g M (f i j) (fv i j)) : Pure g (R2p (rI C fv)) (kInt2 B f) := by
  refine Pure.val fun M H xs ds o le r e => ?_
  unfold kInt2 at e
  split at e
  · obtain ⟨x, y, rfl, r1, r2⟩ := repL2 r rfl
    cases r1.intE; cases r2.intE
    split at e
    · cases e
      rename_i hb
      exact ⟨_, _, rfl, hf M _ _, fun Q q => ⟨_, _, rfl, _, _, rfl, rfl, hC _ _ hb, q⟩⟩
    · cases e
  · cases e
theorem pure_int2z {f : Int → Int → Val} {fv : Int → Int → V} (hf : ∀ M i j, Rep g M (f i j) (fv i j)) : Pure g (R2p (rI0 fv)) (kInt2 (fun _ _ => true) f) := by
  refine Pure.val fun M H xs ds o le r e => ?_
  unfold kInt2 at e
  split at e
  · obtain ⟨x, y, rfl, r1, r2⟩ := repL2 r rfl
    cases r1.intE; cases r2.intE
    rw [if_pos rfl] at e
    cases e
    exact ⟨_, _, rfl, hf M _ _, fun Q q => ⟨_, _, rfl, _, _, rfl, rfl, q⟩⟩
  · cases e
def kSub := kInt2 (fun _ _ => true) fun a b => .int (a - b)
theorem pure_sub : Pure g (R2p (rI0 fun i j => .int (i - j))) kSub := pure_int2z fun _ _ _ => .int _
def kMul := kInt2 (fun a b => small a && small b) fun a b => .int (a * b)
theorem pure_mul : Pure g (R2p (rI CMulW fun i j => .int (i * j))) kMul := pure_int2 (fun i j h => by
  have h : small i = true ∧ small j = true := by simpa using h
  have h1 := small_log h.1
  have h2 := small_log h.2
  show _ + _ < 1000000
  omega) fun _ _ _ => .int _
def kMod := kInt2 (fun _ b => decide (0 < b)) fun a b => .int (a % b)
theorem pure_mod : Pure g (R2p (rI (fun _ j => 0 < j) fun i j => .int (i % j))) kMod := pure_int2 (fun i j h => of_decide_eq_true h) fun _ _ _ => .int _
def kFdiv := kInt2 (fun _ b => decide (0 < b) && small b) fun a b => .int (a / b)
theorem pure_fdiv : Pure g (R2p (rI CDivW fun i j => .int (i / j))) kFdiv := pure_int2 (fun i j h => by
  have h : 0 < j ∧ small j = true := by simpa using h
  exact ⟨h.1, by have := small_log h.2; omega⟩) fun _ _ _ => .int _
def CPowW (i j : Int) : Prop := 0 ≤ j ∧ j ≤ 1000 ∧ i.natAbs < bigN
theorem op_powW : OpR X (binaryOp .Pow) (rI CPowW fun i j => .int (i ^ j.toNat)) := opI fun i j _ _ _ _ _ hc q => by
  have h0 : small i = true := decide_eq_true hc.2.2
  have h1 := small_log h0
  have h2 : Builtin.Int.intBits i ≤ i.natAbs.log2 + 1 := by
    unfold Builtin.Int.intBits
    split <;> omega
  refine pow_int hc.1 ?_ q
  have h3 : (Builtin.Int.intBits i : Int) ≤ 4001 := by omega
  have h4 : (Builtin.Int.intBits i : Int) * j ≤ 4001 * 1000 := by
    refine Int.le_trans (Int.mul_le_mul_of_nonneg_right h3 hc.1) ?_
    exact Int.mul_le_mul_of_nonneg_left hc.2.1 (by omega)
  have h5 : (4001 * 1000 : Int) ≤ 2 ^ 27 := by decide
  omega
def kPow := kInt2 (fun a b => decide (0 ≤ b) && decide (b ≤ 1000) && small a) fun a b => .int (a ^ b.toNat)
theorem pure_pow : Pure g (R2p (rI CPowW fun i j => .int (i ^ j.toNat))) kPow := pure_int2 (fun i j h => by
  simp only [Bool.and_eq_true, decide_eq_true_eq] at h
  exact ⟨h.1.1, h.1.2, of_decide_eq_true h.2⟩) fun _ _ _ => .int _
/-! ### comparisons of ints -/
def kLt := kInt2 (fun _ _ => true) fun a b => .bl (decide (a < b))
def kLe := kInt2 (fun _ _ => true) fun a b => .bl (decide (a ≤ b))
def kGt := kInt2 (fun _ _ => true) fun a b => .bl (decide (b < a))
def kGe := kInt2 (fun _ _ => true) fun a b => .bl (decide (b ≤ a))
theorem pure_lt : Pure g (R2p (rI0 fun i j => .bl (decide (i < j)))) kLt := pure_int2z fun _ _ _ => .bl _
theorem pure_le : Pure g (R2p (rI0 fun i j => .bl (decide (i ≤ j)))) kLe := pure_int2z fun _ _ _ => .bl _
theorem pure_gt : Pure g (R2p (rI0 fun i j => .bl (decide (j < i)))) kGt := pure_int2z fun _ _ _ => .bl _
theorem pure_ge : Pure g (R2p (rI0 fun i j => .bl (decide (j ≤ i)))) kGe := pure_int2z fun _ _ _ => .bl _
/-! ### is None -/
def isNon : Val → Bool
  | .non => true
  | _ => false
def kIsN : List Val → Option Own
  | [d, .non] => some (.v (.bl (isNon d)))
  | _ => none
def kNotN : List Val → Option Own
  | [d, .non] => some (.v (.bl (!isNon d)))
  | _ => none
theorem Rep.is_non {M : Hp} {d : Val} {x : V} (r : Rep g M d x) : decide (x = .non) = isNon d := by
  cases r <;> rfl
theorem pure_isN : Pure g (R2p (fun x y H Q => y = .non ∧ Q (.bl (decide (x = .non))) H)) kIsN := by
  refine Pure.val fun M H xs ds o le r e => ?_
  unfold kIsN at e
  split at e
  · obtain ⟨x, y, rfl, r1, r2⟩ := repL2 r rfl
    cases r2; cases e
    refine ⟨_, _, rfl, .bl _, fun Q q => ⟨_, _, rfl, rfl, ?_⟩⟩
    rw [r1.is_non]; exact q
  · cases e
theorem pure_notN : Pure g (R2p (fun x y H Q => y = .non ∧ Q (.bl (!decide (x = .non))) H)) kNotN := by
  refine Pure.val fun M H xs ds o le r e => ?_
  unfold kNotN at e
  split at e
  · obtain ⟨x, y, rfl, r1, r2⟩ := repL2 r rfl
    cases r2; cases e
    refine ⟨_, _, rfl, .bl _, fun Q q => ⟨_, _, rfl, rfl, ?_⟩⟩
    rw [r1.is_non]; exact q
  · cases e
/-! ### data: ==, !=, in, < -/
mutual
def toPD : Val → Option PyData
  | .non => some .none
  | .bl b => some (.bool b)
  | .int i => some (.int i)
  | .str s => some (.str s)
  | .tup xs => (toPDs xs).map .tuple
  | .lst xs => (toPDs xs).map .list
  | _ => none
def toPDs : List Val → Option (List PyData)
  | [] => some []
  | x :: xs => match toPD x, toPDs xs with
    | some d, some ds => some (d :: ds)
    | _, _ => none
end
mutual
theorem dp_of {M H : Hp} (K : PySem.W.Frag) (le : Le M H) : ∀ {d : Val} {x : V} {p : PyData}, Rep g M d x → toPD d = some p → Dp K H x p
  | _, _, _, .non, e => by simp only [toPD, Option.some.injEq] at e; subst e; exact .non
  | _, _, _, .bl b, e => by simp only [toPD, Option.some.injEq] at e; subst e; exact .bl b
  | _, _, _, .int b, e => by simp only [toPD, Option.some.injEq] at e; subst e; exact .int b
  | _, _, _, .str b, e => by simp only [toPD, Option.some.injEq] at e; subst e; exact .str b
  | _, _, _, .tup (ds := ds) h t, e => by
    simp only [toPD] at e
    cases q : toPDs ds with
    | none => rw [q] at e; cases e
    | some ps =>
      rw [q] at e; cases e
      exact .tup (.of (le _ _ h)) (dps_of K le t q)
  | _, _, _, .lst (ds := ds) h t, e => by
    simp only [toPD] at e
    cases q : toPDs ds with
    | none => rw [q] at e; cases e
    | some ps =>
      rw [q] at e; cases e
      exact .lst (.of (le _ _ h)) (dps_of K le t q)
  | _, _, _, .scr _, e => by simp [toPD] at e
  | _, _, _, .exc _ _ _ _, e => by simp [toPD] at e
  | _, _, _, .ty _, e => by simp [toPD] at e
  | _, _, _, .cls _, e => by simp [toPD] at e
  | _, _, _, .lam _ _, e => by simp [toPD] at e
theorem dps_of {M H : Hp} (K : PySem.W.Frag) (le : Le M H) : ∀ {ds : List Val} {xs : List V} {ps : List PyData}, RepL g M ds xs → toPDs ds = some ps → DpAll K H xs ps
  | _, _, _, .nil, e => by simp only [toPDs, Option.some.injEq] at e; subst e; exact .nil
  | _, _, _, .cons (d := d) (ds := ds) h t, e => by
    simp only [toPDs] at e
    cases q1 : toPD d with
    | none => rw [q1] at e; cases e
    | some p =>
      cases q2 : toPDs ds with
      | none => rw [q1, q2] at e; cases e
      | some ps =>
        rw [q1, q2] at e; cases e
        exact .cons (dp_of K le h q1) (dps_of K le t q2)
end
/-- == of two worths, where it is told -/
def veq (d e : Val) : Option Bool := match toPD d, toPD e with
  | some p, some q => if SeqAt.shaped p && SeqAt.shaped q then some (PyData.eqv p q) else none
  | _, _ => none
def kEq : List Val → Option Own
  | [.str a, .str b] => some (.v (.bl (decide (a = b))))
  | [d, e] => (veq d e).map fun b => .v (.bl b)
  | _ => none
def kNe : List Val → Option Own
  | [.str a, .str b] => some (.v (.bl (!decide (a = b))))
  | [d, e] => (veq d e).map fun b => .v (.bl (!b))
  | _ => none
theorem veq_some {d e : Val} {b : Bool} (h : veq d e = some b) : ∃ p q, toPD d = some p ∧ toPD e = some q ∧ SeqAt.shaped p = true ∧ SeqAt.shaped q = true ∧ b = PyData.eqv p q := by
  unfold veq at h
  split at h
  · rename_i p q e1 e2
    split at h
    · rename_i hs
      cases h
      rw [Bool.and_eq_true] at hs
      exact ⟨p, q, e1, e2, hs.1, hs.2, rfl⟩
    · cases h
  · cases h
/-- texts too -/
def rEqS (K : PySem.W.Frag) : R2 := fun x y H Q => (∃ a b, x = .str a ∧ y = .str b ∧ Q (.bl (decide (a = b))) H) ∨ rEqD K x y H Q
theorem op_eqS {X : Cx} (hu : X.A.units + 64 < cLine) : OpR X (compareOp .Eq) (rEqS X.K) := by
  intro pins s σ H x y v u Q I rx ry h
  rcases h with ⟨a, b, rfl, rfl, q⟩ | h
  · exact op_eq pins s σ H _ _ v u Q I rx ry ⟨rfl, by simpa using q⟩
  · exact op_eqD hu pins s σ H x y v u Q I rx ry h
theorem pure_eq (K : PySem.W.Frag) : Pure g (R2p (rEqS K)) kEq := by
  refine Pure.val fun M H xs ds o le r e => ?_
  unfold kEq at e
  split at e
  · obtain ⟨x, y, rfl, r1, r2⟩ := repL2 r rfl
    cases r1 with
    | str => cases r2 with
      | str => cases e; exact ⟨_, _, rfl, .bl _, fun Q q' => ⟨_, _, rfl, .inl ⟨_, _, rfl, rfl, q'⟩⟩⟩
  · obtain ⟨x, y, rfl, r1, r2⟩ := repL2 r rfl
    rename_i d1 d2 _
    cases hv : veq d1 d2 with
    | none => rw [hv] at e; cases e
    | some b =>
      rw [hv] at e; cases e
      obtain ⟨p, q, e1, e2, s1, s2, rfl⟩ := veq_some hv
      exact ⟨_, _, rfl, .bl _, fun Q q' => ⟨_, _, rfl, .inr ⟨p, q, dp_of K le r1 e1, dp_of K le r2 e2, s1, s2, q'⟩⟩⟩
  · cases e
/-- texts too -/
def rNeS (K : PySem.W.Frag) : R2 := fun x y H Q => (∃ a b, x = .str a ∧ y = .str b ∧ Q (.bl (!decide (a = b))) H) ∨ rNeD K x y H Q
theorem op_neS {X : Cx} (hu : X.A.units + 64 < cLine) : OpR X (compareOp .NotEq) (rNeS X.K) := by
  intro pins s σ H x y v u Q I rx ry h
  rcases h with ⟨a, b, rfl, rfl, q⟩ | h
  · exact op_ne pins s σ H _ _ v u Q I rx ry ⟨rfl, by simpa using q⟩
  · exact op_neD hu pins s σ H x y v u Q I rx ry h
theorem pure_ne (K : PySem.W.Frag) : Pure g (R2p (rNeS K)) kNe := by
  refine Pure.val fun M H xs ds o le r e => ?_
  unfold kNe at e
  split at e
  · obtain ⟨x, y, rfl, r1, r2⟩ := repL2 r rfl
    cases r1 with
    | str => cases r2 with
      | str => cases e; exact ⟨_, _, rfl, .bl _, fun Q q' => ⟨_, _, rfl, .inl ⟨_, _, rfl, rfl, q'⟩⟩⟩
  · obtain ⟨x, y, rfl, r1, r2⟩ := repL2 r rfl
    rename_i d1 d2 _
    cases hv : veq d1 d2 with
    | none => rw [hv] at e; cases e
    | some b =>
      rw [hv] at e; cases e
      obtain ⟨p, q, e1, e2, s1, s2, rfl⟩ := veq_some hv
      exact ⟨_, _, rfl, .bl _, fun Q q' => ⟨_, _, rfl, .inr ⟨p, q, dp_of K le r1 e1, dp_of K le r2 e2, s1, s2, q'⟩⟩⟩
  · cases e
end
end KS
set_option Elab.async false
set_option linter.all false
set_option maxRecDepth 100000
set_option maxHeartbeats 4000000
set_option exponentiation.threshold 5000
namespace KS
open PySem PySem.Spec PyProof.Rows L2
open LamX (Tabs TabS)

section
variable {g : G} {E : XK} {S : Vw} {k : Nat} {X : Cx} {pn : Option V}
theorem Room.u65 {k : Nat} {A : Around} (r : Room k A) : A.units + 66 < cLine := by have := r.un; omega
/-! ### in -/
def rInA (K : PySem.W.Frag) (neg : Bool) : R2 := fun x y H Q => ∃ d ds, Dp K H x d ∧ (Dp K H y (.list ds) ∨ Dp K H y (.tuple ds)) ∧ SeqAt.shaped d = true ∧ SeqAt.shaped (.list ds) = true ∧ Q (.bl (if neg then !ds.any fun z => PyData.eqv z d else ds.any fun z => PyData.eqv z d)) H
theorem shaped_tuple {ds : List PyData} (h : SeqAt.shaped (.list ds) = true) : PyData.canLayAll0 ds = true := by
  have := SeqAt.canLay_of_shaped h
  simpa [PyData.canLay0] using this
theorem room_in {A : Around} {d : PyData} {ds : List PyData} (sd : SeqAt.shaped d = true) (hu : A.units + 66 < cLine) : A.units + 1 + min (PyData.depthAll ds) d.depth < cLine := by
  have h1 := SeqAt.depth_of_shaped sd
  have h2 : min (PyData.depthAll ds) d.depth ≤ d.depth := Nat.min_le_right _ _
  omega
theorem op_inA (hu : X.A.units + 66 < cLine) : OpR X (compareOp .In) (rInA X.K false) := by
  intro pins s σ H x y v u Q I rx ry h
  obtain ⟨d, ds, hd, he, sd, se, q⟩ := h
  obtain ⟨as, r1⟩ := Dp.reads I d x v hd rx
  rcases he with he | he
  · obtain ⟨bs, r2⟩ := Dp.reads I (.list ds) y u he ry
    exact SeqAt.in_list_reads r2 r1 (shaped_tuple se) (SeqAt.canLay_of_shaped sd) (room_in sd hu) ⟨.bl _, H, I, rfl, q⟩
  · obtain ⟨bs, r2⟩ := Dp.reads I (.tuple ds) y u he ry
    exact SeqAt.in_tuple_reads r2 r1 (shaped_tuple se) (SeqAt.canLay_of_shaped sd) (room_in sd hu) ⟨.bl _, H, I, rfl, q⟩
theorem op_notInA (hu : X.A.units + 66 < cLine) : OpR X (compareOp .NotIn) (rInA X.K true) := by
  intro pins s σ H x y v u Q I rx ry h
  obtain ⟨d, ds, hd, he, sd, se, q⟩ := h
  obtain ⟨as, r1⟩ := Dp.reads I d x v hd rx
  rcases he with he | he
  · obtain ⟨bs, r2⟩ := Dp.reads I (.list ds) y u he ry
    exact SeqAt.notIn_list_reads r2 r1 (shaped_tuple se) (SeqAt.canLay_of_shaped sd) (room_in sd hu) ⟨.bl _, H, I, rfl, q⟩
  · obtain ⟨bs, r2⟩ := Dp.reads I (.tuple ds) y u he ry
    exact SeqAt.notIn_tuple_reads r2 r1 (shaped_tuple se) (SeqAt.canLay_of_shaped sd) (room_in sd hu) ⟨.bl _, H, I, rfl, q⟩
/-- in a list or a tuple of data -/
def vin (d : Val) (es : List Val) : Option Bool := match toPD d, toPDs es with
  | some p, some qs => if SeqAt.shaped p && SeqAt.shaped (.list qs) then some (qs.any fun z => PyData.eqv z p) else none
  | _, _ => none
theorem vin_some {d : Val} {es : List Val} {b : Bool} (h : vin d es = some b) : ∃ p qs, toPD d = some p ∧ toPDs es = some qs ∧ SeqAt.shaped p = true ∧ SeqAt.shaped (.list qs) = true ∧ b = qs.any fun z => PyData.eqv z p := by
  unfold vin at h
  split at h
  · rename_i p q e1 e2
    split at h
    · rename_i hs
      cases h
      rw [Bool.and_eq_true] at hs
      exact ⟨p, q, e1, e2, hs.1, hs.2, rfl⟩
    · cases h
  · cases h
def kIn : List Val → Option Own
  | [d, .lst es] => (vin d es).map fun b => .v (.bl b)
  | [d, .tup es] => (vin d es).map fun b => .v (.bl b)
  | _ => none
def kNotIn : List Val → Option Own
  | [d, .lst es] => (vin d es).map fun b => .v (.bl (!b))
  | [d, .tup es] => (vin d es).map fun b => .v (.bl (!b))
  | _ => none
theorem dp_seq {M H : Hp} (K : PySem.W.Frag) (le : Le M H) {es : List Val} {qs : List PyData} (e : toPDs es = some qs) {y : V} (r : Rep g M (.lst es) y ∨ Rep g M (.tup es) y) : Dp K H y (.list qs) ∨ Dp K H y (.tuple qs) := by
  rcases r with r | r
  · exact .inl (dp_of K le r (by simp only [toPD, e]; rfl))
  · exact .inr (dp_of K le r (by simp only [toPD, e]; rfl))
theorem pure_in (K : PySem.W.Frag) : Pure g (R2p (rInA K false)) kIn := by
  refine Pure.val fun M H xs ds o le r e => ?_
  unfold kIn at e
  split at e
  all_goals first | (cases e; done) | skip
  all_goals
    rename_i d es
    obtain ⟨x, y, rfl, r1, r2⟩ := repL2 r rfl
    cases hv : vin d es with
    | none => rw [hv] at e; cases e
    | some b =>
      rw [hv] at e; cases e
      obtain ⟨p, qs, e1, e2, s1, s2, rfl⟩ := vin_some hv
      exact ⟨_, _, rfl, .bl _, fun Q q' => ⟨_, _, rfl, p, qs, dp_of K le r1 e1, dp_seq K le e2 (by first | exact .inl r2 | exact .inr r2), s1, s2, q'⟩⟩
theorem pure_notIn (K : PySem.W.Frag) : Pure g (R2p (rInA K true)) kNotIn := by
  refine Pure.val fun M H xs ds o le r e => ?_
  unfold kNotIn at e
  split at e
  all_goals first | (cases e; done) | skip
  all_goals
    rename_i d es
    obtain ⟨x, y, rfl, r1, r2⟩ := repL2 r rfl
    cases hv : vin d es with
    | none => rw [hv] at e; cases e
    | some b =>
      rw [hv] at e; cases e
      obtain ⟨p, qs, e1, e2, s1, s2, rfl⟩ := vin_some hv
      exact ⟨_, _, rfl, .bl _, fun Q q' => ⟨_, _, rfl, p, qs, dp_of K le r1 e1, dp_seq K le e2 (by first | exact .inl r2 | exact .inr r2), s1, s2, q'⟩⟩
/-! ### calls of built-ins -/
def C1 (r : List V → Hp → VK → Prop) : List V → Hp → VK → Prop := r
/-- a built-in function -/
theorem dx_blt {x : PySem.Str} {id : String} {r : List V → Hp → VK → Prop} {kk : List Val → Option Own} {e : Expr} {es : List Expr} {ms : Mo (List Own)} {p pos : Pos} (c : Cxt g E k X) (hc : CallR X (.builtin id) r) (hk : Pure g r kk) (hm : g.mg x = none) (hv : bootBuiltins x = some (.builtin id)) (ha : PA X (e :: es) (tA g E S ms)) (hg : Gl X x := by rfl)
    (hn : x ≠ "__name__" := by decide) (hdb : (x == ("__debug__" : PySem.Str)) = false := by decide) (he : starEach (e :: es) X.env = (false, eval e X.env) :: starEach es X.env := by rfl) (hpl : (backTo pos (starEach es X.env)).any (·.1) = false := by rfl) :
    PE X (.Call (.Name x p) (e :: es) [] pos) (tD g E S (mPure kk ms)) :=
  PE.imp (pe_callB hc hg (by rw [c.mg]; exact hm) hv ha hn hdb he hpl) fun s H Q q => imp_pure hk q
theorem dx_ty {x : PySem.Str} {T : String} {r : List V → Hp → VK → Prop} {kk : List Val → Option Own} {e : Expr} {es : List Expr} {ms : Mo (List Own)} {p pos : Pos} (c : Cxt g E k X) (hc : CallR X (.type T) r) (hk : Pure g r kk) (hm : g.mg x = none) (hv : bootBuiltins x = some (.type T)) (ha : PA X (e :: es) (tA g E S ms)) (hg : Gl X x := by rfl)
    (hn : x ≠ "__name__" := by decide) (hdb : (x == ("__debug__" : PySem.Str)) = false := by decide) (he : starEach (e :: es) X.env = (false, eval e X.env) :: starEach es X.env := by rfl) (hpl : (backTo pos (starEach es X.env)).any (·.1) = false := by rfl) :
    PE X (.Call (.Name x p) (e :: es) [] pos) (tD g E S (mPure kk ms)) :=
  PE.imp (pe_callTy hc hg (by rw [c.mg]; exact hm) hv ha hn hdb he hpl) fun s H Q q => imp_pure hk q
/-! len -/
def kLen : List Val → Option Own
  | [.lst ds] => some (.v (.int ds.length))
  | [.tup ds] => some (.v (.int ds.length))
  | [.scr ds] => some (.v (.int ds.length))
  | [.str s] => if s.length ≤ 16777216 then some (.v (.int s.length)) else none
  | _ => none
theorem pure_len (K : PySem.W.Frag) : Pure g (fun xs H Q => ∃ x n, xs = [x] ∧ LenV K x H n ∧ Q (.int n) H) kLen := by
  refine Pure.val fun M H xs ds o le r e => ?_
  unfold kLen at e
  split at e
  · obtain ⟨x, rfl, r1⟩ := repL1 r rfl
    obtain ⟨a, vs, rfl, h1, t1⟩ := r1.lstE
    cases e
    exact ⟨_, _, rfl, .int _, fun Q q => ⟨_, _, rfl, .inl ⟨vs, .of (le _ _ h1), rfl⟩, by rw [← t1.length]; exact q⟩⟩
  · obtain ⟨x, rfl, r1⟩ := repL1 r rfl
    obtain ⟨a, vs, rfl, h1, t1⟩ := r1.tupE
    cases e
    exact ⟨_, _, rfl, .int _, fun Q q => ⟨_, _, rfl, .inr ⟨vs, .of (le _ _ h1), rfl⟩, by rw [← t1.length]; exact q⟩⟩
  · rename_i ns
    obtain ⟨x, rfl, r1⟩ := repL1 r rfl
    cases e
    cases r1 with
    | scr h => exact ⟨_, _, rfl, .int _, fun Q q => ⟨_, _, rfl, .inl ⟨_, .inl (.inr ⟨_, le _ _ h⟩), rfl⟩, by rw [List.length_map]; exact q⟩⟩
  · obtain ⟨x, rfl, r1⟩ := repL1 r rfl
    cases r1.strE
    split at e
    · cases e
      rename_i hz
      exact ⟨_, _, rfl, .int _, fun Q q => ⟨_, _, rfl, ⟨by rw [sizeLine_val]; exact hz, rfl⟩, q⟩⟩
    · cases e
  · cases e
/-! tuple, list -/
def kTuple : List Val → Option Own
  | [.lst ds] => some (.v (.tup ds))
  | [.tup ds] => some (.v (.tup ds))
  | _ => none
theorem pure_tuple (K : PySem.W.Frag) : Pure g (fun xs H Q => ∃ p ys, xs = [.ref p] ∧ ((SqL K H p ys ∧ ∀ l, H l = none → Q (.ref l) (upd H l (.tup ys))) ∨ (SqT K H p ys ∧ Q (.ref p) H))) kTuple := by
  intro M H xs ds o Q le tb r e q
  unfold kTuple at e
  split at e
  · obtain ⟨x, rfl, r1⟩ := repL1 r rfl
    obtain ⟨a, vs, rfl, h1, t1⟩ := r1.lstE
    cases e
    refine ⟨a, vs, rfl, .inl ⟨.of (le _ _ h1), fun T hT => ?_⟩⟩
    obtain ⟨U, nw, rz⟩ := new_tup hT le tb t1
    exact q _ U _ [] nw (.v rz) (by simp)
  · obtain ⟨x, rfl, r1⟩ := repL1 r rfl
    obtain ⟨a, vs, rfl, h1, t1⟩ := r1.tupE
    cases e
    exact ⟨a, vs, rfl, .inr ⟨.of (le _ _ h1), q _ M H [] (.refl le tb) (.v (.tup h1 t1)) (by simp)⟩⟩
  · cases e
def kList : List Val → Option Own
  | [.lst ds] => some (.l ds)
  | [.tup ds] => some (.l ds)
  | [.scr ds] => some (.l (ds.map Val.int))
  | _ => none
theorem pure_list (K : PySem.W.Frag) : Pure g (fun xs H Q => ∃ p ys, xs = [.ref p] ∧ (SqL K H p ys ∨ SqT K H p ys) ∧ ∀ l, H l = none → Q (.ref l) (upd H l (.lst ys))) kList := by
  intro M H xs ds o Q le tb r e q
  unfold kList at e
  split at e
  · obtain ⟨x, rfl, r1⟩ := repL1 r rfl
    obtain ⟨a, vs, rfl, h1, t1⟩ := r1.lstE
    cases e
    refine ⟨a, vs, rfl, .inl (.of (le _ _ h1)), fun T hT => ?_⟩
    obtain ⟨nw, ro, hz⟩ := new_lst hT le tb t1
    exact q _ M _ [T] nw ro hz
  · obtain ⟨x, rfl, r1⟩ := repL1 r rfl
    obtain ⟨a, vs, rfl, h1, t1⟩ := r1.tupE
    cases e
    refine ⟨a, vs, rfl, .inr (.of (le _ _ h1)), fun T hT => ?_⟩
    obtain ⟨nw, ro, hz⟩ := new_lst hT le tb t1
    exact q _ M _ [T] nw ro hz
  · rename_i ns
    obtain ⟨x, rfl, r1⟩ := repL1 r rfl
    cases e
    cases r1 with
    | scr h =>
      refine ⟨_, _, rfl, .inl (.inl (.inr ⟨_, le _ _ h⟩)), fun T hT => ?_⟩
      obtain ⟨nw, ro, hz⟩ := new_lst hT le tb (repL_ints ns)
      exact q _ M _ [T] nw ro hz
  · cases e
/-! int, abs, min, max, sum, bool lists -/
def kInt : List Val → Option Own
  | [.int n] => some (.v (.int n))
  | [.bl b] => some (.v (.int (if b then 1 else 0)))
  | _ => none
theorem pure_int : Pure g (fun xs H Q => (∃ i, xs = [.int i] ∧ Q (.int i) H) ∨ ∃ k, xs = [.bl k] ∧ Q (.int (if k then 1 else 0)) H) kInt := by
  refine Pure.val fun M H xs ds o le r e => ?_
  unfold kInt at e
  split at e
  · obtain ⟨x, rfl, r1⟩ := repL1 r rfl
    cases r1.intE; cases e
    exact ⟨_, _, rfl, .int _, fun Q q => .inl ⟨_, rfl, q⟩⟩
  · obtain ⟨x, rfl, r1⟩ := repL1 r rfl
    cases r1.blE; cases e
    exact ⟨_, _, rfl, .int _, fun Q q => .inr ⟨_, rfl, q⟩⟩
  · cases e
def kAbs : List Val → Option Own
  | [.int n] => some (.v (.int (if n < 0 then -n else n)))
  | _ => none
theorem pure_abs : Pure g (fun xs H Q => ∃ i, xs = [.int i] ∧ Q (.int (if i < 0 then -i else i)) H) kAbs := by
  refine Pure.val fun M H xs ds o le r e => ?_
  unfold kAbs at e
  split at e
  · obtain ⟨x, rfl, r1⟩ := repL1 r rfl
    cases r1.intE; cases e
    exact ⟨_, _, rfl, .int _, fun Q q => ⟨_, rfl, q⟩⟩
  · cases e
def kMax2 : List Val → Option Own
  | [.int a, .int b] => some (.v (.int (if b > a then b else a)))
  | _ => none
def kMin2 : List Val → Option Own
  | [.int a, .int b] => some (.v (.int (if b < a then b else a)))
  | _ => none
theorem pure_max2 : Pure g (fun xs H Q => ∃ i j, xs = [.int i, .int j] ∧ Q (.int (if j > i then j else i)) H) kMax2 := by
  refine Pure.val fun M H xs ds o le r e => ?_
  unfold kMax2 at e
  split at e
  · obtain ⟨x, y, rfl, r1, r2⟩ := repL2 r rfl
    cases r1.intE; cases r2.intE; cases e
    exact ⟨_, _, rfl, .int _, fun Q q => ⟨_, _, rfl, q⟩⟩
  · cases e
theorem pure_min2 : Pure g (fun xs H Q => ∃ i j, xs = [.int i, .int j] ∧ Q (.int (if j < i then j else i)) H) kMin2 := by
  refine Pure.val fun M H xs ds o le r e => ?_
  unfold kMin2 at e
  split at e
  · obtain ⟨x, y, rfl, r1, r2⟩ := repL2 r rfl
    cases r1.intE; cases r2.intE; cases e
    exact ⟨_, _, rfl, .int _, fun Q q => ⟨_, _, rfl, q⟩⟩
  · cases e
def valInts : List Val → Option (List Int)
  | [] => some []
  | .int n :: ds => (valInts ds).map (n :: ·)
  | _ => none
theorem valInts_map (ns : List Int) : valInts (ns.map Val.int) = some ns := by
  induction ns with
  | nil => rfl
  | cons n ns ih => simp [valInts, ih]
theorem valInts_eq : ∀ {ds : List Val} {ns : List Int}, valInts ds = some ns → ds = ns.map Val.int
  | [], ns, h => by simp [valInts] at h; subst h; rfl
  | d :: ds, ns, h => by
    cases d <;> simp only [valInts] at h <;> try cases h
    cases e : valInts ds with
    | none => rw [e] at h; cases h
    | some ms => rw [e] at h; cases h; rw [valInts_eq e]; rfl
def valBls : List Val → Option (List Bool)
  | [] => some []
  | .bl n :: ds => (valBls ds).map (n :: ·)
  | _ => none
theorem valBls_map (ns : List Bool) : valBls (ns.map Val.bl) = some ns := by
  induction ns with
  | nil => rfl
  | cons n ns ih => simp [valBls, ih]
theorem valBls_eq : ∀ {ds : List Val} {ns : List Bool}, valBls ds = some ns → ds = ns.map Val.bl
  | [], ns, h => by simp [valBls] at h; subst h; rfl
  | d :: ds, ns, h => by
    cases d <;> simp only [valBls] at h <;> try cases h
    cases e : valBls ds with
    | none => rw [e] at h; cases h
    | some ms => rw [e] at h; cases h; rw [valBls_eq e]; rfl
def kAll : List Val → Option Own
  | [.lst ds] => (valBls ds).map fun bs => .v (.bl (bs.all id))
  | _ => none
def kAny : List Val → Option Own
  | [.lst ds] => (valBls ds).map fun bs => .v (.bl (bs.any id))
  | _ => none
theorem pure_all (K : PySem.W.Frag) : Pure g (rAll K) kAll := by
  refine Pure.val fun M H xs ds o le r e => ?_
  unfold kAll at e
  split at e
  · rename_i es
    obtain ⟨x, rfl, r1⟩ := repL1 r rfl
    obtain ⟨a, vs, rfl, h1, t1⟩ := r1.lstE
    cases q : valBls es with
    | none => rw [q] at e; cases e
    | some bs =>
      rw [q] at e; cases e
      obtain rfl := valBls_eq q
      have := t1.bls
      subst this
      exact ⟨_, _, rfl, .bl _, fun Q q => ⟨a, bs, rfl, .of (le _ _ h1), q⟩⟩
  · cases e
theorem pure_any (K : PySem.W.Frag) : Pure g (rAny K) kAny := by
  refine Pure.val fun M H xs ds o le r e => ?_
  unfold kAny at e
  split at e
  · rename_i es
    obtain ⟨x, rfl, r1⟩ := repL1 r rfl
    obtain ⟨a, vs, rfl, h1, t1⟩ := r1.lstE
    cases q : valBls es with
    | none => rw [q] at e; cases e
    | some bs =>
      rw [q] at e; cases e
      obtain rfl := valBls_eq q
      have := t1.bls
      subst this
      exact ⟨_, _, rfl, .bl _, fun Q q => ⟨a, bs, rfl, .of (le _ _ h1), q⟩⟩
  · cases e
/-! sum of a list or a tuple of ints -/
theorem sum_tupG {prog : Program} {w : World} {A : Around} {E : Value → Shared → Prop} {s : Shared} {l : Addr} {xs : Array (Int × Tok)} {Q : Value → Shared → Prop} (hh : A.handled = none) (hl : s.heap.IsTuple l (intItems xs))
    (h : ∀ h' tk t', (∀ b o, s.heap.get? b = some o → h'.get? b = some o) → Q (.int (preSum (numAt xs) xs.size) t') { s with heap := h', toks := tk }) :
    wpAny (model prog w) A (call (.builtin "sum") [.ref l]) Q E s := by
  have hlt : l < s.heap.objs.size := by obtain ⟨_, e, _⟩ := hl; exact Heap.lt_size e
  refine call_sum_walkG (wpAny_pyIter_tuple hl ?_)
  have hlI : l ≠ s.heap.objs.size := Nat.ne_of_lt hlt
  refine ⟨s.heap.objs.size, _, _, _, _, _, numAt xs, rfl, Walks.tuple (A := A.in1) hh _ l hlI (intItems xs), ⟨⟨_, Heap.get?_push_size _ rfl, rfl, rfl⟩, by obtain ⟨o, e, r⟩ := hl; exact ⟨o, Heap.get?_push_of_some _ e, r⟩⟩, fun b hb => ?_, (fun _ _ => intItems_at), fun h' tk t' hk => ?_⟩
  · simp only [List.mem_cons, List.not_mem_nil, or_false] at hb
    show b < (s.heap.push _).objs.size
    rw [Heap.size_push]
    rcases hb with rfl | rfl
    · exact Nat.lt_succ_self _
    · exact Nat.lt_succ_of_lt hlt
  · have := h h' tk t' fun b o e => hk b o (by
      simp only [List.mem_singleton]
      exact Nat.ne_of_lt (Heap.lt_size e)) (Heap.get?_push_of_some _ e)
    simpa [intItems] using this
def rSumA (K : PySem.W.Frag) : List V → Hp → VK → Prop := fun vs H Q => ∃ (a : Addr) (ns : List Int), vs = [V.ref a] ∧ (SqL K H a (ns.map V.int) ∨ SqT K H a (ns.map V.int)) ∧ Q (.int ns.sum) H
theorem cr_sumA (hc : X.calm = true) : CallR X (.builtin "sum") (rSumA X.K) := by
  intro pins s σ H vs us Q I r h
  obtain ⟨a, ns, rfl, hl | hl, q⟩ := h
  · exact cr_sum hc pins s σ H _ us Q I r ⟨a, ns, rfl, hl, q⟩
  · rw [Vals.ref1 r]
    obtain ⟨its, rv, pl, hz⟩ := I.tuple hl
    have hi := Vals.ints rv
    obtain ⟨xs, e⟩ := hi.allInts.items
    have hn : numsOf (intItems xs).toList = ns := by rw [← e]; exact hi.numsOf
    rw [nums_intItems] at hn
    have pl2 : s.heap.IsTuple a (intItems xs) := by rw [← e]; exact pl
    refine sum_tupG (I.ok.hd hc) pl2 fun h' tk t' hk => ?_
    have e2 : preSum (numAt xs) xs.size = ns.sum := by rw [preSum_eq, List.take_of_length_le (by simp), hn]
    rw [e2]
    exact ⟨.int ns.sum, H, I.kept hk, ⟨t', rfl⟩, q⟩
def kSum : List Val → Option Own
  | [.lst ds] => (valInts ds).map fun ns => .v (.int ns.sum)
  | [.tup ds] => (valInts ds).map fun ns => .v (.int ns.sum)
  | _ => none
theorem pure_sum (K : PySem.W.Frag) : Pure g (rSumA K) kSum := by
  refine Pure.val fun M H xs ds o le r e => ?_
  unfold kSum at e
  split at e
  · rename_i es
    obtain ⟨x, rfl, r1⟩ := repL1 r rfl
    obtain ⟨a, vs, rfl, h1, t1⟩ := r1.lstE
    cases q : valInts es with
    | none => rw [q] at e; cases e
    | some bs =>
      rw [q] at e; cases e
      obtain rfl := valInts_eq q
      have := t1.ints
      subst this
      exact ⟨_, _, rfl, .int _, fun Q q => ⟨a, bs, rfl, .inl (.of (le _ _ h1)), q⟩⟩
  · rename_i es
    obtain ⟨x, rfl, r1⟩ := repL1 r rfl
    obtain ⟨a, vs, rfl, h1, t1⟩ := r1.tupE
    cases q : valInts es with
    | none => rw [q] at e; cases e
    | some bs =>
      rw [q] at e; cases e
      obtain rfl := valInts_eq q
      have := t1.ints
      subst this
      exact ⟨_, _, rfl, .int _, fun Q q => ⟨a, bs, rfl, .inr (.of (le _ _ h1)), q⟩⟩
  · cases e
end
end KS
set_option Elab.async false
set_option linter.all false
set_option maxRecDepth 100000
set_option maxHeartbeats 4000000
namespace KS
open PySem PySem.Spec PyProof.Rows L2
open LamX (Tabs TabS)

section
variable {g : G} {E : XK} {S : Vw} {k : Nat} {X : Cx} {pn : Option V}
/-! ### displays -/
def kTup : List Val → Option Own := fun ds => if ds.length ≤ 16777216 then some (.v (.tup ds)) else none
def kLst : List Val → Option Own := fun ds => if ds.length ≤ 16777216 then some (.l ds) else none
theorem pure_tupD : Pure g (fun xs H Q => xs.length ≤ sizeLine ∧ ∀ p, H p = none → Q (.ref p) (upd H p (.tup xs))) kTup := by
  intro M H xs ds o Q le tb r e q
  unfold kTup at e
  split at e
  · rename_i hz
    cases e
    refine ⟨by rw [sizeLine_val, ← r.length]; exact hz, fun T hT => ?_⟩
    obtain ⟨U, nw, rz⟩ := new_tup hT le tb r
    exact q _ U _ [] nw (.v rz) (by simp)
  · cases e
theorem pure_lstD : Pure g (fun xs H Q => xs.length ≤ sizeLine ∧ ∀ p, H p = none → Q (.ref p) (upd H p (.lst xs))) kLst := by
  intro M H xs ds o Q le tb r e q
  unfold kLst at e
  split at e
  · rename_i hz
    cases e
    refine ⟨by rw [sizeLine_val, ← r.length]; exact hz, fun T hT => ?_⟩
    obtain ⟨nw, ro, hz⟩ := new_lst hT le tb r
    exact q _ M _ [T] nw ro hz
  · cases e
theorem dx_tup {es : List Expr} {kk : Nat} {pos : Pos} {ms : Mo (List Own)} (h : PA X es (tA g E S ms)) : PE X (.Tuple es kk pos) (tD g E S (mPure kTup ms)) := PE.imp (pe_tup h) fun _ _ _ q => imp_pure pure_tupD q
theorem dx_lst {es : List Expr} {pos : Pos} {ms : Mo (List Own)} (h : PA X es (tA g E S ms)) : PE X (.List es pos) (tD g E S (mPure kLst ms)) := PE.imp (pe_lst h) fun _ _ _ q => imp_pure pure_lstD q
/-! ### starred arguments -/
def seqOf : Val → Option (List Val)
  | .lst ds => some ds
  | .tup ds => some ds
  | _ => none
def mStar (m : Mo Own) (ms : Mo (List Own)) : Mo (List Own) := fun r => (m r).bind fun d r1 => match seqOf d.val with
  | some ds => (ms r1).bind fun es r2 => .ok (ds.map Own.v ++ es) r2
  | none => .bad
theorem tmps_vals {M H : Hp} {f : Nat → List Addr} : ∀ {ds : List Val} {vs : List V}, RepL g (View S.fn M H f []) ds vs → Tmps g S.fn M H f (ds.map Own.v) vs []
  | _, _, .nil => .nil
  | _, _, .cons h t => .cons (f1 := []) ⟨.v h, by simp⟩ (tmps_vals t) (by simp)
theorem tmp_seq {K : PySem.W.Frag} {M H : Hp} {r : Ro} {s : L2.St} {f : Nat → List Addr} {d : Own} {x : V} {fd : List Addr} {ds : List Val} (st : Sta g M H r s f) (t : Tmp g S.fn M H f d x fd) (e : seqOf d.val = some ds) :
    ∃ p vs, x = .ref p ∧ (SqT K H p vs ∨ SqL K H p vs) ∧ RepL g (View S.fn M H f []) ds vs := by
  have ro := t.rep
  cases ro with
  | v ro =>
    rename_i dv
    have e : seqOf dv = some ds := e
    cases ro with
    | tup h1 h2 => cases e; exact ⟨_, _, rfl, .inl (.of (st.view_sub _ _ h1)), h2⟩
    | lst h1 h2 => cases e; exact ⟨_, _, rfl, .inr (.of (st.view_sub _ _ h1)), h2⟩
    | _ => cases e
  | l h1 h2 => cases e; exact ⟨_, _, rfl, .inr (.of h1), h2⟩
theorem da_star {e : Expr} {es : List Expr} {m : Mo Own} {ms : Mo (List Own)} {p : Pos} (ha : PE X e (tD g E S m)) (hr : PA X es (tA g E S ms)) (hs : starEach (.Starred e p :: es) X.env = (true, eval e X.env) :: starEach es X.env := by rfl) :
    PA X (.Starred e p :: es) (tA g E S (mStar m ms)) := PA.imp (StX.pa_star ha hr hs) fun s H Q h => by
  obtain ⟨r, M, f, st, h⟩ := h
  refine ⟨r, M, f, st, ?_⟩
  unfold mStar at h
  cases hm : m r with
  | bad => rw [hm] at h; exact h
  | ex n v => rw [hm] at h; exact h
  | ok d r1 =>
    simp only [hm, Rs.bind] at h
    intro x M1 H1 f1 fd st1 t1 p1 fr1
    cases hq : seqOf d.val with
    | none => simp only [hq] at h
    | some ds =>
      simp only [hq] at h
      obtain ⟨a, vs, rfl, hs, rp⟩ := tmp_seq (K := X.K) st1 t1 hq
      refine ⟨a, vs, rfl, hs, r1, M1, f1, st1, ?_⟩
      cases hn : ms r1 with
      | bad => simp only [hn] at h
      | ex n v => simp only [hn] at h; exact h.after p1
      | ok es r2 =>
        simp only [hn] at h
        intro ys M2 H2 f2 fd2 st2 t2 p2 fr2
        have t3 := ((tmps_vals rp).step p2 st1 st2).append t2 (by simp)
        exact h (vs ++ ys) M2 H2 f2 ([] ++ fd2) st2 t3 (p1.trans p2) fun a ha => p1.dom a (fr2 a ha)
/-! ### x[i] -/
theorem repL_at {M : Hp} {ds : List Val} {vs : List V} {i : Int} {d : Val} (r : RepL g M ds vs) (e : atI ds i = some d) : ∃ x, atI vs i = some x ∧ Rep g M d x := by
  unfold atI at e ⊢
  rw [← r.length]
  cases q : ixN ds.length i with
  | none => rw [q] at e; cases e
  | some j => rw [q] at e; exact r.get e
def kIx : List Val → Option Own
  | [.lst ds, .int i] => (atI ds i).map Own.v
  | [.tup ds, .int i] => (atI ds i).map Own.v
  | [.str z, .int i] => if z.length ≤ 16777216 then (atI z.cps.toList i).map fun c => Own.v (.str ⟨#[c]⟩) else none
  | _ => none
theorem pure_ix (K : PySem.W.Frag) : Pure g (R2p (rIx K)) kIx := by
  refine Pure.val fun M H xs ds o le r e => ?_
  unfold kIx at e
  split at e
  · obtain ⟨x, y, rfl, r1, r2⟩ := repL2 r rfl
    cases r2.intE
    obtain ⟨a, vs, rfl, h1, t1⟩ := r1.lstE
    rename_i ds i
    cases q : atI ds i with
    | none => rw [q] at e; cases e
    | some d =>
      rw [q] at e; cases e
      obtain ⟨z, e1, rz⟩ := repL_at t1 q
      exact ⟨_, _, rfl, rz, fun Q qq => ⟨_, _, rfl, .inl ⟨a, vs, i, z, rfl, rfl, .of (le _ _ h1), e1, qq⟩⟩⟩
  · obtain ⟨x, y, rfl, r1, r2⟩ := repL2 r rfl
    cases r2.intE
    obtain ⟨a, vs, rfl, h1, t1⟩ := r1.tupE
    rename_i ds i
    cases q : atI ds i with
    | none => rw [q] at e; cases e
    | some d =>
      rw [q] at e; cases e
      obtain ⟨z, e1, rz⟩ := repL_at t1 q
      exact ⟨_, _, rfl, rz, fun Q qq => ⟨_, _, rfl, .inr (.inl ⟨a, vs, i, z, rfl, rfl, .of (le _ _ h1), e1, qq⟩)⟩⟩
  · obtain ⟨x, y, rfl, r1, r2⟩ := repL2 r rfl
    cases r2.intE
    cases r1.strE
    rename_i z i
    split at e
    · rename_i hz
      cases q : atI z.cps.toList i with
      | none => rw [q] at e; cases e
      | some d =>
        rw [q] at e; cases e
        exact ⟨_, _, rfl, .str _, fun Q qq => ⟨_, _, rfl, .inr (.inr ⟨z, i, d, rfl, rfl, by rw [sizeLine_val]; exact hz, q, qq⟩)⟩⟩
    · cases e
  · cases e
theorem dx_ix {a b : Expr} {ma mb : Mo Own} {pos : Pos} (ha : PE X a (tD g E S ma)) (hb : PE X b (tD g E S mb)) (hs : PlainIx b := by intro _ _; rfl) : PE X (.Subscript a b pos) (tD g E S (mP2 kIx ma mb)) :=
  PE.imp (pe_ix ix_seq ha hb hs) fun _ _ _ => imp_op (pure_ix X.K)
/-! ### -x -/
def kNeg : List Val → Option Own
  | [.int i] => some (.v (.int (-i)))
  | _ => none
theorem pure_neg : Pure g (fun xs H Q => ∃ x, xs = [x] ∧ rU (fun i => .int (-i)) x H Q) kNeg := by
  refine Pure.val fun M H xs ds o le r e => ?_
  unfold kNeg at e
  split at e
  · obtain ⟨x, rfl, r1⟩ := repL1 r rfl
    cases r1.intE; cases e
    exact ⟨_, _, rfl, .int _, fun Q q => ⟨_, rfl, _, rfl, q⟩⟩
  · cases e
theorem dx_neg {a : Expr} {m : Mo Own} {pos : Pos} (h : PE X a (tD g E S m)) : PE X (.UnaryOp .USub a pos) (tD g E S (mPure kNeg (mCons m mNil))) := PE.imp (pe_un un_neg h) fun s H Q q => by
  have h1 := imp_one (imp_pure pure_neg q)
  obtain ⟨r0, M, f, st, h1⟩ := h1
  refine ⟨r0, M, f, st, ?_⟩
  cases e : m r0 with
  | bad => rw [e] at h1; exact h1
  | ex n v => rw [e] at h1; exact h1
  | ok d r1 =>
    rw [e] at h1
    intro x M1 H1 f1 fd st1 t1 p1 q1
    obtain ⟨y, e1, e2⟩ := h1 x M1 H1 f1 fd st1 t1 p1 q1
    cases e1
    exact e2
/-! ### slices -/
def tO (g : G) (E : XK) (S : Vw) (m : Mo (Option Int)) : TO := fun s H Q => ∃ r M f, Sta g M H r s f ∧
  match m r with
  | .ok o r' => ∀ M' H' f', Sta g M' H' r' s f' → Step g S.fn M H r f M' H' r' f' → Q o H'
  | .ex n v => Ew g E S.fn M H f n v
  | .bad => False
def mNoPart : Mo (Option Int) := fun r => .ok none r
def mPart (m : Mo Own) : Mo (Option Int) := fun r => (m r).bind fun d r1 => match d with
  | .v (.int i) => .ok (some i) r1
  | _ => .bad
theorem PO.imp {e : Option Expr} {t t' : TO} (h : PO X e t') (i : ∀ s H Q, t s H Q → t' s H Q) : PO X e t := ⟨fun pins s σ H Q I q => h.run pins s σ H Q I (i σ H Q q)⟩
theorem do_none : PO X none (tO g E S mNoPart) := PO.imp po_none fun s H Q h => by
  obtain ⟨r, M, f, st, h⟩ := h
  exact h M H f st .refl
theorem do_some {e : Expr} {m : Mo Own} (he : PE X e (tD g E S m)) : PO X (some e) (tO g E S (mPart m)) := PO.imp (po_some he) fun s H Q h => by
  obtain ⟨r, M, f, st, h⟩ := h
  refine ⟨r, M, f, st, ?_⟩
  unfold mPart at h
  cases hm : m r with
  | bad => rw [hm] at h; exact h
  | ex n v => rw [hm] at h; exact h
  | ok d r1 =>
    simp only [hm, Rs.bind] at h
    intro x M1 H1 f1 fd st1 t1 p1 fr1
    have ro := t1.rep
    cases ro with
    | l _ _ => exact h.elim
    | v ro =>
      cases ro with
      | int i => exact ⟨i, rfl, h M1 H1 f1 st1 p1⟩
      | _ => exact h.elim
def PureS (g : G) (t : V → Option Int → Option Int → Hp → VK → Prop) (kk : Val → Option Int → Option Int → Option Own) : Prop :=
  ∀ (M H : Hp) (x : V) (d : Val) (lo hi : Option Int) (o : Own) (Q : VK), Le M H → Tabs g.T H → Rep g M d x → kk d lo hi = some o →
    (∀ z M' H' fz, New g M H M' H' → RepO g M' H' o z fz → (∀ a ∈ fz, H a = none ∧ M' a = none) → Q z H') → t x lo hi H Q
def mSl (kk : Val → Option Int → Option Int → Option Own) (m : Mo Own) (ml mh : Mo (Option Int)) : Mo Own := fun r => (m r).bind fun d r1 => (ml r1).bind fun l r2 => (mh r2).bind fun u r3 => match kk d.val l u with
  | some o => .ok o r3
  | none => .bad
theorem dx_slice {t : V → Option Int → Option Int → Hp → VK → Prop} {kk : Val → Option Int → Option Int → Option Own} {e : Expr} {lo hi : Option Expr} {m : Mo Own} {ml mh : Mo (Option Int)} {p2 pos : Pos} (hr : SlR X t) (hk : PureS g t kk) (he : PE X e (tD g E S m)) (hl : PO X lo (tO g E S ml)) (hu : PO X hi (tO g E S mh)) :
    PE X (.Subscript e (.Slice lo hi none p2) pos) (tD g E S (mSl kk m ml mh)) := PE.imp (pe_slice hr he hl hu) fun s H Q h => by
  obtain ⟨r, M, f, st, h⟩ := h
  refine ⟨r, M, f, st, ?_⟩
  unfold mSl at h
  cases hm : m r with
  | bad => rw [hm] at h; exact h
  | ex n v => rw [hm] at h; exact h
  | ok d r1 =>
    simp only [hm, Rs.bind] at h
    intro x M1 H1 f1 fd st1 t1 p1 fr1
    refine ⟨r1, M1, f1, st1, ?_⟩
    cases hml : ml r1 with
    | bad => simp only [hml] at h
    | ex n v => simp only [hml] at h; exact h.after p1
    | ok l r2 =>
      simp only [hml] at h
      intro M2 H2 f2 st2 p2
      refine ⟨r2, M2, f2, st2, ?_⟩
      cases hmh : mh r2 with
      | bad => simp only [hmh] at h
      | ex n v => simp only [hmh] at h; exact h.after (p1.trans p2)
      | ok u r3 =>
        simp only [hmh] at h
        intro M3 H3 f3 st3 p3
        cases ho : kk d.val l u with
        | none => simp only [ho] at h
        | some o =>
          simp only [ho] at h
          have t3 := (t1.step p2 st1 st2).step p3 st2 st3
          have tt : Tmps g S.fn M3 H3 f3 [d] [x] (fd ++ []) := .cons t3 .nil (by simp)
          have rp := tt.vals st3
          rw [List.append_nil] at rp
          cases rp with
          | cons rp _ =>
            refine hk (View S.fn M3 H3 f3 fd) H3 x _ l u o Q st3.view_sub st3.tab rp ho fun z M' H' fz nw ro hz => ?_
            obtain ⟨M4, st4, t4, p4, q4⟩ := land st3 ((p1.trans p2).trans p3) fr1 (fun a ha => ⟨t3.live a ha, (t3.sep a ha).2⟩) nw ro hz
            exact h z M4 H' f3 fz st4 t4 p4 q4
def cutD {α : Type} (xs : List α) (lo hi : Option Int) : List α := (xs.drop (HT.sIx xs.length 0 lo)).take (HT.sIx xs.length xs.length hi - HT.sIx xs.length 0 lo)
theorem cut_all {α : Type} {xs : List α} {lo hi : Option Int} (hh : HT.sIx xs.length 0 lo = 0 ∧ HT.sIx xs.length xs.length hi = xs.length) : cutD xs lo hi = xs := by
  unfold cutD
  rw [hh.1, hh.2]
  simp
theorem repL_cut {M : Hp} {ds : List Val} {vs : List V} (r : RepL g M ds vs) (lo hi : Option Int) : RepL g M (cutD ds lo hi) (cutV vs lo hi) := by
  unfold cutD cutV
  rw [r.length]
  exact (r.drop _).take _
def kSl : Val → Option Int → Option Int → Option Own
  | .lst ds, lo, hi => some (.l (cutD ds lo hi))
  | .tup ds, lo, hi => some (.v (.tup (cutD ds lo hi)))
  | .scr ns, lo, hi => some (.l (cutD (ns.map Val.int) lo hi))
  | _, _, _ => none
theorem sl_both : SlR X (fun x lo hi H Q => rSlL X.K x lo hi H Q ∨ rSlA X.K x lo hi H Q) := SlR.or sl_list sl_tupA
theorem pure_sl (K : PySem.W.Frag) : PureS g (fun x lo hi H Q => rSlL K x lo hi H Q ∨ rSlA K x lo hi H Q) kSl := by
  intro M H x d lo hi o Q le tb r e q
  unfold kSl at e
  split at e
  · cases e
    obtain ⟨a, vs, rfl, h1, t1⟩ := r.lstE
    refine .inl ⟨a, vs, rfl, .of (le _ _ h1), fun T hT => ?_⟩
    obtain ⟨nw, ro, hz⟩ := new_lst hT le tb (repL_cut t1 lo hi)
    exact q _ M _ [T] nw ro hz
  · cases e
    obtain ⟨a, vs, rfl, h1, t1⟩ := r.tupE
    refine .inr ⟨a, vs, rfl, .of (le _ _ h1), fun hh => ?_, fun _ T hT => ?_⟩
    · rw [cut_all (by rw [t1.length]; exact hh)] at q
      exact q _ M H [] (.refl le tb) (.v (.tup h1 t1)) (by simp)
    · obtain ⟨U, nw, rz⟩ := new_tup hT le tb (repL_cut t1 lo hi)
      exact q _ U _ [] nw (.v rz) (by simp)
  · cases e
    cases r with
    | scr h =>
      refine .inl ⟨_, _, rfl, .inl (.inr ⟨_, le _ _ h⟩), fun T hT => ?_⟩
      obtain ⟨nw, ro, hz⟩ := new_lst hT le tb (repL_cut (repL_ints _) lo hi)
      exact q _ M _ [T] nw ro hz
  · cases e
theorem dx_sl {e : Expr} {lo hi : Option Expr} {m : Mo Own} {ml mh : Mo (Option Int)} {p2 pos : Pos} (he : PE X e (tD g E S m)) (hl : PO X lo (tO g E S ml)) (hu : PO X hi (tO g E S mh)) : PE X (.Subscript e (.Slice lo hi none p2) pos) (tD g E S (mSl kSl m ml mh)) :=
  dx_slice sl_both (pure_sl X.K) he hl hu
/-! ### a op b op c -/
def mChain (k1 k2 : List Val → Option Own) (a b c : Mo Own) : Mo Own := fun r => (a r).bind fun x r1 => (b r1).bind fun y r2 => match k1 [x.val, y.val] with
  | some (.v (.bl true)) => (c r2).bind fun z r3 => match k2 [y.val, z.val] with
    | some o => .ok o r3
    | none => .bad
  | some (.v (.bl false)) => .ok (.v (.bl false)) r2
  | _ => .bad
theorem imp_chain {r1 r2 : R2} {k1 k2 : List Val → Option Own} {a b c : Mo Own} (h1 : Pure g (R2p r1) k1) (h2 : Pure g (R2p r2) k2) {s : L2.St} {H : Hp} {Q : VK} (h : tD g E S (mChain k1 k2 a b c) s H Q) :
    tD g E S a s H fun x H1 => tD g E S b s H1 fun y H2 => r1 x y H2 fun z H3 => ∃ q, z = .bl q ∧ (if q = true then tD g E S c s H3 fun w H4 => r2 y w H4 Q else Q (.bl false) H3) := by
  obtain ⟨r, M, f, st, h⟩ := h
  refine ⟨r, M, f, st, ?_⟩
  unfold mChain at h
  cases ha : a r with
  | bad => rw [ha] at h; exact h
  | ex n v => rw [ha] at h; exact h
  | ok x r1' =>
    simp only [ha, Rs.bind] at h
    intro vx M1 H1 f1 fd1 st1 t1 p1 q1
    refine ⟨r1', M1, f1, st1, ?_⟩
    cases hb : b r1' with
    | bad => simp only [hb] at h
    | ex n v => simp only [hb] at h; exact h.after p1
    | ok y r2' =>
      simp only [hb] at h
      intro vy M2 H2 f2 fd2 st2 t2 p2 q2
      have t1' := t1.step p2 st1 st2
      have p12 := p1.trans p2
      obtain ⟨Ma, sta, moa, nwa, ra⟩ := tmp_vf (b := false) st2 t1' (fun z => by cases z)
      have pa := p12.temp moa nwa q1
      have hd12 : ∀ a ∈ fd2, a ∉ fd1 := fun z h1 h2 => by
        obtain ⟨us, hu⟩ := t1.live z h2
        rw [q2 z h1] at hu; cases hu
      have t2a : Tmp g S.fn Ma H2 f2 y vy fd2 := ⟨t2.rep.mono (fun a o e => by
          rcases view_cases S.fn M2 H2 f2 [] a with ⟨⟨i, k1, k2⟩, q⟩ | ⟨h, q⟩ | ⟨k1, k2, q⟩ <;> rw [q] at e
          · rw [view_in k1 k2]; exact e
          · cases h
          · exact sta.view_le a o (moa a o e)) fun _ _ _ h => h, fun z hz => ⟨by
          cases e : Ma z with
          | none => rfl
          | some o =>
            rcases nwa z o e with q | q
            · rw [(t2.sep z hz).1] at q; cases q
            · exact (hd12 z hz q).elim, (t2.sep z hz).2⟩⟩
      obtain ⟨Mb, stb, mob, nwb, rb⟩ := tmp_vf (b := false) sta t2a (fun z => by cases z)
      have pb := pa.temp mob nwb fun z hz => p1.dom z (q2 z hz)
      have vab : Le (View S.fn Ma H2 f2 []) (View S.fn Mb H2 f2 []) := fun a o e => by
        rcases view_cases S.fn Ma H2 f2 [] a with ⟨⟨i, k1, k2⟩, q⟩ | ⟨h, q⟩ | ⟨k1, k2, q⟩ <;> rw [q] at e
        · rw [view_in k1 k2]; exact e
        · cases h
        · exact stb.view_le a o (mob a o e)
      have rx : Rep g (View S.fn Mb H2 f2 []) x.val vx := Rep.mono vab ra
      have ry : Rep g (View S.fn Mb H2 f2 []) y.val vy := rb
      cases ho : k1 [x.val, y.val] with
      | none => simp only [ho] at h
      | some o =>
        have key : ∀ (Q' : VK), (∀ M' H' (z : V), Sta g M' H' r2' s f2 → Step g S.fn M H r f M' H' r2' f2 → Rep g (View S.fn M' H' f2 []) y.val vy → (∀ q, o = .v (.bl q) → z = .bl q) → Q' z H') → r1 vx vy H2 Q' := fun Q' hQ => by
          obtain ⟨_, _, e3, h3⟩ := h1 (View S.fn Mb H2 f2 []) H2 [vx, vy] _ o Q' stb.view_sub stb.tab (.cons rx (.cons ry .nil)) ho fun z M' H' fz nw ro hz => by
            obtain ⟨M4, st4, t4, p4, q4⟩ := land stb pb (by simp) (by simp) nw ro hz
            obtain ⟨M5, st5, t5, p5, q5⟩ := land stb (Step.refl (g := g) (M := Mb) (H := H2) (r := r2') (f := f2)) (by simp) (by simp) nw ro hz
            refine hQ M5 H' z st5 (pb.trans p5) (ry.mono (p5.view stb st5 (by simp))) fun q e => ?_
            subst e
            cases ro with
            | v ro => cases ro; rfl
          injection e3 with e3 e4
          injection e4 with e4 _
          subst e3 e4
          exact h3
        refine key _ fun M' H' z st' p' ry' hz => ?_
        cases o with
        | l ds => simp only [ho] at h
        | v d =>
          cases d with
          | bl q =>
            obtain rfl := hz q rfl
            refine ⟨q, rfl, ?_⟩
            cases q with
            | false =>
              simp only [ho] at h
              simp only [Bool.false_eq_true, if_false]
              exact h (.bl false) M' H' f2 [] st' ⟨.v (.bl false), by simp⟩ p' (by simp)
            | true =>
              simp only [ho] at h
              simp only [if_true]
              refine ⟨r2', M', f2, st', ?_⟩
              cases hc : c r2' with
              | bad => simp only [hc] at h
              | ex n v => simp only [hc] at h; exact h.after p'
              | ok z' r3' =>
                simp only [hc] at h
                intro vz M6 H6 f6 fd6 st6 t6 p6 q6
                cases ho2 : k2 [y.val, z'.val] with
                | none => simp only [ho2] at h
                | some o2 =>
                  simp only [ho2] at h
                  have ty : Tmp g S.fn M' H' f2 (.v y.val) vy [] := ⟨.v ry', by simp⟩
                  have tt : Tmps g S.fn M6 H6 f6 [.v y.val, z'] [vy, vz] ([] ++ (fd6 ++ [])) := .cons (ty.step p6 st' st6) (.cons t6 .nil (by simp)) (by simp)
                  have rp := tt.vals st6
                  obtain ⟨_, _, e3, h3⟩ := h2 _ H6 [vy, vz] _ o2 Q st6.view_sub st6.tab rp ho2 fun z M7 H7 fz nw ro hz => by
                    obtain ⟨M8, st8, t8, p8, q8⟩ := land st6 (p'.trans p6) (fun a ha => p'.dom a (q6 a (by simpa using ha))) (fun a ha => ⟨t6.live a (by simpa using ha), (t6.sep a (by simpa using ha)).2⟩) nw ro hz
                    exact h z M8 H7 f6 fz st8 t8 p8 q8
                  injection e3 with e3 e4
                  injection e4 with e4 _
                  subst e3 e4
                  exact h3
          | _ => simp only [ho] at h
theorem dx_chain {op op' : CmpOp} {r r' : R2} {k1 k2 : List Val → Option Own} {a b d : Expr} {ma mb md : Mo Own} {pos : Pos} (ho : OpR X (compareOp op) r) (h1 : Pure g (R2p r) k1) (ho' : OpR X (compareOp op') r') (h2 : Pure g (R2p r') k2) (ha : PE X a (tD g E S ma)) (hb : PE X b (tD g E S mb)) (hd : PE X d (tD g E S md)) (hm : lastMarks [op, op'] [b, d] = false := by with_unfolding_all rfl) :
    PE X (.Compare a [op, op'] [b, d] pos) (tD g E S (mChain k1 k2 ma mb md)) := PE.imp (pe_chain ho ho' ha hb hd hm) fun _ _ _ h => imp_chain h1 h2 h
theorem dt_chain {op op' : CmpOp} {r r' : R2} {k1 k2 : List Val → Option Own} {a b d : Expr} {ma mb md : Mo Own} {pos : Pos} (ho : OpR X (compareOp op) r) (h1 : Pure g (R2p r) k1) (ho' : OpR X (compareOp op') r') (h2 : Pure g (R2p r') k2) (ha : PE X a (tD g E S ma)) (hb : PE X b (tD g E S mb)) (hd : PE X d (tD g E S md)) (hm : lastMarks [op, op'] [b, d] = false := by with_unfolding_all rfl) :
    PT X (.Compare a [op, op'] [b, d] pos) (tB g E S (mTest (mChain k1 k2 ma mb md))) := PT.imp (pt_chain ho ho' ha hb hd hm) fun _ _ _ h => imp_chain h1 h2 (imp_test h)
end
end KS
set_option Elab.async false
set_option linter.all false
set_option maxRecDepth 100000
set_option maxHeartbeats 4000000
namespace KS
open PySem PySem.Spec PyProof.Rows L2
open LamX (Tabs TabS)

/-! ### sorted of whatever can be collected -/
section
open PySem.W PySem.Calls
variable {prog : Program} {w : World} {A : Around} {E : Value → Shared → Prop} {s : Shared} {β : Type} {vs : List Value} {bs : List β} {enc : β → PyData} {R : Value → β → Prop}
theorem sorted_col {u : Value} {Q : Value → Shared → Prop}
    (hcol : ∀ (A' : Around) (R : List Value → Shared → Prop) (E' : Value → Shared → Prop), (∀ h', (∀ b o, s.heap.get? b = some o → h'.get? b = some o) → R vs { s with heap := h' }) → wpAny (model prog w) A' (collect u) R E' s)
    (e : EachIs R vs bs) (er : EachIs (fun v b => ∃ as, Reads s.heap v (enc b) as) vs bs) (hal : AllAlike (bs.map enc)) (hk : Sortable (bs.map enc)) (hL : bs.length ≤ sizeLine) (hu : ∀ b, b ∈ bs → A.units + 2 + (enc b).depth < cLine)
    (h : ∀ p out h' n, (∀ o, s.heap.get? p ≠ some o) → (∀ b o, s.heap.get? b = some o → h'.get? b = some o) → h'.get? p = some { cls := .type "list", data := .seq (List.toArray out) n } → EachIs R out (bs.mergeSort (dataLe false enc)) → Q (.ref p) { s with heap := h' }) :
    wpAny (model prog w) A (call (.builtin "sorted") [u]) Q E s := by
  have hvL : vs.length ≤ sizeLine := by rw [e.length]; exact hL
  refine call_function_entry_kw kind_sorted plain_sorted entry_sorted (args_sorted1 _) ?_
  unfold Builtin.«sorted»
  refine wpAny_bind (m := checkCount "sorted" 1 1 _) (wpAny_pure ?_)
  refine wpAny_bind (hcol _ _ _ fun h1 k1 => ?_)
  refine wpAny_bind (wpAny_newList ?_ hvL)
  have hat : (h1.push (seqObj "list" vs.toArray 0)).get? h1.objs.size = some (seqObj "list" vs.toArray 0) := Heap.get?_push_size _ rfl
  have k2 : ∀ b o, s.heap.get? b = some o → (sortingHeap (h1.push (seqObj "list" vs.toArray 0)) h1.objs.size vs).get? b = some o := fun b o q =>
    sortingHeap_old (Nat.ne_of_lt (Heap.lt_size (k1 b o q))) (Heap.get?_push_of_some _ (k1 b o q))
  have er' : EachIs (fun v b => ∃ as, Reads (sortingHeap (h1.push (seqObj "list" vs.toArray 0)) h1.objs.size vs) v (enc b) as) vs bs := er.mono fun _ _ ⟨as, r⟩ => ⟨as, PyProof.Rows.Reads.keeps k2 r⟩
  have hsz : ∀ o, s.heap.get? h1.objs.size ≠ some o := fun o q => Nat.lt_irrefl _ (Heap.lt_size (k1 _ _ q))
  refine wpAny_bind (wpAny_holding (wpAny_call_entry_kw slot_list_sort ⟨_, hat, rfl⟩ entry_list_sort ?body (args_list_sort _)))
  case body =>
    show wpAny (model prog w) A.in1.in1 (Builtin.«list.sort» ⟨[.ref h1.objs.size], []⟩) _ _ _
    refine list_sort_vals (s := { s with heap := h1.push (seqObj "list" vs.toArray 0) }) hat (SortsAt.data (s := { s with heap := sortingHeap (h1.push (seqObj "list" vs.toArray 0)) h1.objs.size vs }) (each_map (R := fun v d => ∃ as, Reads (sortingHeap (h1.push (seqObj "list" vs.toArray 0)) h1.objs.size vs) v d as) enc er') hal hk (bound_map hu)) hvL ?_
    obtain ⟨n, hn⟩ := sortedHeap_at (out := (sortVals (dataKind (sortingHeap (h1.push (seqObj "list" vs.toArray 0)) h1.objs.size vs) (bs.map enc)) false vs vs).toArray) hat
    refine ⟨_, rfl, wpAny_pure ⟨_, rfl, h h1.objs.size _ _ n hsz (fun b o q => ?_) hn (sortVals_data false e er' hal)⟩⟩
    have hlt := Heap.lt_size (k1 b o q)
    rw [sortedHeap_old (Nat.ne_of_lt hlt) (by rw [size_push']; exact Nat.lt_succ_of_lt hlt)]
    exact Heap.get?_push_of_some _ (k1 b o q)
end
end KS
namespace KS
open PySem PySem.Spec PyProof.Rows L2
open LamX (Tabs TabS)
open PySem.W (EachIs AllAlike Sortable dataLe)
section
variable {g : G} {E : XK} {S : Vw} {k : Nat} {X : Cx} {pn : Option V}
theorem laid_none {pins : List (Addr × Obj)} {σ : L2.St} {H : Hp} {s : Shared} {h' : Heap} {a : Addr} {o : HO} (I : Inv X pins σ H s) (kk : ∀ b u, s.heap.get? b = some u → h'.get? b = some u) (hp : ∀ o, s.heap.get? a ≠ some o) (new : ObjOk X.prog X.w (upd H a o) h' a o) :
    H a = none ∧ Inv X pins σ (upd H a o) { s with heap := h' } := by
  have hg : s.heap.get? a = none := by
    cases e : s.heap.get? a with
    | none => rfl
    | some u => exact (hp u e).elim
  have hn : H a = none := L2.HOk.gone I.hok hg
  refine ⟨hn, I.un (t' := s.toks) ⟨fun b u q _ _ _ => kk b u q, fun b u q _ _ _ => ⟨u.slots, kk b u q⟩, fun b u q n _ => ?_, fun b u q _ => ⟨u, kk b u q⟩, fun b xs q => ?_, fun b u xs q => ?_, fun b ps q => ⟨#[], ?_⟩⟩ (L2.HOk.laidN I.hok kk hn new)⟩
  · rw [upd_ne (fun z => by rw [z, hg] at q; cases q)]; exact n
  · rw [upd_ne (ne_of_none q hn)]; exact q
  · rw [upd_ne (ne_of_none q hn)]; exact q
  · rw [upd_ne (ne_of_none q hn), q]; simp
theorem zip_snd {α β : Type} : ∀ {xs : List α} {ys : List β}, xs.length = ys.length → (xs.zip ys).map (·.2) = ys
  | [], [], _ => rfl
  | [], _ :: _, h => by simp at h
  | _ :: _, [], h => by simp at h
  | x :: xs, y :: ys, h => by simp only [List.zip_cons_cons, List.map_cons]; rw [zip_snd (by simpa using h)]
theorem each_zip {β : Type} : ∀ {vs : List V} {its : List Value} {ds : List β}, Vals vs its → vs.length = ds.length → EachIs (fun v (b : V × β) => RelV b.1 v) its (vs.zip ds)
  | [], _, [], .nil, _ => .nil
  | [], _, _ :: _, _, h => by simp at h
  | _ :: _, _, [], _, h => by simp at h
  | _ :: _, _, _ :: _, .cons r t, h => .cons r (each_zip t (by simpa using h))
theorem each_reads {h : Heap} : ∀ {its : List Value} {vs : List V} {ds : List PyData} {as : List Addr}, ReadsAll h its ds as → vs.length = ds.length → EachIs (fun v (b : V × PyData) => ∃ as, Reads h v b.2 as) its (vs.zip ds)
  | _, [], [], _, r, _ => by cases r; exact .nil
  | _, [], _ :: _, _, _, h => by simp at h
  | _, _ :: _, [], _, _, h => by simp at h
  | _, _ :: _, _ :: _, _, r, h => by
    cases r with
    | cons a b => exact .cons ⟨_, a⟩ (each_reads b (by simpa using h))
theorem vals_fst : ∀ {out : List Value} {bs : List (V × PyData)}, EachIs (fun v b => RelV b.1 v) out bs → Vals (bs.map (·.1)) out
  | _, _, .nil => .nil
  | _, _, .cons a t => .cons a (vals_fst t)
theorem dps_len {K : PySem.W.Frag} {H : Hp} : ∀ {vs : List V} {ds : List PyData}, DpAll K H vs ds → vs.length = ds.length
  | _, _, .nil => rfl
  | _, _, .cons _ t => by simp [dps_len t]
def rSortD (K : PySem.W.Frag) : List V → Hp → VK → Prop := fun xs H Q => ∃ (a : Addr) (vs : List V) (ds : List PyData), xs = [.ref a] ∧ (SqL K H a vs ∨ SqT K H a vs) ∧ DpAll K H vs ds ∧ AllAlike ds ∧ Sortable ds ∧ (∀ d ∈ ds, d.depth ≤ 60) ∧
  ∀ p, H p = none → Q (.ref p) (upd H p (.lst (((vs.zip ds).mergeSort (dataLe false (·.2))).map (·.1))))
theorem cr_sortD (hu : X.A.units + 66 < cLine) : CallR X (.builtin "sorted") (rSortD X.K) := by
  intro pins s σ H vs us Q I r h
  obtain ⟨a, xs, ds, rfl, hs, hd, hal, hk, hdep, q⟩ := h
  rw [Vals.ref1 r]
  have hl := dps_len hd
  have key : ∀ (its : List Value), Vals xs its → its.length ≤ sizeLine → (∀ (A' : Around) (R : List Value → Shared → Prop) (E' : Value → Shared → Prop), (∀ h', (∀ b o, s.heap.get? b = some o → h'.get? b = some o) → R its { s with heap := h' }) → wpAny (model X.prog X.w) A' (collect (.ref a)) R E' s) →
      wpAny (model X.prog X.w) X.A (call (.builtin "sorted") [.ref a]) (EP X pins σ Q) X.xe s := by
    intro its rv hz hcol
    obtain ⟨as, ra⟩ := Dp.readsAll I ds xs its hd rv
    have hlb : (xs.zip ds).length = its.length := by rw [List.length_zip, hl, Nat.min_self, ← hl, rv.length]
    refine sorted_col (enc := fun b : V × PyData => b.2) hcol (each_zip rv hl) (each_reads ra hl) (by rw [zip_snd hl]; exact hal) (by rw [zip_snd hl]; exact hk) (by rw [hlb]; exact hz) (fun b hb => ?_) fun p out h' n hp kk ho e => ?_
    · have := hdep b.2 (by rw [← zip_snd hl]; exact List.mem_map_of_mem hb)
      omega
    · have rout := vals_fst e
      have hlen : (((xs.zip ds).mergeSort (dataLe false (·.2))).map (·.1)).length ≤ sizeLine := by
        rw [List.length_map, List.length_mergeSort, hlb]; exact hz
      obtain ⟨hn, J⟩ := laid_none (o := .lst (((xs.zip ds).mergeSort (dataLe false (·.2))).map (·.1))) I kk hp ⟨hlen, out, n, rout, ho⟩
      exact ⟨.ref p, _, J, rfl, q p hn⟩
  rcases hs with hs | hs
  · obtain ⟨its, rv, pl, hz⟩ := I.list hs
    obtain ⟨o, ho, hc, n, hd2⟩ := pl.isList
    exact key its rv (by have := rv.length; omega) fun A' R E' hR => wpAny_collect_seq a (.inl rfl) ho hc hd2 (fun h' hk => by simpa using hR h' hk) (by simp only [List.size_toArray]; have := rv.length; omega)
  · obtain ⟨its, rv, pl, hz⟩ := I.tuple hs
    obtain ⟨o, ho, hc, n, hd2⟩ := pl
    exact key its rv (by have := rv.length; omega) fun A' R E' hR => wpAny_collect_seq a (.inr rfl) ho hc hd2 (fun h' hk => by simpa using hR h' hk) (by simp only [List.size_toArray]; have := rv.length; omega)
end
end KS
set_option Elab.async false
set_option linter.all false
set_option maxRecDepth 100000
set_option maxHeartbeats 4000000
namespace KS
open PySem PySem.Spec PyProof.Rows L2
open LamX (Tabs TabS)
open PySem.W (EachIs AllAlike Sortable dataLe)
/-! ### max, min of a list or a tuple of ints -/
section
variable {prog : Program} {w : World} {A : Around} {E : Value → Shared → Prop} {s : Shared} {l : Addr} {xs : Array (Int × Tok)} {Q : Value → Shared → Prop}
theorem walk_tup (hh : A.handled = none) (hl : s.heap.IsTuple l (intItems xs)) : l ≠ s.heap.objs.size ∧ ∀ b ∈ [s.heap.objs.size, l], b < (s.heap.push { cls := .type "tuple_iterator", data := .fields #[.ref l, rawInt 0] }).objs.size := by
  have hlt : l < s.heap.objs.size := by obtain ⟨_, e, _⟩ := hl; exact Heap.lt_size e
  refine ⟨Nat.ne_of_lt hlt, fun b hb => ?_⟩
  simp only [List.mem_cons, List.not_mem_nil, or_false] at hb
  rw [Heap.size_push]
  rcases hb with rfl | rfl
  · exact Nat.lt_succ_self _
  · exact Nat.lt_succ_of_lt hlt
theorem max_tupG (hh : A.handled = none) (hl : s.heap.IsTuple l (intItems xs)) (hne : 0 < xs.size)
    (h : ∀ v h' tk, (intItems xs)[argBest (fun i j => decide (numAt xs i > numAt xs j)) (xs.size - 1)]? = some v → (∀ b o, s.heap.get? b = some o → h'.get? b = some o) → Q v { s with heap := h', toks := tk }) :
    wpAny (model prog w) A (call (.builtin "max") [.ref l]) Q E s := by
  have hlt : l < s.heap.objs.size := by obtain ⟨_, e, _⟩ := hl; exact Heap.lt_size e
  refine call_max_walk (wpAny_pyIter_tuple hl ?_)
  have hlI : l ≠ s.heap.objs.size := Nat.ne_of_lt hlt
  refine ⟨s.heap.objs.size, _, _, _, _, _, _, rfl, Walks.tuple (A := A.in1) hh _ l hlI (intItems xs), ⟨⟨_, Heap.get?_push_size _ rfl, rfl, rfl⟩, by obtain ⟨o, e, r⟩ := hl; exact ⟨o, Heap.get?_push_of_some _ e, r⟩⟩, fun b hb => ?_, by simpa [intItems] using hne, CmpOf.ints_gt (numAt xs) (fun _ _ => intItems_at), fun v h' tk hP hk => ?_⟩
  · simp only [List.mem_cons, List.not_mem_nil, or_false] at hb
    show b < (s.heap.push _).objs.size
    rw [Heap.size_push]
    rcases hb with rfl | rfl
    · exact Nat.lt_succ_self _
    · exact Nat.lt_succ_of_lt hlt
  · exact h v h' tk (by simpa [intItems] using hP) fun b o e => hk b o (by
      simp only [List.mem_singleton]
      exact Nat.ne_of_lt (Heap.lt_size e)) (Heap.get?_push_of_some _ e)
theorem min_tupG (hh : A.handled = none) (hl : s.heap.IsTuple l (intItems xs)) (hne : 0 < xs.size)
    (h : ∀ v h' tk, (intItems xs)[argBest (fun i j => decide (numAt xs i < numAt xs j)) (xs.size - 1)]? = some v → (∀ b o, s.heap.get? b = some o → h'.get? b = some o) → Q v { s with heap := h', toks := tk }) :
    wpAny (model prog w) A (call (.builtin "min") [.ref l]) Q E s := by
  have hlt : l < s.heap.objs.size := by obtain ⟨_, e, _⟩ := hl; exact Heap.lt_size e
  refine call_min_walk (wpAny_pyIter_tuple hl ?_)
  have hlI : l ≠ s.heap.objs.size := Nat.ne_of_lt hlt
  refine ⟨s.heap.objs.size, _, _, _, _, _, _, rfl, Walks.tuple (A := A.in1) hh _ l hlI (intItems xs), ⟨⟨_, Heap.get?_push_size _ rfl, rfl, rfl⟩, by obtain ⟨o, e, r⟩ := hl; exact ⟨o, Heap.get?_push_of_some _ e, r⟩⟩, fun b hb => ?_, by simpa [intItems] using hne, CmpOf.ints_lt (numAt xs) (fun _ _ => intItems_at), fun v h' tk hP hk => ?_⟩
  · simp only [List.mem_cons, List.not_mem_nil, or_false] at hb
    show b < (s.heap.push _).objs.size
    rw [Heap.size_push]
    rcases hb with rfl | rfl
    · exact Nat.lt_succ_self _
    · exact Nat.lt_succ_of_lt hlt
  · exact h v h' tk (by simpa [intItems] using hP) fun b o e => hk b o (by
      simp only [List.mem_singleton]
      exact Nat.ne_of_lt (Heap.lt_size e)) (Heap.get?_push_of_some _ e)
end
section
variable {X : Cx}
def rMaxA (K : PySem.W.Frag) : List V → Hp → VK → Prop := fun vs H Q => ∃ (a : Addr) (ns : List Int) (m : Int), vs = [V.ref a] ∧ (SqL K H a (ns.map V.int) ∨ SqT K H a (ns.map V.int)) ∧ (m ∈ ns ∧ ∀ y, y ∈ ns → y ≤ m) ∧ Q (.int m) H
def rMinA (K : PySem.W.Frag) : List V → Hp → VK → Prop := fun vs H Q => ∃ (a : Addr) (ns : List Int) (m : Int), vs = [V.ref a] ∧ (SqL K H a (ns.map V.int) ∨ SqT K H a (ns.map V.int)) ∧ (m ∈ ns ∧ ∀ y, y ∈ ns → m ≤ y) ∧ Q (.int m) H
theorem cr_maxA (hc : X.calm = true) : CallR X (.builtin "max") (rMaxA X.K) := by
  intro pins s σ H vs us Q I r h
  obtain ⟨a, ns, m, rfl, hl, ⟨hm, hmax⟩, q⟩ := h
  have hne : 0 < ns.length := by cases ns with
    | nil => cases hm
    | cons _ _ => simp
  have uniq : ∀ m', m' ∈ ns → (∀ y, y ∈ ns → y ≤ m') → m' = m := fun m' h1 h2 => Int.le_antisymm (hmax m' h1) (h2 m hm)
  rcases hl with hl | hl
  · exact cr_max hc pins s σ H _ us Q I r ⟨a, ns, rfl, hl, hne, fun m' h1 h2 => by rw [uniq m' h1 h2]; exact q⟩
  · rw [Vals.ref1 r]
    obtain ⟨its, rv, pl, hz⟩ := I.tuple hl
    have hi := Vals.ints rv
    obtain ⟨xs, e⟩ := hi.allInts.items
    have hn : numsOf (intItems xs).toList = ns := by rw [← e]; exact hi.numsOf
    rw [nums_intItems] at hn
    subst hn
    have pl2 : s.heap.IsTuple a (intItems xs) := by rw [← e]; exact pl
    have hsz : 0 < xs.size := by simpa using hne
    refine max_tupG (I.ok.hd hc) pl2 hsz fun v h' tk hv hk => ?_
    obtain ⟨t, rfl⟩ := intItems_at hv
    obtain ⟨h1, h2⟩ := argBest_gt (numAt xs) (xs.size - 1)
    have e3 : numAt xs (argBest (fun i j => decide (numAt xs i > numAt xs j)) (xs.size - 1)) = m := by
      refine uniq _ ?_ fun y hy => ?_
      · rw [numAt_eq]; exact PySem.getD_mem (by rw [List.length_map, Array.length_toList]; omega)
      · obtain ⟨j, hj, rfl⟩ := mem_getD hy
        rw [List.length_map, Array.length_toList] at hj
        rw [← numAt_eq]
        exact h2 j (by omega)
    rw [e3]
    exact ⟨.int m, H, I.kept hk, ⟨t, rfl⟩, q⟩
theorem cr_minA (hc : X.calm = true) : CallR X (.builtin "min") (rMinA X.K) := by
  intro pins s σ H vs us Q I r h
  obtain ⟨a, ns, m, rfl, hl, ⟨hm, hmax⟩, q⟩ := h
  have hne : 0 < ns.length := by cases ns with
    | nil => cases hm
    | cons _ _ => simp
  have uniq : ∀ m', m' ∈ ns → (∀ y, y ∈ ns → m' ≤ y) → m' = m := fun m' h1 h2 => Int.le_antisymm (h2 m hm) (hmax m' h1)
  rcases hl with hl | hl
  · exact cr_min hc pins s σ H _ us Q I r ⟨a, ns, rfl, hl, hne, fun m' h1 h2 => by rw [uniq m' h1 h2]; exact q⟩
  · rw [Vals.ref1 r]
    obtain ⟨its, rv, pl, hz⟩ := I.tuple hl
    have hi := Vals.ints rv
    obtain ⟨xs, e⟩ := hi.allInts.items
    have hn : numsOf (intItems xs).toList = ns := by rw [← e]; exact hi.numsOf
    rw [nums_intItems] at hn
    subst hn
    have pl2 : s.heap.IsTuple a (intItems xs) := by rw [← e]; exact pl
    have hsz : 0 < xs.size := by simpa using hne
    refine min_tupG (I.ok.hd hc) pl2 hsz fun v h' tk hv hk => ?_
    obtain ⟨t, rfl⟩ := intItems_at hv
    obtain ⟨h1, h2⟩ := argBest_lt (numAt xs) (xs.size - 1)
    have e3 : numAt xs (argBest (fun i j => decide (numAt xs i < numAt xs j)) (xs.size - 1)) = m := by
      refine uniq _ ?_ fun y hy => ?_
      · rw [numAt_eq]; exact PySem.getD_mem (by rw [List.length_map, Array.length_toList]; omega)
      · obtain ⟨j, hj, rfl⟩ := mem_getD hy
        rw [List.length_map, Array.length_toList] at hj
        rw [← numAt_eq]
        exact h2 j (by omega)
    rw [e3]
    exact ⟨.int m, H, I.kept hk, ⟨t, rfl⟩, q⟩
end
section
variable {g : G} {E : XK} {S : Vw} {k : Nat} {X : Cx} {pn : Option V}
def kMaxL : List Val → Option Own
  | [.lst ds] => (valInts ds).bind fun ns => ns.max?.map fun m => .v (.int m)
  | [.tup ds] => (valInts ds).bind fun ns => ns.max?.map fun m => .v (.int m)
  | _ => none
def kMinL : List Val → Option Own
  | [.lst ds] => (valInts ds).bind fun ns => ns.min?.map fun m => .v (.int m)
  | [.tup ds] => (valInts ds).bind fun ns => ns.min?.map fun m => .v (.int m)
  | _ => none
theorem pure_maxL (K : PySem.W.Frag) : Pure g (rMaxA K) kMaxL := by
  refine Pure.val fun M H xs ds o le r e => ?_
  unfold kMaxL at e
  split at e
  all_goals first | (cases e; done) | skip
  · rename_i es
    obtain ⟨x, rfl, r1⟩ := repL1 r rfl
    obtain ⟨a, vs, rfl, h1, t1⟩ := r1.lstE
    cases q : valInts es with
    | none => rw [q] at e; cases e
    | some ns =>
      rw [q] at e
      obtain rfl := valInts_eq q
      have := t1.ints
      subst this
      have e : (ns.max?.map fun m => Own.v (.int m)) = some o := e
      cases q2 : ns.max? with
      | none => rw [q2] at e; cases e
      | some m =>
        rw [q2] at e; cases e
        exact ⟨_, _, rfl, .int _, fun Q qq => ⟨a, ns, m, rfl, .inl (.of (le _ _ h1)), List.max?_eq_some_iff.mp q2, qq⟩⟩
  · rename_i es
    obtain ⟨x, rfl, r1⟩ := repL1 r rfl
    obtain ⟨a, vs, rfl, h1, t1⟩ := r1.tupE
    cases q : valInts es with
    | none => rw [q] at e; cases e
    | some ns =>
      rw [q] at e
      obtain rfl := valInts_eq q
      have := t1.ints
      subst this
      have e : (ns.max?.map fun m => Own.v (.int m)) = some o := e
      cases q2 : ns.max? with
      | none => rw [q2] at e; cases e
      | some m =>
        rw [q2] at e; cases e
        exact ⟨_, _, rfl, .int _, fun Q qq => ⟨a, ns, m, rfl, .inr (.of (le _ _ h1)), List.max?_eq_some_iff.mp q2, qq⟩⟩
theorem pure_minL (K : PySem.W.Frag) : Pure g (rMinA K) kMinL := by
  refine Pure.val fun M H xs ds o le r e => ?_
  unfold kMinL at e
  split at e
  all_goals first | (cases e; done) | skip
  · rename_i es
    obtain ⟨x, rfl, r1⟩ := repL1 r rfl
    obtain ⟨a, vs, rfl, h1, t1⟩ := r1.lstE
    cases q : valInts es with
    | none => rw [q] at e; cases e
    | some ns =>
      rw [q] at e
      obtain rfl := valInts_eq q
      have := t1.ints
      subst this
      have e : (ns.min?.map fun m => Own.v (.int m)) = some o := e
      cases q2 : ns.min? with
      | none => rw [q2] at e; cases e
      | some m =>
        rw [q2] at e; cases e
        exact ⟨_, _, rfl, .int _, fun Q qq => ⟨a, ns, m, rfl, .inl (.of (le _ _ h1)), List.min?_eq_some_iff.mp q2, qq⟩⟩
  · rename_i es
    obtain ⟨x, rfl, r1⟩ := repL1 r rfl
    obtain ⟨a, vs, rfl, h1, t1⟩ := r1.tupE
    cases q : valInts es with
    | none => rw [q] at e; cases e
    | some ns =>
      rw [q] at e
      obtain rfl := valInts_eq q
      have := t1.ints
      subst this
      have e : (ns.min?.map fun m => Own.v (.int m)) = some o := e
      cases q2 : ns.min? with
      | none => rw [q2] at e; cases e
      | some m =>
        rw [q2] at e; cases e
        exact ⟨_, _, rfl, .int _, fun Q qq => ⟨a, ns, m, rfl, .inr (.of (le _ _ h1)), List.min?_eq_some_iff.mp q2, qq⟩⟩
/-! ### isinstance of a built-in type -/
def tyName : Val → Option String
  | .non => some "NoneType"
  | .bl _ => some "bool"
  | .int _ => some "int"
  | .str _ => some "str"
  | .tup _ => some "tuple"
  | .lst _ => some "list"
  | .scr _ => some "list"
  | _ => none
theorem tyx_of {K : PySem.W.Frag} {M H : Hp} (le : Le M H) {d : Val} {x : V} {t : String} (r : Rep g M d x) (h : tyName d = some t) : TyX K H x (.type t) := by
  cases r with
  | non => cases h; exact .base .non
  | bl b => cases h; exact .base (.bl b)
  | int i => cases h; exact .base (.int i)
  | str z => cases h; exact .base (.str z)
  | tup h1 _ => cases h; exact .base (.tup (le _ _ h1))
  | lst h1 _ => cases h; exact .base (.lst (le _ _ h1))
  | scr h1 => cases h; exact .base (.frz (le _ _ h1))
  | _ => cases h
def kIsi : List Val → Option Own
  | [d, .ty n] => (tyName d).bind fun t => (kitB t n).map fun b => .v (.bl b)
  | _ => none
theorem pure_isi (K : PySem.W.Frag) : Pure g (rIsi K) kIsi := by
  refine Pure.val fun M H xs ds o le r e => ?_
  unfold kIsi at e
  split at e
  all_goals first | (cases e; done) | skip
  rename_i d n
  obtain ⟨x, y, rfl, r1, r2⟩ := repL2 r rfl
  cases r2 with
  | ty n =>
    cases ht : tyName d with
    | none => rw [ht] at e; cases e
    | some t =>
      rw [ht] at e
      have e : ((kitB t n).map fun b => Own.v (.bl b)) = some o := e
      cases hb : kitB t n with
      | none => rw [hb] at e; cases e
      | some b =>
        rw [hb] at e; cases e
        exact ⟨_, _, rfl, .bl b, fun Q q => ⟨x, .ty n, _, _, b, rfl, .ty n, tyx_of le r1 ht, kit_ty hb, q⟩⟩
theorem dx_tyN {x : PySem.Str} {n : String} {pos : Pos} (c : Cxt g E k X) (hm : g.mg x = none) (hv : bootBuiltins x = some (.type n)) (hg : Gl X x := by rfl) (hn : x ≠ "__name__" := by decide) (hd : (x == ("__debug__" : PySem.Str)) = false := by decide) :
    PE X (.Name x pos) (tD g E S (mC (.ty n))) := PE.imp (pe_bltn (v := V.ty n) hg (by rw [c.mg]; exact hm) hv rfl hn hd) fun _ _ _ => imp_c fun _ => .ty n
theorem dx_clsN {x : PySem.Str} {C : Addr} {pos : Pos} (c : Cxt g E k X) (hm : g.mg x = some (.ref C)) (hg : Gl X x := by rfl) (hd : (x == ("__debug__" : PySem.Str)) = false := by decide) :
    PE X (.Name x pos) (tD g E S (mC (.cls x))) := PE.imp (pe_glob (v := V.ref C) hg (by rw [c.mg]; exact hm) rfl hd) fun _ _ _ => imp_c fun _ => .cls hm
/-! ### list(range(..)) -/
def kListRg1 : List Val → Option Own
  | [.int n] => if decide (0 ≤ n) && decide (n ≤ 16777216) then some (.l (intsFrom 0 n.toNat)) else none
  | _ => none
def kListRg2 : List Val → Option Own
  | [.int a, .int b] => if decide (-8388608 ≤ a) && decide (a ≤ 8388608) && decide (-8388608 ≤ b) && decide (b ≤ 8388608) then some (.l (intsFrom a (b - a).toNat)) else none
  | _ => none
theorem repL_rg {M : Hp} (a b : Int) : RepL g M (intsFrom a (b - a).toNat) (rgV a b) := by
  unfold intsFrom rgV
  generalize (b - a).toNat = n
  have : ∀ l : List Nat, RepL g M (l.map fun i => Val.int (a + (i : Nat))) (l.map fun i => V.int (a + (i : Nat))) := by
    intro l
    induction l with
    | nil => exact .nil
    | cons i l ih => exact .cons (.int _) ih
  exact this _
theorem pure_listRg1 : Pure g (fun xs H Q => ∃ n, xs = [.int n] ∧ RgOk 0 n ∧ ∀ q, H q = none → Q (.ref q) (upd H q (.lst (rgV 0 n)))) kListRg1 := by
  intro M H xs ds o Q le tb r e q
  unfold kListRg1 at e
  split at e
  · obtain ⟨x, rfl, r1⟩ := repL1 r rfl
    cases r1.intE
    split at e
    · rename_i n hz
      cases e
      simp only [Bool.and_eq_true, decide_eq_true_eq] at hz
      refine ⟨n, rfl, RgOk.of_le (by omega) hz.2 (by omega) hz.1, fun T hT => ?_⟩
      obtain ⟨nw, ro, hz⟩ := new_lst hT le tb (repL_rg 0 n)
      rw [Int.sub_zero] at ro
      exact q _ M _ [T] nw ro hz
    · cases e
  · cases e
theorem pure_listRg2 : Pure g (fun xs H Q => ∃ a b, xs = [.int a, .int b] ∧ RgOk a b ∧ ∀ q, H q = none → Q (.ref q) (upd H q (.lst (rgV a b)))) kListRg2 := by
  intro M H xs ds o Q le tb r e q
  unfold kListRg2 at e
  split at e
  · obtain ⟨x, y, rfl, r1, r2⟩ := repL2 r rfl
    cases r1.intE
    cases r2.intE
    split at e
    · rename_i a b hz
      cases e
      simp only [Bool.and_eq_true, decide_eq_true_eq] at hz
      refine ⟨a, b, rfl, ⟨by omega, by omega, by omega, by omega, by omega⟩, fun T hT => ?_⟩
      obtain ⟨nw, ro, hz⟩ := new_lst hT le tb (repL_rg a b)
      exact q _ M _ [T] nw ro hz
    · cases e
  · cases e
theorem dx_listRg1 {a : Expr} {m : Mo Own} {p p2 pos pos2 : Pos} (c : Cxt g E k X) (hm : g.mg "list" = none) (hm2 : g.mg "range" = none) (ha : PE X a (tD g E S m)) (hg : Gl X "list" := by rfl) (hg2 : Gl X "range" := by rfl)
    (na : starEach [a] X.env = (false, eval a X.env) :: starEach [] X.env := by rfl) (na2 : starEach [.Call (.Name "range" p2) [a] [] pos2] X.env = (false, eval (.Call (.Name "range" p2) [a] [] pos2) X.env) :: starEach [] X.env := by rfl) :
    PE X (.Call (.Name "list" p) [.Call (.Name "range" p2) [a] [] pos2] [] pos) (tD g E S (mPure kListRg1 (mCons m mNil))) := PE.imp (pe_listRg c.calm hg (by rw [c.mg]; exact hm) (prg_1 hg2 (by rw [c.mg]; exact hm2) ha na) na2) fun s H Q q => by
  have h1 := imp_one (imp_pure pure_listRg1 q)
  obtain ⟨r0, M, f, st, h1⟩ := h1
  refine ⟨r0, M, f, st, ?_⟩
  cases e : m r0 with
  | bad => rw [e] at h1; exact h1
  | ex n v => rw [e] at h1; exact h1
  | ok d r1 =>
    rw [e] at h1
    intro x M1 H1 f1 fd st1 t1 p1 q1
    obtain ⟨n, e1, e2⟩ := h1 x M1 H1 f1 fd st1 t1 p1 q1
    cases e1
    exact ⟨n, rfl, e2⟩
theorem dx_listRg2 {a b : Expr} {m m2 : Mo Own} {p p2 pos pos2 : Pos} (c : Cxt g E k X) (hm : g.mg "list" = none) (hm2 : g.mg "range" = none) (ha : PE X a (tD g E S m)) (hb : PE X b (tD g E S m2)) (hg : Gl X "list" := by rfl) (hg2 : Gl X "range" := by rfl)
    (na : starEach [a, b] X.env = (false, eval a X.env) :: starEach [b] X.env := by rfl) (nb : starEach [b] X.env = (false, eval b X.env) :: starEach [] X.env := by rfl) (hp : (backTo pos2 (starEach [b] X.env)).any (·.1) = false := by rfl)
    (na2 : starEach [.Call (.Name "range" p2) [a, b] [] pos2] X.env = (false, eval (.Call (.Name "range" p2) [a, b] [] pos2) X.env) :: starEach [] X.env := by rfl) :
    PE X (.Call (.Name "list" p) [.Call (.Name "range" p2) [a, b] [] pos2] [] pos) (tD g E S (mPure kListRg2 (mCons m (mCons m2 mNil)))) := PE.imp (pe_listRg c.calm hg (by rw [c.mg]; exact hm) (prg_2 hg2 (by rw [c.mg]; exact hm2) ha hb na nb hp) na2) fun s H Q q => by
  have h1 := imp_two (imp_pure pure_listRg2 q)
  obtain ⟨r0, M, f, st, h1⟩ := h1
  refine ⟨r0, M, f, st, ?_⟩
  cases e : m r0 with
  | bad => rw [e] at h1; exact h1
  | ex n v => rw [e] at h1; exact h1
  | ok d r1 =>
    rw [e] at h1
    intro x M1 H1 f1 fd st1 t1 p1 q1
    obtain ⟨r2, M2, f2, st2, h2⟩ := h1 x M1 H1 f1 fd st1 t1 p1 q1
    refine ⟨r2, M2, f2, st2, ?_⟩
    cases e2 : m2 r2 with
    | bad => rw [e2] at h2; exact h2
    | ex n v => rw [e2] at h2; exact h2
    | ok d r1 =>
      rw [e2] at h2
      intro y M3 H3 f3 fd3 st3 t3 p3 q3
      obtain ⟨n, n2, e1, e2⟩ := h2 y M3 H3 f3 fd3 st3 t3 p3 q3
      cases e1
      exact ⟨n, n2, rfl, rfl, e2⟩
/-! ### repr -/
def reprV (d : Val) : Option PySem.Str := match toPD d with
  | some p => if p.showable && !p.hasDict && decide (p.depth ≤ 60) && decide (p.shown.length ≤ 16777216) then some p.shown else none
  | none => none
def kRepr : List Val → Option Own
  | [d] => (reprV d).map fun s => .v (.str s)
  | _ => none
def rRepr (K : PySem.W.Frag) : List V → Hp → VK → Prop := fun xs H Q => ∃ (x : V) (p : PyData), xs = [x] ∧ Dp K H x p ∧ p.showable = true ∧ p.hasDict = false ∧ p.depth ≤ 60 ∧ p.shown.length ≤ sizeLine ∧ Q (.str p.shown) H
theorem cr_repr (hg : X.A.guards = some []) (hu : X.A.units + 66 < cLine) : CallR X (.builtin "repr") (rRepr X.K) := by
  intro pins s σ H vs us Q I r h
  obtain ⟨x, p, rfl, hd, hs, hn, hdep, hl, q⟩ := h
  cases r with
  | cons ru rt =>
    cases rt
    rename_i u
    obtain ⟨as, rd⟩ := Dp.reads I p x u hd ru
    cases rd with
    | none => simp only [PyData.shown] at q; exact P.repr_of_none ⟨.str _, H, I.tok _, ⟨_, rfl⟩, q⟩
    | bool b => simp only [PyData.shown] at q; exact P.repr_of_bool ⟨.str _, H, I.tok _, ⟨_, rfl⟩, q⟩
    | int i t => simp only [PyData.shown] at q; exact P.repr_of_int (by simpa [PyData.showable] using hs) ⟨.str _, H, I.tok _, ⟨_, rfl⟩, q⟩
    | str z t => simp only [PyData.shown] at q hl; exact P.repr_of_str ⟨.str _, H, I.tok _, ⟨_, rfl⟩, q⟩ hl
    | list h1 h2 h3 h4 => exact repr_of_reads' (.list h1 h2 h3 h4) hs (PyData.noDict_hsm hn) hg (by omega) (fun _ _ e => e) (fun h' u tk hk => ⟨.str _, H, I.kept hk, ⟨_, rfl⟩, q⟩) hl
    | tuple h1 h2 h3 h4 => exact repr_of_reads' (.tuple h1 h2 h3 h4) hs (PyData.noDict_hsm hn) hg (by omega) (fun _ _ e => e) (fun h' u tk hk => ⟨.str _, H, I.kept hk, ⟨_, rfl⟩, q⟩) hl
    | dict h1 h2 h3 h4 h5 => simp [PyData.hasDict] at hn
theorem pure_repr (K : PySem.W.Frag) : Pure g (rRepr K) kRepr := by
  refine Pure.val fun M H xs ds o le r e => ?_
  unfold kRepr at e
  split at e
  · rename_i d
    obtain ⟨x, rfl, r1⟩ := repL1 r rfl
    unfold reprV at e
    cases hp : toPD d with
    | none => rw [hp] at e; cases e
    | some p =>
      simp only [hp] at e
      split at e
      · rename_i hz
        cases e
        simp only [Bool.and_eq_true, decide_eq_true_eq, Bool.not_eq_true'] at hz
        exact ⟨_, _, rfl, .str _, fun Q q => ⟨x, p, rfl, dp_of K le r1 hp, hz.1.1.1, hz.1.1.2, hz.1.2, by rw [sizeLine_val]; exact hz.2, q⟩⟩
      · cases e
  · cases e
/-! ### sorted, on worths -/
def pdOf (d : Val) : PyData := (toPD d).getD .none
def alikeB (ds : List PyData) : Bool := ds.all fun d => ds.all fun d' => PySem.W.alike d d'
def tupB : PyData → Bool
  | .tuple (_ :: _) => true
  | _ => false
def othB : PyData → Bool
  | .tuple _ => false
  | .none => false
  | _ => true
def sortB (ds : List PyData) : Bool := alikeB ds && (ds.all tupB || ds.all othB) && ds.all fun d => decide (d.depth ≤ 60)
theorem sortB_ok {ds : List PyData} (h : sortB ds = true) : AllAlike ds ∧ Sortable ds ∧ ∀ d ∈ ds, d.depth ≤ 60 := by
  unfold sortB alikeB at h
  simp only [Bool.and_eq_true, Bool.or_eq_true, List.all_eq_true, decide_eq_true_eq] at h
  refine ⟨fun d hd d' hd' => h.1.1 d hd d' hd', ?_, h.2⟩
  rcases h.1.2 with q | q
  · refine .inl fun d hd => ?_
    have := q d hd
    unfold tupB at this
    split at this
    · exact ⟨_, _, rfl⟩
    · cases this
  · refine .inr fun d hd => ?_
    have := q d hd
    unfold othB at this
    split at this
    · cases this
    · cases this
    · rename_i h1 h2
      exact ⟨h2, h1⟩
noncomputable def sortV (es : List Val) : List Val := es.mergeSort (dataLe false pdOf)
open Classical in
noncomputable def kSort : List Val → Option Own
  | [.lst es] => match toPDs es with
    | some ds => if sortB ds then some (.l (sortV es)) else none
    | none => none
  | [.tup es] => match toPDs es with
    | some ds => if sortB ds then some (.l (sortV es)) else none
    | none => none
  | _ => none
theorem toPDs_map : ∀ {es : List Val} {ds : List PyData}, toPDs es = some ds → ds = es.map pdOf
  | [], ds, h => by simp only [toPDs, Option.some.injEq] at h; subst h; rfl
  | e :: es, ds, h => by
    simp only [toPDs] at h
    cases h1 : toPD e with
    | none => rw [h1] at h; cases h
    | some p =>
      cases h2 : toPDs es with
      | none => rw [h1, h2] at h; cases h
      | some ps =>
        rw [h1, h2] at h; cases h
        rw [toPDs_map h2]
        simp [pdOf, h1]
theorem dataLe_map {α β : Type} (f : α → β) (kk : β → PyData) (a b : α) : dataLe false (fun x => kk (f x)) a b = dataLe false kk (f a) (f b) := rfl
theorem repL_zip {M : Hp} : ∀ {es : List Val} {vs : List V}, RepL g M es vs → ∀ p ∈ vs.zip es, Rep g M p.2 p.1
  | _, _, .nil => by intro p hp; simp at hp
  | _, _, .cons a t => by
    intro p hp
    rw [List.zip_cons_cons] at hp
    rcases List.mem_cons.mp hp with rfl | hp
    · exact a
    · exact repL_zip t p hp
theorem repL_sort {M : Hp} {es : List Val} {vs : List V} (r : RepL g M es vs) : RepL g M (sortV es) (((vs.zip (es.map pdOf)).mergeSort (dataLe false (·.2))).map (·.1)) := by
  have hl := r.length
  have e1 : es = (vs.zip es).map (·.2) := (zip_snd hl.symm).symm
  have e2 : vs.zip (es.map pdOf) = (vs.zip es).map fun p => (p.1, pdOf p.2) := by
    rw [List.zip_map_right]
    rfl
  have e3 := repL_zip r
  have k1 : sortV es = ((vs.zip es).mergeSort (dataLe false fun p => pdOf p.2)).map (·.2) := by
    unfold sortV
    conv => lhs; rw [e1]
    exact (List.map_mergeSort fun a _ b _ => dataLe_map (fun p : V × Val => p.2) pdOf a b).symm
  have k2 : (vs.zip (es.map pdOf)).mergeSort (dataLe false (·.2)) = ((vs.zip es).mergeSort (dataLe false fun p => pdOf p.2)).map fun p => (p.1, pdOf p.2) := by
    rw [e2]
    exact (List.map_mergeSort fun a _ b _ => dataLe_map (fun p : V × Val => (p.1, pdOf p.2)) (fun q : V × PyData => q.2) a b).symm
  rw [k1, k2, List.map_map]
  have gen : ∀ l : List (V × Val), (∀ p ∈ l, Rep g M p.2 p.1) → RepL g M (l.map (·.2)) (l.map ((·.1) ∘ fun p : V × Val => (p.1, pdOf p.2))) := by
    intro l
    induction l with
    | nil => intro _; exact .nil
    | cons p l ih => intro h; exact .cons (h p (by simp)) (ih fun q hq => h q (by simp [hq]))
  exact gen _ fun p hp => e3 p ((List.mergeSort_perm _ _).mem_iff.mp hp)
theorem pure_sort (K : PySem.W.Frag) : Pure g (rSortD K) kSort := by
  intro M H xs ds o Q le tb r e q
  unfold kSort at e
  split at e
  all_goals first | (cases e; done) | skip
  · obtain ⟨x, rfl, r1⟩ := repL1 r rfl
    obtain ⟨a, vs, rfl, h1, t1⟩ := r1.lstE
    split at e
    · rename_i ps hp
      split at e
      · rename_i hs
        cases e
        obtain ⟨k1, k2, k3⟩ := sortB_ok hs
        have := toPDs_map hp
        refine ⟨a, vs, ps, rfl, .inl (.of (le _ _ h1)), dps_of K le t1 hp, k1, k2, k3, fun T hT => ?_⟩
        obtain ⟨nw, ro, hz⟩ := new_lst hT le tb (repL_sort t1)
        rw [this]
        exact q _ M _ [T] nw ro hz
      · cases e
    · cases e
  · obtain ⟨x, rfl, r1⟩ := repL1 r rfl
    obtain ⟨a, vs, rfl, h1, t1⟩ := r1.tupE
    split at e
    · rename_i ps hp
      split at e
      · rename_i hs
        cases e
        obtain ⟨k1, k2, k3⟩ := sortB_ok hs
        have := toPDs_map hp
        refine ⟨a, vs, ps, rfl, .inr (.of (le _ _ h1)), dps_of K le t1 hp, k1, k2, k3, fun T hT => ?_⟩
        obtain ⟨nw, ro, hz⟩ := new_lst hT le tb (repL_sort t1)
        rw [this]
        exact q _ M _ [T] nw ro hz
      · cases e
    · cases e
end
end KS
set_option Elab.async false
set_option linter.all false
set_option maxRecDepth 100000
set_option maxHeartbeats 4000000
namespace KS
open PySem PySem.Spec PyProof.Rows L2
open LamX (Tabs TabS)
/-! ### enumerate of a tuple -/
theorem enumT_new (l : Addr) (items : Array Value) : Meets (Builtin.«enumerate.__new__» ⟨[.type "enumerate", .ref l], []⟩) (fun _ R s => s.heap.IsTuple l items ∧
      R (.ok (.ret (.ref (s.heap.push { cls := .type "tuple_iterator", data := .fields #[.ref l, .int 0 0] }).objs.size))) { s with heap := (s.heap.push { cls := .type "tuple_iterator", data := .fields #[.ref l, .int 0 0] }).push { cls := .type "enumerate", data := .fields #[.none, .bool false, .ref s.heap.objs.size, rawInt 0, .none, .none] } }) :=
  .of_wp fun prog w A R s h => by
    obtain ⟨hp, gs, d, tk, os⟩ := s
    obtain ⟨h1, h⟩ := h
    have hsub := PySem.sub_enumerate
    have q1 : ∀ {A' : Around} {E : Value → Shared → Prop} {Q : Value → Shared → Prop}, Q (.ref hp.objs.size) ⟨hp.push { cls := .type "tuple_iterator", data := .fields #[.ref l, .int 0 0] }, gs, d, tk, os⟩ → wpAny (model prog w) A' (pyIter (.ref l)) Q E ⟨hp, gs, d, tk, os⟩ :=
      fun q => wpAny_pyIter_tuple (s := ⟨hp, gs, d, tk, os⟩) h1 q
    wp_walk using q1
    refine wpAny_stack_any fun st => wpAny_pure ?_
    split
    · rename_i c _ _ _ _ _
      cases (c == Value.type "enumerate") <;> (wp_walk using q1; exact ⟨_, rfl, h⟩)
    · wp_walk using q1
      exact ⟨_, rfl, h⟩
theorem call_enumT {prog : Program} {w : World} {A : Around} {E : Value → Shared → Prop} {s : Shared} {l : Addr} {items : Array Value} {Q : Value → Shared → Prop} (hL : s.heap.IsTuple l items)
    (h : ∀ h', IsEnum h' (s.heap.objs.size + 1) s.heap.objs.size 0 .none → h'.IsTupleIter s.heap.objs.size l 0 → h'.objs.size = s.heap.objs.size + 2 → (∀ b o, s.heap.get? b = some o → h'.get? b = some o) → Q (.ref (s.heap.objs.size + 1)) { s with heap := h' }) :
    wpAny (model prog w) A (call (.type "enumerate") [.ref l]) Q E s := by
  refine callType_new F.called_enumerate (by decide) (F.typeCall_enumerate_1 _) (F.newCall_enumerate_1 _) (fun obj => F.args_object_init_2 obj _) F.entry_enumerate_new (enumT_new l items) ⟨hL, ?_⟩
  have hz : (s.heap.push { cls := .type "tuple_iterator", data := .fields #[.ref l, .int 0 0] }).objs.size = s.heap.objs.size + 1 := Heap.size_push ..
  show _ ∧ _
  rw [hz]
  have he : IsEnum ((s.heap.push { cls := .type "tuple_iterator", data := .fields #[.ref l, .int 0 0] }).push { cls := .type "enumerate", data := .fields #[.none, .bool false, .ref s.heap.objs.size, rawInt 0, .none, .none] }) (s.heap.objs.size + 1) s.heap.objs.size 0 .none := by
    have := Heap.get?_push_size (s.heap.push { cls := .type "tuple_iterator", data := .fields #[.ref l, .int 0 0] }) (o := { cls := .type "enumerate", data := .fields #[.none, .bool false, .ref s.heap.objs.size, rawInt 0, .none, .none] }) rfl
    rw [hz] at this
    exact this
  exact ⟨⟨_, he, rfl⟩, h _ he ⟨_, Heap.get?_push_of_some _ (Heap.get?_push_size _ rfl), rfl, rfl⟩ (by rw [Heap.size_push, hz]) fun b o x => Heap.get?_push_of_some _ (Heap.get?_push_of_some _ x)⟩
theorem enumT_end {prog : Program} {w : World} {A : Around} {E : Value → Shared → Prop} {s : Shared} {e it l : Addr} {i : Nat} {c : Int} {items : Array Value} {old : Value} {Q : Option Value → Shared → Prop} (hh : A.handled = none)
    (he : IsEnum s.heap e it c old) (hit : s.heap.IsTupleIter it l i) (hl : s.heap.IsTuple l items) (hx : items[i]? = none) (hQ : ∀ h', Heap.ExtBut it s.heap h' → Q none { s with heap := h' }) : wpAny (model prog w) A (pyNext (.ref e)) Q E s := by
  have hT : s.TypeIs (.ref e) "enumerate" := ⟨_, he, rfl⟩
  unfold pyNext
  refine wpAny_bind (wpAny_attempt (wpAny_callSpecial?_slot (name := Str.ofString "__next__") hT F.slot_enumerate_next (wpAny_call_entry F.slot_enumerate_next hT F.entry_enumerate_next ?_ (F.args_enumerate_next_1 _))))
  show wpAny _ _ (field (.ref e) 2 >>= _) _ _ _
  refine wpAny_bind (wpAny_field he rfl (x := .ref it) rfl (wpAny_bind (wpAny_nextOf_tuple_end hh hit hl hx fun h' x he' hx' => ?_)))
  obtain ⟨o, ho, hc⟩ := hx'
  exact wpAny_bind (wpAny_isInstance (T := "StopIteration") (b := true) ⟨o, ho, hc⟩ isSubtype_stop (wpAny_pure (hQ _ he')))
def IteT (K : PySem.W.Frag) (a : Addr) : It :=
  ⟨fun i H => ∃ (xs : List V) (x : V), SqT K H a xs ∧ xs[i]? = some x, fun i H v H' => ∃ T x, v = .ref T ∧ H T = none ∧ H' = upd H T (.tup [.int (i : Nat), x]) ∧ ∀ xs, SqT K H a xs → xs[i]? = some x, fun i H => ∃ xs : List V, SqT K H a xs ∧ xs.length ≤ i⟩
theorem sqT_inj {X : Cx} {pins : List (Addr × Obj)} {σ : L2.St} {H : Hp} {s : Shared} {a : Addr} {xs ys : List V} (I : Inv X pins σ H s) (h1 : SqT X.K H a xs) (h2 : SqT X.K H a ys) : xs = ys := I.tuple_inj h1 h2
theorem turn_enumT {P : Program} {w : World} {K : PySem.W.Frag} {elts : List Expr} {kk : Nat} {tpos : Pos} (a e it : Addr) :
    Turn P w K (.Tuple elts kk tpos) (IteT K a) [e, it] e (fun i h => (∃ old, IsEnum h e it ((i : Nat) : Int) old) ∧ h.IsTupleIter it a i ∧ e ≠ it ∧ a ≠ it ∧ a ≠ e) where
  mem := by simp
  obj := fun i h st b hb => by
    obtain ⟨⟨old, he⟩, ⟨o, ho, hc, hd⟩, _⟩ := st
    have e' : b = e ∨ b = it := by simpa using hb
    rcases e' with z | z
    · rw [z]; exact ⟨_, he, fun v q => nomatch q⟩
    · rw [z]; exact ⟨o, ho, fun v q => by rw [hd] at q; cases q⟩
  keep := fun i h h' st k => let ⟨⟨old, he⟩, hi, hne⟩ := st; ⟨⟨old, k e (by simp) _ he⟩, hi.at fun o q => k it (by simp) o q, hne⟩
  item := by
    intro X hP hw hK hc i pins s σ H E I hf st hg
    subst hP hw hK
    obtain ⟨⟨old, he⟩, hit, hne, hai, hae⟩ := st
    obtain ⟨xs, x, hq, hx⟩ := hg
    obtain ⟨its, rv, p, hz⟩ := I.tuple hq
    obtain ⟨u, hu, ru⟩ := rv.get hx
    have hel : e < s.heap.objs.size := Heap.lt_size he
    have hil : it < s.heap.objs.size := by obtain ⟨_, q, _⟩ := hit; exact Heap.lt_size q
    have hlt : i < its.toArray.size := by
      have := (List.getElem?_eq_some_iff.mp hu).1
      simpa using this
    refine wpAny_pyNext_enum_itemD (Draws.tuple (A := X.A.in1) (I.ok.hd hc) it a hai its.toArray) he ⟨hit, p⟩ hlt hne (by simp [hne, Ne.symm hae]) fun x' h' tk hP ho hst hT hsz hk => ?_
    have hxu : x' = u := by
      have hP : its.toArray[i]? = some x' := hP
      rw [List.getElem?_toArray, hu] at hP
      cases hP; rfl
    subst hxu
    refine ⟨_, rfl, wpAny_letOwnedTupleGo_enum (s := { s with heap := h', toks := tk + 1 }) ho fun h'' he' sb => ?_⟩
    have hT2 : h''.get? s.heap.objs.size = some { cls := .type "tuple", data := .seq #[.int i tk, x'] } := (sb.2 _ (Nat.ne_of_gt hel)).trans hT
    have new : ObjOk X.prog X.w (upd H s.heap.objs.size (.tup [.int (i : Nat), x])) h'' s.heap.objs.size (.tup [.int (i : Nat), x]) :=
      ⟨by show 2 ≤ sizeLine; decide, [.int i tk, x'], .cons ⟨_, rfl⟩ (.cons ru .nil), ⟨_, hT2, rfl, _, rfl⟩⟩
    have I1 : Inv X pins σ (upd H s.heap.objs.size (.tup [.int (i : Nat), x])) { s with heap := h'', toks := tk + 1 } :=
      I.turnedNew (ch := [e, it]) (fun b ob hb q => (sb.2 b (fun z => hb (by simp [z]))).trans (hk b ob (fun z => hb (by simp [z])) (fun z => hb (by simp [z])) q)) hf (Nat.le_refl _) new
    refine ⟨.ref s.heap.objs.size, _, I1, rfl, ⟨_, x, rfl, I.hok.fresh (Nat.le_refl _), rfl, fun ys hy => by rw [sqT_inj I hy hq]; exact hx⟩, ⟨⟨x', ?_⟩, hst.1.at fun o q => (sb.2 it (Ne.symm hne)).trans q, hne, hai, hae⟩, fun b hb => ?_⟩
    · have e1 : ((i + 1 : Nat) : Int) = (i : Int) + 1 := by omega
      rw [e1]; exact he'
    · have hb' : b < s.heap.objs.size := by
        have e' : b = e ∨ b = it := by simpa using hb
        rcases e' with z | z
        · rw [z]; exact hel
        · rw [z]; exact hil
      rw [upd_ne (Nat.ne_of_lt hb')]
      exact (hf b hb).1
  done := by
    intro X hP hw hK hc i pins s σ H E I hf st hg
    subst hP hw hK
    obtain ⟨⟨old, he⟩, hit, hne, hai, hae⟩ := st
    obtain ⟨xs, hq, hx⟩ := hg
    obtain ⟨its, rv, p, hz⟩ := I.tuple hq
    obtain ⟨f0, f1, f2, f3, f4, f5⟩ := hf it (by simp)
    have hl := rv.length
    exact enumT_end (I.ok.hd hc) he hit p (by simp; omega) fun h' eb => ⟨rfl, I.turned (t' := s.toks) (fun b o hb q => eb b o hb q) f0 f1 f3 f4 f5⟩
  self := fun A i s Q E st h => let ⟨⟨_, he⟩, _⟩ := st; wpAny_pyIter_enum he h
def iEnumA (K : PySem.W.Frag) (ta : TA) : TI := fun σ H R => ta σ H fun vs H1 => ∃ a, vs = [.ref a] ∧ (((∃ xs, SqL K H1 a xs) ∧ R (Ite K a) H1) ∨ ((∃ xs, SqT K H1 a xs) ∧ R (IteT K a) H1))
theorem pi_enumA {X : Cx} {e : Expr} {ta : TA} {p pos tpos : Pos} {elts : List Expr} {kk : Nat} (hg : Gl X "enumerate") (hm : X.mg "enumerate" = none) (ha : PA X [e] ta) (hs : starEach [e] X.env = [(false, eval e X.env)] := by rfl) :
    PI X (.Tuple elts kk tpos) (.Call (.Name "enumerate" p) [e] [] pos) (iEnumA X.K ta) := by
  refine ⟨fun pins s σ H R I h => ?_⟩
  refine Call_ (ld_blt I hg hm boot_enumerate (PyProof.Rows.callWith_type1 (thn (ha.run pos pins s σ H _ I h) fun us s1 ⟨vs, H1, I1, r1, q1⟩ => ?_) hs rfl))
  obtain ⟨a, rfl, ⟨⟨xs, hq⟩, q⟩ | ⟨⟨xs, hq⟩, q⟩⟩ := q1
  · cases r1 with
    | cons r rr =>
      cases rr
      cases r
      obtain ⟨its, rv, p', hz⟩ := I1.list hq
      refine call_enumerate_list p'.isList fun h' he hit hsz hk => wpAny_pyIter_enum he ?_
      have I2 : Inv X pins σ H1 { s1 with heap := h' } := I1.kept (t' := s1.toks) hk
      refine ⟨s1.heap.objs.size + 1, [s1.heap.objs.size + 1, s1.heap.objs.size], _, _, H1, rfl, I2, turn_enum a (s1.heap.objs.size + 1) s1.heap.objs.size, ⟨⟨.none, he⟩, hit, Nat.succ_ne_self _⟩, fun b hb => ?_, q⟩
      have e' : b = s1.heap.objs.size + 1 ∨ b = s1.heap.objs.size := by simpa using hb
      have hle : s1.heap.objs.size ≤ b := by
        rcases e' with z | z
        · rw [z]; exact Nat.le_succ _
        · rw [z]; exact Nat.le_refl _
      exact I1.fpOk hle (I1.hok.fresh hle)
  · cases r1 with
    | cons r rr =>
      cases rr
      cases r
      obtain ⟨its, rv, p', hz⟩ := I1.tuple hq
      have p2 : s1.heap.IsTuple a its.toArray := p'
      have hal : a < s1.heap.objs.size := by obtain ⟨_, e, _⟩ := p2; exact Heap.lt_size e
      refine call_enumT p2 fun h' he hit hsz hk => wpAny_pyIter_enum he ?_
      have I2 : Inv X pins σ H1 { s1 with heap := h' } := I1.kept (t' := s1.toks) hk
      refine ⟨s1.heap.objs.size + 1, [s1.heap.objs.size + 1, s1.heap.objs.size], _, _, H1, rfl, I2, turn_enumT a (s1.heap.objs.size + 1) s1.heap.objs.size, ⟨⟨.none, he⟩, hit, Nat.succ_ne_self _, Nat.ne_of_lt hal, Nat.ne_of_lt (Nat.lt_succ_of_lt hal)⟩, fun b hb => ?_, q⟩
      have e' : b = s1.heap.objs.size + 1 ∨ b = s1.heap.objs.size := by simpa using hb
      have hle : s1.heap.objs.size ≤ b := by
        rcases e' with z | z
        · rw [z]; exact Nat.le_succ _
        · rw [z]; exact Nat.le_refl _
      exact I1.fpOk hle (I1.hok.fresh hle)
section
variable {g : G} {E : XK} {S : Vw} {k : Nat} {X : Cx} {pn : Option V} {b : Bool}
def enumFrom (n : Nat) : List Val → List Val
  | [] => []
  | d :: ds => .tup [.int n, d] :: enumFrom (n + 1) ds
theorem enumFrom_get : ∀ {ds : List Val} {n i : Nat} {d : Val}, (enumFrom n ds)[i]? = some d → ∃ e, ds[i]? = some e ∧ d = .tup [.int ((n + i : Nat) : Int), e]
  | [], _, i, d, h => by simp [enumFrom] at h
  | c :: ds, n, 0, d, h => by simp [enumFrom] at h; exact ⟨c, rfl, by rw [← h]; simp⟩
  | c :: ds, n, i + 1, d, h => by
    simp only [enumFrom, List.getElem?_cons_succ] at h
    obtain ⟨e, h1, h2⟩ := enumFrom_get h
    exact ⟨e, by simpa using h1, by rw [h2]; congr 4; omega⟩
theorem enumFrom_len : ∀ (ds : List Val) (n : Nat), (enumFrom n ds).length = ds.length
  | [], _ => rfl
  | _ :: ds, n => by simp [enumFrom, enumFrom_len ds]
theorem src_enum {K : PySem.W.Frag} {U : Hp} {a : Addr} {vs : List V} {ds : List Val} (h : U a = some (.lst vs)) (t : RepL g U ds vs) : Src g U (Ite K a) (enumFrom 0 ds) := fun V1 H l1 l2 tb i => by
  have ha := l2 _ _ (l1 _ _ h)
  refine ⟨fun d e => ?_, fun e => ⟨vs, .of ha, by rw [enumFrom_len, t.length] at e; exact e⟩⟩
  obtain ⟨c, e1, rfl⟩ := enumFrom_get e
  obtain ⟨u, hu, ru⟩ := t.get e1
  refine ⟨⟨vs, u, .of ha, hu⟩, fun z H' q => ?_⟩
  obtain ⟨T, u', rfl, hT, rfl, q1⟩ := q
  have e3 := q1 vs (.of ha)
  rw [hu] at e3; cases e3
  rw [Nat.zero_add]
  exact new_tup hT l2 tb (.cons (.int _) (.cons (ru.mono l1) .nil))
theorem src_enumT {K : PySem.W.Frag} {U : Hp} {a : Addr} {vs : List V} {ds : List Val} (h : U a = some (.tup vs)) (t : RepL g U ds vs) : Src g U (IteT K a) (enumFrom 0 ds) := fun V1 H l1 l2 tb i => by
  have ha := l2 _ _ (l1 _ _ h)
  refine ⟨fun d e => ?_, fun e => ⟨vs, .of ha, by rw [enumFrom_len, t.length] at e; exact e⟩⟩
  obtain ⟨c, e1, rfl⟩ := enumFrom_get e
  obtain ⟨u, hu, ru⟩ := t.get e1
  refine ⟨⟨vs, u, .of ha, hu⟩, fun z H' q => ?_⟩
  obtain ⟨T, u', rfl, hT, rfl, q1⟩ := q
  have e3 := q1 vs (.of ha)
  rw [hu] at e3; cases e3
  rw [Nat.zero_add]
  exact new_tup hT l2 tb (.cons (.int _) (.cons (ru.mono l1) .nil))
def mEnum (b : Bool) (S : Vw) (m : Mo Own) : Mo (List Val) := fun r => (m r).bind fun d r1 => if b = true ∧ okB S d = false then .bad else match d.val with
  | .lst ds => .ok (enumFrom 0 ds) r1
  | .tup ds => .ok (enumFrom 0 ds) r1
  | _ => .bad
theorem di_enum {e : Expr} {m : Mo Own} {p pos tpos : Pos} {elts : List Expr} {kk : Nat} (c : Cxt g E k X) (hm : g.mg "enumerate" = none) (ha : PE X e (tD g E S m)) (hg : Gl X "enumerate" := by rfl) (hs : starEach [e] X.env = [(false, eval e X.env)] := by rfl) :
    PI X (.Tuple elts kk tpos) (.Call (.Name "enumerate" p) [e] [] pos) (tI g E b S (mEnum b S m)) := PI.imp (pi_enumA hg (by rw [c.mg]; exact hm) (pa_cons ha pa_nil hs) hs) fun s H R q => by
  obtain ⟨r, M, f, st, q⟩ := q
  show tD g E S m s H _
  refine ⟨r, M, f, st, ?_⟩
  unfold mEnum at q
  cases e : m r with
  | bad => rw [e] at q; exact q
  | ex n v => rw [e] at q; exact q
  | ok d r1 =>
    simp only [e, Rs.bind] at q
    intro x M1 H1 f1 fd st1 t1 p1 q1
    show ∃ a, _
    by_cases hb : b = true ∧ okB S d = false
    · rw [if_pos hb] at q; exact q.elim
    · rw [if_neg hb] at q
      obtain ⟨M2, st2, mo, nw, rp⟩ := tmp_vf (b := b) st1 t1 (fun z => by
        cases h : okB S d with
        | true => rfl
        | false => exact (hb ⟨z, h⟩).elim)
      have p2 := p1.temp mo nw q1
      generalize d.val = dv at q rp
      cases rp with
      | lst h1 h2 => exact ⟨_, rfl, .inl ⟨⟨_, .of (st2.vf _ _ h1)⟩, q _ M2 H1 f1 st2 p2 (src_enum h1 h2)⟩⟩
      | tup h1 h2 => exact ⟨_, rfl, .inr ⟨⟨_, .of (st2.vf _ _ h1)⟩, q _ M2 H1 f1 st2 p2 (src_enumT h1 h2)⟩⟩
      | _ => exact q.elim
/-! ### t = e, t a tuple of names; several names at once -/
def sAsg (S : Vw) (t : Tg) (m : Mo Own) : Ms := fun r => match m r with
  | .ok d r1 => if okB S d = true then match t.put d.val r1 with
    | some r2 => .nxt r2
    | none => .bad
    else .bad
  | .ex n v => .ex n v
  | .bad => .bad
theorem imp_asg {t : Tg} {m : Mo Own} (K : PySem.W.Frag) (h0 : 0 ∉ t.slots ∨ pn = none) {D : Ends} {s : L2.St} {H : Hp} (q : tS g E pn (sAsg S t m) D s H) : tAsg (tD g E S m) (gOf K t) D s H := by
  obtain ⟨r, M, f, st, p, q⟩ := q
  refine ⟨r, M, f, st, ?_⟩
  unfold sAsg at q
  cases e : m r with
  | bad => rw [e] at q; exact q
  | ex n v => rw [e] at q; exact q.of_no
  | ok d r1 =>
    simp only [e] at q
    intro x M1 H1 f1 fd st1 t1 p1 q1
    by_cases hb : okB S d = true
    · rw [if_pos hb] at q
      have ro := bound st1 t1 hb
      obtain ⟨M2, st2, mo, nw, hfd⟩ := st1.temp t1.live t1.sep
      have p2 := p1.temp mo nw q1
      have rv : Rep g M2 d.val x := ro.val mo hfd
      cases hput : t.put d.val r1 with
      | none => rw [hput] at q; exact q.elim
      | some r2 =>
        simp only [hput] at q
        refine tgOk K t M2 H1 r1 r2 s f1 d.val x _ st2 rv hput fun s3 f3 st3 hf3 hs3 hl3 => ?_
        refine q s3 M2 H1 f3 st3 (fun v e => ?_) ⟨p2.mono, p2.ss.keep, p2.dom, p2.ss.newM, fun j a z => ?_⟩
        · rcases h0 with h0 | h0
          · rw [(hs3 0 h0).1]; exact p v e
          · rw [h0] at e; cases e
        · rcases hf3 j with w | w
          · rw [w] at z; exact p2.ss.newF j a z
          · rw [w] at z; cases z
    · rw [if_neg hb] at q; exact q.elim
theorem ds_asg {tg e : Expr} {t : Tg} {m : Mo Own} {pos : Pos} (he : PE X e (tD g E S m)) (hg : DG X tg t) (hs : swapsWithSole [tg] e pos.line X.env = pure false := by rfl) (hw : swappedStores [tg] e X.env = pure none := by rfl) (h1 : (assignEach [tg] X.env).map (·.2) = [assign tg X.env] := by rfl)
    (h0 : 0 ∉ t.slots ∨ pn = none := by first | exact .inl (by decide) | exact .inr rfl) : PS X (.Assign [tg] e pos) (tS g E pn (sAsg S t m)) := PS.imp (ps_asg he hg hs hw h1) fun D s H q => imp_asg X.K h0 q
/-! a, b = x, y; a, b, c = x, y, z -/
def sPar2 (S : Vw) (i j : Nat) (ms : Mo (List Own)) : Ms := fun r => match ms r with
  | .ok [d, e] r1 => if okB S d && okB S e then .nxt ((r1.set i (some d)).set j (some e)) else .bad
  | .ok _ _ => .bad
  | .ex n v => .ex n v
  | .bad => .bad
def sPar3 (S : Vw) (i j l : Nat) (ms : Mo (List Own)) : Ms := fun r => match ms r with
  | .ok [d, e, h] r1 => if okB S d && okB S e && okB S h then .nxt (((r1.set i (some d)).set j (some e)).set l (some h)) else .bad
  | .ok _ _ => .bad
  | .ex n v => .ex n v
  | .bad => .bad
/-- one more slot, of what is new -/
theorem more_put {M0 H0 M H : Hp} {f0 f : Nat → List Addr} {r : Ro} {s : L2.St} {d : Own} {x : V} {fd : List Addr} (st : Sta g M H r s f) (p : SStep g M0 H0 f0 M H f) (ro : RepO g M H d x fd) (hs : ∀ a ∈ fd, M a = none ∧ ∀ i, a ∉ f i) (hn : ∀ a ∈ fd, H0 a = none) (i : Nat) :
    ∃ f', Sta g M H (r.set i (some d)) (s.set i (some x)) f' ∧ SStep g M0 H0 f0 M H f' ∧ ∀ j a, a ∈ f' j → a ∈ f j ∨ a ∈ fd := by
  refine ⟨_, st.put ro hs i, ⟨p.mono, p.keep, p.dom, p.newM, fun j a h => ?_⟩, fun j a h => ?_⟩
  · by_cases hj : j = i
    · simp only [if_pos hj] at h
      split at h
      · exact .inr (hn a h)
      · cases h
    · simp only [if_neg hj] at h; exact p.newF j a h
  · by_cases hj : j = i
    · simp only [if_pos hj] at h
      split at h
      · exact .inr h
      · cases h
    · simp only [if_neg hj] at h; exact .inl h
theorem ds_par2 {i j : Nat} {x y : PySem.Str} {a b : Expr} {ms : Mo (List Own)} {px py pt pt2 pos : Pos} {kt k2 : Nat} (c : Cxt g E k X) (ha : PA X [a, b] (tA g E S ms)) (hi : X.N[i]? = some x := by rfl) (hj : X.N[j]? = some y := by rfl) (hij : i ≠ j := by decide)
    (hx : X.env.scope.names.lookup x = some .local := by rfl) (hy : X.env.scope.names.lookup y = some .local := by rfl) (hw : swappedStores [.Tuple [.Name x px, .Name y py] kt pt] (.Tuple [a, b] k2 pt2) X.env = pure (some [x, y]) := by rfl)
    (h0 : (i ≠ 0 ∧ j ≠ 0) ∨ pn = none := by first | exact .inl (by decide) | exact .inr rfl) (hs : swapsWithSole [.Tuple [.Name x px, .Name y py] kt pt] (.Tuple [a, b] k2 pt2) pos.line X.env = pure false := by rfl) :
    PS X (.Assign [.Tuple [.Name x px, .Name y py] kt pt] (.Tuple [a, b] k2 pt2) pos) (tS g E pn (sPar2 S i j ms)) := PS.imp (ps_par c.calm c.nd hi hj hij hx hy ha hw hs) fun D s H q => by
  obtain ⟨r, M, f, st, p, q⟩ := q
  refine ⟨r, M, f, st, ?_⟩
  unfold sPar2 at q
  cases e : ms r with
  | bad => rw [e] at q; exact q
  | ex n v => rw [e] at q; exact q.of_no
  | ok ds r1 =>
    simp only [e] at q
    intro xs M1 H1 f1 fd st1 t1 p1 q1
    cases t1 with
    | nil => exact q.elim
    | cons u1 t1 n1 =>
      cases t1 with
      | nil => exact q.elim
      | cons u2 t1 n2 =>
        cases t1 with
        | cons _ _ _ => exact q.elim
        | nil =>
          rename_i d1 y1 fa d2 y2 fb
          by_cases hb : (okB S d1 && okB S d2) = true
          · simp only [hb, if_true] at q
            rw [Bool.and_eq_true] at hb
            obtain ⟨f2, st2, ss2, hf2⟩ := more_put st1 p1.ss (bound st1 u1 hb.1) u1.sep (fun a ha => q1 a (by simp [ha])) i
            obtain ⟨f3, st3, ss3, hf3⟩ := more_put st2 ss2 (bound st1 u2 hb.2) (fun a ha => ⟨(u2.sep a ha).1, fun l z => by
              rcases hf2 l a z with z | z
              · exact (u2.sep a ha).2 l z
              · exact n1 a z (by simp [ha])⟩) (fun a ha => q1 a (by simp [ha])) j
            refine ⟨y1, y2, rfl, q _ M1 H1 f3 st3 (fun v e => ?_) ss3⟩
            rcases h0 with h0 | h0
            · rw [List.getElem?_set_ne h0.2, List.getElem?_set_ne h0.1]; exact p v e
            · rw [h0] at e; cases e
          · simp only [hb] at q; exact q.elim
theorem ds_par3 {i j l : Nat} {x y z : PySem.Str} {a b d : Expr} {ms : Mo (List Own)} {px py pz pt pt2 pos : Pos} {kt k2 : Nat} (c : Cxt g E k X) (ha : PA X [a, b, d] (tA g E S ms)) (hi : X.N[i]? = some x := by rfl) (hj : X.N[j]? = some y := by rfl) (hl : X.N[l]? = some z := by rfl) (hij : i ≠ j := by decide) (hil : i ≠ l := by decide) (hjl : j ≠ l := by decide)
    (hx : X.env.scope.names.lookup x = some .local := by rfl) (hy : X.env.scope.names.lookup y = some .local := by rfl) (hz : X.env.scope.names.lookup z = some .local := by rfl) (hw : swappedStores [.Tuple [.Name x px, .Name y py, .Name z pz] kt pt] (.Tuple [a, b, d] k2 pt2) X.env = pure (some [x, y, z]) := by rfl)
    (h0 : (i ≠ 0 ∧ j ≠ 0 ∧ l ≠ 0) ∨ pn = none := by first | exact .inl (by decide) | exact .inr rfl) (hs : swapsWithSole [.Tuple [.Name x px, .Name y py, .Name z pz] kt pt] (.Tuple [a, b, d] k2 pt2) pos.line X.env = pure false := by rfl) :
    PS X (.Assign [.Tuple [.Name x px, .Name y py, .Name z pz] kt pt] (.Tuple [a, b, d] k2 pt2) pos) (tS g E pn (sPar3 S i j l ms)) := PS.imp (ps_par3 c.calm c.nd hi hj hl hij hil hjl hx hy hz ha hw hs) fun D s H q => by
  obtain ⟨r, M, f, st, p, q⟩ := q
  refine ⟨r, M, f, st, ?_⟩
  unfold sPar3 at q
  cases e : ms r with
  | bad => rw [e] at q; exact q
  | ex n v => rw [e] at q; exact q.of_no
  | ok ds r1 =>
    simp only [e] at q
    intro xs M1 H1 f1 fd st1 t1 p1 q1
    cases t1 with
    | nil => exact q.elim
    | cons u1 t1 n1 =>
      cases t1 with
      | nil => exact q.elim
      | cons u2 t1 n2 =>
        cases t1 with
        | nil => exact q.elim
        | cons u3 t1 n3 =>
          cases t1 with
          | cons _ _ _ => exact q.elim
          | nil =>
            rename_i d1 y1 fa d2 y2 fb d3 y3 fc
            by_cases hb : (okB S d1 && okB S d2 && okB S d3) = true
            · simp only [hb, if_true] at q
              rw [Bool.and_eq_true, Bool.and_eq_true] at hb
              obtain ⟨f2, st2, ss2, hf2⟩ := more_put st1 p1.ss (bound st1 u1 hb.1.1) u1.sep (fun a ha => q1 a (by simp [ha])) i
              obtain ⟨f3, st3, ss3, hf3⟩ := more_put st2 ss2 (bound st1 u2 hb.1.2) (fun a ha => ⟨(u2.sep a ha).1, fun l z => by
                rcases hf2 l a z with z | z
                · exact (u2.sep a ha).2 l z
                · exact n1 a z (by simp [ha])⟩) (fun a ha => q1 a (by simp [ha])) j
              obtain ⟨f4, st4, ss4, hf4⟩ := more_put st3 ss3 (bound st1 u3 hb.2) (fun a ha => ⟨(u3.sep a ha).1, fun l z => by
                rcases hf3 l a z with z | z
                · rcases hf2 l a z with z | z
                  · exact (u3.sep a ha).2 l z
                  · exact n1 a z (by simp [ha])
                · exact n2 a z (by simp [ha])⟩) (fun a ha => q1 a (by simp [ha])) l
              refine ⟨y1, y2, y3, rfl, q _ M1 H1 f4 st4 (fun v e => ?_) ss4⟩
              rcases h0 with h0 | h0
              · rw [List.getElem?_set_ne h0.2.2, List.getElem?_set_ne h0.2.1, List.getElem?_set_ne h0.1]; exact p v e
              · rw [h0] at e; cases e
            · simp only [hb] at q; exact q.elim
/-! x op= e -/
def sAug (S : Vw) (i : Nat) (kk : List Val → Option Own) (m : Mo Own) : Ms := fun r => match m r with
  | .ok d r1 => match r[i]? with
    | some (some (.v w)) => match kk [w, d.val] with
      | some (.v z) => if nl z then .nxt (r1.set i (some (.v z))) else .bad
      | _ => .bad
    | _ => .bad
  | .ex n v => .ex n v
  | .bad => .bad
end
end KS
set_option Elab.async false
set_option linter.all false
set_option maxRecDepth 100000
set_option maxHeartbeats 4000000
namespace KS
open PySem PySem.Spec PyProof.Rows L2
open LamX (Tabs TabS)
section
variable {g : G} {E : XK} {S : Vw} {k : Nat} {X : Cx} {pn : Option V}
theorem u64 {k : Nat} {A : Around} (r : Room k A) : A.units + 64 < cLine := by have := KS.Room.u65 r; omega
/-! ### what is not reached -/
def mBad : Mo Own := fun _ => .bad
def sBad : Ms := fun _ => .bad
theorem dx_bad {e : Expr} : PE X e (tD g E S mBad) := ⟨fun _ _ _ _ _ _ h => by obtain ⟨_, _, _, _, h⟩ := h; exact h.elim⟩
theorem ds_bad {st : Stmt} : PS X st (tS g E pn sBad) := ⟨fun _ _ _ _ _ _ h => by obtain ⟨_, _, _, _, _, h⟩ := h; exact h.elim⟩
/-! ### constants of the module -/
theorem dx_gI {x : PySem.Str} {n : Int} {pos : Pos} (c : Cxt g E k X) (hm : ∃ t, g.mg x = some (.int n t)) (hg : Gl X x := by rfl) (hd : (x == ("__debug__" : PySem.Str)) = false := by decide) : PE X (.Name x pos) (tD g E S (mC (.int n))) := by
  obtain ⟨t, hm⟩ := hm
  exact dx_gint c hm hg hd
theorem dx_gS {x : PySem.Str} {n : PySem.Str} {pos : Pos} (c : Cxt g E k X) (hm : ∃ t, g.mg x = some (.str n t)) (hg : Gl X x := by rfl) (hd : (x == ("__debug__" : PySem.Str)) = false := by decide) : PE X (.Name x pos) (tD g E S (mC (.str n))) := by
  obtain ⟨t, hm⟩ := hm
  exact dx_gstr c hm hg hd
/-! ### is, is not: None and bools -/
def kIs : List Val → Option Own
  | [d, .non] => some (.v (.bl (isNon d)))
  | [.bl a, .bl b] => some (.v (.bl (decide (a = b))))
  | _ => none
def kIsNot : List Val → Option Own
  | [d, .non] => some (.v (.bl (!isNon d)))
  | [.bl a, .bl b] => some (.v (.bl (!decide (a = b))))
  | _ => none
def rIsA : R2 := fun x y H Q => (y = .non ∧ Q (.bl (decide (x = .non))) H) ∨ ∃ a b, x = .bl a ∧ y = .bl b ∧ Q (.bl (decide (a = b))) H
def rIsNotA : R2 := fun x y H Q => (y = .non ∧ Q (.bl (!decide (x = .non))) H) ∨ ∃ a b, x = .bl a ∧ y = .bl b ∧ Q (.bl (!decide (a = b))) H
theorem op_isA : OpR X (compareOp .Is) rIsA := op_isN.or op_is_bl
theorem op_isNotA : OpR X (compareOp .IsNot) rIsNotA := op_notN.or op_isnot_bl
theorem pure_is : Pure g (R2p rIsA) kIs := by
  refine Pure.val fun M H xs ds o le r e => ?_
  unfold kIs at e
  split at e
  · obtain ⟨x, y, rfl, r1, r2⟩ := repL2 r rfl
    cases r2; cases e
    refine ⟨_, _, rfl, .bl _, fun Q q => ⟨_, _, rfl, .inl ⟨rfl, ?_⟩⟩⟩
    rw [r1.is_non]; exact q
  · obtain ⟨x, y, rfl, r1, r2⟩ := repL2 r rfl
    cases r1.blE; cases r2.blE; cases e
    exact ⟨_, _, rfl, .bl _, fun Q q => ⟨_, _, rfl, .inr ⟨_, _, rfl, rfl, q⟩⟩⟩
  · cases e
theorem pure_isNot : Pure g (R2p rIsNotA) kIsNot := by
  refine Pure.val fun M H xs ds o le r e => ?_
  unfold kIsNot at e
  split at e
  · obtain ⟨x, y, rfl, r1, r2⟩ := repL2 r rfl
    cases r2; cases e
    refine ⟨_, _, rfl, .bl _, fun Q q => ⟨_, _, rfl, .inl ⟨rfl, ?_⟩⟩⟩
    rw [r1.is_non]; exact q
  · obtain ⟨x, y, rfl, r1, r2⟩ := repL2 r rfl
    cases r1.blE; cases r2.blE; cases e
    exact ⟨_, _, rfl, .bl _, fun Q q => ⟨_, _, rfl, .inr ⟨_, _, rfl, rfl, q⟩⟩⟩
  · cases e
/-! ### the text's facts -/
/-- x is the def of the statement st -/
def FnF (g : G) (x : PySem.Str) (st : Stmt) (ps : List PySem.Str) : Prop := ∃ f fd, g.mg x = some (.ref f) ∧ Fun g.K x x st f fd ∧ Binds g.K fd ps []
theorem fun_ofD {K : PySem.W.Frag} {x : PySem.Str} {st : Stmt} {f : Addr} {fd : FuncData} (F : FunD K x x (defArgs st) (defBody st) (defScope st) [] [] f fd) : Fun K x x st f fd := by
  obtain ⟨oc, od, dV, kV, doc, pm, an, cdv, ct, osl, e, lk, hcd, hD, hK⟩ := F.ex
  rcases hD with ⟨_, rfl⟩ | ⟨z, _⟩
  · exact ⟨⟨oc, od, kV, doc, pm, an, cdv, ct, osl, e, lk, hcd⟩, F.kp⟩
  · exact absurd rfl z
theorem DefP.mk' {x : PySem.Str} {st : Stmt} {N ps : List PySem.Str} {m : Ms} (T : FnF g x st ps) (S : FnScope N ps (defScope st))
    (hb : ∀ (f : Addr) (E : XK) (cdv : Value) (A : Around) (outer : List Env) (s : Shared) (H : Hp), Cxt g E k (cxOf (L2.CX g.P g.w) g.P g.w g.K g.mg g.base N x (defScope st) f cdv A outer s H E) → PSs (cxOf (L2.CX g.P g.w) g.P g.w g.K g.mg g.base N x (defScope st) f cdv A outer s H E) (defBody st) (tS g E none m)) :
    DefP g (k + 1) x st ps (runP ps.length N.length m) := by
  obtain ⟨f, fd, hm, F, hbn⟩ := T
  exact ⟨f, fd, ok_of F S fun E cdv _ => hb f E cdv, hm, F, hbn⟩
theorem DefI.mk' {x : PySem.Str} {st : Stmt} {N ps : List PySem.Str} {m : Ms} (T : FnF g x st ps) (S : FnScope N ps (defScope st))
    (hb : ∀ (f : Addr) (E : XK) (pn : Option V) (cdv : Value) (A : Around) (outer : List Env) (s : Shared) (H : Hp), Cxt g E k (cxOf (L2.CX g.P g.w) g.P g.w g.K g.mg g.base N x (defScope st) f cdv A outer s H E) → PSs (cxOf (L2.CX g.P g.w) g.P g.w g.K g.mg g.base N x (defScope st) f cdv A outer s H E) (defBody st) (tS g E pn m)) :
    DefI g (k + 1) x st ps (runI ps.length N.length m) := by
  obtain ⟨f, fd, hm, F, hbn⟩ := T
  exact ⟨f, fd, ok_ofI F S fun E pn cdv _ => hb f E pn cdv, hm, F, hbn⟩
/-- x is the def of the statement st, its code object at c -/
def FnL (g : G) (x : PySem.Str) (st : Stmt) (ps : List PySem.Str) (c : Addr) : Prop := ∃ f fd, g.mg x = some (.ref f) ∧ Fun g.K x x st f fd ∧ Binds g.K fd ps [] ∧ fd.code = .ref c
theorem FnL.fnF {x : PySem.Str} {st : Stmt} {ps : List PySem.Str} {c : Addr} (F : FnL g x st ps c) : FnF g x st ps := by
  obtain ⟨f, fd, h1, h2, h3, _⟩ := F
  exact ⟨f, fd, h1, h2, h3⟩
/-- a def that makes lambdas -/
theorem DefP.mkL {x : PySem.Str} {st : Stmt} {N ps : List PySem.Str} {m : Ms} {c : Addr} (T : FnL g x st ps c) (S : FnScope N ps (defScope st))
    (hb : ∀ (f : Addr) (E : XK) (A : Around) (outer : List Env) (s : Shared) (H : Hp), Cxt g E k (cxOf (L2.CX g.P g.w) g.P g.w g.K g.mg g.base N x (defScope st) f (.ref c) A outer s H E) → PSs (cxOf (L2.CX g.P g.w) g.P g.w g.K g.mg g.base N x (defScope st) f (.ref c) A outer s H E) (defBody st) (tS g E none m)) :
    DefP g (k + 1) x st ps (runP ps.length N.length m) := by
  obtain ⟨f, fd, hm, F, hbn, hc⟩ := T
  exact ⟨f, fd, ok_of F S fun E cdv h A outer s H c => by cases hc.symm.trans h; exact hb f E A outer s H c, hm, F, hbn⟩
theorem DefI.mkL {x : PySem.Str} {st : Stmt} {N ps : List PySem.Str} {m : Ms} {c : Addr} (T : FnL g x st ps c) (S : FnScope N ps (defScope st))
    (hb : ∀ (f : Addr) (E : XK) (pn : Option V) (A : Around) (outer : List Env) (s : Shared) (H : Hp), Cxt g E k (cxOf (L2.CX g.P g.w) g.P g.w g.K g.mg g.base N x (defScope st) f (.ref c) A outer s H E) → PSs (cxOf (L2.CX g.P g.w) g.P g.w g.K g.mg g.base N x (defScope st) f (.ref c) A outer s H E) (defBody st) (tS g E pn m)) :
    DefI g (k + 1) x st ps (runI ps.length N.length m) := by
  obtain ⟨f, fd, hm, F, hbn, hc⟩ := T
  exact ⟨f, fd, ok_ofI F S fun E pn cdv h A outer s H c => by cases hc.symm.trans h; exact hb f E pn A outer s H c, hm, F, hbn⟩
end
end KS
set_option Elab.async false
set_option linter.all false
set_option maxRecDepth 100000
set_option maxHeartbeats 4000000
namespace KS
open PySem PySem.Spec PyProof.Rows L2
open LamX (Tabs TabS TabB)
/-! ### the law's call -/
section
variable {P : Program} {w : World} {K : PySem.W.Frag} {mg mb : PySem.Str → Option Value} {k : Nat} {fa a : Addr} {cs : List (Addr × Addr)} {fd : FuncData} {x : PySem.Str} {sp : Heap → Sp} {s1 : Shared} {vs : List Value} {ns : List Int}
open Classical in
/-- what is tracked at the entry: the script, the tables -/
noncomputable def H0 (cs : List (Addr × Addr)) (a : Addr) (vs : List Value) (ns : List Int) : Hp := fun b => if b = a then some (.frz { cls := .type "list", data := .seq vs.toArray } (.lst (ns.map V.int))) else if b ∈ cs.map (·.2) then some (.tbl #[]) else none
theorem law_G (KX : K.In s1.heap) (hns : s1.heap.Ns mainGlobals mg) (hb : s1.heap.Ns builtinsNs mb) (hbb : ∀ x : PySem.Str, x ≠ "__name__" → mb x = bootBuiltins x) (hlim : s1.heap.NoLimit) (hg : s1.gens = #[])
    (hT : ∀ p ∈ cs, s1.heap.get? p.2 = some { cls := .none, data := .fields #[] }) (nT : ∀ p ∈ cs, K.lookup p.2 = none) (C : ∀ p ∈ cs, PySem.W.CodeHd s1.heap p.1 p.2)
    (hbm : ∃ (bm : Addr) (ob : Obj), mg "__builtins__" = some (.ref bm) ∧ bm ≠ builtinsNs ∧ s1.heap.get? bm = some ob ∧ ob.cls = .type "module" ∧ ob.dict = some builtinsNs ∧ ob.data = .plain)
    (ha : s1.heap.get? a = some { cls := .type "list", data := .seq vs.toArray }) (hi : IntsAre vs ns) (hl : ns.length ≤ sizeLine) (hr : Room k callerA) (hk : K.lookup a = none)
    (F : ∀ base : Heap, K.In base → base.Ns mainGlobals mg → (∀ p ∈ cs, TabB base mg p.1 p.2) → FnG P w K mg base k fa fd [x] (sp base)) (hbind : ∀ (s : Shared) (u : Value), BindsTo s fd ⟨[u], []⟩ [(x, u)])
    (hsp : a ∉ cs.map (·.2) → ∀ base, sp base [.ref a] (H0 cs a vs ns) (fun v _ => v = .bl true) fun _ _ _ => False) :
    codeAny (model P w) callerA (.call (.ref fa) ⟨[.ref a], []⟩) (fun r s' => r = .ok (.ret (.bool true)) ∧ OldK s1.heap s'.heap ∧ s'.os = s1.os ∧ AllBare s'.gens) s1 := by
  have rv := vals_ints hi
  have isT : ∀ b : Addr, b ∈ cs.map (·.2) → s1.heap.get? b = some { cls := .none, data := .fields #[] } := by
    intro b hb
    obtain ⟨p, hp, rfl⟩ := List.mem_map.mp hb
    exact hT p hp
  have aT : a ∉ cs.map (·.2) := by
    intro z
    have q := isT a z
    rw [ha] at q
    cases congrArg Obj.data (Option.some.inj q)
  have at_a : H0 cs a vs ns a = some (.frz { cls := .type "list", data := .seq vs.toArray } (.lst (ns.map V.int))) := if_pos rfl
  have at_t : ∀ p ∈ cs, H0 cs a vs ns p.2 = some (.tbl #[]) := fun p hp => by
    have m : p.2 ∈ cs.map (·.2) := List.mem_map.mpr ⟨p, hp, rfl⟩
    exact (if_neg (fun z : p.2 = a => aT (by rw [← z]; exact m))).trans (if_pos m)
  have cse : ∀ b u, H0 cs a vs ns b = some u → (b = a ∧ u = .frz { cls := .type "list", data := .seq vs.toArray } (.lst (ns.map V.int))) ∨ (b ∈ cs.map (·.2) ∧ u = .tbl #[]) := by
    intro b u e
    unfold H0 at e
    split at e
    · rename_i h; cases e; exact .inl ⟨h, rfl⟩
    · split at e
      · rename_i h; cases e; exact .inr ⟨h, rfl⟩
      · cases e
  have hok : HOk P w (H0 cs a vs ns) s1.heap := by
    intro b u e
    rcases cse b u e with ⟨rfl, rfl⟩ | ⟨h, rfl⟩
    · exact ⟨ha, by rw [List.length_map]; exact hl, vs, _, rv, ha⟩
    · exact isT b h
  have base_of : ∀ {b : Addr} {o : Obj}, s1.heap.get? b = some o → H0 cs a vs ns b = none → (hidT s1.heap (H0 cs a vs ns)).get? b = some o := hidT_get
  have free : ∀ {b : Addr} {o : Obj}, s1.heap.get? b = some o → (∀ vs n, o.data ≠ .seq vs n) → o.data ≠ .fields #[] → H0 cs a vs ns b = none := by
    intro b o e h1 h2
    cases q : H0 cs a vs ns b with
    | none => rfl
    | some u =>
      rcases cse b u q with ⟨rfl, _⟩ | ⟨h, _⟩
      · rw [ha] at e; cases e; exact (h1 _ _ rfl).elim
      · rw [isT b h] at e; cases e; exact (h2 rfl).elim
  have freeD : ∀ {b : Addr} {o : Obj} {es : Array DictEntry} {ep : Nat}, s1.heap.get? b = some o → o.data = .dict es ep → H0 cs a vs ns b = none := by
    intro b o es ep e d
    exact free e (fun vs n z => by rw [d] at z; cases z) fun z => by rw [d] at z; cases z
  have nsK : ∀ {b : Addr} {m : PySem.Str → Option Value}, s1.heap.Ns b m → (hidT s1.heap (H0 cs a vs ns)).Ns b m := by
    rintro b m ⟨o, es, ep, e, d, r⟩
    exact ⟨o, es, ep, base_of e (freeD e d), d, r⟩
  have hKb : K.In (hidT s1.heap (H0 cs a vs ns)) := by
    intro b o e
    refine base_of (KX b o e) ?_
    cases q : H0 cs a vs ns b with
    | none => rfl
    | some u =>
      rcases cse b u q with ⟨rfl, _⟩ | ⟨h, _⟩
      · rw [hk] at e; cases e
      · obtain ⟨p, hp, rfl⟩ := List.mem_map.mp h
        rw [nT p hp] at e; cases e
  have hM : L2.Mod K mg (hidT s1.heap (H0 cs a vs ns)) := ⟨hKb, nsK hns, ⟨mb, nsK hb, hbb⟩, by obtain ⟨mc, h1, h2⟩ := hlim; exact ⟨mc, nsK h1, h2⟩⟩
  have TB : ∀ p ∈ cs, TabB (hidT s1.heap (H0 cs a vs ns)) mg p.1 p.2 := by
    intro p hp
    refine ⟨?_, ?_, fun z => ?_⟩
    · obtain ⟨o, us, file, tf, flags, tg, inF, text, tt, e1, r1, r2, r3, r4⟩ := C p hp
      exact ⟨o, us, file, tf, flags, tg, inF, text, tt, base_of e1 (free e1 (fun vs n z => by rw [r2] at z; cases z) fun z => by rw [r2] at z; cases z; simp at r3), r1, r2, r3, r4⟩
    · obtain ⟨bm, ob, b1, b2, b3, b4, b5, b6⟩ := hbm
      refine ⟨bm, ob, b1, b2, fun q => ?_, fun q => ?_, base_of b3 (free b3 (fun vs n z => by rw [b6] at z; cases z) fun z => by rw [b6] at z; cases z), b4, b5, b6⟩
      · obtain ⟨o, es, ep, e, hd, _⟩ := hns
        rw [q, e] at b3; cases b3
        rw [hd] at b6; cases b6
      · rw [q, hT p hp] at b3; cases b3; cases b6
    · obtain ⟨o, es, ep, e, hd, _⟩ := hns
      rw [z, hT p hp] at e; cases e; cases hd
  have e0 : Env0 P w K mg (hidT s1.heap (H0 cs a vs ns)) callerA [] s1 (H0 cs a vs ns) := ⟨rfl, hM, fun b o e => of_hidT e, Nat.le_of_eq (hidT_size _ _), trivial, fun b hb => (by cases hb), hok, .of_eq hg⟩
  refine codeAny_mono ((F _ hKb (nsK hns) TB).run callerA [] s1 _ _ [.ref a] [.ref a] _ _ rfl hr e0 (hbind s1 (.ref a)) (.cons rfl .nil) (hsp aT _)) fun r s' h => ?_
  cases r with
  | error e =>
    obtain ⟨_, _, _, _, _, _, _, _, _, _, _, _, z⟩ := h
    exact z.elim
  | ok fl => cases fl with
    | next => exact h.elim
    | brk => exact h.elim
    | cont => exact h.elim
    | ret u =>
      obtain ⟨v, H', os, bare, un, hok', r', q⟩ := h
      obtain rfl : v = .bl true := q
      obtain rfl : u = Value.bool true := r'
      have key : ∀ b o, b ∉ cs.map (·.2) → s1.heap.get? b = some o → s'.heap.get? b = some o := by
        intro b o nb e
        cases q : H0 cs a vs ns b with
        | none => exact un.keep b o e q (fun z => by cases z) (by simp)
        | some u =>
          rcases cse b u q with ⟨rfl, rfl⟩ | ⟨h, _⟩
          · obtain ⟨e2, _⟩ := hok' b _ (un.frzs b _ _ q)
            rw [ha] at e; cases e
            exact e2
          · exact (nb h).elim
      have grown : ∀ p ∈ cs, ∃ more : Array Value, s'.heap.get? p.2 = some { cls := .none, data := .fields more } := by
        intro p hp
        obtain ⟨more, z⟩ := un.tbls p.2 #[] (at_t p hp)
        exact ⟨_, hok' p.2 _ z⟩
      refine ⟨rfl, ⟨fun b o e => ?_, fun b o e => ?_⟩, os, bare⟩
      · by_cases hb : b ∈ cs.map (·.2)
        · obtain ⟨p, hp, rfl⟩ := List.mem_map.mp hb
          obtain ⟨more, hm⟩ := grown p hp
          rw [hT p hp] at e
          cases e
          exact .inr (.inl ⟨((C p hp).tab (hT p hp)).isCodeTable, rfl, #[], more, rfl, by rw [Array.empty_append]; exact hm⟩)
        · exact .inl (key b o hb e)
      · by_cases hb : b ∈ cs.map (·.2)
        · obtain ⟨p, hp, rfl⟩ := List.mem_map.mp hb
          obtain ⟨more, hm⟩ := grown p hp
          exact ⟨_, hm⟩
        · exact ⟨o, key b o hb e⟩
end
/-- no list stands in the written part -/
def noLst (K : PySem.W.Frag) : Bool := K.all fun p => match p.2.cls with
  | .type "list" => false
  | _ => true
theorem noLst_ok {K : PySem.W.Frag} {h : Heap} {a : Addr} {vs : Array Value} (c : noLst K = true) (KX : K.In h) (ha : h.get? a = some { cls := .type "list", data := .seq vs }) : K.lookup a = none := by
  cases e : K.lookup a with
  | none => rfl
  | some o =>
    have := KX a o e
    rw [ha] at this; cases this
    have q := List.all_eq_true.mp c (a, _) (He.lookup_mem e)
    simp at q
/-- the law: the worth of its last def is True at each script -/
theorem walk_G {l : PySem.W.OpenLaw} {n k : Nat} {q : Program} {loose : List PySem.Str} {XP : (PySem.Str → Option Value) → Heap → Prop} {YP : World → Heap → Prop} {d : DefRec} {x : PySem.Str} (hn : l.most = some n) (hn2 : n ≤ sizeLine) (hdf : d.params.defaults = []) (hr : Room k callerA)
    (F : ∀ (w : World) (mg : PySem.Str → Option Value) (fa : Addr) (h : Heap), YP w h → h.Ns mainGlobals mg → mg d.name = some (.ref fa) → ∃ (K : PySem.W.Frag) (fd : FuncData) (cs : List (Addr × Addr)) (sp : Heap → Sp), K.In h ∧ noLst K = true ∧
      (∀ p ∈ cs, h.get? p.2 = some { cls := .none, data := .fields #[] }) ∧ (∀ p ∈ cs, K.lookup p.2 = none) ∧ (∀ p ∈ cs, PySem.W.CodeHd h p.1 p.2) ∧ (∀ (s : Shared) (u : Value), BindsTo s fd ⟨[u], []⟩ [(x, u)]) ∧
      (∀ (a : Addr) (vs : List Value) (ns : List Int), ns.length ≤ n → (∀ z ∈ ns, Builtin.Int.intBits z ≤ 1048576) → a ∉ cs.map (·.2) → ∀ base, sp base [.ref a] (H0 cs a vs ns) (fun v _ => v = .bl true) fun _ _ _ => False) ∧
      ∀ base : Heap, K.In base → base.Ns mainGlobals mg → (∀ p ∈ cs, TabB base mg p.1 p.2) → FnG l.prog w K mg base k fa fd [x] (sp base)) :
    PySem.W.WalkO q loose XP YP l.row.toRowW d [] (fun f vs => PySem.call f vs) := by
  refine Att.attach_callB hn hdf fun w s0 s1 mg mb fa o pm cd doc a vs ns G Y ho hd hcd hmg hobj hints hlen hbits hg => ?_
  obtain ⟨K, fd, cs, sp, KX, hK, hT, nT, C, hb, hsp, hF⟩ := F w mg fa _ Y G.T.g hmg
  exact law_G KX G.T.g G.T.b G.T.builtins G.T.nolimit hg hT nT C G.T.bmain hobj hints (Nat.le_trans hlen hn2) hr (noLst_ok hK KX hobj) hF hb (hsp a vs ns hlen hbits)
/-! ### the text's facts from the head -/
theorem fnF_of {g : G} {x : PySem.Str} {st : Stmt} {ps : List PySem.Str} {f : Addr} (F : ∃ fd, FunD g.K x x (defArgs st) (defBody st) (defScope st) [] [] f fd) (hm : g.mg x = some (.ref f))
    (hb : ∀ (kV doc pm : Value) (an : Option Addr) (cdv ct : Value) (us : List Value), us.length = ps.length → bindArgs (PySem.W.fnOf x x (defArgs st) (defBody st) (defScope st) .none kV doc pm an cdv ct) ⟨us, []⟩ = pure (ps.zip us)) : FnF g x st ps := by
  obtain ⟨fd, F⟩ := F
  exact ⟨f, fd, hm, fun_ofD F, FunD.bindsN F hb⟩
theorem fun_binds {K : PySem.W.Frag} {x qual : PySem.Str} {st : Stmt} {f : Addr} {fd : FuncData} {ps : List PySem.Str} (F : Fun K x qual st f fd)
    (h : ∀ (kV doc pm : Value) (an : Option Addr) (cdv ct : Value) (us : List Value), us.length = ps.length → bindArgs (PySem.W.fnOf x qual (defArgs st) (defBody st) (defScope st) .none kV doc pm an cdv ct) ⟨us, []⟩ = pure (ps.zip us)) (s : Shared) (us : List Value) (hl : us.length = ps.length) : BindsTo s fd ⟨us, []⟩ (ps.zip us) := by
  obtain ⟨oc, od, kV, doc, pm, an, cdv, ct, osl, rfl, lk, hcd⟩ := F.ex
  exact .of_eq (h kV doc pm an cdv ct us hl)
theorem fun_uniq {K : PySem.W.Frag} {x qual x2 qual2 : PySem.Str} {st st2 : Stmt} {f : Addr} {fd fd2 : FuncData} (F : Fun K x qual st f fd) (F2 : Fun K x2 qual2 st2 f fd2) : fd = fd2 := by
  obtain ⟨_, _, _, _, _, _, _, _, _, _, lk, _⟩ := F.ex
  obtain ⟨_, _, _, _, _, _, _, _, _, _, lk2, _⟩ := F2.ex
  rw [lk] at lk2
  cases lk2
  rfl
/-- the law's def is True of the script -/
theorem law_sp {g : G} {P : List Val → RP} {cs : List (Addr × Addr)} {a : Addr} {vs : List Value} {ns : List Int} (h : P [.scr ns] = .ok (.v (.bl true))) (hT : Tabs g.T (H0 cs a vs ns)) : spP g P [.ref a] (H0 cs a vs ns) (fun v _ => v = .bl true) fun _ _ _ => False := by
  have e0 : ∀ b o, H0 [] a vs ns b = some o → b = a ∧ o = .frz { cls := .type "list", data := .seq vs.toArray } (.lst (ns.map V.int)) := fun b o e => by
    unfold H0 at e
    split at e
    · rename_i h; cases e; exact ⟨h, rfl⟩
    · simp at e
  refine ⟨[.scr ns], H0 [] a vs ns, fun b o e => ?_, ⟨hT, fun p hp => ?_⟩, .cons (.scr (o := { cls := .type "list", data := .seq vs.toArray }) (if_pos rfl)) .nil, ?_⟩
  · obtain ⟨rfl, rfl⟩ := e0 b o e
    exact if_pos rfl
  · cases e : H0 [] a vs ns p.1 with
    | none => rfl
    | some o =>
      obtain ⟨h1, _⟩ := e0 _ _ e
      obtain ⟨ps, h2⟩ := tab_at hT hp
      have h3 : H0 cs a vs ns p.1 = some (.frz { cls := .type "list", data := .seq vs.toArray } (.lst (ns.map V.int))) := if_pos h1
      rw [h3] at h2; cases h2
  · rw [h]
    intro z M' H' fz nw ro hz
    cases ro with
    | v r => cases r; rfl
/-- at the entry the tables are empty -/
theorem tabs_H0 {T : List (Addr × PySem.Str)} {cs : List (Addr × Addr)} {a : Addr} {vs : List Value} {ns : List Int} (h : ∀ p ∈ T, p.1 ∈ cs.map (·.2)) (ha : a ∉ cs.map (·.2)) : Tabs T (H0 cs a vs ns) := fun p hp => by
  have h1 := h p hp
  refine LamX.TabS.nil ?_
  exact (if_neg (fun z : p.1 = a => ha (by rw [← z]; exact h1))).trans (if_pos h1)
theorem fnL_of {g : G} {x : PySem.Str} {st : Stmt} {ps : List PySem.Str} {p : He.Defn} (F : ∃ fd, FunD g.K x x (defArgs st) (defBody st) (defScope st) [] [] (He.fAd g.K p) fd) (hm : g.mg x = some (.ref (He.fAd g.K p)))
    (hb : ∀ (kV doc pm : Value) (an : Option Addr) (cdv ct : Value) (us : List Value), us.length = ps.length → bindArgs (PySem.W.fnOf x x (defArgs st) (defBody st) (defScope st) .none kV doc pm an cdv ct) ⟨us, []⟩ = pure (ps.zip us)) : FnL g x st ps (He.cT g.K p).1 := by
  obtain ⟨fd, F⟩ := F
  refine ⟨_, fd, hm, fun_ofD F, FunD.bindsN F hb, ?_⟩
  obtain ⟨oc, od, dV, kV, doc, pm, an, cdv, ct, osl, rfl, lk, hcd, _⟩ := F.ex
  obtain ⟨c, rfl⟩ := He.codeIn_ref hcd
  show Value.ref c = Value.ref (He.codeOf g.K p)
  rw [He.codeOf_eq lk rfl]
/-- tables that differ -/
theorem uniq_of {α : Type} {T : List (Addr × α)} (h : (T.map (·.1)).Nodup) {P : Addr} {q : α} (hm : (P, q) ∈ T) : ∀ p ∈ T, p.1 = P → p.2 = q := fun p hp e => by
  induction T with
  | nil => cases hp
  | cons t T ih =>
    rw [List.map_cons, List.nodup_cons] at h
    rcases List.mem_cons.mp hp with h1 | h1
    · rcases List.mem_cons.mp hm with h2 | h2
      · rw [h1, ← h2]
      · exact absurd (List.mem_map.mpr ⟨_, h2, by rw [← e, h1]⟩) h.1
    · rcases List.mem_cons.mp hm with h2 | h2
      · exact absurd (List.mem_map.mpr ⟨_, h1, by rw [e, ← h2]⟩) h.1
      · exact ih h.2 h2 h1
end KS
set_option Elab.async false
set_option linter.all false
set_option maxRecDepth 100000
set_option maxHeartbeats 4000000
namespace KS
open PySem PySem.Spec PyProof.Rows L2
open LamX (Tabs TabS)

/-- a list at D is being made: acc so far; the base (M1, H1, r1, f1) -/
structure AccSt (g : G) (S : Vw) (D : Addr) (M1 H1 : Hp) (r1 : Ro) (f1 : Nat → List Addr) (us : List Hp) (r : Ro) (s : L2.St) (M H : Hp) (f : Nat → List Addr) (acc : List Val) (accV : List V) : Prop where
  vw : ∀ U ∈ us, Le U (View S.fn M H f [])
  st : Sta g M H r s f
  p : Step g S.fn M1 H1 r1 f1 M H r f
  rep : RepL g (View S.fn M H f []) acc accV
  hD : H D = some (.lst accV)
  mD : M D = none
  fD : ∀ j, D ∉ f j
section
variable {g : G} {E : XK} {S : Vw} {k : Nat} {X : Cx} {pn : Option V} {D : Addr} {M1 H1 M H M' H' : Hp} {r1 r r' : Ro} {f1 f f' : Nat → List Addr} {s s' : L2.St} {acc : List Val} {accV : List V} {vs : List Nat} {us : List Hp}
theorem AccSt.step (a : AccSt g S D M1 H1 r1 f1 us r s M H f acc accV) (q : Step g S.fn M H r f M' H' r' f') (st' : Sta g M' H' r' s' f') : AccSt g S D M1 H1 r1 f1 us r' s' M' H' f' acc accV where
  vw := fun U hU => (a.vw U hU).trans (q.view a.st st' (by simp))
  st := st'
  p := a.p.trans q
  rep := a.rep.mono (q.view a.st st' (by simp))
  hD := q.keep D _ a.hD (fun i _ => a.fD i) (by intro ps z; cases z)
  mD := by
    cases e : M' D with
    | none => rfl
    | some o =>
      rcases q.newM D o e with z | z
      · rw [a.mD] at z; cases z
      · rw [a.hD] at z; cases z
  fD := fun j z => by
    rcases q.newF j D z with z | z
    · exact a.fD j z
    · rw [a.hD] at z; cases z
theorem AccSt.wipe (a : AccSt g S D M1 H1 r1 f1 us r s M H f acc accV) (hvs : ∀ v ∈ vs, S.fn v = false) : ∃ f', AccSt g S D M1 H1 r1 f1 us (wipeR r vs) (L2.wipe s vs) M H f' acc accV := by
  obtain ⟨f2, st2, hf2, p2⟩ := a.st.blk (S := S) hvs
  exact ⟨f2, a.step p2 st2⟩
theorem AccSt.push {o : Own} {y : V} {fd : List Addr} (a : AccSt g S D M1 H1 r1 f1 us r s M H f acc accV) (t : Tmp g S.fn M H f o y fd) (fr : ∀ b ∈ fd, H1 b = none) (hn : H1 D = none) (hd : D ∉ fd) :
    ∃ M6, AccSt g S D M1 H1 r1 f1 us r s M6 (upd H D (.lst (accV ++ [y]))) f (acc ++ [o.val]) (accV ++ [y]) := by
  obtain ⟨M6, st6, mo6, nw6, ro6⟩ := tmp_vf (b := false) a.st t (fun z => by cases z)
  have ro6 : Rep g (View S.fn M6 H f []) o.val y := ro6
  have d7 : M6 D = none := by
    cases q : M6 D with
    | none => rfl
    | some o =>
      rcases nw6 D o q with q | q
      · rw [a.mD] at q; cases q
      · exact (hd q).elim
  have p6 := a.p.temp mo6 nw6 fr
  have st7 := st6.updD (o := .lst (accV ++ [y])) a.hD d7 a.fD
  have hvu : View S.fn M6 (upd H D (.lst (accV ++ [y]))) f [] = View S.fn M6 H f [] := view_updD a.fD
  have vv : Le (View S.fn M H f []) (View S.fn M6 (upd H D (.lst (accV ++ [y]))) f []) := fun b u e => by
    rw [hvu]
    rcases view_cases S.fn M H f [] b with ⟨⟨j, h1, h2⟩, q⟩ | ⟨h, q⟩ | ⟨h1, h2, q⟩ <;> rw [q] at e
    · rw [view_in h1 h2]; exact e
    · cases h
    · exact st6.view_le b u (mo6 b u e)
  refine ⟨M6, fun U hU => (a.vw U hU).trans vv, st7, ⟨p6.mono, fun b u e n tt => ?_, fun b e => ?_, p6.newM, p6.same, p6.newF, p6.rlen⟩, ?_, upd_same, d7, a.fD⟩
  · by_cases hz : b = D
    · subst hz; rw [hn] at e; cases e
    · rw [upd_ne hz]; exact p6.keep b u e n tt
  · by_cases hz : b = D
    · subst hz; exact hn
    · rw [upd_ne hz] at e; exact p6.dom b e
  · refine RepL.append (a.rep.mono vv) (.cons ?_ .nil)
    rw [hvu]; exact ro6
/-- the next item -/
theorem AccSt.item {d : Val} {x : V} {V' : Hp} (a : AccSt g S D M1 H1 r1 f1 us r s M H f acc accV) (nw : New g (View S.fn M H f []) H V' H') (rx : Rep g V' d x) (hok : okB S (.v d) = true) :
    ∃ M2, AccSt g S D M1 H1 r1 f1 us r s M2 H' f acc accV ∧ Rep g M2 d x := by
  obtain ⟨M2, st2, p2, l1, l2, l3, l4, _, l5⟩ := land0 (fd := []) a.st (Step.refl (g := g)) (by simp) (by simp) nw
  refine ⟨M2, a.step p2 st2, okB_rep (M := M2) (H := H') (r := r) (s := s) (f := f) hok rx l3 l4⟩
/-- the target -/
theorem AccSt.put {t : Tg} {gt : TG} {d : Val} {x : V} {r2 : Ro} {Q : L2.St → Hp → Prop} (tg : TgOk g t gt) (hsl : ∀ i ∈ t.slots, i ∈ vs) (hvs : ∀ v ∈ vs, S.fn v = false) (a : AccSt g S D M1 H1 r1 f1 us r s M H f acc accV) (rx : Rep g M d x) (hput : t.put d r = some r2)
    (h : ∀ s3 f3, AccSt g S D M1 H1 r1 f1 us r2 s3 M H f3 acc accV → L2.wipe s3 vs = L2.wipe s vs → Q s3 H) : gt x s H Q := by
  refine tg M H r r2 s f d x _ a.st rx hput fun s3 f3 st3 hf3 hsl3 hl3 => ?_
  refine h s3 f3 (a.step ⟨Le.refl _, fun _ _ h _ _ => h, fun _ h => h, fun _ _ h => .inl h, fun j hj => ?_, fun j b z => ?_, by rw [← st3.len, hl3, a.st.len]⟩ st3) (wipe_eq hl3 fun i hi => (hsl3 i fun z => hi (hsl i z)).1)
  · have hn : j ∉ t.slots := fun z => by rw [hvs j (hsl j z)] at hj; cases hj
    exact ⟨(hsl3 j hn).2.2, (hsl3 j hn).2.1⟩
  · rcases hf3 j with q | q
    · rw [q] at z; exact .inl z
    · rw [q] at z; cases z
/-- the walk: each item's part of the list -/
def goGen (S : Vw) (vs : List Nat) (t : Tg) (body : Ro → Rs (List Val)) : List Val → Ro → Rs (List Val)
  | [], r => .ok [] r
  | d :: ds, r => if okB S (.v d) = true then
      match t.put d (wipeR r vs) with
      | none => .bad
      | some r1 => (body r1).noex.bind fun add r2 => (goGen S vs t body ds r2).noex.bind fun rest r3 => .ok (add ++ rest) r3
    else .bad
/-- what a walk asks for -/
def WalkQ (J : It) (gt : TG) (vs : List Nat) (s : L2.St) (T : L2.St → Hp → (Hp → Prop) → Prop) (H1 : Hp) (Fin : Hp → Prop) : Prop := ∃ W : Nat → Nat → Hp → Prop, (∃ m, W 0 m H1) ∧ ∀ i m H, W i m H →
  (J.stop i H ∧ Fin H) ∨ (J.go i H ∧ ∃ Nx : Hp → Prop, (∀ H', Nx H' → ∃ m', m' < m ∧ W (i + 1) m' H') ∧ ∀ x H', J.yld i H x H' → gt x (L2.wipe s vs) H' fun s2 H2 => L2.wipe s2 vs = L2.wipe s vs ∧ T s2 H2 Nx)
theorem loop_gen {t : Tg} {gt : TG} {J : It} {items total : List Val} {rEnd : Ro} {Hs : Hp} {T : L2.St → Hp → (Hp → Prop) → Prop} {body : Ro → Rs (List Val)} {Fin : Hp → Prop} {U : Hp} (tg : TgOk g t gt) (hvs : ∀ v ∈ vs, S.fn v = false) (hsl : ∀ i ∈ t.slots, i ∈ vs)
    (src : Src g U J items) (hUin : U ∈ us) (a0 : AccSt g S D M1 H1 r1 f1 us r s M Hs f acc accV)
    (hgo : goGen S vs t body items r = .ok total rEnd) (bound : Nat) (hb : (acc ++ total).length ≤ bound)
    (hT : ∀ {r2 r3 : Ro} {add acc' : List Val} {accV' : List V} {M' H' : Hp} {f' : Nat → List Addr} {s' : L2.St} {Nx : Hp → Prop}, AccSt g S D M1 H1 r1 f1 us r2 s' M' H' f' acc' accV' → L2.wipe s' vs = L2.wipe s vs → body r2 = .ok add r3 → (acc' ++ add).length ≤ bound →
      (∀ M'' H'' f'' accV'', AccSt g S D M1 H1 r1 f1 us (wipeR r3 vs) (L2.wipe s vs) M'' H'' f'' (acc' ++ add) accV'' → Nx H'') → T s' H' Nx)
    (hF : ∀ M' H' f' accV', AccSt g S D M1 H1 r1 f1 us (wipeR rEnd vs) (L2.wipe s vs) M' H' f' (acc ++ total) accV' → Fin H') : WalkQ J gt vs s T Hs Fin := by
  refine ⟨fun i m H => m = items.length - i ∧ i ≤ items.length ∧ ∃ r' M' f' acc' accV' rest, AccSt g S D M1 H1 r1 f1 us (wipeR r' vs) (L2.wipe s vs) M' H f' acc' accV' ∧ goGen S vs t body (items.drop i) r' = .ok rest rEnd ∧ acc' ++ rest = acc ++ total, ⟨items.length, by simp, Nat.zero_le _, ?_⟩, ?_⟩
  · obtain ⟨f2, a2⟩ := a0.wipe hvs
    exact ⟨r, M, f2, acc, accV, total, a2, by rw [List.drop_zero]; exact hgo, rfl⟩
  · rintro i m H ⟨rfl, hi, r', M', f', acc', accV', rest, a, hrest, hacc⟩
    have hview := a.vw U hUin
    by_cases hlt : i < items.length
    rotate_left
    · have he : i = items.length := by omega
      subst he
      left
      refine ⟨(src (View S.fn M' H f' []) H hview a.st.view_sub a.st.tab _).2 (Nat.le_refl _), ?_⟩
      rw [List.drop_length] at hrest
      simp only [goGen] at hrest
      cases hrest
      rw [List.append_nil] at hacc
      subst hacc
      exact hF M' H f' accV' a
    · right
      obtain ⟨d, hd⟩ : ∃ d, items[i]? = some d := ⟨items[i], by simp [hlt]⟩
      obtain ⟨hgoJ, hyl⟩ := (src (View S.fn M' H f' []) H hview a.st.view_sub a.st.tab i).1 d hd
      have hdrop : items.drop i = d :: items.drop (i + 1) := by
        rw [List.drop_eq_getElem_cons hlt]
        congr 1
        have := List.getElem?_eq_getElem hlt
        rw [hd] at this; cases this; rfl
      rw [hdrop] at hrest
      simp only [goGen] at hrest
      by_cases hok : okB S (.v d) = true
      rotate_left
      · rw [if_neg hok] at hrest; cases hrest
      rw [if_pos hok] at hrest
      cases hput : t.put d (wipeR r' vs) with
      | none => rw [hput] at hrest; cases hrest
      | some r2 =>
        simp only [hput] at hrest
        refine ⟨hgoJ, fun H' => ∃ r' M' f' acc' accV' rest, AccSt g S D M1 H1 r1 f1 us (wipeR r' vs) (L2.wipe s vs) M' H' f' acc' accV' ∧ goGen S vs t body (items.drop (i + 1)) r' = .ok rest rEnd ∧ acc' ++ rest = acc ++ total, fun H' hN => ⟨items.length - (i + 1), by omega, rfl, by omega, hN⟩, fun x H' hy => ?_⟩
        obtain ⟨V', nw, rx⟩ := hyl x H' hy
        obtain ⟨M2, a2, rx2⟩ := a.item nw rx hok
        refine a2.put tg hsl hvs rx2 hput fun s3 f3 a3 hw => ?_
        have hww : L2.wipe s3 vs = L2.wipe s vs := hw.trans (wipe_eq (L2.wipe_length s vs) fun i hi => wipe_ne hi)
        refine ⟨hww, ?_⟩
        cases e1 : body r2 with
        | bad => simp [e1, Rs.noex, Rs.bind] at hrest
        | ex n v => simp [e1, Rs.noex, Rs.bind] at hrest
        | ok add r3 =>
          simp only [e1, Rs.noex, Rs.bind] at hrest
          cases e2 : goGen S vs t body (items.drop (i + 1)) r3 with
          | bad => simp [e2] at hrest
          | ex n v => simp [e2] at hrest
          | ok rest2 rE =>
            simp only [e2, Rs.ok.injEq] at hrest
            obtain ⟨hr1, hr2⟩ := hrest
            subst hr1 hr2
            refine hT a3 hww e1 ?_ fun M'' H'' f'' accV'' a4 => ⟨r3, M'', f'', acc' ++ add, accV'', rest2, a4, e2, by rw [List.append_assoc]; exact hacc⟩
            have := congrArg List.length hacc
            simp only [List.length_append] at this hb ⊢
            omega
/-! ### two fors -/
def elem1 (mt : Mo Bool) (me : Mo Own) : Ro → Rs (List Val) := fun r => (mt r).noex.bind fun b r2 => if b = true then (me r2).noex.bind fun o r3 => .ok [o.val] r3 else .ok [] r2
def elem2 (S : Vw) (mt : Mo Bool) (mi1 : Mo (List Val)) (vs1 : List Nat) (t1 : Tg) (mt1 : Mo Bool) (me : Mo Own) : Ro → Rs (List Val) := fun r => (mt r).noex.bind fun b r2 => if b = true then (mi1 r2).noex.bind fun items r3 => goGen S vs1 t1 (elem1 mt1 me) items r3 else .ok [] r2
def mLc2 (S : Vw) (vs : List Nat) (t : Tg) (mi : Mo (List Val)) (mt : Mo Bool) (vs1 : List Nat) (t1 : Tg) (mi1 : Mo (List Val)) (mt1 : Mo Bool) (me : Mo Own) : Mo Own := fun r => (mi r).bind fun items r1 =>
  match goGen S vs t (elem2 S mt mi1 vs1 t1 mt1 me) items r1 with
  | .ok total r2 => if total.length ≤ 16777216 then .ok (.l total) (wipeR r2 vs) else .bad
  | _ => .bad
/-- an element is made -/
theorem elem1_ok {mt : Mo Bool} {me : Mo Own} {r2 r3 : Ro} {add : List Val} {Nx : Hp → Prop} (a : AccSt g S D M1 H1 r1 f1 us r2 s M H f acc accV) (hn : H1 D = none) (he : elem1 mt me r2 = .ok add r3) (hl : (acc ++ add).length ≤ 16777216)
    (h : ∀ M'' H'' f'' accV'', AccSt g S D M1 H1 r1 f1 us r3 s M'' H'' f'' (acc ++ add) accV'' → Nx H'') :
    tB g E0x S mt s H fun b H3 => if b = true then tD g E0x S me s H3 fun y H4 => ∃ acc, H4 D = some (.lst acc) ∧ acc.length < sizeLine ∧ Nx (upd H4 D (.lst (acc ++ [y]))) else Nx H3 := by
  refine ⟨r2, M, f, a.st, ?_⟩
  unfold elem1 at he
  cases e1 : mt r2 with
  | bad => simp [e1, Rs.noex, Rs.bind] at he
  | ex n v => simp [e1, Rs.noex, Rs.bind] at he
  | ok b r4 =>
    simp only [e1, Rs.noex, Rs.bind] at he
    intro M3 H3 f3 st3 p3
    have a3 := a.step p3 st3
    cases b with
    | false =>
      simp only [Bool.false_eq_true, if_false, Rs.ok.injEq] at he ⊢
      obtain ⟨h1, h2⟩ := he
      subst h1 h2
      rw [List.append_nil] at h
      exact h M3 H3 f3 accV a3
    | true =>
      simp only [if_true] at he ⊢
      refine ⟨r4, M3, f3, st3, ?_⟩
      cases e2 : me r4 with
      | bad => simp [e2] at he
      | ex n v => simp [e2] at he
      | ok o r5 =>
        simp only [e2, Rs.ok.injEq] at he
        obtain ⟨h1, h2⟩ := he
        subst h1 h2
        intro y M5 H5 f5 fd st5 t5 p5 fr5
        have a5 := a3.step p5 st5
        have hDfd : D ∉ fd := fun z => by
          have := a3.hD
          rw [fr5 D z] at this; cases this
        obtain ⟨M6, a6⟩ := a5.push t5 (fun b hb => a3.p.dom b (fr5 b hb)) hn hDfd
        refine ⟨accV, a5.hD, ?_, h M6 _ f5 _ a6⟩
        rw [← a5.rep.length, sizeLine_val]
        simp only [List.length_append, List.length_cons, List.length_nil] at hl
        omega
theorem AccSt.more {U : Hp} (a : AccSt g S D M1 H1 r1 f1 us r s M H f acc accV) (h : Le U (View S.fn M H f [])) : AccSt g S D M1 H1 r1 f1 (U :: us) r s M H f acc accV :=
  ⟨fun V hV => by
    rcases List.mem_cons.mp hV with rfl | hV
    · exact h
    · exact a.vw V hV, a.st, a.p, a.rep, a.hD, a.mD, a.fD⟩
theorem AccSt.less {U : Hp} (a : AccSt g S D M1 H1 r1 f1 (U :: us) r s M H f acc accV) : AccSt g S D M1 H1 r1 f1 us r s M H f acc accV := ⟨fun V hV => a.vw V (List.mem_cons_of_mem _ hV), a.st, a.p, a.rep, a.hD, a.mD, a.fD⟩
theorem wipeR_at {i : Nat} : ∀ (r : Ro) {vs : List Nat}, i ∈ vs → (wipeR r vs)[i]? = if i < r.length then some none else none := by
  intro r vs
  induction vs with
  | nil => intro h; cases h
  | cons v vs ih =>
    intro h
    rw [wipeR]
    by_cases hv : v = i
    · subst hv
      by_cases hl : v < r.length
      · rw [if_pos hl, List.getElem?_set_self (by rw [wipeR_len]; exact hl)]
      · rw [if_neg hl, List.getElem?_eq_none (by rw [List.length_set, wipeR_len]; omega)]
    · rw [List.getElem?_set_ne hv]
      rcases List.mem_cons.mp h with h | h
      · exact (hv h.symm).elim
      · exact ih h
theorem wipeR_two {r : Ro} {vs vs1 : List Nat} (h : ∀ i ∈ vs1, i ∈ vs) : wipeR (wipeR r vs1) vs = wipeR r vs := by
  apply List.ext_getElem?
  intro i
  by_cases hi : i ∈ vs
  · rw [wipeR_at _ hi, wipeR_at _ hi, wipeR_len]
  · rw [wipeR_ne hi, wipeR_ne hi, wipeR_ne (fun z => hi (h i z))]
theorem imp_lc2 {vs1 : List Nat} {t t1 : Tg} {gt gt1 : TG} {mi mi1 : Mo (List Val)} {mt mt1 : Mo Bool} {me : Mo Own} {s : L2.St} {H : Hp} {Q : VK} (tg : TgOk g t gt) (tg1 : TgOk g t1 gt1) (hvs : ∀ v ∈ vs, S.fn v = false) (hsl : ∀ i ∈ t.slots, i ∈ vs) (hsl1 : ∀ i ∈ t1.slots, i ∈ vs1) (hv1 : ∀ i ∈ vs1, i ∈ vs)
    (h : tD g E S (mLc2 S vs t mi mt vs1 t1 mi1 mt1 me) s H Q) : tLc2 (tI g E false S mi) gt (tB g E0x S mt) (tI g E0x false S mi1) gt1 (tB g E0x S mt1) (tD g E0x S me) vs vs1 s H Q := by
  obtain ⟨r0, M0, f0, st0, h⟩ := h
  refine ⟨r0, M0, f0, st0, ?_⟩
  unfold mLc2 at h
  cases hm : mi r0 with
  | bad => rw [hm] at h; exact h
  | ex n v => rw [hm] at h; exact h
  | ok items r1 =>
    simp only [hm, Rs.bind] at h
    intro J M1 H1 f1 st1 p1 src D hD
    cases hgo : goGen S vs t (elem2 S mt mi1 vs1 t1 mt1 me) items r1 with
    | bad => rw [hgo] at h; exact h.elim
    | ex n v => rw [hgo] at h; exact h.elim
    | ok total rEnd =>
      simp only [hgo] at h
      by_cases hlen : total.length ≤ 16777216
      rotate_left
      · rw [if_neg hlen] at h; exact h.elim
      rw [if_pos hlen] at h
      have hD1 : M1 D = none := by
        cases e : M1 D with
        | none => rfl
        | some o => rw [st1.sub _ _ e] at hD; cases hD
      have hDf : ∀ i, D ∉ f1 i := fun i z => by
        obtain ⟨xs, hx⟩ := st1.live z
        rw [hD] at hx; cases hx
      have kk : Le H1 (upd H1 D (.lst [])) := fun a o e => by rw [upd_ne (fun z => by rw [z, hD] at e; cases e)]; exact e
      have st1' : Sta g M1 (upd H1 D (.lst [])) r1 s f1 := ⟨fun a o e => kk a o (st1.sub a o e), fun i d e => by
        obtain ⟨x, h1, h2⟩ := st1.env i d e
        exact ⟨x, h1, h2.mono (Le.refl _) fun a _ u hu => kk a u hu⟩, st1.dis, st1.fre, st1.out, st1.tab.ext kk, st1.len, st1.nt⟩
      have hv0 : View S.fn M1 (upd H1 D (.lst [])) f1 [] = View S.fn M1 H1 f1 [] := view_updD hDf
      have a0 : AccSt g S D M1 H1 r1 f1 [View S.fn M1 H1 f1 []] r1 s M1 (upd H1 D (.lst [])) f1 [] [] := ⟨fun U hU => by
          obtain rfl : U = _ := by simpa using hU
          rw [hv0]; exact Le.refl _, st1', ⟨Le.refl _, fun a o e _ _ => kk a o e, fun a e => by
          by_cases hz : a = D
          · subst hz; exact hD
          · rw [upd_ne hz] at e; exact e, fun _ _ e => .inl e, fun _ _ => ⟨rfl, rfl⟩, fun _ _ e => .inl e, rfl⟩, .nil, upd_same, hD1, hDf⟩
      refine loop_gen (us := [View S.fn M1 H1 f1 []]) tg hvs hsl src (by simp [Vf]) a0 hgo 16777216 (by simpa using hlen) (T := fun s2 H2 Nx => tB g E0x S mt s2 H2 fun b H3 => if b = true then tI g E0x false S mi1 s2 H3 fun J1 H4 => WalkQ J1 gt1 vs1 s2 (fun s3 H5 Nx1 => tB g E0x S mt1 s3 H5 fun b H6 => if b = true then tD g E0x S me s3 H6 fun y H7 => ∃ acc, H7 D = some (.lst acc) ∧ acc.length < sizeLine ∧ Nx1 (upd H7 D (.lst (acc ++ [y]))) else Nx1 H6) H4 Nx else Nx H3) ?_ ?_
      · intro r2 r3 add acc' accV' M' H' f' s' Nx a hw hbody hbd hNx
        refine ⟨r2, M', f', a.st, ?_⟩
        unfold elem2 at hbody
        cases e1 : mt r2 with
        | bad => simp [e1, Rs.noex, Rs.bind] at hbody
        | ex n v => simp [e1, Rs.noex, Rs.bind] at hbody
        | ok b r4 =>
          simp only [e1, Rs.noex, Rs.bind] at hbody
          intro M3 H3 f3 st3 p3
          have a3 := a.step p3 st3
          cases b with
          | false =>
            simp only [Bool.false_eq_true, if_false, Rs.ok.injEq] at hbody ⊢
            obtain ⟨h1, h2⟩ := hbody
            subst h1 h2
            obtain ⟨f4, a4⟩ := a3.wipe hvs
            rw [hw] at a4
            rw [List.append_nil] at hNx
            exact hNx _ _ _ _ a4
          | true =>
            simp only [if_true] at hbody ⊢
            refine ⟨r4, M3, f3, st3, ?_⟩
            cases e2 : mi1 r4 with
            | bad => simp [e2] at hbody
            | ex n v => simp [e2] at hbody
            | ok items1 r5 =>
              simp only [e2] at hbody
              intro J1 M4 H4 f4 st4 p4 src1
              have a4 := (a3.step p4 st4).more (Le.refl _)
              refine loop_gen tg1 (fun v hv => hvs v (hv1 v hv)) hsl1 src1 (by simp [Vf]) a4 hbody 16777216 hbd ?_ ?_
              · intro r6 r7 add2 acc2 accV2 M5 H5 f5 s5 Nx1 a5 hw5 hb5 hl5 hN5
                refine elem1_ok a5 hD hb5 hl5 fun M'' H'' f'' accV'' a6 => ?_
                obtain ⟨f7, a7⟩ := a6.wipe (vs := vs1) (fun v hv => hvs v (hv1 v hv))
                rw [hw5] at a7
                exact hN5 _ _ _ _ a7
              · intro M5 H5 f5 accV5 a5
                obtain ⟨f6, a6⟩ := a5.less.wipe (vs := vs) hvs
                rw [wipeR_two hv1] at a6
                have e6 : L2.wipe (L2.wipe s' vs1) vs = L2.wipe s vs := by
                  rw [← hw]
                  exact wipe_eq (L2.wipe_length s' vs1) fun i hi => wipe_ne fun z => hi (hv1 i z)
                rw [e6] at a6
                exact hNx _ _ _ _ a6
      · intro M' H' f' accV' a
        rw [List.nil_append] at a
        refine h (.ref D) M' H' f' [D] (a.st.swap (s' := s) (fun i d e => ?_) (L2.wipe_length s vs).symm) ⟨.l a.hD a.rep, fun b hb => ?_⟩ (p1.trans a.p) fun b hb => ?_
        · exact (wipe_ne fun z => wipeR_in z d e).symm
        · obtain rfl : b = D := by simpa using hb
          exact ⟨a.mD, a.fD⟩
        · obtain rfl : b = D := by simpa using hb
          exact p1.dom _ hD
theorem dx_lc2 {elt tg iter tg1 iter1 : Expr} {ifs ifs1 : List Expr} {scope : Scope} {own : List (PySem.Str × Nat)} {vs1 : List Nat} {pos : Pos} {t t1 : Tg} {mi mi1 : Mo (List Val)} {mt mt1 : Mo Bool} {me : Mo Own} (c : Cxt g E k X) (hi : PI X tg iter (tI g E false S mi)) (ok : blkC X.N X.env.scope scope own = true)
    (hg : ∀ (s : Shared) (H : Hp) (C : Addr) (cl : List (PySem.Str × Addr)) (fp : List Addr), DG (X.blk s H scope (compEnvC scope cl C X.env) fp) tg t) (ht : ∀ (s : Shared) (H : Hp) (C : Addr) (cl : List (PySem.Str × Addr)) (fp : List Addr), PTs (X.blk s H scope (compEnvC scope cl C X.env) fp) ifs (tB g E0x S mt))
    (hi1 : ∀ (s : Shared) (H : Hp) (C : Addr) (cl : List (PySem.Str × Addr)) (fp : List Addr), PI (X.blk s H scope (compEnvC scope cl C X.env) fp) tg1 iter1 (tI g E0x false S mi1))
    (hg1 : ∀ (s : Shared) (H : Hp) (C : Addr) (cl : List (PySem.Str × Addr)) (fp : List Addr), DG (X.blk s H scope (compEnvC scope cl C X.env) fp) tg1 t1) (ht1 : ∀ (s : Shared) (H : Hp) (C : Addr) (cl : List (PySem.Str × Addr)) (fp : List Addr), PTs (X.blk s H scope (compEnvC scope cl C X.env) fp) ifs1 (tB g E0x S mt1))
    (he : ∀ (s : Shared) (H : Hp) (C : Addr) (cl : List (PySem.Str × Addr)) (fp : List Addr), PE (X.blk s H scope (compEnvC scope cl C X.env) fp) elt (tD g E0x S me)) (hv : ((own.map (·.2)).all fun v => !S.fn v) = true := by rfl) (hsl : (t.slots.all fun i => (own.map (·.2)).contains i) = true := by rfl) (hsl1 : (t1.slots.all fun i => vs1.contains i) = true := by rfl)
    (hv1 : (vs1.all fun i => (own.map (·.2)).contains i) = true := by rfl) (hs : ∀ x, foldedSetIterable iter X.env x = pure x := by intro _; rfl) (hs1 : ∀ env x, foldedSetIterable iter1 env x = pure x := by intro _ _; rfl) :
    PE X (.ListComp elt [⟨tg, iter, ifs, 0⟩, ⟨tg1, iter1, ifs1, 0⟩] scope pos) (tD g E S (mLc2 S (own.map (·.2)) t mi mt vs1 t1 mi1 mt1 me)) :=
  PE.imp (pe_lc2 (g := gOf X.K t) (g1 := gOf X.K t1) c.calm c.nd hi (blkOk_by ok) (fun i h => by simpa using List.all_eq_true.mp hv1 i h) hg ht hi1 hg1 ht1 he hs hs1) fun s H Q q => imp_lc2 (tgOk X.K t) (tgOk X.K t1) (fun v h => by simpa using List.all_eq_true.mp hv v h) (fun i h => by simpa using List.all_eq_true.mp hsl i h) (fun i h => by simpa using List.all_eq_true.mp hsl1 i h) (fun i h => by simpa using List.all_eq_true.mp hv1 i h) q
theorem ds_setLc2 {i : Nat} {y : PySem.Str} {py spos : Pos} {elt tg iter tg1 iter1 : Expr} {ifs ifs1 : List Expr} {scope : Scope} {own : List (PySem.Str × Nat)} {vs1 : List Nat} {pos : Pos} {t t1 : Tg} {mi mi1 : Mo (List Val)} {mt mt1 : Mo Bool} {me : Mo Own} (c : Cxt g E k X) (hi : PI X tg iter (tI g E false S mi)) (ok : blkC X.N X.env.scope scope own = true)
    (hg : ∀ (s : Shared) (H : Hp) (C : Addr) (cl : List (PySem.Str × Addr)) (fp : List Addr), DG (X.blk s H scope (compEnvC scope cl C X.env) fp) tg t) (ht : ∀ (s : Shared) (H : Hp) (C : Addr) (cl : List (PySem.Str × Addr)) (fp : List Addr), PTs (X.blk s H scope (compEnvC scope cl C X.env) fp) ifs (tB g E0x S mt))
    (hi1 : ∀ (s : Shared) (H : Hp) (C : Addr) (cl : List (PySem.Str × Addr)) (fp : List Addr), PI (X.blk s H scope (compEnvC scope cl C X.env) fp) tg1 iter1 (tI g E0x false S mi1))
    (hg1 : ∀ (s : Shared) (H : Hp) (C : Addr) (cl : List (PySem.Str × Addr)) (fp : List Addr), DG (X.blk s H scope (compEnvC scope cl C X.env) fp) tg1 t1) (ht1 : ∀ (s : Shared) (H : Hp) (C : Addr) (cl : List (PySem.Str × Addr)) (fp : List Addr), PTs (X.blk s H scope (compEnvC scope cl C X.env) fp) ifs1 (tB g E0x S mt1))
    (he : ∀ (s : Shared) (H : Hp) (C : Addr) (cl : List (PySem.Str × Addr)) (fp : List Addr), PE (X.blk s H scope (compEnvC scope cl C X.env) fp) elt (tD g E0x S me)) (hy : X.N[i]? = some y := by rfl) (hyl : X.env.scope.names.lookup y = some .local := by rfl)
    (hsw : swapsWith (.ListComp elt [⟨tg, iter, ifs, 0⟩, ⟨tg1, iter1, ifs1, 0⟩] scope pos) (some (.Name y py)) spos.line X.env = pure true := by exact sw_true rfl rfl rfl (by decide +kernel)) (hi0 : i ≠ 0 ∨ pn = none := by first | exact .inl (by decide) | exact .inr rfl)
    (hv : ((own.map (·.2)).all fun v => !S.fn v) = true := by rfl) (hsl : (t.slots.all fun i => (own.map (·.2)).contains i) = true := by rfl) (hsl1 : (t1.slots.all fun i => vs1.contains i) = true := by rfl)
    (hv1 : (vs1.all fun i => (own.map (·.2)).contains i) = true := by rfl) (hs : ∀ x, foldedSetIterable iter X.env x = pure x := by intro _; rfl) (hs1 : ∀ env x, foldedSetIterable iter1 env x = pure x := by intro _ _; rfl) :
    PS X (.Assign [.Name y py] (.ListComp elt [⟨tg, iter, ifs, 0⟩, ⟨tg1, iter1, ifs1, 0⟩] scope pos) spos) (tS g E pn (sSet S i (mLc2 S (own.map (·.2)) t mi mt vs1 t1 mi1 mt1 me))) :=
  PS.imp (ps_setLc2 (g := gOf X.K t) (g1 := gOf X.K t1) c.calm c.nd hy hyl hsw hi (blkOk_by ok) (fun i h => by simpa using List.all_eq_true.mp hv1 i h) hg ht hi1 hg1 ht1 he hs hs1) fun D s H q => by
    have q1 := imp_set hi0 q
    exact imp_lc2 (tgOk X.K t) (tgOk X.K t1) (fun v h => by simpa using List.all_eq_true.mp hv v h) (fun i h => by simpa using List.all_eq_true.mp hsl i h) (fun i h => by simpa using List.all_eq_true.mp hsl1 i h) (fun i h => by simpa using List.all_eq_true.mp hv1 i h) q1
end
end KS
set_option Elab.async false
set_option linter.all false
set_option maxRecDepth 100000
set_option maxHeartbeats 4000000
namespace KS
open PySem PySem.Spec PyProof.Rows L2
open LamX (Tabs TabS TabB)
/-! ### a part of the heap that is hidden -/
open Classical in
noncomputable def hid (Z : Addr → Prop) (H : Hp) : Hp := fun b => if Z b then none else H b
open Classical in
noncomputable def unh (Z : Addr → Prop) (H H' : Hp) : Hp := fun b => if Z b then H b else H' b
section
variable {P : Program} {w : World} {Z : Addr → Prop} {H H' M M' : Hp} {h h' : Heap} {fs : List Addr} {g : G}
theorem hid_in {b : Addr} (z : Z b) : hid Z H b = none := if_pos z
theorem hid_out {b : Addr} (z : ¬ Z b) : hid Z H b = H b := if_neg z
theorem unh_in {b : Addr} (z : Z b) : unh Z H H' b = H b := if_pos z
theorem unh_out {b : Addr} (z : ¬ Z b) : unh Z H H' b = H' b := if_neg z
theorem hid_some {b : Addr} {u : HO} (e : hid Z H b = some u) : ¬ Z b ∧ H b = some u := by
  by_cases z : Z b
  · rw [hid_in z] at e; cases e
  · rw [hid_out z] at e; exact ⟨z, e⟩
/-- what is hidden is pinned -/
def Pind (Z : Addr → Prop) (H : Hp) : Prop := ∀ z, Z z → ∃ o, H z = some (.frz o (.own z))
theorem Pind.not {b : Addr} {u : HO} (p : Pind Z H) (e : H b = some u) (hu : ∀ o c, u ≠ .frz o (.own c)) : ¬ Z b := fun z => by
  obtain ⟨o, e2⟩ := p b z
  rw [e] at e2; cases e2
  exact hu _ _ rfl
theorem hok_hid (p : Pind Z H) (x : HOk P w H h) : HOk P w (hid Z H) h := fun b u e => by
  obtain ⟨nz, e⟩ := hid_some e
  exact (x b u e).stay (fun c v _ q => q) (fun c q => by rw [hid_out (p.not q (by intro o c z; cases z))]; exact q) fun c xs q => by rw [hid_out (p.not q (by intro o c z; cases z))]; exact q
theorem hok_unh (p : Pind Z H) (x : HOk P w H h) (x' : HOk P w H' h') (hn : ∀ z, Z z → H' z = none) (hk : ∀ z o, Z z → h.get? z = some o → h'.get? z = some o) : HOk P w (unh Z H H') h' := fun b u e => by
  by_cases z : Z b
  · rw [unh_in z] at e
    obtain ⟨o, e2⟩ := p b z
    rw [e] at e2; cases e2
    obtain ⟨q, _⟩ := x b _ e
    exact ⟨hk b o z q, o, hk b o z q⟩
  · rw [unh_out z] at e
    have nz : ∀ {c : Addr} {v : HO}, H' c = some v → ¬ Z c := fun q z => by rw [hn _ z] at q; cases q
    exact (x' b u e).stay (fun c v _ q => q) (fun c q => by rw [unh_out (nz q)]; exact q) fun c xs q => by rw [unh_out (nz q)]; exact q
theorem un_unh (p : Pind Z H) (u : Un fs [] (hid Z H) H' h h') : Un fs [] H (unh Z H H') h h' where
  keep := fun b o e n hb hx => u.keep b o e (by rw [hid_out (fun z => by obtain ⟨o, q⟩ := p b z; rw [n] at q; cases q)]; exact n) hb hx
  slot := fun b o e n hb hx => u.slot b o e (by rw [hid_out (fun z => by obtain ⟨o, q⟩ := p b z; rw [n] at q; cases q)]; exact n) hb hx
  free := fun b o e n hx => by
    have nz : ¬ Z b := fun z => by obtain ⟨o, q⟩ := p b z; rw [n] at q; cases q
    rw [unh_out nz]
    exact u.free b o e (by rw [hid_out nz]; exact n) hx
  there := u.there
  tups := fun b xs e => by
    have nz := p.not e (by intro o c z; cases z)
    rw [unh_out nz]; exact u.tups b xs (by rw [hid_out nz]; exact e)
  frzs := fun b o v e => by
    by_cases z : Z b
    · rw [unh_in z]; exact e
    · rw [unh_out z]; exact u.frzs b o v (by rw [hid_out z]; exact e)
  tbls := fun b ps e => by
    have nz := p.not e (by intro o c z; cases z)
    rw [unh_out nz]; exact u.tbls b ps (by rw [hid_out nz]; exact e)
theorem un_hid (p : Pind Z H) (x : HOk P w H h) (x' : HOk P w H' h') (u : Un fs [] H H' h h') : Un fs [] (hid Z H) (hid Z H') h h' := by
  have kz : ∀ b o, Z b → h.get? b = some o → h'.get? b = some o := fun b o z e => by
    obtain ⟨oz, q⟩ := p b z
    obtain ⟨e1, _⟩ := x b _ q
    obtain ⟨e2, _⟩ := x' b _ (u.frzs b _ _ q)
    rw [e] at e1; cases e1
    exact e2
  refine ⟨fun b o e n hb hx => ?_, fun b o e n hb hx => ?_, fun b o e n hx => ?_, u.there, fun b xs e => ?_, fun b o v e => ?_, fun b ps e => ?_⟩
  · by_cases z : Z b
    · exact kz b o z e
    · exact u.keep b o e (by rw [hid_out z] at n; exact n) hb hx
  · by_cases z : Z b
    · exact ⟨o.slots, kz b o z e⟩
    · exact u.slot b o e (by rw [hid_out z] at n; exact n) hb hx
  · by_cases z : Z b
    · exact hid_in z
    · rw [hid_out z] at n ⊢; exact u.free b o e n hx
  · obtain ⟨nz, e⟩ := hid_some e
    rw [hid_out nz]; exact u.tups b xs e
  · obtain ⟨nz, e⟩ := hid_some e
    rw [hid_out nz]; exact u.frzs b o v e
  · obtain ⟨nz, e⟩ := hid_some e
    obtain ⟨more, q⟩ := u.tbls b ps e
    exact ⟨more, by rw [hid_out nz]; exact q⟩
theorem pind_un (p : Pind Z H) (u : Un fs [] H H' h h') : Pind Z H' := fun z hz => by
  obtain ⟨o, e⟩ := p z hz
  exact ⟨o, u.frzs z o _ e⟩
theorem tabs_hid {T : List (Addr × PySem.Str)} (p : Pind Z H) (t : Tabs T H) : Tabs T (hid Z H) := fun q hq => by
  obtain ⟨ps, e, a, b⟩ := t q hq
  refine ⟨ps, by rw [hid_out (p.not e (by intro o c z; cases z))]; exact e, a, fun pos cv hc => ?_⟩
  obtain ⟨c, e1, e2⟩ := b pos cv hc
  exact ⟨c, e1, by rw [hid_out (p.not e2 (by intro o c z; unfold LamX.CodeO at z; cases z))]; exact e2⟩
theorem tabs_unh {T : List (Addr × PySem.Str)} (hn : ∀ z, Z z → H' z = none) (t : Tabs T H') : Tabs T (unh Z H H') := fun q hq => by
  obtain ⟨ps, e, a, b⟩ := t q hq
  have nz : ∀ {c : Addr} {v : HO}, H' c = some v → ¬ Z c := fun q z => by rw [hn _ z] at q; cases q
  refine ⟨ps, by rw [unh_out (nz e)]; exact e, a, fun pos cv hc => ?_⟩
  obtain ⟨c, e1, e2⟩ := b pos cv hc
  exact ⟨c, e1, by rw [unh_out (nz e2)]; exact e2⟩
end
/-! ### worths without closures -/
mutual
def nolam : Val → Bool
  | .tup xs => nolamL xs
  | .lst xs => nolamL xs
  | .exc _ v => nolam v
  | .lam _ _ => false
  | .dct ks => nolamP ks
  | _ => true
def nolamL : List Val → Bool
  | [] => true
  | x :: xs => nolam x && nolamL xs
def nolamP : List (Val × Val) → Bool
  | [] => true
  | (_, x) :: xs => nolam x && nolamP xs
end
theorem nolamP_eq : ∀ (ks : List (Val × Val)), nolamP ks = nolamL (ks.map Prod.snd)
  | [] => rfl
  | (_, x) :: xs => by simp [nolamP, nolamL, nolamP_eq xs]
def nolamO : Own → Bool
  | .v d => nolam d
  | .l ds => nolamL ds
/-- no exception's object is a code object -/
theorem exc_ne_code {C dx a c : Addr} {q : PySem.Str} : ExcO C dx a ≠ LamX.CodeO c q := fun e => by
  unfold ExcO LamX.CodeO at e
  have e := HO.ext.inj e
  have h := congrFun e (⟨Array.replicate (c + 1) { cls := .none, data := .fields #[.none, .str q 0] }, {}⟩ : Heap)
  have at_ : ∀ b o, (⟨Array.replicate (c + 1) { cls := .none, data := .fields #[.none, .str q 0] }, {}⟩ : Heap).get? b = some o → o = { cls := .none, data := .fields #[.none, .str q 0] } := fun b o e => by
    simp only [Heap.get?, Array.getElem?_replicate] at e
    split at e
    · rename_i x hx
      split at hx <;> cases hx
    · rename_i x hx
      split at e <;> cases e
      rfl
  have t : ∃ (oc : Obj) (vs : Array Value) (t : Tok), (⟨Array.replicate (c + 1) { cls := .none, data := .fields #[.none, .str q 0] }, {}⟩ : Heap).get? c = some oc ∧ oc.data = .fields vs ∧ vs[1]? = some (.str q t) := by
    refine ⟨{ cls := .none, data := .fields #[.none, .str q 0] }, #[.none, .str q 0], 0, ?_, rfl, rfl⟩
    simp [Heap.get?, Array.getElem?_replicate]
  rw [← h] at t
  obtain ⟨oe, vs, h1, h2, _⟩ := t
  have := at_ a oe h1
  rw [this] at h2
  cases h2
mutual
theorem Rep.nolam {g : G} {M M' : Hp} (k : ∀ a o, M a = some o → (∀ ob c, o ≠ .frz ob (.own c)) → (∀ c q, o ≠ LamX.CodeO c q) → M' a = some o) : ∀ {d : Val} {x : V}, KS.nolam d = true → Rep g M d x → Rep g M' d x
  | _, _, _, .non => .non
  | _, _, _, .bl b => .bl b
  | _, _, _, .int i => .int i
  | _, _, _, .str s => .str s
  | _, _, e, .tup h t => .tup (k _ _ h (by intro _ _ q; cases q) (by intro _ _ q; unfold LamX.CodeO at q; cases q)) (RepL.nolam k (by simpa [KS.nolam] using e) t)
  | _, _, e, .lst h t => .lst (k _ _ h (by intro _ _ q; cases q) (by intro _ _ q; unfold LamX.CodeO at q; cases q)) (RepL.nolam k (by simpa [KS.nolam] using e) t)
  | _, _, _, .scr h => .scr (k _ _ h (by intro _ _ q; cases q) (by intro _ _ q; unfold LamX.CodeO at q; cases q))
  | _, _, _, .ty n => .ty n
  | _, _, _, .cls h => .cls h
  | _, _, e, .lam h t => by simp [KS.nolam] at e
  | _, _, e, .dT h q t => .dT (k _ _ h (by intro _ _ q; cases q) (by intro _ _ q; unfold LamX.CodeO at q; cases q)) q (RepL.nolam k (by rw [← nolamP_eq]; simpa [KS.nolam] using e) t)
  | _, _, e, .exc c h hd r => .exc c (k _ _ h (by intro _ _ q; unfold ExcO at q; cases q) fun _ _ => exc_ne_code) (k _ _ hd (by intro _ _ q; cases q) (by intro _ _ q; unfold LamX.CodeO at q; cases q)) (Rep.nolam k (by simpa [KS.nolam] using e) r)
theorem RepL.nolam {g : G} {M M' : Hp} (k : ∀ a o, M a = some o → (∀ ob c, o ≠ .frz ob (.own c)) → (∀ c q, o ≠ LamX.CodeO c q) → M' a = some o) : ∀ {ds : List Val} {xs : List V}, nolamL ds = true → RepL g M ds xs → RepL g M' ds xs
  | _, _, _, .nil => .nil
  | _, _, e, .cons h t => by
    simp [nolamL] at e
    exact .cons (Rep.nolam k e.1 h) (RepL.nolam k e.2 t)
end
theorem hid_k {Z : Addr → Prop} {M H : Hp} (p : Pind Z H) (le : Le M H) : ∀ a o, M a = some o → (∀ ob c, o ≠ .frz ob (.own c)) → (∀ c q, o ≠ LamX.CodeO c q) → hid Z M a = some o := fun a o e n _ => by
  rw [hid_out (p.not (le a o e) n)]; exact e
end KS
namespace KS
open PySem PySem.Spec PyProof.Rows L2
open LamX (Tabs TabS TabB)
/-! ### a closure's call -/
abbrev lamE (qual : PySem.Str) (scope : Scope) (L f c' : Addr) (clo : List (PySem.Str × Addr)) : Env := PySem.W.envX qual scope L f (.ref c') clo
def lamX (P : Program) (w : World) (K : PySem.W.Frag) (mg : PySem.Str → Option Value) (base : Heap) (N : List PySem.Str) (qual : PySem.Str) (scope : Scope) (f c' : Addr) (clo : List (PySem.Str × Addr)) (A : Around) (outer : List Env) (s : Shared) (H : Hp) (E : XK) : Cx where
  prog := P
  w := w
  K := K
  mg := mg
  base := base
  A := A.deeper (lamE qual scope s.heap.objs.size f c' clo)
  N := N
  s_0 := s
  H_0 := H
  env := lamE qual scope s.heap.objs.size f c' clo
  outer := outer
  stack := lamE qual scope s.heap.objs.size f c' clo :: outer
  ex := []
  fn := fun _ => false
  calm := true
  pn := []
  xe := fun e s' => wpAny (model P w) (A.deeper (lamE qual scope s.heap.objs.size f c' clo)) (leaving (lamE qual scope s.heap.objs.size f c' clo) e) (fun _ s'' => L2.CX P w outer H s E e s'') (fun e' s'' => L2.CX P w outer H s E e' s'') s'
theorem lookup_nd {y : PySem.Str} {u : Value} : ∀ {l : List (PySem.Str × Value)}, (l.map (·.1)).Nodup → (y, u) ∈ l → l.lookup y = some u
  | (a, b) :: l, nd, h => by
    rw [List.map_cons, List.nodup_cons] at nd
    rw [List.lookup_cons]
    rcases List.mem_cons.mp h with h | h
    · cases h; simp
    · have : (y == a) = false := by
        rw [beq_eq_false_iff_ne]
        intro z
        exact nd.1 (List.mem_map.mpr ⟨_, h, z⟩)
      rw [this]
      exact lookup_nd nd.2 h
theorem fst_zip {ps : List PySem.Str} {us : List Value} (h : us.length = ps.length) : (ps.zip us).map (·.1) = ps := by
  have := List.map_fst_zip (l₁ := ps) (l₂ := us) (by omega)
  exact this
/-- what is asked of a lambda's scope -/
structure LamSc (ps names : List PySem.Str) (sc : Scope) : Prop where
  kind : sc.kind = .function
  co : sc.isCoroutine = false
  gen : sc.isGenerator = false
  nc : ∀ y ∈ sc.names, y.2 ≠ .cell
  par : ∀ x ∈ ps, sc.names.lookup x = some .local
  fre : ∀ y ∈ sc.names, y.2 = .free → y.1 ∈ names
  nam : ∀ x ∈ names, sc.names.lookup x = some .free
  nd : (ps ++ names).Nodup
section
variable {g : G} {k n : Nat}
theorem lam_inv {ps names : List PySem.Str} {qual : PySem.Str} {sc : Scope} {f c' : Addr} {clo : List (PySem.Str × Addr)} {A : Around} {outer : List Env} {s : Shared} {H : Hp} {us : List Value} {vs xs : List V} {h1 : Heap} {tk : Nat} {E : XK} (LS : LamSc ps names sc) (hd : A.handled = none) (e0 : Env0 g.P g.w g.K g.mg g.base A outer s H)
    (p : Pind (fun c => ∃ y, clo.lookup y = some c) H) (hinj : ∀ y z c, clo.lookup y = some c → clo.lookup z = some c → y = z) (hnm : ∀ y c, clo.lookup y = some c → y ∈ names)
    (hc : ∀ (i : Nat) (y : PySem.Str), names[i]? = some y → ∃ (c : Addr) (oc : Obj) (u : Value) (x : V), clo.lookup y = some c ∧ H c = some (.frz oc (.own c)) ∧ oc.data = .cell (some u) ∧ xs[i]? = some x ∧ RelV x u) (hx : xs.length = names.length) (rv : Vals vs us) (hl : vs.length = ps.length)
    (hns : h1.Ns s.heap.objs.size fun y => (ps.zip us).reverse.lookup y) (kp : ∀ b o, s.heap.get? b = some o → h1.get? b = some o) :
    Inv (lamX g.P g.w g.K g.mg g.base (ps ++ names) qual sc f c' clo A outer s (hid (fun c => ∃ y, clo.lookup y = some c) H) E) [] ((vs ++ xs).map some) (hid (fun c => ∃ y, clo.lookup y = some c) H) { s with heap := h1, toks := tk } := by
  have cellAt : ∀ y c, clo.lookup y = some c → ∃ oc u i x, s.heap.get? c = some oc ∧ oc.data = .cell (some u) ∧ names[i]? = some y ∧ xs[i]? = some x ∧ RelV x u := fun y c e => by
    obtain ⟨i, hi, e1⟩ := List.mem_iff_getElem.mp (hnm y c e)
    have e2 : names[i]? = some y := by rw [List.getElem?_eq_getElem hi, e1]
    obtain ⟨c2, oc, u, x, q1, q2, q3, q4, q5⟩ := hc i y e2
    rw [e] at q1; cases q1
    obtain ⟨q6, _⟩ := e0.hok c _ q2
    exact ⟨oc, u, i, x, q6, q3, e2, q4, q5⟩
  have noA : ∀ b : Addr, b ∉ (lamX g.P g.w g.K g.mg g.base (ps ++ names) qual sc f c' clo A outer s (hid (fun c => ∃ y, clo.lookup y = some c) H) E).ex := fun b z => by cases z
  have hidn : ∀ {b : Addr}, H b = none → hid (fun c => ∃ y, clo.lookup y = some c) H b = none := fun {b} e => by
    by_cases z : ∃ y, clo.lookup y = some b
    · exact hid_in (Z := fun c => ∃ y, clo.lookup y = some c) z
    · rw [hid_out (Z := fun c => ∃ y, clo.lookup y = some c) z]; exact e
  refine ⟨⟨e0.mod, LS.kind, rfl, rfl, Nat.le_refl _, hinj, fun y hy => ?_, fun y c z _ => ?_, fun _ => hd, Around.frames_deeper e0.frames, .inr ⟨rfl, rfl⟩, fun b z => absurd z (noA b), fun b o e => ⟨(e0.bs b o e).1, hidn (e0.bs b o e).2⟩, e0.bsz, fun b _ _ => noA b, fun b z => absurd z (noA b), e0.funs, fun b hb => hidn (e0.frf b hb)⟩,
    rfl, e0.bare, Un.kept kp, ⟨_, hns, fun i y v e1 e2 e3 => ?_⟩, fun y c e => ?_, hidn (e0.hok.fresh (Nat.le_refl _)), fun y c e => hid_in (Z := fun c => ∃ y, clo.lookup y = some c) ⟨y, e⟩, fun q hq => (by cases hq), (hok_hid p e0.hok).kept kp, ?_⟩
  · have hy : sc.names.lookup y = some .cell ∨ sc.names.lookup y = some .free := hy
    rcases hy with hy | hy
    · exact absurd rfl (LS.nc _ (PySem.mem_of_lookup hy))
    · obtain ⟨i, hi, e1⟩ := List.mem_iff_getElem.mp (LS.fre _ (PySem.mem_of_lookup hy) rfl)
      obtain ⟨c, _, _, _, q1, _⟩ := hc i y (by rw [List.getElem?_eq_getElem hi, e1])
      exact ⟨c, q1⟩
  · have z : false = true := z
    cases z
  · have e1 : (ps ++ names)[i]? = some y := e1
    have e2 : (vs ++ xs)[i]? = some v := by
      rw [List.getElem?_map] at e2
      cases q : (vs ++ xs)[i]? with
      | none => rw [q] at e2; cases e2
      | some a => rw [q] at e2; cases e2; rfl
    by_cases hi : i < ps.length
    · rw [List.getElem?_append_left hi] at e1
      rw [List.getElem?_append_left (by omega)] at e2
      obtain ⟨u, hu, ru⟩ := rv.get e2
      refine ⟨u, ru, .inl ⟨LS.par y (List.mem_of_getElem? e1), ?_⟩⟩
      have hul : us.length = ps.length := by rw [← rv.length]; exact hl
      have nd := (List.nodup_append.mp LS.nd).1
      refine lookup_nd ?_ ?_
      · rw [List.map_reverse, fst_zip hul]
        exact (List.reverse_perm ps).nodup_iff.mpr nd
      · rw [List.mem_reverse]
        refine List.mem_of_getElem? (i := i) ?_
        rw [List.getElem?_zip_eq_some]
        exact ⟨e1, hu⟩
    · rw [List.getElem?_append_right (by omega)] at e1
      rw [List.getElem?_append_right (by omega)] at e2
      rw [hl] at e2
      obtain ⟨c, oc, u, x, q1, q2, q3, q4, q5⟩ := hc _ y e1
      rw [e2] at q4; cases q4
      obtain ⟨q6, _⟩ := e0.hok c _ q2
      exact ⟨u, q5, .inr ⟨.inr (LS.nam y (List.mem_of_getElem? e1)), c, q1, oc, kp _ _ q6, q3⟩⟩
  · obtain ⟨oc, u, i, x, q1, q2, _⟩ := cellAt y c e
    exact ⟨_, oc, kp _ _ q1, q2⟩
  · show ((vs ++ xs).map some).length = (ps ++ names).length
    rw [List.length_map, List.length_append, List.length_append, hl, hx]
/-- the worth of a lambda by its body -/
def lpOf (np nn : Nat) (m : Mo Own) (caps ds : List Val) : RP := if ds.length = np ∧ caps.length = nn ∧ nolamL ds = true ∧ nolamL caps = true then match m ((ds ++ caps).map fun d => some (Own.v d)) with
    | .ok d _ => .ok d
    | .ex n v => .ex n v
    | .bad => .bad
  else .bad
def LamOk (g : G) (k n : Nat) : Prop := ∀ (A : Around) (outer : List Env) (s : Shared) (H : Hp) (us : List Value) (vs : List V) (Q : VK) (E : XK) (f : Addr) (caps ds : List Val) (M : Hp), A.guards = some [] → Room k A → Env0 g.P g.w g.K g.mg g.base A outer s H → Le M H → TabM g M H → Rep g M (.lam n caps) (.ref f) → Vals vs us → RepL g M ds vs →
  (match g.LP n caps ds with
    | .ok o => ∀ z M' H' fz, New g M H M' H' → RepO g M' H' o z fz → (∀ a ∈ fz, H a = none ∧ M' a = none) → Q z H'
    | .ex n v => ∀ M' H' c dx, New g M H M' H' → ExOk g M' n v c dx → E c dx H'
    | .bad => False) → codeAny (model g.P g.w) A (.call (.ref f) ⟨us, []⟩) (CR (L2.CX g.P g.w) outer g.P g.w H s Q E) s
theorem sta_map {M H : Hp} {ds : List Val} {vs : List V} (le : Le M H) (tb : TabM g M H) (r : RepL g M ds vs) : Sta g M H (ds.map fun d => some (Own.v d)) (vs.map some) (fun _ => []) where
  sub := le
  env := fun i d e => by
    rw [List.getElem?_map] at e
    cases q : ds[i]? with
    | none => rw [q] at e; cases e
    | some d' =>
      rw [q] at e; cases e
      obtain ⟨x, hx, rx⟩ := r.get q
      exact ⟨x, by rw [List.getElem?_map, hx]; rfl, .v rx⟩
  dis := fun _ _ _ h => by cases h
  fre := fun _ _ h => by cases h
  out := fun _ _ => rfl
  tab := tb.1
  len := by simp [r.length]
  nt := tb.2
theorem unh_new {Z : Addr → Prop} {M H M' H' : Hp} (p : Pind Z H) (le : Le M H) (nw : New g (hid Z M) (hid Z H) M' H') (hn : ∀ z, Z z → H' z = none) : New g M H (unh Z M M') (unh Z H H') where
  mono := fun a o e => by
    by_cases z : Z a
    · rw [unh_in z]; exact e
    · rw [unh_out z]; exact nw.mono a o (by rw [hid_out z]; exact e)
  sub := fun a o e => by
    by_cases z : Z a
    · rw [unh_in z] at e ⊢; exact le a o e
    · rw [unh_out z] at e ⊢; exact nw.sub a o e
  keep := fun a o e t => by
    by_cases z : Z a
    · rw [unh_in z]; exact e
    · rw [unh_out z]; exact nw.keep a o (by rw [hid_out z]; exact e) t
  dom := fun a e => by
    by_cases z : Z a
    · rw [unh_in z] at e; exact e
    · rw [unh_out z] at e
      have := nw.dom a e
      rwa [hid_out z] at this
  newM := fun a o e => by
    by_cases z : Z a
    · rw [unh_in z] at e; exact .inl e
    · rw [unh_out z] at e
      rcases nw.newM a o e with q | q
      · rw [hid_out z] at q; exact .inl q
      · rw [hid_out z] at q; exact .inr q
  tab := tabs_unh hn nw.tab
theorem cx_unh {P : Program} {w : World} {Z : Addr → Prop} {H : Hp} {outer : List Env} {s s' : Shared} {E : XK} {u : Value} (p : Pind Z H) (hok : HOk P w H s.heap) (frf : ∀ b ∈ frs outer, H b = none)
    (h : L2.CX P w outer (hid Z H) s (fun cls d H' => (∀ z, Z z → H' z = none) → E cls d (unh Z H H')) u s') : L2.CX P w outer H s E u s' := by
  obtain ⟨a, B, H', cls, d, rfl, fl, hok', ub, na, os, ag, e⟩ := h
  have hn : ∀ z, Z z → H' z = none := fun z hz => by
    obtain ⟨o, q⟩ := p z hz
    obtain ⟨e1, _⟩ := hok z _ q
    exact ub.free z o e1 (hid_in hz)
  have hk : ∀ z o, Z z → s.heap.get? z = some o → B.get? z = some o := fun z o hz q => ub.keep z o q (hid_in hz) fun hfr => by
    obtain ⟨oo, e2⟩ := p z hz
    rw [frf z hfr] at e2; cases e2
  have nzN : ∀ {b : Addr}, H b = none → ¬ Z b := fun n z => by obtain ⟨o, q⟩ := p _ z; rw [n] at q; cases q
  refine ⟨a, B, unh Z H H', cls, d, rfl, fl, hok_unh p hok hok' hn hk, ⟨fun b o q n hb => ub.keep b o q (by rw [hid_out (nzN n)]; exact n) hb, ub.slot, fun b o q n => by rw [unh_out (nzN n)]; exact ub.free b o q (by rw [hid_out (nzN n)]; exact n), ub.there, fun b xs q => ?_, fun b o xs q => ?_, fun b ps q => ?_⟩, ?_, os, ag, e hn⟩
  · have nz := p.not q (by intro o c z; cases z)
    rw [unh_out nz]; exact ub.tups b xs (by rw [hid_out nz]; exact q)
  · by_cases z : Z b
    · rw [unh_in z]; exact q
    · rw [unh_out z]; exact ub.frzs b o xs (by rw [hid_out z]; exact q)
  · have nz := p.not q (by intro o c z; cases z)
    rw [unh_out nz]; exact ub.tbls b ps (by rw [hid_out nz]; exact q)
  · by_cases z : Z a
    · obtain ⟨o, q⟩ := p a z
      obtain ⟨e1, _⟩ := hok a _ q
      have := hk a o z e1
      rw [fl.2.1] at this; cases this
    · rw [unh_out z]; exact na
theorem lam_ok {ps names : List PySem.Str} {qual : PySem.Str} {params : Arguments} {body : Expr} {sc : Scope} {m : Mo Own} (hL : g.L n = ⟨qual, params, body, sc, names⟩) (hLP : g.LP n = lpOf ps.length names.length m) (LS : LamSc ps names sc)
    (hbind : ∀ (clo : List (PySem.Str × Addr)) (pm cv ctv : Value) (us : List Value), us.length = ps.length → bindArgs (PySem.W.kla_fn "<lambda>" qual params body sc clo pm cv ctv) ⟨us, []⟩ = pure (ps.zip us))
    (hb : ∀ (E : XK) (f c' : Addr) (clo : List (PySem.Str × Addr)) (A : Around) (outer : List Env) (s : Shared) (H : Hp), Cxt g E k (lamX g.P g.w g.K g.mg g.base (ps ++ names) qual sc f c' clo A outer s H E) → PE (lamX g.P g.w g.K g.mg g.base (ps ++ names) qual sc f c' clo A outer s H E) body (tD g E .no m)) : LamOk g (k + 1) n := by
  intro A outer s H us vs Q E f caps ds M gr hr e0 le tm rep rv rd h
  rw [hLP] at h
  unfold lpOf at h
  by_cases hcond : ds.length = ps.length ∧ caps.length = names.length ∧ nolamL ds = true ∧ nolamL caps = true
  rotate_left
  · rw [if_neg hcond] at h; exact h.elim
  rw [if_pos hcond] at h
  obtain ⟨hd1, hc1, hd2, hc2⟩ := hcond
  cases rep with
  | lam hlam hcaps =>
    rename_i xs
    obtain ⟨c', clo, pm, ctv, hf, hcode, hinj, hnm, hcells⟩ := hlam
    rw [hL] at hf hcode hnm hcells
    simp only at hf hcode hnm hcells
    obtain ⟨of1, _⟩ := e0.hok f _ (le _ _ hf)
    obtain ⟨⟨oc, ws, t, hoc, hdc, hvc⟩, _, _⟩ := e0.hok c' _ (le _ _ hcode)
    have p : Pind (fun c => ∃ y, clo.lookup y = some c) H := fun z hz => by
      obtain ⟨y, hy⟩ := hz
      obtain ⟨i, hi, e1⟩ := List.mem_iff_getElem.mp (hnm y z hy)
      obtain ⟨c2, oc2, u, x, q1, q2, _⟩ := hcells i y (by rw [List.getElem?_eq_getElem hi, e1])
      rw [hy] at q1; cases q1
      exact ⟨oc2, le _ _ q2⟩
    have hvl : vs.length = ps.length := by rw [← rd.length]; exact hd1
    have hul : us.length = ps.length := by rw [← rv.length]; exact hvl
    have hxl : xs.length = names.length := by rw [← hcaps.length]; exact hc1
    refine PySem.W.kla_callFunE hr.depth of1 rfl LS.co LS.gen rfl ⟨c', oc, ws, t, rfl, hoc, hdc, hvc⟩ ?_
    rw [hbind clo pm _ ctv us hul]
    refine wpAny_pure (wpAny_newFunctionEnv LS.nc (fun y hy => LS.par y.1 (List.of_mem_zip hy).1) (fun h₁ hns hsb => ⟨?_, ?_⟩) LS.kind)
    · exact (e0.mod.nolimit.keeps fun b o e => (e0.bs b o e).1).fresh _ hsb
    show codeAny _ _ (.expr body (lamE qual sc s.heap.objs.size f c' clo)) _ _
    have kp : ∀ b o, s.heap.get? b = some o → h₁.get? b = some o := fun b o e => hsb.extBut b o (Nat.ne_of_lt (Heap.lt_size e)) (Heap.get?_push_of_some _ e)
    have J := lam_inv (E := (fun cls d H' => (∀ z, (∃ y, clo.lookup y = some z) → H' z = none) → E cls d (unh (fun c => ∃ y, clo.lookup y = some c) H H'))) (tk := s.toks + (ps.zip us).length) LS hr.hd e0 p hinj hnm (fun i y e => by
      obtain ⟨c, oc, u, x, q1, q2, q3⟩ := hcells i y e
      exact ⟨c, oc, u, x, q1, le _ _ q2, q3⟩) hxl rv hvl hns kp (qual := qual) (f := f) (c' := c')
    let E' : XK := (fun cls d H' => (∀ z, (∃ y, clo.lookup y = some z) → H' z = none) → E cls d (unh (fun c => ∃ y, clo.lookup y = some c) H H'))
    have tk : Takes (lamX g.P g.w g.K g.mg g.base (ps ++ names) qual sc f c' clo A outer s (hid (fun c => ∃ y, clo.lookup y = some c) H) E') (fun cls d _ H => E' cls d H) := takes_of rfl rfl rfl rfl
    have cx : Cxt g E' k (lamX g.P g.w g.K g.mg g.base (ps ++ names) qual sc f c' clo A outer s (hid (fun c => ∃ y, clo.lookup y = some c) H) E') := ⟨rfl, rfl, rfl, rfl, rfl, rfl, LS.nd, passes_call tk (fun _ _ _ _ h => h), hr.deeper _, passes_of rfl, tk, gr⟩
    have rall : RepL g (hid (fun c => ∃ y, clo.lookup y = some c) M) (ds ++ caps) (vs ++ xs) := RepL.append (rd.nolam (hid_k p le) hd2) (hcaps.nolam (hid_k p le) hc2)
    have leh : Le (hid (fun c => ∃ y, clo.lookup y = some c) M) (hid (fun c => ∃ y, clo.lookup y = some c) H) := fun a o e => by
      obtain ⟨nz, e⟩ := hid_some e
      rw [hid_out nz]; exact le a o e
    have tmh : TabM g (hid (fun c => ∃ y, clo.lookup y = some c) M) (hid (fun c => ∃ y, clo.lookup y = some c) H) := ⟨tabs_hid p tm.1, fun q hq => by
      by_cases z : ∃ y, clo.lookup y = some q.1
      · exact hid_in (Z := fun c => ∃ y, clo.lookup y = some c) z
      · rw [hid_out (Z := fun c => ∃ y, clo.lookup y = some c) z]; exact tm.2 q hq⟩
    refine PySem.W.kla_codeExpr (wpAny_mono ((hb E' f c' clo A outer s _ cx).run [] _ _ _ (fun x H' => (∀ z, (∃ y, clo.lookup y = some z) → H' z = none) → Q x (unh (fun c => ∃ y, clo.lookup y = some c) H H')) J ⟨_, _, _, sta_map leh tmh rall, ?_⟩) (fun v s' hq => ?_) fun e s' hq => ?_)
    · cases em : m ((ds ++ caps).map fun d => some (Own.v d)) with
      | bad => rw [em] at h; exact h.elim
      | ex n v =>
        rw [em] at h
        intro M' H' c dx xs hx hn
        have nz : ∀ {c : Addr} {v : HO}, H' c = some v → ¬ ∃ y, clo.lookup y = some c := fun q z => by rw [hn _ z] at q; cases q
        have lM : Le M' (unh (fun c => ∃ y, clo.lookup y = some c) M M') := fun a o e => by
          rw [unh_out (Z := fun c => ∃ y, clo.lookup y = some c) (nz (xs.sub a o e))]; exact e
        have nw : New g (hid (fun c => ∃ y, clo.lookup y = some c) M) (hid (fun c => ∃ y, clo.lookup y = some c) H) M' H' := ⟨xs.mono, xs.sub, fun a o e t => xs.keep a o e (fun i _ z => by cases z) t, xs.dom, fun a o e => by
          rcases xs.newM a o e with q | q | ⟨i, _, q⟩
          · exact .inl q
          · exact .inr q
          · exact absurd q (by simp), xs.tab⟩
        obtain ⟨C, dx', y, h1, h2, h3, h4, h5⟩ := hx
        exact h _ _ c dx (unh_new p le nw hn) ⟨C, dx', y, h1, h2, h3, lM _ _ h4, h5.mono lM⟩
      | ok d r' =>
        rw [em] at h
        intro x M' H' f' fd st' t' p' fr' hn
        have nz : ∀ {c : Addr} {v : HO}, H' c = some v → ¬ ∃ y, clo.lookup y = some c := fun q z => by rw [hn _ z] at q; cases q
        have ro := t'.rep
        rw [view_no] at ro
        have lM : Le M' (unh (fun c => ∃ y, clo.lookup y = some c) M M') := fun a o e => by
          rw [unh_out (Z := fun c => ∃ y, clo.lookup y = some c) (nz (st'.sub a o e))]; exact e
        have nw : New g (hid (fun c => ∃ y, clo.lookup y = some c) M) (hid (fun c => ∃ y, clo.lookup y = some c) H) M' H' := ⟨p'.mono, st'.sub, fun a o e t => p'.keep a o e (fun i _ z => by cases z) t, p'.dom, p'.newM, st'.tab⟩
        refine h x _ _ fd (unh_new p le nw hn) (ro.mono lM fun a ha u hu => by rw [unh_out (Z := fun c => ∃ y, clo.lookup y = some c) (nz hu)]; exact hu) fun a ha => ?_
        obtain ⟨zs, hz⟩ := t'.live a ha
        have na := nz hz
        have q1 := fr' a ha
        rw [hid_out (Z := fun c => ∃ y, clo.lookup y = some c) na] at q1
        refine ⟨q1, ?_⟩
        rw [unh_out (Z := fun c => ∃ y, clo.lookup y = some c) na]
        exact (t'.sep a ha).1
    · obtain ⟨w', H', J', rv', q⟩ := hq
      have ub : Un (frs outer) [] (hid (fun c => ∃ y, clo.lookup y = some c) H) H' s.heap s'.heap := J'.base
      have hn : ∀ z, (∃ y, clo.lookup y = some z) → H' z = none := fun z hz => by
        obtain ⟨o, e⟩ := p z hz
        obtain ⟨e1, _⟩ := e0.hok z _ e
        exact ub.free z o e1 (hid_in (Z := fun c => ∃ y, clo.lookup y = some c) hz) (by simp)
      have hk : ∀ z o, (∃ y, clo.lookup y = some z) → s.heap.get? z = some o → s'.heap.get? z = some o := fun z o hz e => by
        refine ub.keep z o e (hid_in (Z := fun c => ∃ y, clo.lookup y = some c) hz) (fun hfr => ?_) (by simp)
        obtain ⟨oo, e2⟩ := p z hz
        rw [e0.frf z hfr] at e2; cases e2
      exact ⟨w', _, J'.os, J'.bare, un_unh p ub, hok_unh p e0.hok J'.hok hn hk, rv', q hn⟩
    · exact wpAny_mono hq (fun _ s'' z => cx_unh p e0.hok e0.frf z) fun e' s'' z => cx_unh p e0.hok e0.frf z
end
end KS

namespace KS
open PySem PySem.Spec PyProof.Rows L2
open LamX (Tabs TabS TabB)
section
variable {g : G} {E : XK} {S : Vw} {k : Nat} {X : Cx} {pn : Option V}
/-! ### x(e, ..), x a closure's slot -/
def mCallV (S : Vw) (LP : Nat → List Val → List Val → RP) (i : Nat) (ms : Mo (List Own)) : Mo Own := fun r => match (r[i]? : Option (Option Own)) with
  | some (some (.v (.lam n caps))) => (ms r).bind fun ds r1 => (LP n caps (ds.map Own.val)).at S r1
  | _ => .bad
theorem LamOk.mono {j n : Nat} (h : LamOk g j n) (hj : j ≤ k) : LamOk g k n := fun A outer s H us vs Q E f caps ds M gr hr => h A outer s H us vs Q E f caps ds M gr (hr.mono hj)
theorem dx_callV (i : Nat) {LP : Nat → List Val → List Val → RP} {x : PySem.Str} {j : Nat} {e : Expr} {es : List Expr} {ms : Mo (List Own)} {p pos : Pos} (c : Cxt g E k X) (hLP : g.LP = LP) (hL : ∀ n, LamOk g j n) (hj : j ≤ k) (ha : PA X (e :: es) (tA g E S ms))
    (hN : X.N[i]? = some x := by rfl) (hv : Vis X.env.scope x := by first | exact Or.inl rfl | exact Or.inr (Or.inl rfl) | exact Or.inr (Or.inr rfl)) (hd : (x == ("__debug__" : PySem.Str)) = false := by decide) (hcd : (x == ("__classdict__" : PySem.Str)) = false := by decide)
    (he : starEach (e :: es) X.env = (false, eval e X.env) :: starEach es X.env := by rfl) (hpl : (backTo pos (starEach es X.env)).any (·.1) = false := by rfl) : PE X (.Call (.Name x p) (e :: es) [] pos) (tD g E S (mCallV S LP i ms)) := by
  refine ⟨fun pins s σ H Q I h => ?_⟩
  obtain ⟨r, M, f, st, h⟩ := h
  unfold mCallV at h
  cases er : (r[i]? : Option (Option Own)) with
  | none => simp only [er] at h
  | some o =>
    cases o with
    | none => simp only [er] at h
    | some o =>
      obtain ⟨vx, hx, ro⟩ := st.env i o er
      generalize f i = fi at ro
      cases ro with
      | l _ _ => simp only [er] at h
      | v rp =>
        cases rp with
        | lam hlam hcaps =>
          rename_i a n caps xs
          simp only [er] at h
          obtain ⟨c', clo, pm, ctv, hf, hrest⟩ := id hlam
          refine wpAny_Call_Name_kw (thn ((pe_var (pos := p) hN hv hd hcd).run pins s σ H (fun v H1 => v = .ref a ∧ H1 = H) I ⟨.ref a, hx, rfl, rfl⟩) fun u s1 ⟨v, H1, I1, r1, q1⟩ => ?_)
          obtain ⟨rfl, rfl⟩ := q1
          obtain rfl : u = Value.ref a := r1
          have fnAt : ∀ {s' : Shared} {H' : Hp}, Inv X pins σ H' s' → Le M H' → PySem.W.FnAt a s'.heap := fun I' le => by
            obtain ⟨e1, _⟩ := I'.hok a _ (le _ _ hf)
            exact ⟨_, _, _, _, e1⟩
          refine PySem.W.callWith_F (fnAt I1 st.sub) (thn (ha.run pos pins s1 σ H1 (fun vs H2 => ∃ r1 M1 f1 fd ds, Sta g M1 H2 r1 σ f1 ∧ Tmps g S.fn M1 H2 f1 ds vs fd ∧ Step g S.fn M H1 r f M1 H2 r1 f1 ∧ (∀ a ∈ fd, H1 a = none) ∧ match (LP n caps (ds.map Own.val)).at S r1 with
            | .ok d r' => ∀ x M' H' f' fd, Sta g M' H' r' σ f' → Tmp g S.fn M' H' f' d x fd → Step g S.fn M H1 r f M' H' r' f' → (∀ a ∈ fd, H1 a = none) → Q x H'
            | .ex n v => Ew g E S.fn M H1 f n v
            | .bad => False) I1 ⟨r, M, f, st, ?_⟩) fun us s2 ⟨vs, H2, I2, rv, r1, M1, f1, fd, ds, st1, t1, p1, fr1, q⟩ => ⟨fnAt I2 (p1.mono.trans st1.sub), ?_⟩) he hpl
          · cases hm : ms r with
            | bad => rw [hm] at h; exact h
            | ex n v => rw [hm] at h; exact h
            | ok ds r1 =>
              simp only [hm, Rs.bind] at h
              exact fun xs M1 H1 f1 fd st1 t1 p1 fr1 => ⟨r1, M1, f1, fd, ds, st1, t1, p1, fr1, h⟩
          · have e0 : Env0 g.P g.w g.K g.mg g.base X.A X.stack s2 H2 := by
              have := I2.env0
              rw [c.prog, c.w, c.K, c.mg, c.base] at this
              exact this
            have leV : Le M (View S.fn M1 H2 f1 fd) := p1.mono.trans st1.view_le
            have rp : Rep g (View S.fn M1 H2 f1 fd) (.lam n caps) (.ref a) := Rep.mono leV (.lam hlam hcaps)
            have key : codeAny (model X.prog X.w) X.A (.call (.ref a) ⟨us, []⟩) (CR (L2.CX X.prog X.w) X.stack X.prog X.w H2 s2 Q E) s2 := by
              rw [c.prog, c.w]
              refine hL n X.A X.stack s2 H2 us vs Q E a caps _ _ c.grd (c.room.mono hj) e0 st1.view_sub (st1.view_tab fun b hb => (t1.sep b hb).1) rp rv (t1.vals st1) ?_
              rw [hLP]
              cases hp : LP n caps (ds.map Own.val) with
              | bad => rw [hp] at q; exact q
              | ex n v =>
                simp only [hp, RP.at] at q
                intro M' H' c0 dx nw hx
                by_cases hb : exB S v = true
                · rw [if_pos hb] at q
                  obtain ⟨M2, st2, p2, l1, l2, l3, l4, l6, l5⟩ := land0 st1 p1 fr1 (fun a ha => ⟨(t1.sep a ha).1, (t1.sep a ha).2.2⟩) nw
                  exact q M2 H' c0 dx l6 (hx.land l3 l4 hb)
                · rw [if_neg hb] at q; exact q.elim
              | ok o =>
                rw [hp] at q
                intro z M' H' fz nw ro hz
                obtain ⟨M2, st2, p2, l1, l2, _, _, _, l5⟩ := land0 st1 p1 fr1 (fun a ha => ⟨(t1.sep a ha).1, (t1.sep a ha).2.2⟩) nw
                refine q z M2 H' f1 fz st2 ⟨ro.mono l2 fun _ _ _ q => q, fun a ha => ⟨l5 a (hz a ha).2, fun i hi => ?_⟩⟩ p2 fun a ha => p1.dom a (hz a ha).1
                obtain ⟨us, hu⟩ := st1.live hi
                rw [(hz a ha).1] at hu; cases hu
            refine fin_G (codeAny_mono key fun r s' hq => ?_)
            cases r with
            | error e => exact c.pass pins σ H2 s2 e s' I2 hq
            | ok fl => cases fl with
              | ret u => exact I2.after hq
              | next => exact hq
              | brk => exact hq
              | cont => exact hq
        | _ => simp only [er] at h
end
end KS
set_option Elab.async false
set_option linter.all false
set_option maxRecDepth 100000
set_option maxHeartbeats 4000000
namespace KS
open PySem PySem.Spec PyProof.Rows L2
open LamX (Tabs TabS TabB CodeO ExtN)
section
variable {X : Cx} {pins : List (Addr × Obj)} {σ : L2.St} {H : Hp} {s : Shared}
/-- a lambda is made: its function object is new -/
structure Made (X : Cx) (pins : List (Addr × Obj)) (σ : L2.St) (T : List (Addr × PySem.Str)) (params : Arguments) (body : Expr) (scope : Scope) (H : Hp) (s : Shared) (f c' : Addr) (pm ctv : Value) (H1 : Hp) (s' : Shared) : Prop where
  inv : Inv X pins σ H1 s'
  ext : ExtN H H1
  dom : ∀ b, H1 b = none → H b = none
  tab : Tabs T H1
  obj : s'.heap.get? f = some (PySem.W.kla_obj "<lambda>" (X.env.qual ++ "<lambda>") params body scope (cloFrom X.env.cells scope.names []) pm c' ctv)
  fre : H1 f = none
  frs : f ∉ frs X.stack
  new : ∀ o, s.heap.get? f ≠ some o
  code : H1 c' = some (CodeO c' (X.env.qual ++ "<lambda>"))
  old : ∀ b o, H b = some o → (∀ p ∈ T, b ≠ p.1) → H1 b = some o
  cod : H c' = H1 c' ∨ H c' = none
  add : ∀ b o, H1 b = some o → H b = some o ∨ b = c' ∨ ∃ p ∈ T, b = p.1
theorem lam_new {T : List (Addr × PySem.Str)} {c P : Addr} {params : Arguments} {body : Expr} {scope : Scope} {pos : Pos} {E : Value → Shared → Prop} {Q : Value → Shared → Prop} (I : Inv X pins σ H s) (TB : TabB X.base X.mg c P) (hcode : X.env.code = .ref c) (hm : (P, X.env.qual ++ "<lambda>") ∈ T) (hu : ∀ p ∈ T, p.1 = P → p.2 = X.env.qual ++ "<lambda>") (hT : Tabs T H)
    (hdef : defaultsOf params X.env = ([], [])) (hfree : ∀ y ∈ scope.names, y.2 = .free → ∃ c, X.env.cells.lookup y.1 = some c) (h : ∀ (f c' : Addr) (pm ctv : Value) (H1 : Hp) (s' : Shared), Made X pins σ T params body scope H s f c' pm ctv H1 s' → Q (.ref f) s') :
    wpAny (model X.prog X.w) X.A (eval (.Lambda params body scope pos) X.env) Q E s := by
  obtain ⟨ps, hP, ht, ha⟩ := hT _ hm
  refine PySem.W.kla_eval hdef ?_
  have bP := TB.bm.keeps I.bk
  have hP' : s.heap.get? P = some { cls := .none, data := .fields ps } := I.hok P _ hP
  have nofr : ∀ f, s.heap.objs.size ≤ f → f ∉ frs X.stack := by
    intro f hf z
    rcases List.mem_cons.mp (I.stkSub _ z) with e | e
    · have h1 := I.lt
      rw [← e] at h1
      exact Nat.lt_irrefl _ (Nat.lt_of_lt_of_le h1 hf)
    · exact I.nofs hf e
  have isnew : ∀ f, s.heap.objs.size ≤ f → ∀ o, s.heap.get? f ≠ some o := fun f hf o e => Nat.lt_irrefl _ (Nat.lt_of_lt_of_le (Heap.lt_size e) hf)
  cases hc : codeAmong pos ps.toList with
  | some cv =>
    obtain ⟨c', rfl, hco⟩ := ha pos cv hc
    refine PySem.W.kla_makeFunctionHit (mg := X.mg) (c := c) (P := P) (ps := ps) (closure_ok hfree) I.ok.glob (I.mod.glob.keeps I.bk) hcode (TB.code.keeps I.bk) hP' ht hc bP fun ctv h' tk hx hsz => ?_
    have I1 : Inv X pins σ H { s with heap := h'.push (PySem.W.kla_obj "<lambda>" (X.env.qual ++ "<lambda>") params body scope (cloFrom X.env.cells scope.names []) ((X.mg "__name__").getD .none) c' ctv), toks := tk } := I.kept fun b o e => Heap.get?_push_of_some _ (hx b o e)
    exact h h'.objs.size c' ((X.mg "__name__").getD .none) ctv H _ ⟨I1, ExtN.refl H, fun _ e => e, hT, Heap.get?_push_size _ rfl, I.hok.fresh hsz, nofr _ hsz, isnew _ hsz, hco, fun _ _ e _ => e, .inl rfl, fun _ _ e => .inl e⟩
  | none =>
    refine PySem.W.kla_makeFunction (mg := X.mg) (c := c) (P := P) (ps := ps) (closure_ok hfree) I.ok.glob (I.mod.glob.keeps I.bk) hcode (TB.code.keeps I.bk) hP' ht hc TB.gP bP fun c' ctv h' tk hx hge hlt hrec htb => ?_
    obtain ⟨c2, oc, vs, t, e2, hoc, hd, hv⟩ := hrec
    cases e2
    have hsz : s.heap.objs.size ≤ h'.objs.size := Nat.le_trans hge (Nat.le_of_lt hlt)
    have nC : H c' = none := I.hok.fresh hge
    have I1 := LamX.inv_table (t' := tk) (more := #[rawInt pos.line, rawInt pos.col, .ref c']) (h' := h'.push (PySem.W.kla_obj "<lambda>" (X.env.qual ++ "<lambda>") params body scope (cloFrom X.env.cells scope.names []) ((X.mg "__name__").getD .none) c' ctv)) I hP
      (fun b o hb e => Heap.get?_push_of_some _ (hx b o hb e)) (Heap.get?_push_of_some _ htb) hge ⟨oc, vs, t, Heap.get?_push_of_some _ hoc, hd, hv⟩
    have hE : ExtN H (upd (upd H P (.tbl (ps ++ #[rawInt pos.line, rawInt pos.col, .ref c']))) c' (CodeO c' (X.env.qual ++ "<lambda>"))) := fun b o e n => by
      rw [upd_ne (ne_of_none e nC), upd_ne (fun z => n ps (Option.some.inj (e.symm.trans (by rw [z]; exact hP))))]
      exact e
    have eL : (ps ++ #[rawInt pos.line, rawInt pos.col, .ref c']).toList = ps.toList ++ [rawInt pos.line, rawInt pos.col, .ref c'] := by simp
    have n1 : h'.objs.size ≠ c' := Nat.ne_of_gt hlt
    have n2 : h'.objs.size ≠ P := Nat.ne_of_gt (Nat.lt_of_lt_of_le (Heap.lt_size hP') hsz)
    refine h h'.objs.size c' ((X.mg "__name__").getD .none) ctv _ _ ⟨I1, hE, fun b e => ?_, fun p hp => ?_, Heap.get?_push_size _ rfl, by rw [upd_ne n1, upd_ne n2]; exact I.hok.fresh hsz, nofr _ hsz, isnew _ hsz, upd_same, fun b o e hb => by rw [upd_ne (ne_of_none e nC), upd_ne (hb _ hm)]; exact e, .inr nC, fun b o e => ?_⟩
    · by_cases h1 : b = c'
      · rw [h1, upd_same] at e; cases e
      · rw [upd_ne h1] at e
        by_cases h2 : b = P
        · rw [h2, upd_same] at e; cases e
        · rw [upd_ne h2] at e; exact e
    · by_cases hb : p.1 = P
      · rw [hu p hp hb, hb]
        refine ⟨_, by rw [upd_ne (ne_of_none hP nC), upd_same], by rw [eL]; exact PySem.TriplesOk_snoc _ _ _ _ ht, fun p' cv hcv => ?_⟩
        rw [eL] at hcv
        rcases LamX.among_app _ ht hcv with z | z
        · obtain ⟨c0, e1, e2⟩ := ha p' cv z
          exact ⟨c0, e1, hE _ _ e2 LamX.codeO_ne⟩
        · exact ⟨c', z, upd_same⟩
      · obtain ⟨ps', a1, a2, a3⟩ := hT p hp
        refine ⟨ps', by rw [upd_ne (ne_of_none a1 nC), upd_ne hb]; exact a1, a2, fun p' cv hcv => ?_⟩
        obtain ⟨c0, e1, e2⟩ := a3 p' cv hcv
        exact ⟨c0, e1, hE _ _ e2 LamX.codeO_ne⟩
    · by_cases h1 : b = c'
      · exact .inr (.inl h1)
      · rw [upd_ne h1] at e
        by_cases h2 : b = P
        · exact .inr (.inr ⟨_, hm, h2⟩)
        · rw [upd_ne h2] at e; exact .inl e
end
/-! ### plain arguments ahead of a lambda -/
inductive PEs (g : G) (E : XK) (S : Vw) (X : Cx) : List Expr → Mo (List Own) → Prop
  | nil : PEs g E S X [] mNil
  | cons {e : Expr} {es : List Expr} {m : Mo Own} {ms : Mo (List Own)} : PE X e (tD g E S m) → (∀ rest, starEach (e :: rest) X.env = (false, eval e X.env) :: starEach rest X.env) → PEs g E S X es ms → PEs g E S X (e :: es) (mCons m ms)
section
variable {g : G} {E : XK} {S : Vw} {k : Nat} {X : Cx}
theorem run_pes {es : List Expr} {ms : Mo (List Own)} {l : Expr} (hl : starEach [l] X.env = [(false, eval l X.env)]) (hp : PEs g E S X es ms) : ∀ (pos : Pos) (pins : List (Addr × Obj)) (s : Shared) (σ : L2.St) (H : Hp) (Qv : List V → Hp → Prop) (R : List Value → Shared → Prop), Inv X pins σ H s → tA g E S ms σ H Qv →
    (∀ vs us0 H2 s2, Inv X pins σ H2 s2 → Vals vs us0 → Qv vs H2 → wpAny (model X.prog X.w) X.A (eval l X.env) (fun v s3 => R (us0 ++ [v]) s3) X.xe s2) → wpAny (model X.prog X.w) X.A (spliced (backTo pos (starEach (es ++ [l]) X.env))) R X.xe s := by
  induction hp with
  | nil =>
    intro pos pins s σ H Qv R I q h
    show wpAny _ _ (spliced (backTo pos (starEach [l] X.env))) _ _ _
    rw [hl]
    exact Calls.spliced_cons (thn (h [] [] H s I .nil (imp_nil q)) fun v s1 hv => Calls.spliced_nil hv)
  | @cons e es m ms he hs _ ih =>
    intro pos pins s σ H Qv R I q h
    show wpAny _ _ (spliced (backTo pos (starEach (e :: (es ++ [l])) X.env))) _ _ _
    rw [hs]
    refine Calls.spliced_cons (thn (he.run pins s σ H _ I (imp_cons q)) fun v s1 ⟨x, H1, I1, r1, q1⟩ => ?_)
    exact ih pos pins s1 σ H1 _ (fun us => R (v :: us)) I1 q1 fun vs us0 H2 s2 I2 rv q2 => h (x :: vs) (v :: us0) H2 s2 I2 (.cons r1 rv) q2
end

/-! ### f(e, .., lambda ..: ..) -/
def capVals (r : Ro) : List Nat → Option (List Val)
  | [] => some []
  | i :: is => match (r[i]? : Option (Option Own)), capVals r is with
    | some (some (.v d)), some ds => some (d :: ds)
    | _, _ => none
def mCallL (S : Vw) (P : List Val → RP) (n : Nat) (caps : List Nat) (ms : Mo (List Own)) : Mo Own := fun r => (ms r).bind fun ds r1 => match capVals r1 caps with
  | some cs => match P (ds.map Own.val ++ [.lam n cs]) with
    | .ok o => if nolamO o = true then .ok o r1 else .bad
    | _ => .bad
  | none => .bad
section
variable {g : G} {E : XK} {S : Vw} {k : Nat} {X : Cx}
theorem capVals_ok {M H : Hp} {r : Ro} {s : L2.St} {f : Nat → List Addr} (st : Sta g M H r s f) : ∀ {caps : List Nat} {cs : List Val}, capVals r caps = some cs → ∃ xs : List V, RepL g M cs xs ∧ xs.length = caps.length ∧ ∀ (j i : Nat), caps[j]? = some i → ∃ x, xs[j]? = some x ∧ s[i]? = some (some x)
  | [], cs, h => by simp [capVals] at h; subst h; exact ⟨[], .nil, rfl, fun j i e => by simp at e⟩
  | i :: is, cs, h => by
    unfold capVals at h
    split at h
    · rename_i d ds e1 e2
      cases h
      obtain ⟨xs, r1, l1, h1⟩ := capVals_ok st e2
      obtain ⟨x, hx, ro⟩ := st.env i _ e1
      generalize f i = fi at ro
      cases ro with
      | v rx =>
        refine ⟨x :: xs, .cons rx r1, by simp [l1], fun j i' e => ?_⟩
        cases j with
        | zero => simp at e; subst e; exact ⟨x, rfl, hx⟩
        | succ j => exact h1 j i' (by simpa using e)
    · cases h
open Classical in
/-- pinned: the objects at Z as they are -/
noncomputable def pinned (Z : Addr → Prop) (h : Heap) (H : Hp) : Hp := fun b => if Z b then some (.frz ((h.get? b).getD default) (.own b)) else H b
theorem pinned_in {Z : Addr → Prop} {h : Heap} {H : Hp} {b : Addr} {o : Obj} (z : Z b) (e : h.get? b = some o) : pinned Z h H b = some (.frz o (.own b)) := by
  unfold pinned
  rw [if_pos z, e]; rfl
theorem pinned_out {Z : Addr → Prop} {h : Heap} {H : Hp} {b : Addr} (z : ¬ Z b) : pinned Z h H b = H b := if_neg z
theorem hid_pinned {Z : Addr → Prop} {h : Heap} {H : Hp} (hn : ∀ b, Z b → H b = none) : hid Z (pinned Z h H) = H := by
  funext b
  by_cases z : Z b
  · rw [hid_in z, hn b z]
  · rw [hid_out z, pinned_out z]
theorem hok_pinned {P : Program} {w : World} {Z : Addr → Prop} {h : Heap} {H : Hp} (x : HOk P w H h) (hn : ∀ b, Z b → H b = none) (ho : ∀ b, Z b → ∃ o, h.get? b = some o) : HOk P w (pinned Z h H) h := fun b u e => by
  have nz : ∀ {c : Addr} {v : HO}, H c = some v → ¬ Z c := fun q z => by rw [hn _ z] at q; cases q
  by_cases z : Z b
  · obtain ⟨o, e1⟩ := ho b z
    rw [pinned_in z e1] at e; cases e
    exact ⟨e1, o, e1⟩
  · rw [pinned_out z] at e
    exact (x b u e).stay (fun c v _ q => q) (fun c q => by rw [pinned_out (nz q)]; exact q) fun c xs q => by rw [pinned_out (nz q)]; exact q
end
end KS
set_option Elab.async false
set_option linter.all false
set_option maxRecDepth 100000
set_option maxHeartbeats 4000000
namespace KS
open PySem PySem.Spec PyProof.Rows L2
open LamX (Tabs TabS TabB CodeO ExtN)
theorem clo_lookup {cells : List (PySem.Str × Addr)} : ∀ {names : List (PySem.Str × NameKind)} {acc : List (PySem.Str × Addr)} {y : PySem.Str} {c : Addr}, (∀ y ∈ names, y.2 = .free → ∃ c, cells.lookup y.1 = some c) → (∀ y c, acc.lookup y = some c → cells.lookup y = some c ∧ True) → (cloFrom cells names acc).lookup y = some c → cells.lookup y = some c
  | [], acc, y, c, _, h, e => (h y c e).1
  | (n, k) :: r, acc, y, c, hf, h, e => by
    unfold cloFrom at e
    split at e
    · rename_i hk
      have hk : k = .free := by simpa using hk
      refine clo_lookup (fun y hy => hf y (List.mem_cons_of_mem _ hy)) (fun y' c' e' => ?_) e
      rw [List.lookup_cons] at e'
      cases hb : y' == n with
      | true =>
        rw [hb] at e'
        obtain ⟨c0, hc0⟩ := hf (n, k) List.mem_cons_self hk
        have : y' = n := by simpa using hb
        subst this
        rw [hc0] at e'
        cases e'
        exact ⟨hc0, trivial⟩
      | false => rw [hb] at e'; exact h y' c' e'
    · exact clo_lookup (fun y hy => hf y (List.mem_cons_of_mem _ hy)) h e
theorem clo_free {cells : List (PySem.Str × Addr)} : ∀ {names : List (PySem.Str × NameKind)} {acc : List (PySem.Str × Addr)} {y : PySem.Str} {c : Addr}, (cloFrom cells names acc).lookup y = some c → (∃ c, acc.lookup y = some c) ∨ (y, .free) ∈ names
  | [], acc, y, c, e => .inl ⟨c, e⟩
  | (n, k) :: r, acc, y, c, e => by
    unfold cloFrom at e
    split at e
    · rename_i hk
      have hk : k = .free := by simpa using hk
      rcases clo_free e with ⟨c', h⟩ | h
      · rw [List.lookup_cons] at h
        cases hb : y == n with
        | true => have : y = n := by simpa using hb
                  subst this; subst hk; exact .inr List.mem_cons_self
        | false => rw [hb] at h; exact .inl ⟨c', h⟩
      · exact .inr (List.mem_cons_of_mem _ h)
    · rcases clo_free e with h | h
      · exact .inl h
      · exact .inr (List.mem_cons_of_mem _ h)
theorem clo_acc {cells : List (PySem.Str × Addr)} : ∀ {names : List (PySem.Str × NameKind)} {acc : List (PySem.Str × Addr)} {y : PySem.Str}, (∃ c, acc.lookup y = some c) → ∃ c, (cloFrom cells names acc).lookup y = some c
  | [], acc, y, h => h
  | (n, k) :: r, acc, y, h => by
    unfold cloFrom
    split
    · refine clo_acc ?_
      rw [List.lookup_cons]
      cases hb : y == n with
      | true => exact ⟨_, rfl⟩
      | false => exact h
    · exact clo_acc h
theorem clo_has {cells : List (PySem.Str × Addr)} : ∀ {names : List (PySem.Str × NameKind)} {acc : List (PySem.Str × Addr)} {y : PySem.Str}, (y, .free) ∈ names → ∃ c, (cloFrom cells names acc).lookup y = some c
  | [], _, _, h => by cases h
  | (n, k) :: r, acc, y, h => by
    unfold cloFrom
    rcases List.mem_cons.mp h with h | h
    · cases h
      rw [if_pos (by rfl)]
      refine clo_acc ⟨(cells.lookup n).getD 0, ?_⟩
      rw [List.lookup_cons]
      simp
    · split
      · exact clo_has h
      · exact clo_has h
theorem tabs_le {T : List (Addr × PySem.Str)} {H H' : Hp} (k : Le H H') (t : Tabs T H) : Tabs T H' := fun q hq => by
  obtain ⟨ps, e, a, b⟩ := t q hq
  refine ⟨ps, k _ _ e, a, fun pos cv hc => ?_⟩
  obtain ⟨c, e1, e2⟩ := b pos cv hc
  exact ⟨c, e1, k _ _ e2⟩
section
variable {g : G} {E : XK} {S : Vw} {k : Nat} {X : Cx}
/-- what is asked of a lambda written in an argument list -/
structure LamHere (g : G) (X : Cx) (n : Nat) (caps : List Nat) (params : Arguments) (body : Expr) (scope : Scope) : Prop where
  tb : ∃ c P, TabB X.base X.mg c P ∧ X.env.code = .ref c ∧ (P, X.env.qual ++ "<lambda>") ∈ g.T ∧ ∀ p ∈ g.T, p.1 = P → p.2 = X.env.qual ++ "<lambda>"
  def_ : (g.L n).qual = X.env.qual ++ "<lambda>" ∧ (g.L n).params = params ∧ (g.L n).body = body ∧ (g.L n).scope = scope
  no : defaultsOf params X.env = ([], [])
  len : caps.length = (g.L n).names.length
  slot : ∀ (j : Nat) (y : PySem.Str), (g.L n).names[j]? = some y → ∃ i : Nat, caps[j]? = some i ∧ X.N[i]? = some y
  cell : ∀ y ∈ (g.L n).names, X.env.kindOf y = some .cell ∨ X.env.kindOf y = some .free
  fre : ∀ y ∈ scope.names, y.2 = .free → y.1 ∈ (g.L n).names
  nam : ∀ y ∈ (g.L n).names, (y, NameKind.free) ∈ scope.names
  fn : ∀ y, X.fn y = true
open Classical in
theorem lam_pass {pins : List (Addr × Obj)} {σ : L2.St} {n : Nat} {caps : List Nat} {params : Arguments} {body : Expr} {scope : Scope} {f c' : Addr} {pm ctv : Value} {H2 H3 : Hp} {s2 s3 : Shared} {M1 : Hp} {r1 : Ro} {f1 : Nat → List Addr} {fd : List Addr} {vs : List V} {ds : List Val} {cs : List Val}
    (c : Cxt g E k X) (lh : LamHere g X n caps params body scope) (I2 : Inv X pins σ H2 s2) (md : Made X pins σ g.T params body scope H2 s2 f c' pm ctv H3 s3)
    (st1 : Sta g M1 H2 r1 σ f1) (hl : ∀ a ∈ fd, Live H2 a) (rds : RepL g (View S.fn M1 H2 f1 fd) ds vs) (hcs : capVals r1 caps = some cs) :
    ∃ (Z : Addr → Prop) (M4 H4 : Hp), hid Z H4 = H3 ∧ Pind Z H4 ∧ Env0 g.P g.w g.K g.mg g.base X.A X.stack s3 H4 ∧ Le M4 H4 ∧ TabM g M4 H4 ∧ RepL g M4 (ds ++ [.lam n cs]) (vs ++ [.ref f]) ∧
      ∀ (o : Own) (z : V) (M' H' : Hp) (fz : List Addr), nolamO o = true → New g M4 H4 M' H' → RepO g M' H' o z fz → (∀ a ∈ fz, H4 a = none ∧ M' a = none) →
        ∃ M'', New g (View S.fn M1 H2 f1 fd) H2 M'' (hid Z H') ∧ RepO g M'' (hid Z H') o z fz ∧ ∀ a ∈ fz, H2 a = none ∧ M'' a = none := by
  obtain ⟨cc, P, TB, hcode, hm, hu⟩ := lh.tb
  obtain ⟨e1, e2, e3, e4⟩ := lh.def_
  have hfree : ∀ y ∈ scope.names, y.2 = .free → ∃ c, X.env.cells.lookup y.1 = some c := fun y hy hk => I2.ok.has y.1 (lh.cell _ (lh.fre y hy hk))
  have I3 := md.inv
  have cl : ∀ y b, (cloFrom X.env.cells scope.names []).lookup y = some b → X.env.cells.lookup y = some b := fun y b e => clo_lookup hfree (by intro _ _ z; cases z) e
  let Z : Addr → Prop := fun b => b = f ∨ ∃ y, (cloFrom X.env.cells scope.names []).lookup y = some b
  have z1 : ∀ b, Z b → H3 b = none := fun b hb => by
    rcases hb with rfl | ⟨y, hy⟩
    · exact md.fre
    · exact I3.freeC y b (cl y b hy)
  have z2 : ∀ b, Z b → ∃ o, s3.heap.get? b = some o := fun b hb => by
    rcases hb with rfl | ⟨y, hy⟩
    · exact ⟨_, md.obj⟩
    · obtain ⟨v, o, ho, _⟩ := I3.cell y b (cl y b hy)
      exact ⟨o, ho⟩
  have nz : ∀ {b : Addr} {o : HO}, H3 b = some o → ¬ Z b := fun {b o} e z => by rw [z1 b z] at e; cases e
  have le34 : Le H3 (pinned Z s3.heap H3) := fun a o e => by rw [pinned_out (nz e)]; exact e
  have hc3 : H3 c' = some (CodeO c' (X.env.qual ++ "<lambda>")) := md.code
  have nzc : ¬ Z c' := nz hc3
  have tv : TabM g (View S.fn M1 H2 f1 fd) H2 := st1.view_tab hl
  have leV : Le (View S.fn M1 H2 f1 fd) H2 := st1.view_sub
  let M4 : Hp := fun b => if Z b then pinned Z s3.heap H3 b else if b = c' then H3 c' else View S.fn M1 H2 f1 fd b
  have m4z : ∀ {b}, Z b → M4 b = pinned Z s3.heap H3 b := fun z => if_pos z
  have m4c : M4 c' = H3 c' := by show (if _ then _ else if _ then _ else _) = _; rw [if_neg nzc, if_pos rfl]
  have m4o : ∀ {b}, ¬ Z b → b ≠ c' → M4 b = View S.fn M1 H2 f1 fd b := fun z h => by show (if _ then _ else if _ then _ else _) = _; rw [if_neg z, if_neg h]
  have nzV : ∀ {b : Addr} {o : HO}, H2 b = some o → ¬ Z b := fun {b o} e z => by rw [md.dom b (z1 b z)] at e; cases e
  have leVM : Le (View S.fn M1 H2 f1 fd) M4 := fun b o e => by
    have h2 := leV b o e
    by_cases hb : b = c'
    · subst hb
      rw [m4c]
      rcases md.cod with q | q
      · rw [← q]; exact h2
      · rw [q] at h2; cases h2
    · rw [m4o (nzV h2) hb]; exact e
  have le44 : Le M4 (pinned Z s3.heap H3) := fun b o e => by
    by_cases z : Z b
    · rw [m4z z] at e; exact e
    · by_cases hb : b = c'
      · subst hb; rw [m4c] at e; exact le34 _ _ e
      · rw [m4o z hb] at e
        refine le34 _ _ (md.old b o (leV b o e) fun p hp hq => ?_)
        rw [hq, tv.2 p hp] at e; cases e
  have tb4 : TabM g M4 (pinned Z s3.heap H3) := ⟨tabs_le le34 md.tab, fun p hp => by
    obtain ⟨ps, e⟩ := tab_at md.tab hp
    have hb : p.1 ≠ c' := fun q => by rw [q, hc3] at e; unfold CodeO at e; cases e
    rw [m4o (nz e) hb]; exact tv.2 p hp⟩
  have pind : Pind Z (pinned Z s3.heap H3) := fun z hz => by
    obtain ⟨o, e⟩ := z2 z hz
    exact ⟨o, pinned_in hz e⟩
  have e03 := I3.env0
  rw [c.prog, c.w, c.K, c.mg, c.base] at e03
  have e04 : Env0 g.P g.w g.K g.mg g.base X.A X.stack s3 (pinned Z s3.heap H3) := by
    refine ⟨e03.frames, e03.mod, fun b o e => ⟨(e03.bs b o e).1, ?_⟩, e03.bsz, e03.funs, fun b hb => ?_, hok_pinned e03.hok z1 z2, e03.bare⟩
    · rw [← c.base] at e
      rw [pinned_out]
      · exact (I3.bs b o e).2
      · intro z
        rcases z with rfl | ⟨y, hy⟩
        · exact md.new o (I2.bk _ o e)
        · have h1 := I2.ok.cab y b (lh.fn y) (cl y b hy)
          have h2 := Heap.lt_size e
          exact Nat.lt_irrefl _ (Nat.lt_of_lt_of_le h2 (Nat.le_trans I2.ok.bsz h1))
    · rw [pinned_out]
      · exact e03.frf b hb
      · intro z
        rcases z with rfl | ⟨y, hy⟩
        · exact md.frs hb
        · rcases List.mem_cons.mp (I2.stkSub b hb) with q | q
          · exact I2.cne y b (cl y b hy) q
          · have h1 := I2.ok.cab y b (lh.fn y) (cl y b hy)
            obtain ⟨_, o, ho, _⟩ := I2.ok.funs.mem q
            exact Nat.lt_irrefl _ (Nat.lt_of_lt_of_le (Heap.lt_size ho) h1)
  refine ⟨Z, M4, pinned Z s3.heap H3, hid_pinned z1, pind, e04, le44, tb4, RepL.append (RepL.mono leVM rds) (.cons ?_ .nil), ?_⟩
  · obtain ⟨xs, rxs, lxs, hxs⟩ := capVals_ok st1 hcs
    refine Rep.lam (xs := xs) ⟨c', cloFrom X.env.cells scope.names [], pm, ctv, ?_, ?_, fun y z b h1 h2 => I2.ok.inj y z b (cl y b h1) (cl z b h2), fun y b h => ?_, fun i y e => ?_⟩ (RepL.mono leVM ?_)
    · rw [m4z (.inl rfl), pinned_in (.inl rfl) md.obj, e1, e2, e3, e4]
    · rw [m4c, hc3, e1]
    · rcases clo_free h with ⟨_, z⟩ | z
      · cases z
      · exact lh.fre _ z rfl
    · have hy : y ∈ (g.L n).names := List.mem_of_getElem? e
      obtain ⟨b, hb⟩ := clo_has (cells := X.env.cells) (acc := []) (lh.nam y hy)
      obtain ⟨j, hj, hN⟩ := lh.slot i y e
      obtain ⟨x, hx, hs⟩ := hxs i j hj
      obtain ⟨m, hn, hloc⟩ := I3.loc
      obtain ⟨u, ru, lk⟩ := hloc j y x hN hs (by
        rcases lh.cell y hy with q | q
        · exact .inr (.inl q)
        · exact .inr (.inr q))
      rcases lk with ⟨q, _⟩ | ⟨_, b2, hb2, o, ho, hd⟩
      · rcases lh.cell y hy with q2 | q2 <;> rw [q] at q2 <;> cases q2
      · rw [cl y b hb] at hb2; cases hb2
        exact ⟨b, o, u, x, hb, by rw [m4z (.inr ⟨y, hb⟩), pinned_in (.inr ⟨y, hb⟩) ho], hd, hx, ru⟩
    · exact rxs.mono st1.view_le
  · intro o z M' H' fz hno nw ro hz
    have hz4 : ∀ {b : Addr}, Z b → ∃ ob, M4 b = some (.frz ob (.own b)) := fun {b} z => by
      obtain ⟨ob, e⟩ := pind b z
      exact ⟨ob, by rw [m4z z]; exact e⟩
    have hzH : ∀ {b : Addr}, Z b → ∃ ob, H' b = some (.frz ob (.own b)) := fun {b} z => by
      obtain ⟨ob, e⟩ := hz4 z
      exact ⟨ob, nw.sub _ _ (nw.mono _ _ e)⟩
    have hcM : M' c' = some (CodeO c' (X.env.qual ++ "<lambda>")) := nw.mono _ _ (m4c.trans hc3)
    let M'' : Hp := fun b => if Z b then none else if b = c' then View S.fn M1 H2 f1 fd c' else M' b
    have m2z : ∀ {b}, Z b → M'' b = none := fun z => if_pos z
    have m2c : M'' c' = View S.fn M1 H2 f1 fd c' := by show (if _ then _ else if _ then _ else _) = _; rw [if_neg nzc, if_pos rfl]
    have m2o : ∀ {b}, ¬ Z b → b ≠ c' → M'' b = M' b := fun z h => by show (if _ then _ else if _ then _ else _) = _; rw [if_neg z, if_neg h]
    have d4 : ∀ {a}, pinned Z s3.heap H3 a = none → H2 a = none := fun {a} e => by
      by_cases z : Z a
      · obtain ⟨ob, q⟩ := pind a z
        rw [e] at q; cases q
      · rw [pinned_out z] at e; exact md.dom a e
    have kk : ∀ a o, M' a = some o → (∀ ob c, o ≠ .frz ob (.own c)) → (∀ c q, o ≠ LamX.CodeO c q) → M'' a = some o := fun a o e n1 n2 => by
      have z : ¬ Z a := fun z => by
        obtain ⟨ob, q⟩ := hz4 z
        rw [nw.mono _ _ q] at e; cases e
        exact n1 _ _ rfl
      have hb : a ≠ c' := fun q => by
        subst q
        rw [hcM] at e; cases e
        exact n2 _ _ rfl
      rw [m2o z hb]; exact e
    refine ⟨M'', ⟨fun b o e => ?_, fun b o e => ?_, fun b o e t => ?_, fun b e => ?_, fun b o e => ?_, ?_⟩, ?_, fun a ha => ⟨d4 (hz a ha).1, ?_⟩⟩
    · by_cases hb : b = c'
      · subst hb; rw [m2c]; exact e
      · rw [m2o (nzV (leV b o e)) hb]
        exact nw.mono _ _ (leVM _ _ e)
    · by_cases z : Z b
      · rw [m2z z] at e; cases e
      · rw [hid_out z]
        by_cases hb : b = c'
        · subst hb
          rw [m2c] at e
          exact nw.sub _ _ (nw.mono _ _ (leVM _ _ e))
        · rw [m2o z hb] at e; exact nw.sub _ _ e
    · have h3 := md.ext b o e t
      have h4 := nw.keep b o (le34 _ _ h3) t
      rw [hid_out (nz h3)]; exact h4
    · by_cases z : Z b
      · exact md.dom b (z1 b z)
      · rw [hid_out z] at e; exact d4 (nw.dom b e)
    · by_cases z : Z b
      · rw [m2z z] at e; cases e
      · by_cases hb : b = c'
        · subst hb; rw [m2c] at e; exact .inl e
        · rw [m2o z hb] at e
          rcases nw.newM b o e with q | q
          · rw [m4o z hb] at q; exact .inl q
          · exact .inr (d4 q)
    · exact tabs_hid (fun z hz => hzH hz) nw.tab
    · cases ro with
      | v r => exact .v (r.nolam kk hno)
      | @l a ws es h t =>
        refine .l ?_ (t.nolam kk hno)
        rw [hid_out]
        · exact h
        · intro z
          obtain ⟨ob, q⟩ := hzH z
          rw [q] at h; cases h
    · by_cases z : Z a
      · exact m2z z
      · by_cases hb : a = c'
        · subst hb
          have := (hz _ ha).1
          rw [le34 _ _ hc3] at this; cases this
        · rw [m2o z hb]; exact (hz a ha).2
end
end KS
set_option Elab.async false
set_option linter.all false
set_option maxRecDepth 100000
set_option maxHeartbeats 4000000
namespace KS
open PySem PySem.Spec PyProof.Rows L2
open LamX (Tabs TabS TabB CodeO ExtN)
section
variable {g : G} {E : XK} {S : Vw} {k : Nat} {X : Cx}
theorem dx_callL {x : PySem.Str} {st : Stmt} {ps : List PySem.Str} {P : List Val → RP} {j : Nat} {a : Expr} {as es : List Expr} {ms : Mo (List Own)} {p pos lpos : Pos} {n : Nat} {caps : List Nat} {params : Arguments} {body : Expr} {scope : Scope} (c : Cxt g E k X) (D : DefP g j x st ps P) (hj : j ≤ k)
    (hp : PEs g E S X es ms) (lh : LamHere g X n caps params body scope) (heq : a :: as = es ++ [.Lambda params body scope lpos] := by rfl) (hg : Gl X x := by rfl)
    (hl : starEach [.Lambda params body scope lpos] X.env = [(false, eval (.Lambda params body scope lpos) X.env)] := by rfl)
    (he : starEach (a :: as) X.env = (false, eval a X.env) :: starEach as X.env := by rfl) (hpl : (backTo pos (starEach as X.env)).any (·.1) = false := by rfl) (hdb : (x == ("__debug__" : PySem.Str)) = false := by decide) :
    PE X (.Call (.Name x p) (a :: as) [] pos) (tD g E S (mCallL S P n caps ms)) := by
  refine ⟨fun pins s σ H Q I h => ?_⟩
  obtain ⟨f0, fdat, F, hm, hf, hb⟩ := D.ex
  obtain ⟨cc, Pt, TB, hcode, hmT, hu⟩ := lh.tb
  have hfree : ∀ y ∈ scope.names, y.2 = .free → ∃ c, X.env.cells.lookup y.1 = some c := fun y hy hk => I.ok.has y.1 (lh.cell _ (lh.fre y hy hk))
  have hm' : X.mg x = some (.ref f0) := by rw [c.mg]; exact hm
  have hk' : PySem.W.keepIn X.K (.ref f0) = true := by rw [c.K]; exact hf.kp
  suffices hsuf : wpAny (model X.prog X.w) X.A (spliced (backTo pos (starEach (a :: as) X.env))) (fun vs s₁ => X.K.In s₁.heap ∧ wpAny (model X.prog X.w) X.A (call (.ref f0) ([] ++ vs)) (EP X pins σ Q) X.xe s₁) X.xe s by
    exact wpAny_Call_Name_kw (ld_glob I hg hm' (PySem.W.callWith_K (h₀ := X.base) I.ok.mod.kin hk' hsuf he hpl) hdb)
  rw [heq]
  refine run_pes hl hp pos pins s σ H (fun vs H2 => ∃ r1 M1 f1 fd ds cs o, Sta g M1 H2 r1 σ f1 ∧ Tmps g S.fn M1 H2 f1 ds vs fd ∧ capVals r1 caps = some cs ∧ P (ds.map Own.val ++ [.lam n cs]) = .ok o ∧ nolamO o = true ∧
      ∀ (M' H' : Hp) (z : V) (fz : List Addr), New g (View S.fn M1 H2 f1 fd) H2 M' H' → RepO g M' H' o z fz → (∀ a ∈ fz, H2 a = none ∧ M' a = none) → Q z H') _ I ?_ ?_
  · obtain ⟨r, M, f, st, h⟩ := h
    refine ⟨r, M, f, st, ?_⟩
    unfold mCallL at h
    cases hm : ms r with
    | bad => rw [hm] at h; exact h
    | ex n v => rw [hm] at h; exact h
    | ok ds r1 =>
      simp only [hm, Rs.bind] at h
      intro xs M1 H1 f1 fd st1 t1 p1 fr1
      cases hcs : capVals r1 caps with
      | none => simp only [hcs] at h
      | some cs =>
        simp only [hcs] at h
        cases ho : P (ds.map Own.val ++ [.lam n cs]) with
        | bad => simp only [ho] at h
        | ex n v => simp only [ho] at h
        | ok o =>
          simp only [ho] at h
          by_cases hno : nolamO o = true
          · rw [if_pos hno] at h
            refine ⟨r1, M1, f1, fd, ds, cs, o, st1, t1, hcs, ho, hno, fun M' H' z fz nw ro hz => ?_⟩
            obtain ⟨M2, st2, t2, p2, q2⟩ := land st1 p1 fr1 (fun a ha => ⟨(t1.sep a ha).1, (t1.sep a ha).2.2⟩) nw ro hz
            exact h z M2 H' f1 fz st2 t2 p2 q2
          · rw [if_neg hno] at h; exact h.elim
  · intro vs us0 H2 s2 I2 rv ⟨r1, M1, f1, fd, ds, cs, o, st1, t1, hcs, ho, hno, q⟩
    refine lam_new I2 TB hcode hmT hu st1.tab lh.no hfree fun f c' pm ctv H3 s3 md => ⟨md.inv.kIn, ?_⟩
    obtain ⟨Z, M4, H4, hh, pind, e04, le44, tb4, rep, fin⟩ := lam_pass c lh I2 md st1 (fun a ha => (t1.sep a ha).1) (t1.vals st1) hcs
    have rv' : Vals (vs ++ [V.ref f]) (us0 ++ [Value.ref f]) := rv.append (.cons rfl .nil)
    have sp : spP g P (vs ++ [V.ref f]) H4 (fun z H' => Q z (hid Z H')) E0x := by
      refine ⟨_, M4, le44, tb4, rep, ?_⟩
      rw [ho]
      intro z M' H' fz nw ro hz
      obtain ⟨M'', nw2, ro2, hz2⟩ := fin o z M' H' fz hno nw ro hz
      exact q M'' _ z fz nw2 ro2 hz2
    have hlen : (us0 ++ [Value.ref f]).length = ps.length := by rw [← rv'.length]; exact F.len _ _ _ _ sp
    have bt : BindsTo s3 fdat ⟨us0 ++ [Value.ref f], []⟩ (ps.zip (us0 ++ [Value.ref f])) := by
      have kin := md.inv.kIn
      rw [c.K] at kin
      have := hb s3 (us0 ++ [Value.ref f]) kin (by rw [List.append_nil]; exact hlen)
      rwa [List.append_nil] at this
    refine fin_G ?_
    have run := F.run X.A X.stack s3 H4 ⟨us0 ++ [Value.ref f], []⟩ (us0 ++ [Value.ref f]) (vs ++ [V.ref f]) _ _ c.grd (c.room.mono hj) e04 bt rv' sp
    rw [c.prog, c.w]
    refine codeAny_mono run fun r s' hq => ?_
    cases r with
    | error e =>
      obtain ⟨_, _, _, _, _, _, _, _, _, _, _, _, z⟩ := hq
      exact z.elim
    | ok fl => cases fl with
      | next => exact hq
      | brk => exact hq
      | cont => exact hq
      | ret u =>
        obtain ⟨v, H', os, bare, un, hok, r, q⟩ := hq
        have u3 := un_hid pind e04.hok hok un
        rw [hh] at u3
        have hk3 := hok_hid (pind_un pind un) hok
        refine md.inv.after (Q := Q) ⟨v, _, os, bare, u3, ?_, r, q⟩
        rw [c.prog, c.w]; exact hk3
end
end KS
set_option Elab.async false
set_option linter.all false
set_option maxRecDepth 100000
set_option maxHeartbeats 4000000
namespace KS
open PySem PySem.Spec PyProof.Rows L2
open LamX (Tabs TabS TabB CodeO ExtN)
/-! ### the lambdas of a text, in their order -/
def lamsE : Nat → Expr → List Expr
  | 0, _ => []
  | n + 1, e => match e with
    | .Lambda _ _ _ _ => [e]
    | .Call f as ks _ => lamsE n f ++ as.flatMap (lamsE n) ++ ks.flatMap fun k => lamsE n k.value
    | .BinOp l _ r _ => lamsE n l ++ lamsE n r
    | .UnaryOp _ o _ => lamsE n o
    | .BoolOp _ vs _ => vs.flatMap (lamsE n)
    | .Compare l _ cs _ => lamsE n l ++ cs.flatMap (lamsE n)
    | .IfExp t b o _ => lamsE n t ++ lamsE n b ++ lamsE n o
    | .Tuple es _ _ => es.flatMap (lamsE n)
    | .List es _ => es.flatMap (lamsE n)
    | .Subscript v s _ => lamsE n v ++ lamsE n s
    | .Attribute v _ _ => lamsE n v
    | .Starred v _ => lamsE n v
    | .ListComp e gs _ _ => lamsE n e ++ gs.flatMap fun g => lamsE n g.iter ++ g.ifs.flatMap (lamsE n)
    | _ => []
def lamsS : Nat → Stmt → List Expr
  | 0, _ => []
  | n + 1, s => match s with
    | .Return (some e) _ => lamsE 40 e
    | .Assign _ v _ => lamsE 40 v
    | .AugAssign _ _ v _ => lamsE 40 v
    | .Expr v _ => lamsE 40 v
    | .If t b o _ => lamsE 40 t ++ b.flatMap (lamsS n) ++ o.flatMap (lamsS n)
    | .For _ i b o _ => lamsE 40 i ++ b.flatMap (lamsS n) ++ o.flatMap (lamsS n)
    | .While t b o _ => lamsE 40 t ++ b.flatMap (lamsS n) ++ o.flatMap (lamsS n)
    | _ => []
/-- the i-th lambda of a def -/
def lamD (st : Stmt) (i : Nat) (qual : PySem.Str) (names : List PySem.Str) : LamD := match ((defBody st).flatMap (lamsS 40))[i]? with
  | some (.Lambda a b s _) => ⟨qual, a, b, s, names⟩
  | _ => ⟨qual, default, .Name "" ⟨0, 0, 0, 0⟩, default, names⟩
structure LamCk (N : List PySem.Str) (sc : Scope) (caps : List Nat) (D : LamD) : Prop where
  map : caps.map (fun i : Nat => N[i]?) = D.names.map some
  cell : ∀ y ∈ D.names, sc.names.lookup y = some .cell
  fre : ∀ y ∈ D.scope.names, y.2 = NameKind.free → y.1 ∈ D.names
  nam : ∀ y ∈ D.names, (y, NameKind.free) ∈ D.scope.names
section
variable {g : G} {E : XK} {S : Vw} {k : Nat} {X : Cx}
theorem lamHere {n : Nat} {caps : List Nat} {D : LamD} {N : List PySem.Str} {sc : Scope} {cc P : Addr} (hL : g.L n = D) (TB : TabB g.base g.mg cc P) (hm : (P, D.qual) ∈ g.T) (hu : ∀ p ∈ g.T, p.1 = P → p.2 = D.qual) (c : Cxt g E k X) (ck : LamCk N sc caps D)
    (hcode : X.env.code = .ref cc := by rfl) (hq : D.qual = X.env.qual ++ "<lambda>" := by rfl) (hX : X.env.scope = sc := by rfl) (hXN : X.N = N := by rfl) (hfn : ∀ y, X.fn y = true := by exact fun _ => rfl) (no : defaultsOf D.params X.env = ([], []) := by rfl) :
    LamHere g X n caps D.params D.body D.scope := by
  subst hL
  refine ⟨⟨cc, P, by rw [c.base, c.mg]; exact TB, hcode, by rw [← hq]; exact hm, by rw [← hq]; exact hu⟩, ⟨hq, rfl, rfl, rfl⟩, no, ?_, fun j y e => ?_, fun y hy => .inl ?_, ck.fre, ck.nam, hfn⟩
  · have := congrArg List.length ck.map
    simpa using this
  · have h := congrArg (fun l : List (Option PySem.Str) => l[j]?) ck.map
    simp only [List.getElem?_map, e, Option.map_some] at h
    cases hc : caps[j]? with
    | none => rw [hc] at h; cases h
    | some i =>
      rw [hc] at h
      simp only [Option.map_some, Option.some.injEq] at h
      exact ⟨i, rfl, by rw [hXN]; exact h⟩
  · show X.env.scope.names.lookup y = _
    rw [hX]; exact ck.cell y hy
theorem lam_bad {n : Nat} (h : ∀ caps ds, g.LP n caps ds = .bad) : LamOk g k n := fun A outer s H us vs Q E f caps ds M _ _ _ _ _ _ _ _ q => by
  rw [h] at q; exact q.elim
/-- a lambda of the text by its body -/
theorem lam_ok' {ps names : List PySem.Str} {D : LamD} {n : Nat} {m : Mo Own} (hL : g.L n = D) (hLP : g.LP n = lpOf ps.length names.length m) (hn : D.names = names) (LS : LamSc ps names D.scope)
    (hbind : ∀ (clo : List (PySem.Str × Addr)) (pm cv ctv : Value) (us : List Value), us.length = ps.length → bindArgs (PySem.W.kla_fn "<lambda>" D.qual D.params D.body D.scope clo pm cv ctv) ⟨us, []⟩ = pure (ps.zip us))
    (hb : ∀ (E : XK) (f c' : Addr) (clo : List (PySem.Str × Addr)) (A : Around) (outer : List Env) (s : Shared) (H : Hp), Cxt g E k (lamX g.P g.w g.K g.mg g.base (ps ++ names) D.qual D.scope f c' clo A outer s H E) → PE (lamX g.P g.w g.K g.mg g.base (ps ++ names) D.qual D.scope f c' clo A outer s H E) D.body (tD g E .no m)) : LamOk g (k + 1) n := by
  subst hn
  exact lam_ok (params := D.params) (body := D.body) (qual := D.qual) (sc := D.scope) (names := D.names) hL hLP LS hbind hb
end
end KS
set_option Elab.async false
set_option linter.all false
set_option maxRecDepth 100000
set_option maxHeartbeats 4000000
namespace KS
open PySem PySem.Spec PySem.Calls PyProof.Rows L2
open PySem.W (ksFn ksEnv)
/-- the written part tells: D's own __init__ at f, with its class's cell -/
structure IniC (P : Program) (K : PySem.W.Frag) (D f : Addr) (st : Stmt) (fd : FuncData) : Prop where
  ex : ∃ (oc : Value) (od : Option Addr) (name qual : PySem.Str) (dV kV doc pm ct : Value) (an : Option Addr) (osl : Array (Option Value)) (cc cda : Addr),
    fd = ksFn name qual (defArgs st) (defBody st) (defScope st) dV kV doc pm an (.ref cda) ct cc ∧ K.lookup f = some ⟨oc, od, .func fd, osl⟩ ∧ PySem.W.codeIn K (.ref cda) qual = true ∧
    (∃ cl cld csl, K.lookup cc = some ⟨cl, cld, .cell (some (.ref D)), csl⟩) ∧ ∃ ccl cdd vs ccs file tf, K.lookup cda = some ⟨ccl, cdd, .fields vs, ccs⟩ ∧ vs[2]? = some (.str file tf) ∧ ((P.main.file : PySem.Str) == file) = true
  dcls : ∃ cd, PySem.W.clsIn K D = some cd
  thr : PySem.W.nsIn K cStatics "thirdparty.any" = some none
  sup : PySem.W.nsIn K mainGlobals "super" = some none
  top : (P.main.scope.names.lookup ("super" : PySem.Str)).isSome = false
/-- the def's form -/
structure IniS (st : Stmt) : Prop where
  args : (defArgs st).posonlyargs = [] ∧ ∃ a b, (defArgs st).args = [a, b] ∧ a.arg = "self"
  body : defBody st = [.Expr (.Call (.Attribute (.Call (.Name "super" ⟨5, 8, 5, 13⟩) [] [] ⟨5, 8, 5, 15⟩) "__init__" ⟨5, 8, 5, 24⟩) [.Name "value" ⟨5, 25, 5, 30⟩] [] ⟨5, 8, 5, 31⟩) ⟨5, 8, 5, 31⟩, .Assign [.Attribute (.Name "self" ⟨6, 8, 6, 12⟩) "value" ⟨6, 8, 6, 18⟩] (.Name "value" ⟨6, 21, 6, 26⟩) ⟨6, 8, 6, 26⟩]
  scope : defScope st = { kind := .function, names := [("self", .local), ("value", .local), ("__class__", .free), ("super", .globalImplicit)], isGenerator := false, isCoroutine := false, more := [] }
/-- a class under D -/
structure SubC (K : PySem.W.Frag) (D C : Addr) : Prop where
  oex : OexC K C
  sup : PySem.W.ks_superIn K C D "__init__" = some (some (.builtin "ValueError.__init__"))
  ve : PySem.W.subIn K (.ref C) (.type "ValueError") = some true
  sub : PySem.W.mroIn K C (.ref D) = some true
  noa : PySem.W.findIn K (.ref C) "value" = some none
/-- D.__init__(a, x), a being made -/
def spIni (K : PySem.W.Frag) (D : Addr) : Sp := fun vs H Q _ => ∃ (a C : Addr) (x : V), vs = [.ref a, x] ∧ SubC K D C ∧ H a = some (exo a C none) ∧
  ∀ dx, H dx = none → dx ≠ a → Q .non (upd (upd H dx (exd dx [("value", x)])) a (exo a C (some dx)))
theorem ini_ok {P : Program} {w : World} {K : PySem.W.Frag} {mg : PySem.Str → Option Value} {base : Heap} {CX : CXT} {k : Nat} {D f : Addr} {st : Stmt} {fd : FuncData} (F : IniC P K D f st fd) (S : IniS st) : FnOk P w K mg base CX (k + 1) f fd ["self", "value"] (spIni K D) := by
  refine ⟨fun vs H Q E h => by obtain ⟨a, C, x, rfl, _⟩ := h; rfl, fun A outer s H args us vs Q E hr e0 hb r hsp => ?_⟩
  obtain ⟨a, C, x, rfl, T, ea, q⟩ := hsp
  cases r with
  | @cons _ u0 _ ur ra rw' =>
    obtain rfl : u0 = Value.ref a := ra
    cases rw' with
    | @cons _ u _ ur rx rn =>
      cases rn
      obtain ⟨oc, od, name, qual, dV, kV, doc, pm, ct, an, osl, cc, cda, rfl, lk, hcd, ⟨cl, cld, csl, hcell⟩, ⟨ccl, cdd, vs2, ccs, file, tf, hcode, hvs, hfile⟩⟩ := F.ex
      have hbody := S.body
      obtain ⟨hpo, a1, b1, hargs, ha1⟩ := S.args
      obtain ⟨cdD, hD⟩ := F.dcls
      have KX : K.In s.heap := e0.mod.kin.keeps fun b o e => (e0.bs b o e).1
      have lim : s.heap.NoLimit := e0.mod.nolimit.keeps fun b o e => (e0.bs b o e).1
      have hsc := S.scope
      generalize defScope st = sc at hsc lk hb
      subst hsc
      generalize defBody st = bd at hbody lk hb
      subst hbody
      refine PySem.ks_codeAny_call_defAt (binds := [("self", .ref a), ("value", u)]) hr.depth (KX _ _ lk) rfl lim (PySem.W.codeRec_of KX hcd) rfl hb ?_ ?_ (fun h₀ hns hk => ?_) rfl rfl rfl
      · intro x hx
        simp only [List.mem_cons, List.not_mem_nil, or_false] at hx
        rcases hx with rfl | rfl | rfl | rfl <;> decide
      · intro x hx
        simp only [List.mem_cons, List.not_mem_nil, or_false] at hx
        rcases hx with rfl | rfl <;> rfl
      have hkb : ∀ b o, base.get? b = some o → h₀.get? b = some o := fun b o e => hk b o (e0.bs b o e).1
      have X₀ : K.In h₀ := KX.keeps hk
      obtain ⟨t1, hoa⟩ := exo_at e0.hok ea
      have hoa0 := hk _ _ hoa
      obtain ⟨nm, qn, N, bs, bm, sn, sub, ab, col, dd, k0, k1, k2, k3, k5, hC, hbm⟩ := T.oex.cls
      have hcl : PySem.W.clsIn K C = some { name := nm, bases := bs, mro := .ref C :: bm, ns := N, qualname := qn, hasDict := true, slotNames := sn, subclasses := sub, abstract := ab, collection := col, hasDel := false } := by unfold PySem.W.clsIn; rw [hC] <;> rfl
      have haC : a ≠ C := fun z => by
        have z1 := KX _ _ hC
        rw [← z, hoa] at z1
        cases z1
      obtain ⟨oD, hD1, hD2⟩ : ∃ oD, h₀.get? D = some oD ∧ oD.data = .cls cdD := by
        unfold PySem.W.clsIn at hD
        split at hD
        · rename_i c d cd' sl ho
          cases hD
          exact ⟨_, X₀ _ _ ho, rfl⟩
        · cases hD
      refine PySem.ks_wpAt_execs_cons (PySem.ks_wpAt_Expr_any (PySem.ks_wpAt_MethodCall ?_))
      refine PySem.ks_wpAt_super_base (ar := a1) rfl rfl (by decide) rfl (X₀ _ _ lk) rfl (by rw [hpo, hargs]; rfl) rfl (X₀ _ _ hcode) rfl hvs hfile F.top ?_
      obtain ⟨mb, hb1, hb2⟩ := e0.mod.blt
      refine PySem.W.ks_loadName_global rfl rfl (Calls.loadGlobal_builtin (e0.mod.glob.keeps hkb) (PySem.W.mg_none_of X₀ (e0.mod.glob.keeps hkb) F.sup) (hb1.keeps hkb) ((hb2 _ (by decide)).trans rfl) ⟨rfl, ?_⟩)
      refine wpAny_loadName_free rfl rfl rfl ⟨_, X₀ _ _ hcell, rfl⟩ ?_
      rw [ha1]
      refine wpAny_loadName_local rfl rfl hns rfl ?_
      refine PySem.ks_wpAny_isType_cls hD1 hD2 ⟨rfl, ?_⟩
      refine PySem.ks_wpAny_call_super hD1 hD2 hoa0 rfl (fun c z => by cases z) (PySem.W.looks_mroIn X₀ T.sub) (fun h1 e1 kk1 => ?_)
      have X1 : K.In h1 := X₀.keeps kk1
      have hf := T.sup
      unfold PySem.W.ks_superIn at hf
      rw [hcl] at hf
      have hoa1 := kk1 _ _ hoa0
      have I1 : PySem.W.InstAt h1 a _ C none := ⟨hoa1, rfl, rfl, trivial⟩
      refine PySem.W.kxs_getMethod PySem.W.kxs_ValueError e1 (PySem.W.looks_opaque X1 F.thr) (l₀ := .ref C :: bm) (fun A Q E s k q => wpAny_bind ((PySem.W.looks_clsIn X1 hcl) A _ E s k (wpAny_pure q))) rfl X1 hf (I1.type.andThen (PySem.W.looks_subIn X1 T.ve)) haC (by decide) ?_
      have kk2 : ∀ b o, h1.get? b = some o → (h1.push (PySem.W.kxs_mw "ValueError.__init__" a)).get? b = some o := fun b o e => Heap.get?_push_of_some _ e
      have e2 : (h1.push (PySem.W.kxs_mw "ValueError.__init__" a)).get? h1.objs.size = some (PySem.W.kxs_mw "ValueError.__init__" a) := Heap.get?_push_at rfl rfl
      generalize h1.push (PySem.W.kxs_mw "ValueError.__init__" a) = h2 at kk2 e2 ⊢
      generalize h1.objs.size = mw at e2 ⊢
      have X2 := X1.keeps kk2
      have hoa2 := kk2 _ _ hoa1
      have hns2 := (hns.keeps kk1).keeps kk2
      refine PySem.W.kxs_callWith (i := "ValueError.__init__") (x := a) rfl (evalArgs_plain (Calls.spliced_cons (wpAny_Name (wpAny_loadName_local rfl rfl hns2 rfl (Calls.spliced_nil ⟨e2, ?_⟩)) rfl)))
      refine wpAny_call (codeAny_of_tree ?_)
      show wpAny _ _ (callAny (.ref mw) ⟨[u], []⟩) _ _ _
      simp only [callAny]
      refine wpAny_bind (wpAny_load e2 ?_)
      simp only [PySem.W.kxs_mw, show (Value.type "method-wrapper" == Value.type "method" || Value.type "method-wrapper" == Value.type "builtin_function_or_method" || Value.type "method-wrapper" == Value.type "method-wrapper") = true by decide, if_true]
      refine PySem.W.KFB.if_so (by decide) ?_
      refine wpAny_bind (PySem.W.check_bound_init PySem.F.excBase_ValueError.toExcCallFacts (X2 _ _ hC) hoa2 rfl ?_)
      refine wpAny_bind (wpAny_pure (wpAny_pure ?_))
      refine ⟨Code.quiet_builtin _ (by decide +kernel), codeAny_builtin PySem.F.excBase_ValueError.initEntry ?_⟩
      refine PySem.W.exc_init_tree (cls := .ref C) (t0 := t1) (dv := none) (c2 := .none) (c3 := .none) (b4 := .bool false) hoa2 (by rw [sizeLine_eq]; simp) fun h3 kk3 hoa3 _ => ?_
      have hns3 : h3.Ns s.heap.objs.size (fun x => List.lookup x [("value", u), ("self", .ref a)]) := by
        obtain ⟨o, es, ep, q1, q2⟩ := hns2
        exact ⟨o, es, ep, kk3 _ _ (Nat.ne_of_gt (Heap.lt_size hoa)) q1, q2⟩
      have X3 : K.In h3 := fun b o e => by
        by_cases hb : b = a
        · exact absurd (KX _ _ e) (by rw [hb, hoa]; intro z; cases z; exact (e0.bs _ _ (e0.mod.kin _ _ (hb ▸ e))).2.symm.trans ea |> fun z => by cases z)
        · exact kk3 _ _ hb (X2 _ _ e)
      refine PySem.ks_wpAt_execs_cons (PySem.ks_wpAt_Assign_Attr (wpAt_of_wpAny (wpAny_Name (wpAny_loadName_local rfl rfl hns3 rfl (wpAny_Name (wpAny_loadName_local rfl rfl hns3 rfl ?_) rfl)) rfl)))
      refine PySem.W.set_plain X3 (od := none) ⟨hoa3, rfl, rfl, trivial⟩ T.oex.sa ?_
      refine PySem.HandSPX.exc_osa X3 hoa3 hcl (show PySem.HandSPX.refsVE (.ref C :: bm) = true from hbm) rfl T.noa (fun h4 tk' dx kk4 dn dne hx hn => ?_)
      refine wpAt_of_wpAny (wpAny_execs_nil ?_)
      have k4 : ∀ b o, b ≠ a → s.heap.get? b = some o → h4.get? b = some o := fun b o hb e => kk4 b o hb (kk3 b o hb (kk2 _ _ (kk1 _ _ (hk _ _ e))))
      have size_le : ∀ b o, s.heap.get? b = some o → h3.get? b ≠ none := fun b o e z => by
        by_cases hb : b = a
        · rw [hb, hoa3] at z; cases z
        · rw [kk3 b o hb (kk2 _ _ (kk1 _ _ (hk _ _ e)))] at z; cases z
      have nd : ∀ {b : Addr} {o : Obj}, s.heap.get? b = some o → b ≠ dx := fun {b o} e z => by
        cases e3 : h3.get? b with
        | none => exact size_le b o e e3
        | some o3 => exact Nat.ne_of_lt (Nat.lt_of_lt_of_le (Heap.lt_size e3) dn) z
      have hnd : H dx = none := by
        obtain ⟨oL, _, _, hL, _⟩ := hns3
        exact e0.hok.fresh (Nat.le_trans (Nat.le_of_lt (Heap.lt_size hL)) dn)
      have na : ∀ {b : Addr}, H b = none → b ≠ a := fun {b} n z => by
        rw [z, ea] at n
        cases n
      refine ⟨.non, _, rfl, e0.bare, ?_, ?_, rfl, q dx hnd dne⟩
      · exact {
          keep := fun b o q n _ _ => k4 b o (na n) q
          slot := fun b o q n _ _ => ⟨o.slots, k4 b o (na n) q⟩
          free := fun b o q n _ => by rw [upd_ne (na n), upd_ne (nd q)]; exact n
          there := fun b o q _ => by
            by_cases hb : b = a
            · exact ⟨_, by rw [hb]; exact hx⟩
            · exact ⟨o, k4 b o hb q⟩
          tups := fun b xs q => by rw [upd_ne (at_ne ea q exo_tup), upd_ne (ne_of_none q hnd)]; exact q
          frzs := fun b o v q => by rw [upd_ne (at_ne ea q exo_frz), upd_ne (ne_of_none q hnd)]; exact q
          tbls := fun b ps q => ⟨#[], by rw [upd_ne (at_ne ea q exo_tbl), upd_ne (ne_of_none q hnd), q]; simp⟩ }
      · intro b o q
        by_cases hb : b = a
        · subst hb
          rw [upd_same] at q
          cases q
          exact exo_ok hx
        · rw [upd_ne hb] at q
          by_cases hd : b = dx
          · subst hd
            rw [upd_same] at q
            cases q
            exact exd_ok hn (relO_put (fs := []) rx fun g => True.intro)
          · rw [upd_ne hd] at q
            exact (e0.hok b o q).stay (fun c v hc z => k4 c v (by
                rcases hc with hc | hc
                · rw [hc]
                  exact hb
                · exact at_ne ea hc exo_own) z)
              (fun c hc => by rw [upd_ne (at_ne ea hc exo_own), upd_ne (ne_of_none hc hnd)]; exact hc) (fun c xs hc => by rw [upd_ne (at_ne ea hc exo_tup), upd_ne (ne_of_none hc hnd)]; exact hc)
end KS
set_option Elab.async false
set_option linter.all false
set_option maxRecDepth 100000
set_option maxHeartbeats 4000000
namespace KS
open PySem PySem.Spec PyProof.Rows L2
open LamX (Tabs TabS)
/-- the class n is one of D's kind, with D's __init__ -/
structure RaF (g : G) (n : PySem.Str) : Prop where
  ex : ∃ (C D fI : Addr) (st : Stmt) (fd : FuncData), g.mg n = some (.ref C) ∧ SubC g.K D C ∧ IniC g.P g.K D fI st fd ∧ IniS st ∧ PySem.W.findIn g.K (.ref C) "__init__" = some (some (.ref fI)) ∧ PySem.W.typeIn g.K (.ref fI) = some (.type "function") ∧ Binds g.K fd ["self", "value"] []
section
variable {g : G} {E : XK} {S : Vw} {k : Nat} {X : Cx} {pn : Option V}
/-- raise n(e) -/
def sRaise (S : Vw) (n : PySem.Str) (m : Mo Own) : Ms := fun r => match m r with
  | .ok (.v d) _ => if okB S (.v d) = true then .ex n d else .bad
  | .ok _ _ => .bad
  | .ex n v => .ex n v
  | .bad => .bad
theorem tabs_new {T : List (Addr × PySem.Str)} {H H' : Hp} (t : Tabs T H) (k : ∀ b, H b ≠ none → H' b = H b) : Tabs T H' := fun p hp => by
  obtain ⟨ps, e, r, r2⟩ := t p hp
  refine ⟨ps, (k _ (by rw [e]; simp)).trans e, r, fun pos cv h => ?_⟩
  obtain ⟨c, h1, h2⟩ := r2 pos cv h
  exact ⟨c, h1, (k _ (by rw [h2]; simp)).trans h2⟩
theorem imp_raise {n : PySem.Str} {C D : Addr} {m : Mo Own} {D0 : Ends} {s : L2.St} {H : Hp} (hn : g.mg n = some (.ref C)) (hs : SubC g.K D C) (q : tS g E pn (sRaise S n m) D0 s H) :
    tMkO C (spIni g.K D) [] (tA g E S (mCons m mNil)) s H (fun cls d H' => E cls d H') := by
  obtain ⟨r, M, f, st, p, q⟩ := q
  refine ⟨r, M, f, st, ?_⟩
  unfold sRaise at q
  unfold mCons mNil
  cases hm : m r with
  | bad => rw [hm] at q; exact q
  | ex n v => rw [hm] at q; exact q.of_no
  | ok d r1 =>
    simp only [hm] at q
    simp only [Rs.bind]
    intro xs M1 H1 f1 fd st1 ts p1 fr1
    cases ts with
    | cons t1 t2 dj =>
      cases t2
      rename_i x fd1
      refine ⟨by simp, fun a ha => ⟨a, C, x, rfl, hs, upd_same, fun dx hdx hne => ⟨rfl, dx, _, upd_same, (upd_ne hne).trans upd_same, ?_, ?_⟩⟩⟩
      · rw [upd_ne hne] at hdx; exact hdx
      rw [upd_ne hne] at hdx
      cases d with
      | l ds => exact q.elim
      | v d =>
        by_cases hb : okB S (.v d) = true
        · simp only [if_pos hb] at q
          have ro := bound st1 t1 hb
          have e : ∀ b, upd (del (upd (upd (upd H1 a (exo a C none)) dx (exd dx [("value", x)])) a (exo a C (some dx))) a) dx (.xd [("value", x)]) b = upd H1 dx (.xd [("value", x)]) b := fun b => by
            by_cases h1 : b = dx
            · rw [h1, upd_same, upd_same]
            · rw [upd_ne h1, upd_ne h1]
              by_cases h2 : b = a
              · rw [h2, del_same, ha]
              · rw [del_ne h2, upd_ne h2, upd_ne h1, upd_ne h2]
          generalize hH : upd (del (upd (upd (upd H1 a (exo a C none)) dx (exd dx [("value", x)])) a (exo a C (some dx))) a) dx (.xd [("value", x)]) = H' at e ⊢
          have hM1 : M1 dx = none := by
            cases e1 : M1 dx with
            | none => rfl
            | some o => rw [st1.sub _ _ e1] at hdx; cases hdx
          have le1 : Le M1 (upd M1 dx (.xd [("value", x)])) := fun b o h => by
            rw [upd_ne (fun z => by rw [z, hM1] at h; cases h)]; exact h
          have kH : ∀ b o, H1 b = some o → H' b = some o := fun b o h => by
            rw [e, upd_ne (fun z => by rw [z, hdx] at h; cases h)]; exact h
          refine q (upd M1 dx (.xd [("value", x)])) H' (.ref C) (some dx) ⟨p1.mono.trans le1, fun b o h => ?_, fun b o h n t => kH b o (p1.keep b o h (fun i _ => n i rfl) t), fun b h => ?_, fun b o h => ?_, ?_⟩ ⟨C, dx, x, hn, rfl, rfl, upd_same, ?_⟩
          · by_cases h1 : b = dx
            · rw [h1, upd_same] at h
              rw [e, h1, upd_same]; exact h
            · rw [upd_ne h1] at h
              exact kH b o (st1.sub b o h)
          · rw [e] at h
            by_cases h1 : b = dx
            · rw [h1, upd_same] at h; cases h
            · rw [upd_ne h1] at h; exact p1.dom b h
          · by_cases h1 : b = dx
            · exact .inr (.inl (p1.dom b (by rw [h1]; exact hdx)))
            · rw [upd_ne h1] at h
              rcases p1.newM b o h with h | h
              · exact .inl h
              · exact .inr (.inl h)
          · refine tabs_new st1.tab fun b hb => ?_
            cases e1 : H1 b with
            | none => exact absurd e1 hb
            | some o => exact kH b o e1
          · cases ro with
            | v ro => exact ro.mono le1
        · simp only [if_neg hb] at q
theorem ds_raise {n : PySem.Str} {e : Expr} {m : Mo Own} {p pos pos' : Pos} (c : Cxt g E k X) (R : RaF g n) (hk : 2 ≤ k) (he : PE X e (tD g E S m)) (hg : Gl X n := by rfl) (hdb : (n == ("__debug__" : PySem.Str)) = false := by decide)
    (hs : starEach [e] X.env = (false, eval e X.env) :: starEach [] X.env := by rfl) (hpl : (backTo pos (starEach [] X.env)).any (·.1) = false := by rfl) : PS X (.Raise (some (.Call (.Name n p) [e] [] pos)) none pos') (tS g E pn (sRaise S n m)) := by
  obtain ⟨C, D, fI, st, fd, hn, hsub, F, Fs, hfi, hty, hbd⟩ := R.ex
  have F1 : FnOk X.prog X.w X.K X.mg X.base CX0 1 fI fd ["self", "value"] (spIni X.K D) := ini_ok (k := 0) (by rw [c.prog, c.K]; exact F) Fs
  have mk : PMk X (.Call (.Name n p) [e] [] pos) (tMkO C (spIni X.K D) [] (tA g E S (mCons m mNil))) :=
    pmk_oex (ds := []) (dvs := []) (by rw [c.K]; exact hsub.oex) (by rw [c.K]; exact hfi) (by rw [c.K]; exact hty) F1 (c.room.mono hk) (by rw [c.K]; exact hbd) .nil (fun pins σ H s e s' I h => h.elim) hg (by rw [c.mg]; exact hn) (da_cons he da_nil hs) hdb hs hpl
  refine PS.imp (ps_raise c.calm c.takes mk) fun D0 s H q => ?_
  have h := imp_raise hn hsub q
  rw [← c.K] at h
  exact h
end
end KS
set_option Elab.async false
set_option linter.all false
set_option maxRecDepth 100000
set_option maxHeartbeats 4000000
namespace L2
open PySem PySem.Spec PyProof.Rows
section
variable {X : Cx} {pins : List (Addr × Obj)} {σ : St} {H : Hp} {s : Shared}
/-- an exception that was caught is tracked from here on -/
theorem Inv.adopt (I : Inv X pins σ H s) (hex : X.ex = []) {a C dx : Addr} {oe : Obj} {vs : Array Value} (ha : s.heap.get? a = some oe) (hc : oe.cls = .ref C) (hd : oe.dict = some dx) (hf : oe.data = .fields vs) (na : H a = none)
    (n0 : X.s_0.heap.get? a = none) (nL : a ≠ X.env.locals) (np : ∀ p ∈ X.pn ++ pins, p.1 ≠ a) : Inv X pins σ (upd H a (KS.ExcO C dx a)) s := by
  have ne : ∀ {b : Addr} {o : HO}, H b = some o → b ≠ a := fun e z => by rw [z, na] at e; cases e
  refine ⟨I.ok, I.os, I.bare, ⟨I.base.keep, I.base.slot, fun b o e n hx => ?_, I.base.there, fun b xs e => ?_, fun b o u e => ?_, fun b ps e => ?_⟩, I.loc, I.cell, ?_, fun x c e => ?_, fun p hp => ?_, fun b o e => ?_, I.len⟩
  · rw [upd_ne (fun z => by rw [z, n0] at e; cases e)]; exact I.base.free b o e n hx
  · have := I.base.tups b xs e
    rw [upd_ne (ne this)]; exact this
  · have := I.base.frzs b o u e
    rw [upd_ne (ne this)]; exact this
  · obtain ⟨more, this⟩ := I.base.tbls b ps e
    exact ⟨more, by rw [upd_ne (ne this)]; exact this⟩
  · rw [upd_ne (Ne.symm nL)]; exact I.free
  · rw [upd_ne]
    · exact I.freeC x c e
    · rintro rfl
      obtain ⟨v, o, e1, e2⟩ := I.cell x c e
      rw [ha] at e1; cases e1
      rw [hf] at e2; cases e2
  · obtain ⟨h1, h2, h3, h4, h5⟩ := I.pin p hp
    exact ⟨h1, by rw [upd_ne (np p hp)]; exact h2, h3, h4, h5⟩
  · by_cases hb : b = a
    · rw [hb, upd_same] at e; cases e
      rw [hb]
      exact ⟨⟨oe, vs, ha, hc, hd, hf⟩, ⟨oe, ha⟩, fun h1 h2 ⟨o1, v1, q1, q2⟩ k => ⟨o1, v1, k _ q1, q2⟩⟩
    · rw [upd_ne hb] at e
      exact (I.hok b o e).stay (fun _ _ _ q => q) (fun c q => by rw [upd_ne (ne q)]; exact q) fun c xs q => by rw [upd_ne (ne q)]; exact q
end
section
variable {X : Cx} {x n y : Str} {c : Value} {i j : Nat} {body : List Stmt} {np pos pos' p1 p2 p3 : Pos} {tb : WX → TS} {Wout : WX}
/-- what is wished of an exception of the body, of which 'except x as n: y = n' takes all: slot i is n's, j is y's -/
def wAd (K : PySem.W.Frag) (c : Value) (i j : Nat) (D : Ends) : WX := fun cls d σ H =>
  PySem.W.exmOne K cls c = some true ∧ ∃ C dx, cls = .ref C ∧ d = some dx ∧ ∀ a, H a = none → D.nx (((σ.set i (some (.ref a))).set j (some (.ref a))).set i none) (upd H a (KS.ExcO C dx a))
theorem ps_try_ad (hs : X.stack = X.env :: X.outer) (hex : X.ex = []) (hf : X.env.frame = some X.env.locals) (hN : X.N.Nodup) (hi : X.N[i]? = some n) (hln : X.env.kindOf n = some .local) (hj : X.N[j]? = some y) (hlj : X.env.kindOf y = some .local) (hc : Names X x c)
    (hnd : (n == ("__debug__" : Str)) = false) (hncd : (n == ("__classdict__" : Str)) = false) (hsw : ∀ (a : Addr) (pn : List (Addr × Obj)), swapsWith (.Name n p2) (some (.Name y p1)) p3.line (X.suite a pn).env = pure false)
    (hb : ∀ (W : WX) (pn : List (Addr × Obj)) (xe : Value → Shared → Prop), Takes (X.tr pn xe) W → PassesOwn (model X.prog X.w) X.A X.env xe → PSs (X.tr pn xe) body (tb W)) :
    PS X (.Try body [.ExceptHandler (some (.Name x np)) (some n) [.Assign [.Name y p1] (.Name n p2) p3] pos'] [] [] pos) (fun D σ H => tb (wAd X.K c i j D) D σ H) := by
  refine ⟨fun pins s σ H D I h => ?_⟩
  have ok := I.ok
  have hfr : X.A.frames = some (X.env :: X.outer) := by rw [ok.frames, hs]
  have hloc : Loc X.env.scope n := .inl hln
  refine wpAny_Try_except ?_
  refine wpAny_mono ((hb (wAd X.K c i j D) (X.pn ++ pins) (fun e s₁ => wpAny (model X.prog X.w) X.A (noteFrame e X.env) (fun _ s₂ => wpAny (model X.prog X.w) X.A (setFlight e none) (fun _ s₃ =>
    wpAny (model X.prog X.w) X.A (handleBy e X.env [.ExceptHandler (some (.Name x np)) (some n) [.Assign [.Name y p1] (.Name n p2) p3] pos']) (SP X pins D) X.xe s₃) X.xe s₂) X.xe s₁) (fun u s' xx => ?_) PassesOwn.looking).run [] s σ H D (I.toTry _) h) (fun f s1 hsp => ?_) (fun e s1 he => he)
  · -- the catch
    obtain ⟨a, B, sI, pins', σ', H', cls, d, rfl, J', nb, up, sky, na, os, ag, hb1, C, dx, hcls, hd0, hyes⟩ := xx
    have J : Inv X pins σ' H' sI := J'.ofTry ok
    have sky' : Sky B (X.env :: X.outer) a (Zc cls d) X.env.locals s'.heap := by rw [← hs]; exact sky
    show wpAny (model X.prog X.w) X.A (noteFrame (.ref a) X.env) _ _ _
    refine Sky.land Zc.steady hfr hf sky' fun h3 fl3 up3 => ?_
    have J3 : Inv X pins σ' H' { s' with heap := h3 } := J.landed nb fl3.1 (up.trans up3) os ag
    obtain ⟨oe3, vs3, he3, hz3, hd3⟩ := fl3.there
    have notFr : ∀ {h : Heap} {o : Obj} {vs : Array Value}, h.FunFrames B (X.env :: X.outer) → h.get? a = some o → o.data = .fields vs → a ∉ frs (X.env :: X.outer) := fun {h o vs} ff e dd hm => by
      obtain ⟨_, o', e', hnf⟩ := ff.mem hm
      rw [e] at e'; cases e'
      exact hnf _ dd
    have nfr := notFr fl3.2.2.1 he3 hd3
    have nL : a ≠ X.env.locals := fun z => nfr (List.mem_filterMap.mpr ⟨X.env, List.mem_cons_self, by rw [hf, z]⟩)
    have nF : a ∉ X.fs := fun hm => by
      obtain ⟨e, he, q⟩ := List.mem_filterMap.mp hm
      exact nfr (List.mem_filterMap.mpr ⟨e, List.mem_cons_of_mem _ he, q⟩)
    have nI : sI.heap.get? a = none := by
      cases q : sI.heap.get? a with
      | none => rfl
      | some o =>
        have := nb a o q (by rw [hs]; exact nfr)
        rw [fl3.2.1] at this; cases this
    have n0 : X.s_0.heap.get? a = none := by
      cases q : X.s_0.heap.get? a with
      | none => rfl
      | some o =>
        obtain ⟨o', e'⟩ := J.base.there a o q (by rw [hex]; simp)
        rw [nI] at e'; cases e'
    have np' : ∀ p ∈ X.pn ++ pins, p.1 ≠ a := fun p hp z => by
      have := (J.pin p hp).1
      rw [z, nI] at this; cases this
    have S3 := J3.suite he3 hd3 na nL nF
    refine wpAny_handleBy_cons (codeAny_handlers_test ?_) (by intro q; cases q)
    have LT : PySem.W.Looks (model X.prog X.w) h3 (typeOf (.ref a)) cls := fun A Q E s k q => wpAny_typeOf_ref (k _ _ he3) (by rw [hz3.1]; exact q)
    have LM := PySem.W.exm_one (M := model X.prog X.w) (J3.kIn) LT hb1
    have test : ∀ {Q : Value → Shared → Prop} {E : Value → Shared → Prop}, Q c { s' with heap := h3 } → wpAny (model X.prog X.w) (X.A.mark (some (.ref a))) (eval (.Name x np) X.env) Q E { s' with heap := h3 } := fun {Q E} q => by
      obtain ⟨hg, hdbg, hm | ⟨hm, hv, hnn⟩⟩ := hc
      · exact ld_glob (X := X.suite a ((a, oe3) :: (X.pn ++ pins))) S3 hg hm q hdbg
      · exact ld_blt (X := X.suite a ((a, oe3) :: (X.pn ++ pins))) S3 hg hm hv q hnn hdbg
    refine test (LM.here ?_)
    refine codeAny_handlers_suite_as ?_
    refine HandSPX.lands_againZ fl3 fun h4 fl4 up4 => ?_
    have J4 : Inv X pins σ' H' { s' with heap := h4 } := J.landed nb fl4.1 ((up.trans up3).trans up4) os ag
    obtain ⟨oe4, vs4, he4, hz4, hd4⟩ := fl4.there
    have S4 := J4.suite he4 hd4 na nL nF
    refine store_ok (X := X.suite a ((a, oe4) :: (X.pn ++ pins))) (v := .ref a) S4 hN hi hloc rfl (fun s5 S5 => ?_) (.inr hln)
    have hlt : i < σ'.length := by rw [J.len]; exact (List.getElem?_eq_some_iff.mp hi).1
    have hsu : PSs (X.suite a ((a, oe4) :: (X.pn ++ pins))) [.Assign [.Name y p1] (.Name n p2) p3] _ := pss_one (ps_set (i := j) hN hj (.inl hlj) (pe_var (X := X.suite a ((a, oe4) :: (X.pn ++ pins))) hi (.inl hln) hnd hncd) (hsw _ _) (.inr hlj))
    refine wpAny_mono (hsu.run [] s5 _ H' { nx := fun σ6 H6 => σ6 = (σ'.set i (some (.ref a))).set j (some (.ref a)) ∧ H6 = H', rt := fun _ _ => False } S5 ⟨.ref a, List.getElem?_set_self hlt, rfl, rfl⟩) (fun f s6 hsp => ?_) (fun _ _ z => False.elim z)
    cases f with
    | next =>
      obtain ⟨σ6, H6, S6, rfl, rfl⟩ := hsp
      have J6 : Inv X pins _ H6 s6 := S6.unsuite ok
      obtain ⟨p6, _⟩ := S6.pin (a, oe4) (by simp)
      have hz : oe4.cls = cls ∧ oe4.dict = d := hz4
      have A6 := J6.adopt hex p6 (hz.1.trans hcls) (hz.2.trans hd0) hd4 na n0 nL np'
      exact gone_ok A6 hN hi hln fun s7 J7 => ⟨_, _, J7, hyes a na⟩
    | brk =>
      obtain ⟨_, _, _, q⟩ := hsp
      exact q.elim
    | cont =>
      obtain ⟨_, _, _, q⟩ := hsp
      exact q.elim
    | ret u =>
      obtain ⟨_, _, _, _, _, q⟩ := hsp
      exact q.elim
  · cases f with
    | next =>
      obtain ⟨σ', H', J', q⟩ := hsp
      exact wpAny_execs_nil ⟨σ', H', J'.ofTry ok, q⟩
    | brk =>
      obtain ⟨σ', H', J', q⟩ := hsp
      exact ⟨σ', H', J'.ofTry ok, q⟩
    | cont =>
      obtain ⟨σ', H', J', q⟩ := hsp
      exact ⟨σ', H', J'.ofTry ok, q⟩
    | ret u =>
      obtain ⟨v, σ', H', J', r, q⟩ := hsp
      exact ⟨v, σ', H', J'.ofTry ok, r, q⟩
end
end L2
namespace KS
open PySem PySem.Spec PyProof.Rows L2
open LamX (Tabs TabS)
section
variable {g : G} {E : XK} {S : Vw} {k : Nat} {X : Cx} {pn : Option V}
/-- try: x = f() / except D as e: y = e; slots: x's, y's, f's, e's -/
def sHeard (LP : Nat → List Val → List Val → RP) (ok : PySem.Str → Bool) (ib ic ia ie : Nat) : Ms := fun r => match (r[ia]? : Option (Option Own)) with
  | some (some (.v (.lam n caps))) => match LP n caps [] with
    | .ok o => .nxt (r.set ib (some o))
    | .ex m v => if ok m = true ∧ ic < r.length then .nxt ((r.set ie none).set ic (some (.v (.exc m v)))) else .bad
    | .bad => .bad
  | _ => .bad
/-- what the text has for it: the classes that are D's kind -/
def HeF (g : G) (D : PySem.Str) (ok : PySem.Str → Bool) : Prop := ∃ Da, g.mg D = some (.ref Da) ∧ ∀ n C, ok n = true → g.mg n = some (.ref C) → PySem.W.exmOne g.K (.ref C) (.ref Da) = some true
/-- the caught one is bound -/
theorem Sta.heard {M H : Hp} {r : Ro} {s : L2.St} {f : Nat → List Addr} (st : Sta g M H r s f) {a C dx : Addr} {ic ie : Nat} {m : PySem.Str} {v : Val} {y : V} (ha : H a = none) (hie : ic ≠ ie) (hl : ic < r.length) (hn : g.mg m = some (.ref C)) (hd : M dx = some (.xd [(("value" : PySem.Str), y)])) (rv : Rep g M v y) :
    Sta g (upd M a (ExcO C dx a)) (upd H a (ExcO C dx a)) ((r.set ie none).set ic (some (.v (.exc m v)))) (((s.set ie (some (.ref a))).set ic (some (.ref a))).set ie none) (fun j => if j = ic ∨ j = ie then [] else f j) := by
  have hM : M a = none := by
    cases e : M a with
    | none => rfl
    | some o => rw [st.sub _ _ e] at ha; cases ha
  have le : Le M (upd M a (ExcO C dx a)) := fun b o h => by rw [upd_ne (fun z => by rw [z, hM] at h; cases h)]; exact h
  have kH : ∀ b o, H b = some o → upd H a (ExcO C dx a) b = some o := fun b o h => by rw [upd_ne (fun z => by rw [z, ha] at h; cases h)]; exact h
  refine ⟨fun b o h => ?_, fun i d h => ?_, fun i j b h1 h2 => ?_, fun i b h => ?_, fun i h => ?_, ?_, ?_, fun p hp => ?_⟩
  · by_cases hb : b = a
    · rw [hb, upd_same] at h ⊢; exact h
    · rw [upd_ne hb] at h; exact kH b o (st.sub b o h)
  · by_cases h1 : i = ic
    · subst h1
      rw [List.getElem?_set_self (by rw [List.length_set]; exact hl)] at h
      cases h
      refine ⟨.ref a, ?_, ?_⟩
      · rw [List.getElem?_set_ne (Ne.symm hie), List.getElem?_set_self (by rw [List.length_set, st.len]; exact hl)]
      · rw [if_pos (.inl rfl)]
        exact .v (.exc hn upd_same (le _ _ hd) (rv.mono le))
    · rw [List.getElem?_set_ne (Ne.symm h1)] at h
      by_cases h2 : i = ie
      · subst h2
        by_cases hi : i < r.length
        · rw [List.getElem?_set_self hi] at h; cases h
        · rw [List.getElem?_eq_none (by simpa using hi)] at h; cases h
      · rw [List.getElem?_set_ne (Ne.symm h2)] at h
        obtain ⟨x, q1, q2⟩ := st.env i d h
        refine ⟨x, by rw [List.getElem?_set_ne (Ne.symm h2), List.getElem?_set_ne (Ne.symm h1), List.getElem?_set_ne (Ne.symm h2)]; exact q1, ?_⟩
        rw [if_neg (by rintro (z | z); exact h1 z; exact h2 z)]
        exact q2.mono le fun b _ u hu => kH b u hu
  · split at h1
    · cases h1
    · split at h2
      · cases h2
      · exact st.dis i j b h1 h2
  · split at h
    · cases h
    · rw [upd_ne]
      · exact st.fre i b h
      · rintro rfl
        obtain ⟨xs, hx⟩ := st.live h
        rw [ha] at hx; cases hx
  · by_cases hj : i = ic ∨ i = ie
    · rw [if_pos hj]
    · rw [if_neg hj]
      refine st.out i fun d hd => h d ?_
      rw [List.getElem?_set_ne (fun z => hj (.inl z.symm)), List.getElem?_set_ne (fun z => hj (.inr z.symm))]
      exact hd
  · refine tabs_new st.tab fun b hb => ?_
    cases e1 : H b with
    | none => exact absurd e1 hb
    | some o => exact kH b o e1
  · simp [st.len]
  · obtain ⟨ps, e⟩ := tab_at st.tab hp
    rw [upd_ne (fun z => by rw [z, ha] at e; cases e)]
    exact st.nt p hp
end
end KS
set_option Elab.async false
set_option linter.all false
set_option maxRecDepth 100000
set_option maxHeartbeats 4000000
namespace KS
open PySem PySem.Spec PyProof.Rows L2
open LamX (Tabs TabS)
section
variable {g : G} {E : XK} {S : Vw} {k : Nat} {X : Cx} {pn : Option V}
/-- what is wished of x = f() under a try -/
def tHb (g : G) (LP : Nat → List Val → List Val → RP) (ia ib : Nat) (Wh : WX) : TS := fun D s H => ∃ r M f, Sta g M H r s f ∧ match (r[ia]? : Option (Option Own)) with
  | some (some (.v (.lam n caps))) => match LP n caps [] with
    | .ok o => ∀ z M' H' fz, Sta g M' H' r s f → RepO g M' H' o z fz → (∀ a ∈ fz, M' a = none ∧ ∀ i, a ∉ f i) → Step g Vw.no.fn M H r f M' H' r f → (∀ a ∈ fz, H a = none) → D.nx (s.set ib (some z)) H'
    | .ex m v => ∀ M' H' c dx, Sta g M' H' r s f → Step g Vw.no.fn M H r f M' H' r f → ExOk g M' m v c dx → Wh c dx s H'
    | .bad => False
  | _ => False
theorem pss_hb {LP : Nat → List Val → List Val → RP} {ia ib : Nat} {x y : PySem.Str} {j : Nat} {p p1 p2 p3 : Pos} (c : Cxt g E k X) (hLP : g.LP = LP) (hL : ∀ n, LamOk g j n) (hj : j ≤ k)
    (hN : X.N[ia]? = some x) (hv : Vis X.env.scope x) (hd : (x == ("__debug__" : PySem.Str)) = false) (hcd : (x == ("__classdict__" : PySem.Str)) = false) (hN2 : X.N[ib]? = some y) (hl2 : X.env.kindOf y = some .local)
    (hs : ∀ xe pn, swapsWith (.Call (.Name x p) [] [] p1) (some (.Name y p2)) p3.line (X.tr pn xe).env = pure false) (W : WX) (pn : List (Addr × Obj)) (xe : Value → Shared → Prop) (tk : Takes (X.tr pn xe) W) : PSs (X.tr pn xe) [.Assign [.Name y p2] (.Call (.Name x p) [] [] p1) p3] (tHb g LP ia ib W) := by
  refine pss_one ⟨fun pins s σ H D I h => ?_⟩
  obtain ⟨r, M, f, st, h⟩ := h
  cases er : (r[ia]? : Option (Option Own)) with
  | none => simp only [er] at h
  | some o =>
    cases o with
    | none => simp only [er] at h
    | some o =>
      obtain ⟨vx, hx, ro⟩ := st.env ia o er
      generalize f ia = fi at ro
      cases ro with
      | l _ _ => simp only [er] at h
      | v rp =>
        cases rp with
        | lam hlam hcaps =>
          rename_i a n caps xs
          simp only [er] at h
          obtain ⟨c', clo, pm, ctv, hf, hrest⟩ := id hlam
          refine wpAny_Assign_Name (Q := fun f s' => SP (X.tr pn xe) pins D f s') ?_ (hs xe pn)
          refine wpAny_Call_Name_kw (thn ((pe_var (X := X.tr pn xe) (pos := p) hN hv hd hcd).run pins s σ H (fun v H1 => v = .ref a ∧ H1 = H) I ⟨.ref a, hx, rfl, rfl⟩) fun u s1 ⟨v, H1, I1, r1, q1⟩ => ?_)
          obtain ⟨rfl, rfl⟩ := q1
          obtain rfl : u = Value.ref a := r1
          have fnAt : PySem.W.FnAt a s1.heap := by
            obtain ⟨e1, _⟩ := I1.hok a _ (st.sub _ _ hf)
            exact ⟨_, _, _, _, e1⟩
          refine PySem.W.callWith_F0 fnAt ?_
          have e0 : Env0 g.P g.w g.K g.mg g.base X.A X.stack s1 H1 := by
            have := I1.env0
            have e1 := c.prog
            have e2 := c.w
            have e3 := c.K
            have e4 := c.mg
            have e5 := c.base
            show Env0 g.P g.w g.K g.mg g.base X.A X.stack s1 H1
            rw [← e1, ← e2, ← e3, ← e4, ← e5]
            exact this
          have key : codeAny (model X.prog X.w) X.A (.call (.ref a) ⟨[], []⟩) (CR (L2.CX X.prog X.w) X.stack X.prog X.w H1 s1 (fun z H' => D.nx (σ.set ib (some z)) H') (fun cls d H' => W cls d σ H')) s1 := by
            rw [c.prog, c.w]
            refine hL n X.A X.stack s1 H1 [] [] _ (fun cls d H' => W cls d σ H') a caps [] _ c.grd (c.room.mono hj) e0 st.view_sub (st.view_tab (S := Vw.no.fn) (fd := []) fun b hb => by cases hb) (Rep.mono st.view_le (.lam hlam hcaps)) .nil .nil ?_
            rw [hLP]
            cases hp : LP n caps [] with
            | bad => rw [hp] at h; exact h
            | ex m v =>
              simp only [hp] at h
              intro M' H' c0 dx nw hx
              obtain ⟨M2, st2, p2, l1, l2, l3, l4, l6, l5⟩ := land0 st (Step.refl (S := Vw.no.fn)) (fun a ha => by cases ha) (fun a ha => by cases ha) nw
              exact h M2 H' c0 dx st2 p2 (hx.land l3 l4 (by unfold exB; simp))
            | ok o =>
              simp only [hp] at h
              intro z M' H' fz nw ro hz
              obtain ⟨M2, st2, p2, l1, l2, l3, l4, _, l5⟩ := land0 st (Step.refl (S := Vw.no.fn)) (fun a ha => by cases ha) (fun a ha => by cases ha) nw
              refine h z M2 H' fz st2 (ro.mono (l4 fun _ => rfl) fun _ _ _ q => q) (fun a ha => ⟨l5 a (hz a ha).2, fun i hi => ?_⟩) p2 fun a ha => (hz a ha).1
              obtain ⟨us, hu⟩ := st.live hi
              rw [(hz a ha).1] at hu; cases hu
          have key2 : wpAny (model X.prog X.w) X.A (call (.ref a) ([] ++ []) []) (EP (X.tr pn xe) pins σ fun z H' => D.nx (σ.set ib (some z)) H') xe s1 := by
            refine wpAny_call (codeAny_mono key fun r s' hq => ?_)
            cases r with
            | error e => exact tk _ _ (XE.of_call (X := X.tr pn xe) I1 (fun cls d H' z => z) hq)
            | ok fl => cases fl with
              | ret u => exact I1.after hq
              | next => exact hq
              | brk => exact hq
              | cont => exact hq
          refine thn key2 fun u s2 ⟨z, H2, I2, rz, q2⟩ => ?_
          exact store_ok I2 c.nd hN2 (.inl hl2) rz (fun s3 I3 => ⟨_, H2, I3, q2⟩) (.inr hl2)
        | _ => simp only [er] at h
theorem ds_heard {LP : Nat → List Val → List Val → RP} {ok : PySem.Str → Bool} {D : PySem.Str} {xa xb xc xe : PySem.Str} {j : Nat} {p p1 p2 p3 q1 q2 q3 np pos' pos : Pos} (ia ib ic ie : Nat) (c : Cxt g E k X) (Hf : HeF g D ok) (hLP : g.LP = LP) (hL : ∀ n, LamOk g j n) (hj : j ≤ k)
    (hst : X.stack = X.env :: X.outer := by rfl) (hex : X.ex = [] := by rfl) (hfr : X.env.frame = some X.env.locals := by rfl)
    (hN : X.N[ia]? = some xa := by rfl) (hv : Vis X.env.scope xa := by first | exact Or.inl rfl | exact Or.inr (Or.inl rfl) | exact Or.inr (Or.inr rfl)) (hd : (xa == ("__debug__" : PySem.Str)) = false := by decide) (hcd : (xa == ("__classdict__" : PySem.Str)) = false := by decide)
    (hN2 : X.N[ib]? = some xb := by rfl) (hl2 : X.env.kindOf xb = some .local := by rfl) (hN3 : X.N[ic]? = some xc := by rfl) (hl3 : X.env.kindOf xc = some .local := by rfl) (hN4 : X.N[ie]? = some xe := by rfl) (hl4 : X.env.kindOf xe = some .local := by rfl)
    (hd4 : (xe == ("__debug__" : PySem.Str)) = false := by decide) (hcd4 : (xe == ("__classdict__" : PySem.Str)) = false := by decide) (hg : Gl X D := by rfl) (hgd : (D == ("__debug__" : PySem.Str)) = false := by decide)
    (hs : ∀ xe pn, swapsWith (.Call (.Name xa p) [] [] p1) (some (.Name xb p2)) p3.line (X.tr pn xe).env = pure false := by intro _ _; rfl)
    (hsw : ∀ (a : Addr) (pn : List (Addr × Obj)), swapsWith (.Name xe q2) (some (.Name xc q1)) q3.line (X.suite a pn).env = pure false := by intro _ _; rfl)
    (hne : ic ≠ ie := by decide) (h0 : pn = none ∨ (ib ≠ 0 ∧ ic ≠ 0 ∧ ie ≠ 0) := by first | exact .inl rfl | exact .inr (by decide)) :
    PS X (.Try [.Assign [.Name xb p2] (.Call (.Name xa p) [] [] p1) p3] [.ExceptHandler (some (.Name D np)) (some xe) [.Assign [.Name xc q1] (.Name xe q2) q3] pos'] [] [] pos) (tS g E pn (sHeard LP ok ib ic ia ie)) := by
  obtain ⟨Da, hDa, hok⟩ := Hf
  refine PS.imp (ps_try_ad (c := .ref Da) (i := ie) (j := ic) hst hex hfr c.nd hN4 hl4 hN3 hl3 ⟨hg, hgd, .inl (by rw [c.mg]; exact hDa)⟩ hd4 hcd4 hsw fun W pn' xe' tk _ => pss_hb c hLP hL hj hN hv hd hcd hN2 hl2 hs W pn' xe' tk) fun D0 s H q => ?_
  obtain ⟨r, M, f, st, pin, q⟩ := q
  refine ⟨r, M, f, st, ?_⟩
  unfold sHeard at q
  cases er : (r[ia]? : Option (Option Own)) with
  | none => simp only [er] at q
  | some o =>
    cases o with
    | none => simp only [er] at q
    | some o =>
      cases o with
      | l ds => simp only [er] at q
      | v d =>
        cases d with
        | lam n caps =>
          simp only [er] at q ⊢
          cases hp : LP n caps [] with
          | bad => simp only [hp] at q
          | ok o =>
            simp only [hp] at q ⊢
            intro z M' H' fz st' ro hz p fr
            refine q _ M' H' _ (st'.put ro hz ib) ?_ ?_
            · exact pin.set (h0.symm.imp (fun z => z.1) id)
            · exact put_step p fr
          | ex m v =>
            simp only [hp] at q ⊢
            by_cases hm : ok m = true ∧ ic < r.length
            · simp only [if_pos hm] at q
              intro M' H' c0 dx st' p hx
              obtain ⟨C, dx', y, h1, h2, h3, h4, h5⟩ := hx
              subst h2 h3
              refine ⟨by rw [c.K]; exact hok m C hm.1 h1, C, dx', rfl, rfl, fun a ha => ?_⟩
              refine q _ _ _ _ (st'.heard ha hne hm.2 h1 h4 h5) ?_ ?_
              · intro v0 hv0
                have hz : ie ≠ 0 ∧ ic ≠ 0 := by
                  rcases h0 with z | z
                  · rw [z] at hv0; cases hv0
                  · exact ⟨z.2.2, z.2.1⟩
                rw [List.getElem?_set_ne hz.1, List.getElem?_set_ne hz.2, List.getElem?_set_ne hz.1]
                exact pin v0 hv0
              · have hM : M' a = none := by
                  cases e : M' a with
                  | none => rfl
                  | some o => rw [st'.sub _ _ e] at ha; cases ha
                refine ⟨fun b o h => ?_, fun b o h n t => ?_, fun b h => ?_, fun b o h => ?_, fun i b h => ?_⟩
                · have := p.mono b o h
                  rw [upd_ne (fun z => by rw [z, hM] at this; cases this)]; exact this
                · have := p.keep b o h (fun i _ => n i) t
                  rw [upd_ne (fun z => by rw [z, ha] at this; cases this)]; exact this
                · by_cases hb : b = a
                  · rw [hb, upd_same] at h; cases h
                  · rw [upd_ne hb] at h; exact p.dom b h
                · by_cases hb : b = a
                  · exact .inr (.inl (p.dom b (by rw [hb]; exact ha)))
                  · rw [upd_ne hb] at h
                    rcases p.newM b o h with h | h
                    · exact .inl h
                    · exact .inr (.inl h)
                · split at h
                  · cases h
                  · exact .inl ⟨i, h⟩
            · simp only [if_neg hm] at q
        | _ => simp only [er] at q
end
end KS
set_option Elab.async false
set_option linter.all false
set_option maxRecDepth 100000
set_option maxHeartbeats 4000000
namespace PySem.W
open PySem PySem.Spec PySem.Calls PyProof.Rows
section
variable {prog : Program} {w : World} {A : Around} {E : Value → Shared → Prop} {s : Shared} {K : Frag} {x D : Addr} {ox : Obj} {od : Option Obj}
theorem findObj_dataD {C : Addr} {name : Str} {a g : Value} (hc : (clsIn K C).isSome = true) (ha : findIn K (.ref C) name = some (some a)) (hg : specialIn K a "__get__" = some (some g)) (ht : takesIn K a = some true) : findObj K C od name = some (.bind g a) := by
  obtain ⟨cd, hc⟩ := Option.isSome_iff_exists.mp hc
  unfold findObj
  rw [hc, Option.bind_some, ha, Option.bind_some]
  simp [hg, ht]
theorem kin_classD {Q : Option Value → Shared → Prop} (hga : findIn K (.ref D) "__getattribute__" = some (some (.builtin "BaseException.__getattribute__"))) (hgt : findIn K (.ref D) "__getattr__" = some none) (hsub : subIn K (.ref D) (.type "BaseException") = some true)
    (hdct : hasDictIn K D = true) (ha : findIn K (.ref D) "__class__" = some (some (.builtin "object.__class__")))
    (hn : specialIn K (.builtin "object.__class__") "__get__" = some (some (.builtin "getset_descriptor.__get__"))) (htk : takesIn K (.builtin "object.__class__") = some true) (hm : mroIn K D (.type "object") = some true)
    (X : K.In s.heap) (I : InstAt s.heap x ox D od) (h : Q (some (.ref D)) { s with toks := s.toks + 1 }) : wpAny (model prog w) A (getAttr? (.ref x) "__class__") Q E s := by
  have hf : findObj K D od "__class__" = some (.bind (.builtin "getset_descriptor.__get__") (.builtin "object.__class__")) := findObj_dataD (by obtain ⟨cd, hc, _⟩ := any_some hdct; rw [hc]; rfl) ha hn htk
  obtain ⟨hp, g, d, t, os⟩ := s
  have L0 := I.type (M := model prog w)
  have L1 := looks_findIn (M := model prog w) X hga
  have L2 := looks_findIn (M := model prog w) X hgt
  have L3 := looks_find (M := model prog w) X I hf
  have sub : Looks (model prog w) hp (isInstance (.ref x) (.type "BaseException")) true := L0.andThen (looks_subIn X hsub)
  have hx0 : (false && onTheHeap (Value.builtin "BaseException.__getattribute__")) = false := rfl
  have hx2 : (Value.builtin "BaseException.__getattribute__" == Value.builtin "object.__getattribute__") = false := by decide +kernel
  have hx1 : (onTheHeap (Value.ref D) && Value.builtin "BaseException.__getattribute__" == Value.builtin "object.__getattribute__") = false := by rw [hx2]; rfl
  unfold getAttr? getAttrBy? getAttrBy
  refine wpAny_bind (wpAny_mkText (wpAny_bind (wpAny_attempt (wpAny_holding (wpAny_bind (L0.at (wpAny_bind (L1.at ?_))))))))
  show wpAny _ _ (if (onTheHeap (Value.ref D) && Value.builtin "BaseException.__getattribute__" == Value.builtin "object.__getattribute__") = true then _ else _) _ _ _
  rw [hx1, if_neg Bool.false_ne_true]
  unfold getAttrByItsOwn hookBefore
  refine wpAny_bind ?_
  rw [if_pos (show onTheHeap (Value.ref D) = true from rfl)]
  refine L2.at ?_
  refine wpAny_bind (wpAny_attempt (wpAny_holding ?_))
  unfold callGetattribute
  rw [hx0, if_neg Bool.false_ne_true]
  unfold boundAndCalled
  rw [PySem.F.excAttr_ValueError.ga.bind (.ref x)]
  refine wpAny_bind (wpAny_pure ?_)
  show wpAny _ _ (call (.builtin "BaseException.__getattribute__") [.ref x, .str "__class__" t]) _ _ _
  refine wpAny_call (codeAny_call_builtin PySem.F.excAttr_ValueError.ga.plain PySem.F.entry_bexc_ga ?_)
  refine @check_slot (model prog w) _ _ ⟨hp, g, d, t + 1, os⟩ "BaseException.__getattribute__" "BaseException" "__getattribute__" (.ref x) [.str "__class__" t] [] _ (by decide +kernel) (by decide +kernel) sub (PySem.F.args_bexc_ga (.ref x) (.str "__class__" t)) ?_
  unfold Builtin.«object.__getattribute__»
  refine wpAny_bind (wpAny_of_eq (a := ((Value.ref x : Value), [Value.str "__class__" t])) (by first | rfl | (simp only [slotArgs]; rfl)) ?_)
  refine wpAny_bind (wpAny_pure (wpAny_bind (L0.at (wpAny_bind (L3.at ?_)))))
  show wpAny _ _ (holding [Value.builtin "object.__class__"] (call (.builtin "getset_descriptor.__get__") [.builtin "object.__class__", .ref x, .ref D]) >>= ret) _ _ _
  refine wpAny_bind (wpAny_holding (wpAny_call (class_get (s := ⟨hp, g, d, t + 1, os⟩) (ox := ox) (od := od) X I hm ?_)))
  refine wpAny_pure ?_
  show wpAny _ _ (handedOut (.ref D)) _ _ _
  rw [handedOut_of (v := .ref D) rfl]
  first
    | exact wpAny_pure (wpAny_pure h)
    | exact wpAny_pure h
    | exact wpAny_pure (wpAny_bind (wpAny_pure (wpAny_pure h)))
theorem kitx_excD (C : L2.ExcC K D) : KitX K (.ref x) (.ref D) (fun h => InstAt h x ox D od) where
  ty := fun _ _ _ I => I.type
  it := fun _ _ X _ => by
    obtain ⟨cdD, hcD, _⟩ := any_some C.hd
    unfold clsIn at hcD
    split at hcD
    · rename_i c' d' cd' sl' ho
      intro A' Q' E' s' k q
      unfold isType loadHead
      exact wpAny_bind (wpAny_loadPart (k _ _ (X _ _ ho)) (wpAny_pure q))
    · cases hcD
  ne := fun h tp dd its n sl X htp => by
    obtain ⟨cdD, hcD, _⟩ := any_some C.hd
    refine Bool.eq_false_iff.mpr fun q => ?_
    have e : D = tp := Value.ref.inj (beq_iff_eq.mp q)
    subst e
    unfold clsIn at hcD
    split at hcD
    · rename_i c' d' cd' sl' ho
      have z := (X _ _ ho).symm.trans htp
      cases z
    · cases hcD
  ca := fun X I k => kin_classD C.hg C.hk C.hs C.hd C.ha C.hn C.ht C.hm X I k
end
end PySem.W
namespace KS
open PySem PySem.Spec PyProof.Rows L2
open LamX (Tabs TabS)
section
variable {g : G} {E : XK} {S : Vw} {k : Nat} {X : Cx} {pn : Option V}
/-- the own exception classes: ok tells their names, sub n m: n is m or under it -/
structure ExF (g : G) (ok : PySem.Str → Bool) (sub : PySem.Str → PySem.Str → Bool) : Prop where
  xf : ∀ n C, ok n = true → g.mg n = some (.ref C) → XfC g.K C ∧ ExcC g.K C ∧ PySem.W.findIn g.K (.ref C) "value" = some none
  is : ∀ n C m C2, ok n = true → ok m = true → g.mg n = some (.ref C) → g.mg m = some (.ref C2) → PySem.W.kitOne g.K (.ref C) (.ref C2) = some (sub n m)
  no : ∀ m C2, ok m = true → g.mg m = some (.ref C2) → PySem.W.kitOne g.K (.type "NoneType") (.ref C2) = some false
  ve : ∀ n C, ok n = true → g.mg n = some (.ref C) → PySem.W.kitOne g.K (.ref C) (.type "ValueError") = some true
/-- the exception that lies at a -/
theorem exc_at {P : Program} {w : World} {H : Hp} {h : Heap} {a C dx : Addr} {fs : List (PySem.Str × V)} (hok : HOk P w H h) (ha : H a = some (ExcO C dx a)) (hd : H dx = some (.xd fs)) : ∃ (oe od : Obj) (mA : PySem.Str → Option Value), PySem.W.InstAt h a oe C (some od) ∧ ∀ n, RelO (fs.lookup n) (mA n) ∧ PySem.W.lookIn n od = some (mA n) := by
  obtain ⟨⟨oe, vs, h1, h2, h3, h4⟩, _⟩ := hok a _ ha
  have hx : ObjOk P w H h dx (.xd fs) := hok dx _ hd
  obtain ⟨mA, hns, hr⟩ := hx
  obtain ⟨od, ho, hl⟩ := lookIn_ns hns
  exact ⟨oe, od, mA, ⟨h1, h2, by unfold PySem.W.notCls; rw [h4] <;> rfl, by rw [h3]; exact ho⟩, fun n => ⟨hr n, hl n⟩⟩
def kValue (ok : PySem.Str → Bool) : List Val → Option Own
  | [.exc n v] => if ok n = true then some (.v v) else none
  | _ => none
def kIsC (ok : PySem.Str → Bool) (sub : PySem.Str → PySem.Str → Bool) : List Val → Option Own
  | [.exc n _, .cls m] => if ok n && ok m then some (.v (.bl (sub n m))) else none
  | [.non, .cls m] => if ok m then some (.v (.bl false)) else none
  | [.exc n _, .ty m] => if ok n && m == "ValueError" then some (.v (.bl true)) else none
  | ds => kIsi ds
/-- e.value -/
def rVal (K : PySem.W.Frag) : List V → Hp → VK → Prop := fun xs H Q => ∃ a C dx v, xs = [.ref a] ∧ H a = some (ExcO C dx a) ∧ H dx = some (.xd [(("value" : PySem.Str), v)]) ∧ XfC K C ∧ PySem.W.findIn K (.ref C) "value" = some none ∧ Q v H
theorem pure_val {ok : PySem.Str → Bool} {sub : PySem.Str → PySem.Str → Bool} (F : ExF g ok sub) : Pure g (rVal g.K) (kValue ok) := by
  refine Pure.val fun M H xs ds o le r e => ?_
  unfold kValue at e
  split at e
  all_goals first | (cases e; done) | skip
  split at e
  all_goals first | (cases e; done) | skip
  rename_i n v hn
  cases e
  obtain ⟨x, rfl, r1⟩ := repL1 r rfl
  cases r1 with
  | exc c1 h1 h2 r2 => exact ⟨_, _, rfl, r2, fun Q q => ⟨_, _, _, _, rfl, le _ _ h1, le _ _ h2, (F.xf _ _ hn c1).1, (F.xf _ _ hn c1).2.2, q⟩⟩
theorem pe_val {e : Expr} {te : TE} {pos : Pos} (he : PE X e te) (hb : attributeBase e "value" X.env (eval e X.env) = eval e X.env := by rfl) : PE X (.Attribute e "value" pos) (fun s H Q => te s H fun x H1 => rVal X.K [x] H1 Q) := by
  refine ⟨fun pins s σ H Q I h => ?_⟩
  refine attr_of hb (thn (he.run pins s σ H _ I h) fun u s1 hh => ?_)
  obtain ⟨x, H1, I1, rx, a, C, dx, v, ex, ha, hd, T, hno, q⟩ := hh
  cases ex
  obtain rfl : u = Value.ref a := rx
  obtain ⟨oe, od, mA, J, hr⟩ := exc_at I1.hok ha hd
  obtain ⟨u, hu, ru⟩ := RelO.some_of (v := v) (o := mA "value") (hr "value").1
  exact HandSPX.exc_get I1.kIn J T.ga T.gg T.exC (PySem.W.findObj_own T.hdC hno rfl (by rw [(hr "value").2, hu])) (handed_of ru) ⟨v, H1, I1.tok _, ru, q⟩
theorem dx_value {ok : PySem.Str → Bool} {sub : PySem.Str → PySem.Str → Bool} {e : Expr} {m : Mo Own} {pos : Pos} (c : Cxt g E k X) (F : ExF g ok sub) (he : PE X e (tD g E S m)) (hb : attributeBase e "value" X.env (eval e X.env) = eval e X.env := by rfl) :
    PE X (.Attribute e "value" pos) (tD g E S (mPure (kValue ok) (mCons m mNil))) :=
  PE.imp (pe_val he hb) fun s H Q q => by rw [c.K]; exact imp_one (imp_pure (pure_val F) q)
/-- isinstance of an exception that lies -/
def rIsX (K : PySem.W.Frag) : List V → Hp → VK → Prop := fun xs H Q => rIsi K xs H Q ∨ ∃ (a C dx : Addr) (fs : List (PySem.Str × V)) (y : V) (cv : Value) (b : Bool), xs = [.ref a, y] ∧ H a = some (ExcO C dx a) ∧ H dx = some (.xd fs) ∧ ExcC K C ∧ (∀ u, RelV y u → u = cv) ∧ PySem.W.kitOne K (.ref C) cv = some b ∧ Q (.bl b) H
theorem call_isX : CallR X (.builtin "isinstance") (rIsX X.K) := by
  intro pins s σ H xs us Q I r h
  rcases h with h | ⟨a, C, dx, fs, y, cv, b, rfl, ha, hd, T, hcv, e, q⟩
  · exact call_isi pins s σ H xs us Q I r h
  · cases r with
    | cons rx rr =>
      cases rr with
      | cons rt rr =>
        cases rr
        cases rx
        have ec := hcv _ rt
        subst ec
        obtain ⟨oe, od, _, J, _⟩ := exc_at I.hok ha hd
        exact PySem.W.kia_one (PySem.W.kitx_excD T) I.kIn J e (fun z => nomatch z) fun tk => ⟨.bl b, H, I.kept (t' := tk) fun _ _ z => z, rfl, q⟩
theorem pure_isX {ok : PySem.Str → Bool} {sub : PySem.Str → PySem.Str → Bool} (F : ExF g ok sub) : Pure g (rIsX g.K) (kIsC ok sub) := by
  intro M H xs ds o Q le tb r e q
  unfold kIsC at e
  split at e
  · rename_i n v m
    split at e
    all_goals first | (cases e; done) | skip
    rename_i hc
    rw [Bool.and_eq_true] at hc
    cases e
    obtain ⟨x, y, rfl, r1, r2⟩ := repL2 r rfl
    cases r2 with
    | cls c2 =>
      cases r1 with
      | exc c1 h1 h2 r3 => exact .inr ⟨_, _, _, _, _, _, _, rfl, le _ _ h1, le _ _ h2, (F.xf _ _ hc.1 c1).2.1, fun u hu => hu, F.is _ _ _ _ hc.1 hc.2 c1 c2, q _ M H [] (.refl le tb) (.v (.bl _)) (by simp)⟩
  · rename_i m
    split at e
    all_goals first | (cases e; done) | skip
    rename_i hc
    cases e
    obtain ⟨x, y, rfl, r1, r2⟩ := repL2 r rfl
    cases r2 with
    | cls c2 =>
      cases r1
      exact .inl ⟨_, _, _, _, _, rfl, .own _, .base .non, F.no _ _ hc c2, q _ M H [] (.refl le tb) (.v (.bl _)) (by simp)⟩
  · rename_i n v m
    split at e
    all_goals first | (cases e; done) | skip
    rename_i hc
    rw [Bool.and_eq_true] at hc
    obtain ⟨hc1, hc2⟩ := hc
    obtain rfl := eq_of_beq hc2
    cases e
    obtain ⟨x, y, rfl, r1, r2⟩ := repL2 r rfl
    cases r2 with
    | ty =>
      cases r1 with
      | exc c1 h1 h2 r3 => exact .inr ⟨_, _, _, _, _, _, _, rfl, le _ _ h1, le _ _ h2, (F.xf _ _ hc1 c1).2.1, fun u hu => hu, F.ve _ _ hc1 c1, q _ M H [] (.refl le tb) (.v (.bl _)) (by simp)⟩
  · exact .inl (pure_isi g.K M H xs _ o Q le tb r e q)
end
end KS
set_option Elab.async false
set_option linter.all false
set_option maxRecDepth 100000
set_option maxHeartbeats 4000000
namespace KS
open PySem PySem.Spec PyProof.Rows L2
open LamX (Tabs TabS)
/-! ### unlike ones -/
def ddup {α : Type} [DecidableEq α] : List α → List α
  | [] => []
  | x :: xs => if x ∈ xs then ddup xs else x :: ddup xs
theorem mem_ddup {α : Type} [DecidableEq α] {a : α} : ∀ {l : List α}, a ∈ ddup l ↔ a ∈ l
  | [] => Iff.rfl
  | x :: xs => by
    unfold ddup
    split
    · rename_i h
      rw [mem_ddup (l := xs), List.mem_cons]
      exact ⟨.inr, fun z => z.elim (fun e => e ▸ h) id⟩
    · rw [List.mem_cons, List.mem_cons, mem_ddup (l := xs)]
theorem nodup_ddup {α : Type} [DecidableEq α] : ∀ {l : List α}, (ddup l).Nodup
  | [] => List.nodup_nil
  | x :: xs => by
    unfold ddup
    split
    · exact nodup_ddup
    · rename_i h
      exact List.nodup_cons.mpr ⟨fun z => h (mem_ddup.mp z), nodup_ddup⟩
theorem ddup_len {α : Type} [DecidableEq α] {l m : List α} (hn : m.Nodup) (h : ∀ a, a ∈ m ↔ a ∈ l) : m.length = (ddup l).length :=
  ((List.perm_ext_iff_of_nodup hn nodup_ddup).mpr fun a => (h a).trans mem_ddup.symm).length_eq
theorem ddup_le {α : Type} [DecidableEq α] : ∀ (l : List α), (ddup l).length ≤ l.length
  | [] => Nat.le_refl _
  | x :: xs => by
    have := ddup_le xs
    unfold ddup
    split <;> simp <;> omega
theorem firstMet_nd (val : Nat → Int) : ∀ i, (firstMet val i).Nodup
  | 0 => by rw [firstMet_zero]; exact List.nodup_nil
  | i + 1 => by
    rw [firstMet_succ]
    unfold step_dedup
    split
    · exact firstMet_nd val i
    · rename_i h
      rw [List.nodup_append]
      refine ⟨firstMet_nd val i, by simp, fun a ha b hb e => h (List.any_eq_true.mpr ⟨a, ha, ?_⟩)⟩
      rw [List.mem_singleton] at hb
      rw [e, hb]; exact beq_self_eq_true _
theorem firstMet_len (ns : List Int) : (firstMet (fun i => ns.getD i 0) ns.length).length = (ddup ns).length := by
  refine ddup_len (firstMet_nd _ _) fun a => ?_
  have := firstMet_any (fun i => ns.getD i 0) ns.length a
  have e : (List.range ns.length).map (fun i => ns.getD i 0) = ns := by
    apply List.ext_getElem?
    intro i
    by_cases hi : i < ns.length
    · rw [List.getElem?_map, List.getElem?_range hi]; simp [hi]
    · rw [List.getElem?_eq_none (by simpa using hi), List.getElem?_eq_none (by simpa using hi)]
  rw [e] at this
  have m : ∀ (l : List Int), (l.any (· == a)) = true ↔ a ∈ l := fun l => by
    rw [List.any_eq_true]
    exact ⟨fun ⟨x, h, q⟩ => (eq_of_beq q) ▸ h, fun h => ⟨a, h, beq_self_eq_true _⟩⟩
  rw [← m, this, m]
section
variable {g : G} {E : XK} {S : Vw} {k : Nat} {X : Cx} {pn : Option V}
/-! ### set(ints), len of a set -/
def rSetI (K : PySem.W.Frag) : List V → Hp → VK → Prop := fun xs H Q => ∃ (l : Addr) (ns : List Int), xs = [V.ref l] ∧ (SqL K H l (ns.map V.int) ∨ SqT K H l (ns.map V.int)) ∧ ns.length < 4000 ∧
  ∀ a S, H a = none → Q (.ref a) (upd H a (.set S (ddup ns).length))
theorem cr_setI (hc : X.calm = true) : CallR X (.type "set") (rSetI X.K) := by
  intro pins s σ H xs us Q I r h
  obtain ⟨l, ns, rfl, hl, hn, q⟩ := h
  rw [Vals.ref1 r]
  have hf : H s.heap.objs.size = none := I.hok.fresh (Nat.le_refl _)
  rcases hl with hl | hl
  · obtain ⟨its, rv, pl, hz⟩ := I.list hl
    have hle : its.toArray.size = ns.length := by rw [List.size_toArray, ← rv.length, List.length_map]
    refine call_set_list (I.ok.hd hc) pl.isList (ns := ns) (by simpa using rv.ints) (by unfold scanBound; omega) fun h' tk hS hk => ?_
    rw [hle, firstMet_len] at hS
    exact ⟨.ref s.heap.objs.size, _, I.laid (t' := tk) (o := .set _ _) (fun b u e => hk b u (Heap.lt_size e) e) (Nat.le_refl _) hS, rfl, q _ _ hf⟩
  · obtain ⟨its, rv, pl, hz⟩ := I.tuple hl
    refine call_set_tupI (w := X.w) ns (I.ok.hd hc) pl (by simpa using rv.ints) (by unfold scanBound; omega) fun h' tk c R hle hk => ?_
    have hS := R.setOf (P := X.prog)
    obtain ⟨o, es, ep, t, ho, hex, hd, hg, hnd, hm, hb, hft, hcn, _⟩ := R
    have e : c = (ddup ns).length := by
      rw [← hcn, ← Array.length_toList, ← List.length_map keyOf]
      refine ddup_len hnd fun a => ?_
      rw [← hm a]; simp
    rw [e] at hS
    exact ⟨.ref s.heap.objs.size, _, I.laid (t' := tk) (o := .set _ _) hk (Nat.le_refl _) hS, rfl, q _ _ hf⟩
def rLenS : List V → Hp → VK → Prop := fun xs H Q => ∃ a S n, xs = [V.ref a] ∧ H a = some (.set S n) ∧ n < 4000 ∧ Q (.int (n : Nat)) H
theorem call_lenS : CallR X (.builtin "len") rLenS := by
  intro pins s σ H xs us Q I r h
  obtain ⟨a, S, n, rfl, ha, hn, q⟩ := h
  rw [Vals.ref1 r]
  obtain ⟨o, es, ep, t, ho, hex, hd, _, _, _, hft, hcn⟩ := (show s.heap.SetOf (intKind X.prog X.w) a S n from I.hok a _ ha)
  refine call_len_set ho hex hd hft (by rw [hcn]; omega) ⟨.int n, H, I.tok _, ⟨_, by rw [hcn]⟩, q⟩
def kLenSet : List Val → Option Own
  | [.lst ds] => (valInts ds).bind fun ns => if ns.length < 4000 then some (.v (.int (ddup ns).length)) else none
  | [.tup ds] => (valInts ds).bind fun ns => if ns.length < 4000 then some (.v (.int (ddup ns).length)) else none
  | _ => none
theorem new_set {M H : Hp} {a : Addr} {o : HO} (le : Le M H) (tb : Tabs g.T H) (ha : H a = none) : New g M H M (upd H a o) :=
  have kk : ∀ b u, H b = some u → upd H a o b = some u := fun b u h => by rw [upd_ne (fun z => by rw [z, ha] at h; cases h)]; exact h
  ⟨Le.refl M, fun b u h => kk b u (le b u h), fun b u h _ => kk b u h, fun b h => by
    by_cases hb : b = a
    · rw [hb]; exact ha
    · rw [upd_ne hb] at h; exact h, fun b u h => .inl h, tb.ext kk⟩
theorem pure_lenSet (K : PySem.W.Frag) : Pure g (fun xs H Q => rSetI K xs H fun y H1 => rLenS [y] H1 Q) kLenSet := by
  intro M H xs ds o Q le tb r e q
  unfold kLenSet at e
  split at e
  all_goals first | (cases e; done) | skip
  all_goals
    rename_i es
    obtain ⟨x, rfl, r1⟩ := repL1 r rfl
    cases q2 : valInts es with
    | none => rw [q2] at e; cases e
    | some ns =>
      rw [q2] at e
      have e : (if ns.length < 4000 then some (Own.v (.int (ddup ns).length)) else none) = some o := e
      split at e
      all_goals first | (cases e; done) | skip
      rename_i hlt
      cases e
      obtain rfl := valInts_eq q2
      first
        | (obtain ⟨a, vs, rfl, h1, t1⟩ := r1.lstE
           have := t1.ints
           subst this
           exact ⟨a, ns, rfl, .inl (.of (le _ _ h1)), hlt, fun b S hb => ⟨b, S, _, rfl, upd_same, Nat.lt_of_le_of_lt (ddup_le ns) hlt, q _ M _ [] (new_set le tb hb) (.v (.int _)) (by simp)⟩⟩)
        | (obtain ⟨a, vs, rfl, h1, t1⟩ := r1.tupE
           have := t1.ints
           subst this
           exact ⟨a, ns, rfl, .inr (.of (le _ _ h1)), hlt, fun b S hb => ⟨b, S, _, rfl, upd_same, Nat.lt_of_le_of_lt (ddup_le ns) hlt, q _ M _ [] (new_set le tb hb) (.v (.int _)) (by simp)⟩⟩)
/-- f(T(es)) -/
theorem dx_two {x y : PySem.Str} {id T : String} {r r2 : List V → Hp → VK → Prop} {kk : List Val → Option Own} {e : Expr} {es : List Expr} {ms : Mo (List Own)} {p pos p2 pos2 : Pos} (c : Cxt g E k X) (hc : CallR X (.type T) r) (hc2 : CallR X (.builtin id) r2) (hk : Pure g (fun xs H Q => r xs H fun y H1 => r2 [y] H1 Q) kk)
    (hm : g.mg x = none) (hv : bootBuiltins x = some (.type T)) (hm2 : g.mg y = none) (hv2 : bootBuiltins y = some (.builtin id)) (ha : PA X (e :: es) (tA g E S ms)) (hg : Gl X x := by rfl) (hg2 : Gl X y := by rfl)
    (hn : x ≠ "__name__" := by decide) (hdb : (x == ("__debug__" : PySem.Str)) = false := by decide) (hn2 : y ≠ "__name__" := by decide) (hdb2 : (y == ("__debug__" : PySem.Str)) = false := by decide) (he : starEach (e :: es) X.env = (false, eval e X.env) :: starEach es X.env := by rfl) (hpl : (backTo pos (starEach es X.env)).any (·.1) = false := by rfl)
    (he2 : starEach [Expr.Call (.Name x p) (e :: es) [] pos] X.env = (false, eval (.Call (.Name x p) (e :: es) [] pos) X.env) :: starEach [] X.env := by rfl) (hpl2 : (backTo pos2 (starEach [] X.env)).any (·.1) = false := by rfl) :
    PE X (.Call (.Name y p2) [.Call (.Name x p) (e :: es) [] pos] [] pos2) (tD g E S (mPure kk ms)) :=
  PE.imp (pe_callB hc2 hg2 (by rw [c.mg]; exact hm2) hv2 (pa_cons (pe_callTy hc hg (by rw [c.mg]; exact hm) hv ha hn hdb he hpl) pa_nil) hn2 hdb2 he2 hpl2) fun s H Q q => imp_pure (t := fun xs H Q => r xs H fun y H1 => r2 [y] H1 Q) hk q
end
end KS
set_option Elab.async false
set_option linter.all false
set_option maxRecDepth 100000
set_option maxHeartbeats 4000000
namespace KS
open PySem PySem.Spec PyProof.Rows L2
open LamX (Tabs TabS)
/-! ### sorted(set(rows)) -/
def rowsOfV : List Val → Option (List (List Int))
  | [] => some []
  | .tup xs :: ds => (valInts xs).bind fun r => (rowsOfV ds).map (r :: ·)
  | _ => none
def rowV (r : List Int) : Val := .tup (r.map Val.int)
theorem rowsOfV_map : ∀ (rs : List (List Int)), rowsOfV (rs.map rowV) = some rs
  | [] => rfl
  | r :: rs => by
    show (valInts (r.map Val.int)).bind _ = _
    rw [valInts_map, Option.bind_some, rowsOfV_map rs]; rfl
theorem rowsOfV_eq : ∀ {ds : List Val} {rs : List (List Int)}, rowsOfV ds = some rs → ds = rs.map rowV
  | [], rs, h => by simp [rowsOfV] at h; subst h; rfl
  | d :: ds, rs, h => by
    cases d <;> simp only [rowsOfV] at h <;> try cases h
    rename_i xs
    cases e1 : valInts xs with
    | none => rw [e1] at h; cases h
    | some r =>
      rw [e1, Option.bind_some] at h
      cases e2 : rowsOfV ds with
      | none => rw [e2] at h; cases h
      | some rs2 =>
        rw [e2] at h; cases h
        rw [valInts_eq e1, rowsOfV_eq e2]; rfl
def topOf (rs : List (List Int)) : Int := rs.flatten.foldl max 0 + 1
theorem foldl_max_le : ∀ (l : List Int) (a : Int), a ≤ l.foldl max a ∧ ∀ x ∈ l, x ≤ l.foldl max a
  | [], a => ⟨Int.le_refl a, by simp⟩
  | y :: l, a => by
    obtain ⟨h1, h2⟩ := foldl_max_le l (max a y)
    refine ⟨Int.le_trans (Int.le_max_left a y) h1, fun x hx => ?_⟩
    rcases List.mem_cons.mp hx with e | hx
    · rw [e]; exact Int.le_trans (Int.le_max_right a y) h1
    · exact h2 x hx
def okRows (rs : List (List Int)) : Bool := decide (rs.length < 64) && (rs.all fun r => decide (r.length = (rs.headD [0]).length) && decide (1 ≤ r.length) && r.all fun m => decide (0 ≤ m))
def sortT (rs : List (List Int)) : List (List Int) := (ddup rs).mergeSort fun a b => decide (TS.code (topOf rs) a ≤ TS.code (topOf rs) b)
def kSortSet : List Val → Option Own
  | [.lst ds] => (rowsOfV ds).bind fun rs => if okRows rs = true then some (.l ((sortT rs).map rowV)) else none
  | _ => none
theorem okRows_d {rs : List (List Int)} (h : okRows rs = true) : rs.length < 64 ∧ ∃ d, 1 ≤ d ∧ ∀ r ∈ rs, r.length = d ∧ TS.Bd (topOf rs) r := by
  unfold okRows at h
  rw [Bool.and_eq_true] at h
  obtain ⟨h1, h2⟩ := h
  refine ⟨of_decide_eq_true h1, ?_⟩
  rw [List.all_eq_true] at h2
  cases rs with
  | nil => exact ⟨1, Nat.le_refl _, fun r h => by cases h⟩
  | cons r0 rs =>
    refine ⟨r0.length, ?_, fun r hr => ?_⟩
    · have := h2 r0 List.mem_cons_self
      simp only [Bool.and_eq_true, decide_eq_true_eq] at this
      exact this.1.2
    · have := h2 r hr
      simp only [Bool.and_eq_true, decide_eq_true_eq, List.all_eq_true, List.headD_cons] at this
      refine ⟨of_decide_eq_true this.1.1, fun m hm => ⟨this.2 m hm, ?_⟩⟩
      have := (foldl_max_le (r0 :: rs).flatten 0).2 m (List.mem_flatten.mpr ⟨r, hr, hm⟩)
      unfold topOf; omega
theorem code_inj {B : Int} : ∀ {a b : List Int}, a.length = b.length → TS.Bd B a → TS.Bd B b → TS.code B a = TS.code B b → a = b
  | [], [], _, _, _, _ => rfl
  | [], _ :: _, h, _, _, _ => by simp at h
  | _ :: _, [], h, _, _, _ => by simp at h
  | x :: a, y :: b, h, ha, hb, e => by
    have hl : a.length = b.length := by simpa using h
    rcases Int.lt_trichotomy x y with c | c | c
    · have := TS.code_lt hl ha.tail hb.tail c
      omega
    · subst c
      have e' : x * B ^ a.length + TS.code B a = x * B ^ b.length + TS.code B b := e
      rw [hl] at e'
      rw [code_inj hl ha.tail hb.tail (by omega)]
    · have := TS.code_lt hl.symm hb.tail ha.tail c
      omega
section
variable {g : G} {E : XK} {S : Vw} {k : Nat} {X : Cx} {pn : Option V}
theorem rows_ks {M : Hp} : ∀ {rs : List (List Int)} {vs : List V}, RepL g M (rs.map rowV) vs → ∃ ks : List (Addr × List Int), vs = ks.map (fun p => V.ref p.1) ∧ rs = ks.map (·.2) ∧ ∀ p ∈ ks, M p.1 = some (.tup (p.2.map V.int))
  | [], _, h => by cases h; exact ⟨[], rfl, rfl, fun p h => by cases h⟩
  | r :: rs, _, h => by
    cases h with
    | cons h t =>
      obtain ⟨ks, e1, e2, e3⟩ := rows_ks t
      obtain ⟨a, ws, rfl, h1, h2⟩ := (show Rep g M (.tup (r.map Val.int)) _ from h).tupE
      have := h2.ints
      subst this
      refine ⟨(a, r) :: ks, by rw [e1]; rfl, by rw [e2]; rfl, fun p hp => ?_⟩
      rcases List.mem_cons.mp hp with e | hp
      · rw [e]; exact h1
      · exact e3 p hp
theorem ks_rows {M : Hp} : ∀ {ks : List (Addr × List Int)}, (∀ p ∈ ks, M p.1 = some (.tup (p.2.map V.int))) → RepL g M ((ks.map (·.2)).map rowV) (ks.map fun p => V.ref p.1)
  | [], _ => .nil
  | p :: ks, h => .cons (.tup (h p List.mem_cons_self) (repL_ints p.2)) (ks_rows fun q hq => h q (List.mem_cons_of_mem _ hq))
def rSS (K : PySem.W.Frag) (P : Program) (w : World) : List V → Hp → VK → Prop := fun xs H Q => rSetOfT K P w xs H fun y H1 => rSortedT K P w [y] H1 Q
theorem pure_sortSet (K : PySem.W.Frag) (P : Program) (w : World) : Pure g (fun xs H Q => rSetOfT K P w xs H fun y H1 => rSortedT K P w [y] H1 Q) kSortSet := by
  intro M H xs ds o Q le tb r e q
  unfold kSortSet at e
  split at e
  all_goals first | (cases e; done) | skip
  rename_i es
  obtain ⟨x, rfl, r1⟩ := repL1 r rfl
  cases q2 : rowsOfV es with
  | none => rw [q2] at e; cases e
  | some rs =>
    rw [q2] at e
    have e : (if okRows rs = true then some (Own.l ((sortT rs).map rowV)) else none) = some o := e
    split at e
    all_goals first | (cases e; done) | skip
    rename_i hok
    cases e
    obtain rfl := rowsOfV_eq q2
    obtain ⟨a, vs, rfl, h1, t1⟩ := r1.lstE
    obtain ⟨ks, rfl, ers, hks⟩ := rows_ks t1
    obtain ⟨hlen, d, hd, hall⟩ := okRows_d hok
    refine ⟨a, ks, rfl, .of (le _ _ h1), fun p hp => .of (le _ _ (hks p hp)), by rw [ers, List.length_map] at hlen; exact hlen, fun b L hb hL1 hL2 => ?_⟩
    have hb2 : ∀ p ∈ ks, p.1 ≠ b := fun p hp z => by
      have := le _ _ (hks p hp)
      rw [z, hb] at this; cases this
    have hLr : ∀ p ∈ L, p.2.length = d ∧ TS.Bd (topOf rs) p.2 := fun p hp => hall p.2 (by rw [ers]; exact List.mem_map_of_mem (hL1 p hp))
    refine ⟨b, L, d, topOf rs, rfl, upd_same, fun p hp => .of ((upd_ne (hb2 p (hL1 p hp))).trans (le _ _ (hks p (hL1 p hp)))), hd, hLr, fun L' p pm nd hfew pw hp => ?_⟩
    have es : L'.map (·.2) = sortT rs := by
      have nds : (sortT rs).Nodup := (List.mergeSort_perm _ _).nodup_iff.mpr nodup_ddup
      have mem : ∀ x, x ∈ L'.map (·.2) ↔ x ∈ rs := fun x => by
        rw [List.mem_map]
        constructor
        · rintro ⟨y, hy, rfl⟩
          rw [ers]; exact List.mem_map_of_mem (hL1 y (pm.mem_iff.mp hy))
        · intro hx
          rw [ers] at hx
          obtain ⟨y, hy, rfl⟩ := List.mem_map.mp hx
          obtain ⟨z, hz, e⟩ := List.mem_map.mp (hL2 y hy)
          exact ⟨z, pm.mem_iff.mpr hz, e⟩
      have mem2 : ∀ x, x ∈ sortT rs ↔ x ∈ rs := fun x => by
        unfold sortT
        rw [(List.mergeSort_perm _ _).mem_iff, mem_ddup]
      refine List.Perm.eq_of_pairwise (le := fun a b => TS.code (topOf rs) a ≤ TS.code (topOf rs) b) (fun x y hx hy h1 h2 => ?_) ?_ ?_ ?_
      · have hx := hall x ((mem x).mp hx)
        have hy := hall y ((mem2 y).mp hy)
        exact code_inj (hx.1.trans hy.1.symm) hx.2 hy.2 (by omega)
      · rw [List.pairwise_map]; exact pw
      · have := List.pairwise_mergeSort (le := fun a b => decide (TS.code (topOf rs) a ≤ TS.code (topOf rs) b)) (fun a b c h1 h2 => by
          simp only [decide_eq_true_eq] at *; omega) (fun a b => by
          simp only [Bool.or_eq_true, decide_eq_true_eq]; omega) (ddup rs)
        exact this.imp fun h => of_decide_eq_true h
      · exact (List.perm_ext_iff_of_nodup nd nds).mpr fun x => (mem x).trans (mem2 x).symm
    have hpb : p ≠ b := fun z => by rw [z, upd_same] at hp; cases hp
    rw [upd_ne hpb] at hp
    have kk : ∀ c u, H c = some u → upd (upd H b (SetTO P w b L)) p (.lst (L'.map fun q => V.ref q.1)) c = some u := fun c u h => by
      rw [upd_ne (fun z => by rw [z, hp] at h; cases h), upd_ne (fun z => by rw [z, hb] at h; cases h)]; exact h
    refine q _ M _ [p] ⟨Le.refl M, fun c u h => kk c u (le c u h), fun c u h _ => kk c u h, fun c h => ?_, fun c u h => .inl h, tb.ext kk⟩ (.l upd_same ?_) fun c hc => ?_
    · by_cases h1 : c = p
      · rw [h1]; exact hp
      · rw [upd_ne h1] at h
        by_cases h2 : c = b
        · rw [h2]; exact hb
        · rw [upd_ne h2] at h; exact h
    · rw [← es]
      exact ks_rows fun y hy => hks y (hL1 y (pm.mem_iff.mp hy))
    · obtain rfl : c = p := by simpa using hc
      refine ⟨hp, ?_⟩
      cases e : M c with
      | none => rfl
      | some u => rw [le _ _ e] at hp; cases hp
end
end KS
set_option Elab.async false
set_option linter.all false
set_option maxRecDepth 100000
set_option maxHeartbeats 4000000
namespace L2
open PySem PySem.Spec PyProof.Rows
/-! ### comprehensions of any kind: what a turn does with its item is bd, what is known of it is tb -/
abbrev BD := Env → Addr → (Shared → Prop) → (Value → Shared → Prop) → Shared → Prop
abbrev TBd := Addr → St → Hp → (Hp → Prop) → Prop
structure PBd (X : Cx) (bd : BD) (tb : TBd) : Prop where
  run : ∀ (pins : List (Addr × Obj)) (s : Shared) (σ : St) (H : Hp) (D : Addr) (K : Hp → Prop), Inv X pins σ H s → tb D σ H K → bd X.env D (fun s' => ∃ H', Inv X pins σ H' s' ∧ K H') (fun _ _ => False) s
/-- what the comprehension ce is, as a loop -/
structure CompK (P : Program) (w : World) (A : Around) (ce tg iter : Expr) (ifs : List Expr) (mk : Sem Value) (o0 : Obj) (bd : BD) : Prop where
  cl : clausesOf ce = [⟨tg, iter, ifs, 0⟩]
  new : ∀ (E : Value → Shared → Prop) (s : Shared) (Q : Value → Shared → Prop), Q (.ref s.heap.objs.size) { s with heap := s.heap.push o0 } → wpAny (model P w) A mk Q E s
  mono : ∀ (env : Env) (D : Addr) (K : Shared → Prop) (E : Value → Shared → Prop) (s : Shared), bd env D K (fun _ _ => False) s → bd env D K E s
  monoK : ∀ (env : Env) (D : Addr) (K K' : Shared → Prop) (E : Value → Shared → Prop) (s : Shared), bd env D K E s → (∀ s, K s → K' s) → bd env D K' E s
  loop : ∀ (R : Result → Shared → Prop) (s : Shared) (it : Value) (D : Addr) (env : Env) (I : Nat → Shared → Prop),
    (∀ n s, I n s → wpAny (model P w) A (pyNext it) (fun r s₁ => match r with
      | none => R (.ok .next) s₁
      | some v => wpAny (model P w) A (letOwnedTupleGo tg it v) (fun _ s₁' => wpAny (model P w) A (assign tg env v) (fun _ s₂ =>
          wpAny (model P w) A (forIn ifs true fun c r => if r = true then do let ok ← isTrue c env (eval c env); pure (ForInStep.yield ok) else pure (ForInStep.yield r)) (fun ok s₃ =>
            if ok = true then bd env D (fun s₅ => ∃ m, m < n ∧ I m s₅) (notedBy (model P w) A env fun e s' => R (.error e) s') s₃
            else ∃ m, m < n ∧ I m s₃) (notedBy (model P w) A env fun e s' => R (.error e) s') s₂) (notedBy (model P w) A env fun e s' => R (.error e) s') s₁') (notedBy (model P w) A env fun e s' => R (.error e) s') s₁) (notedBy (model P w) A env fun e s' => R (.error e) s') s) →
    ∀ n, I n s → codeAny (model P w) A (.compLoop ce 0 it (.ref D) env) R s
  start : ∀ (R : Result → Shared → Prop) (s : Shared) (it : Value) (D : Addr) (env : Env), codeAny (model P w) A (.compLoop ce 0 it (.ref D) env) R s →
    wpAny (model P w) A (pyIter it) (fun it' s' => codeAny (model P w) A (.compLoop ce 0 it' (.ref D) env) R s') (notedBy (model P w) A env fun x s' => R (.error x) s') s → codeAny (model P w) A (.compStart ce 0 it (.ref D) env) R s
section
variable {X : Cx}
def tAc (u0 : HO) (wi : TI) (g : TG) (tt : TT) (tb : TBd) (vs : List Nat) : TE := fun σ H Q => wi σ H fun J H1 => ∀ D, H1 D = none → ∃ W : Nat → Nat → Hp → Prop, (∃ m, W 0 m (upd H1 D u0)) ∧ ∀ i m H, W i m H →
  (J.stop i H ∧ Q (.ref D) H) ∨ (J.go i H ∧ ∃ Nx : Hp → Prop, (∀ H', Nx H' → ∃ m', m' < m ∧ W (i + 1) m' H') ∧ ∀ x H', J.yld i H x H' → g x (wipe σ vs) H' fun σ2 H2 => wipe σ2 vs = wipe σ vs ∧ tt σ2 H2 fun b H3 =>
    if b = true then tb D σ2 H3 Nx else Nx H3)
theorem ac_core {pins : List (Addr × Obj)} {s : Shared} {σ : St} {H : Hp} {Q : VK} {use : Option (Value → Sem Unit)} {Qf : Value → Shared → Prop} {ce tg iter : Expr} {ifs : List Expr} {scope : Scope} {own : List (Str × Nat)} {pos' : Pos} {wi : TI} {g : TG} {tt : TT} {tb : TBd} {bd : BD} {mk : Sem Value} {o0 : Obj} {u0 : HO} (C : CompK X.prog X.w X.A ce tg iter ifs mk o0 bd)
    (hu0 : ∀ (H : Hp) (h : Heap), sysModules < h.objs.size → ObjOk X.prog X.w H (h.push o0) h.objs.size u0) (I : Inv X pins σ H s)
    (hc : X.calm = true) (hN : X.N.Nodup) (hi : PI X tg iter wi) (ok : BlkOk X.N X.env.scope scope own)
    (hg : ∀ (s : Shared) (H : Hp) (C : Addr) (cl : List (Str × Addr)) (fp : List Addr), PG (X.blk s H scope (compEnvC scope cl C X.env) fp) tg g) (ht : ∀ (s : Shared) (H : Hp) (C : Addr) (cl : List (Str × Addr)) (fp : List Addr), PTs (X.blk s H scope (compEnvC scope cl C X.env) fp) ifs tt)
    (hb : ∀ (s : Shared) (H : Hp) (C : Addr) (cl : List (Str × Addr)) (fp : List Addr), PBd (X.blk s H scope (compEnvC scope cl C X.env) fp) bd tb) (hs : ∀ x, foldedSetIterable iter X.env x = pure x) (h : tAc u0 wi g tt tb (own.map (·.2)) σ H Q)
    (hRR : ∀ D C s' m H', Inv X pins σ H' s' → Q (.ref D) H' → s'.heap.Ns C m → FpOk X pins H' C → compPost (model X.prog X.w) X.A X.xe use Qf (.ref D) C (.ok .next) s') :
    wpAny (model X.prog X.w) X.A (comprehension ce scope X.env pos' mk false (eval iter X.env) use) Qf X.xe s := by
  have hfree : ∀ y ∈ scope.names, y.2 = .free → ∃ c, X.env.cells.lookup y.1 = some c := fun y hy e => by
    rcases ok.free y hy e with k | k
    · exact I.ok.has _ (.inl k)
    · exact I.ok.has _ (.inr k)
  refine wpAny_comprehension_free (use := use) C.cl hs (closure_ok hfree) ok.kind (fun y hy e => by rw [ok.uniq y hy, e])
    (thn (hi.run pins s σ H _ I h) fun xv s1 hx => thn hx fun itv s2 h2 => ?_)
  obtain ⟨it, fp, tn, J, H2, e, I2, T, st2, f2, q⟩ := h2
  subst e
  refine C.new _ _ _ (newEnv_comp ?_)
  generalize hD : s2.heap.objs.size = D
  have hDn : H2 D = none := I2.hok.fresh (Nat.le_of_eq hD)
  obtain ⟨W, ⟨m0, w0⟩, turn⟩ := q D hDn
  generalize hs3 : ({ s2 with heap := s2.heap.push o0 } : Shared) = s3
  have I3 : Inv X pins σ (upd H2 D u0) s3 := by
    rw [← hs3]
    refine I2.laid (t' := s2.toks) (fun b o e => Heap.get?_push_of_some _ e) (Nat.le_of_eq hD) ?_
    rw [← hD]
    exact hu0 _ _ I2.big
  have h3 : s3.heap = s2.heap.push o0 := by rw [← hs3]
  have f3 : ∀ b ∈ fp, FpOk X pins (upd H2 D u0) b ∧ b < s3.heap.objs.size := fun b hb => by
    obtain ⟨o, e, _⟩ := T.obj _ _ st2 b hb
    have hlt := Heap.lt_size e
    refine ⟨⟨?_, (f2 b hb).2⟩, by rw [h3, Heap.size_push]; exact Nat.lt_succ_of_lt hlt⟩
    rw [upd_ne (by rw [← hD]; exact Nat.ne_of_lt hlt)]
    exact (f2 b hb).1
  have st3 : tn 0 s3.heap := T.keep _ _ _ st2 fun b _ o e => by rw [h3]; exact Heap.get?_push_of_some _ e
  have I4 := block_start I3 ok hN f3
  have pg := hg s3 (upd H2 D u0) s3.heap.objs.size (cellsFrom (s3.heap.objs.size + 1) scope.names (cloFrom X.env.cells scope.names [])) fp
  have pt := ht s3 (upd H2 D u0) s3.heap.objs.size (cellsFrom (s3.heap.objs.size + 1) scope.names (cloFrom X.env.cells scope.names [])) fp
  have pb := hb s3 (upd H2 D u0) s3.heap.objs.size (cellsFrom (s3.heap.objs.size + 1) scope.names (cloFrom X.env.cells scope.names [])) fp
  show codeAny _ _ (.compStart ce 0 (.ref it) (.ref D) (compEnvC scope (cellsFrom (s3.heap.objs.size + 1) scope.names (cloFrom X.env.cells scope.names [])) s3.heap.objs.size X.env)) (compPost (model X.prog X.w) X.A X.xe use Qf (.ref D) s3.heap.objs.size) { s3 with heap := pushCells (s3.heap.push { cls := .type "dict", data := .dict #[] }) scope.names }
  have nfp : ∀ b ∈ fp, (upd H2 D u0) b = none := fun b hb => (f3 b hb).1.1
  generalize hce : compEnvC scope (cellsFrom (s3.heap.objs.size + 1) scope.names (cloFrom X.env.cells scope.names [])) s3.heap.objs.size X.env = cv at I4 pg pt pb ⊢
  have cL : cv.locals = s3.heap.objs.size := by subst hce; rfl
  generalize hH3 : upd H2 D u0 = H3 at I3 I4 pg pt pb w0 nfp f3
  generalize hs4 : ({ s3 with heap := pushCells (s3.heap.push { cls := .type "dict", data := .dict #[] }) scope.names } : Shared) = s4 at I4 ⊢
  have st4 : tn 0 s4.heap := T.keep _ _ _ st3 fun b _ o e => by rw [← hs4]; exact pushCells_keeps _ _ _ _ (Heap.get?_push_of_some _ e)
  have stat : ∀ {σ' : St} {H' : Hp} {s' : Shared}, Inv (X.blk s3 H3 scope cv fp) [] σ' H' s' → (∀ b ∈ fp, H' b = none) → ∀ b ∈ fp, FpOk (X.blk s3 H3 scope cv fp) [] H' b := fun {σ' H' s'} I' hn b hb =>
    ⟨hn b hb, (I'.ok.exf b hb).1, I'.ok.exfs b hb, .inl hb, fun x c e => (I'.ok.exf b hb).2 x c e, fun p hp => absurd (show p ∈ ([] : List (Addr × Obj)) ++ [] from hp) (by simp)⟩
  generalize hR : compPost (model X.prog X.w) X.A X.xe use Qf (.ref D) s3.heap.objs.size = R
  have goal : codeAny (model X.prog X.w) X.A (.compLoop ce 0 (.ref it) (.ref D) cv) R s4 := by
    refine C.loop R s4 (.ref it) D cv (fun n s' => ∃ i H', Inv (X.blk s3 H3 scope cv fp) [] (wipe σ (own.map (·.2))) H' s' ∧ tn i s'.heap ∧ (∀ b ∈ fp, H' b = none) ∧ W i n H') ?_ m0 ⟨0, H3, I4, st4, nfp, w0⟩
    rintro n s5 ⟨i, H5, I5, st5, n5, w5⟩
    rcases turn i n H5 w5 with ⟨stop, qq⟩ | ⟨go, Nx, hNx, step⟩
    · refine thnF (T.done (X.blk s3 H3 scope cv fp) rfl rfl rfl hc i [] s5 _ H5 (fun _ _ => False) I5 (stat I5 n5) st5 stop) fun r s6 ⟨hr, I6⟩ => ?_
      subst hr
      have I7 : Inv X pins σ H5 s6 := I3.call' (ch := fp) I6.os I6.base I6.hok I6.bare fun b hb => ⟨(f3 b hb).1.2.2.2.1, (f3 b hb).1.2.1, (f3 b hb).1.2.2.2.2.1, (f3 b hb).1.2.2.2.2.2⟩
      have nC : H5 s3.heap.objs.size = none := by
        have z : H5 cv.locals = none := I6.free
        rw [cL] at z
        exact z
      obtain ⟨m, hn, _⟩ := I6.loc
      have hn : s6.heap.Ns cv.locals m := hn
      rw [cL] at hn
      rw [← hR]
      exact hRR D s3.heap.objs.size s6 m H5 I7 qq hn (I3.fpOk (Nat.le_refl _) nC)
    · refine thnF (T.item (X.blk s3 H3 scope cv fp) rfl rfl rfl hc i [] s5 _ H5 (fun _ _ => False) I5 (stat I5 n5) st5 go) fun r s6 ⟨u, hr, h6⟩ => ?_
      subst hr
      refine thnF h6 fun _ s7 ⟨x, H7, I7, r7, y7, st7, n7⟩ => ?_
      have I7' := I7.pinned (stat I7 n7) (T.obj _ _ st7)
      refine thnF (pg.run _ s7 _ H7 x u _ I7' r7 (step x H7 y7)) fun _ s8 ⟨σ8, H8, I8, hw8, q8⟩ => ?_
      refine thnF (pt.run _ s8 σ8 H8 _ I8 q8) fun b s9 ⟨H9, I9, q9⟩ => ?_
      have fin : ∀ {s' : Shared} {H' : Hp}, Inv (X.blk s3 H3 scope cv fp) ([] ++ pinsAt fp s7.heap) σ8 H' s' → Nx H' → ∃ m, m < n ∧ ∃ i H', Inv (X.blk s3 H3 scope cv fp) [] (wipe σ (own.map (·.2))) H' s' ∧ tn i s'.heap ∧ (∀ b ∈ fp, H' b = none) ∧ W i m H' := fun {s' H'} I' nx => by
        obtain ⟨m', hm, w'⟩ := hNx H' nx
        have pin' : ∀ b ∈ fp, ∀ o, s7.heap.get? b = some o → s'.heap.get? b = some o ∧ H' b = none := fun b hb o e =>
          let z := I'.pin (b, o) (List.mem_append_right _ (List.mem_append_right _ (mem_pinsAt hb e)))
          ⟨z.1, z.2.1⟩
        have hl : (wipe σ (own.map (·.2))).length = σ8.length := by rw [← hw8, wipe_length]
        refine ⟨m', hm, i + 1, H', (I'.unpinned (pins := [])).weak hl (fun j v e => ?_), T.keep _ _ _ st7 fun b hb o e => (pin' b hb o e).1, fun b hb => ?_, w'⟩
        · rw [← hw8] at e
          exact (wipe_some e).1
        · obtain ⟨o, e, _⟩ := T.obj _ _ st7 b hb
          exact (pin' b hb o e).2
      cases b with
      | false =>
        simp only [Bool.false_eq_true, if_false] at q9 ⊢
        exact fin I9 q9
      | true =>
        simp only [if_true] at q9 ⊢
        exact C.mono _ _ _ _ _ (C.monoK _ _ _ _ _ _ (pb.run _ s9 σ8 H9 D _ I9 q9) fun s10 ⟨H10, I10, nx⟩ => fin I10 nx)
  exact C.start R s4 (.ref it) D cv goal (T.self X.A 0 _ _ _ st4 goal)
theorem pe_ac {ce tg iter : Expr} {ifs : List Expr} {scope : Scope} {own : List (Str × Nat)} {pos' : Pos} {wi : TI} {g : TG} {tt : TT} {tb : TBd} {bd : BD} {mk : Sem Value} {o0 : Obj} {u0 : HO} (C : CompK X.prog X.w X.A ce tg iter ifs mk o0 bd)
    (hu0 : ∀ (H : Hp) (h : Heap), sysModules < h.objs.size → ObjOk X.prog X.w H (h.push o0) h.objs.size u0) (hev : eval ce X.env = comprehension ce scope X.env pos' mk false (eval iter X.env))
    (hc : X.calm = true) (hN : X.N.Nodup) (hi : PI X tg iter wi) (ok : BlkOk X.N X.env.scope scope own)
    (hg : ∀ (s : Shared) (H : Hp) (C : Addr) (cl : List (Str × Addr)) (fp : List Addr), PG (X.blk s H scope (compEnvC scope cl C X.env) fp) tg g) (ht : ∀ (s : Shared) (H : Hp) (C : Addr) (cl : List (Str × Addr)) (fp : List Addr), PTs (X.blk s H scope (compEnvC scope cl C X.env) fp) ifs tt)
    (hb : ∀ (s : Shared) (H : Hp) (C : Addr) (cl : List (Str × Addr)) (fp : List Addr), PBd (X.blk s H scope (compEnvC scope cl C X.env) fp) bd tb) (hs : ∀ x, foldedSetIterable iter X.env x = pure x := by intro _; rfl) :
    PE X ce (tAc u0 wi g tt tb (own.map (·.2))) := by
  refine ⟨fun pins s σ H Q I h => ?_⟩
  rw [hev]
  refine ac_core C hu0 I hc hN hi ok hg ht hb hs h fun D Ca s' m H' I' q hn f => ⟨m, hn, fun h'' sb => ?_⟩
  obtain ⟨f0, f1, f2, f3, f4, f5⟩ := f
  exact ⟨.ref D, H', I'.turned (t' := s'.toks) (fun b o hb e => (sb.2 b hb).trans e) f0 f1 f3 f4 f5, rfl, q⟩
theorem ps_setAc {i : Nat} {y : Str} {py spos : Pos} {ce tg iter : Expr} {ifs : List Expr} {scope : Scope} {own : List (Str × Nat)} {pos' : Pos} {wi : TI} {g : TG} {tt : TT} {tb : TBd} {bd : BD} {mk : Sem Value} {o0 : Obj} {u0 : HO} (C : CompK X.prog X.w X.A ce tg iter ifs mk o0 bd)
    (hu0 : ∀ (H : Hp) (h : Heap), sysModules < h.objs.size → ObjOk X.prog X.w H (h.push o0) h.objs.size u0) (hex : ∀ u, evalThenUse ce X.env u = (do let _ ← comprehension ce scope X.env pos' mk false (eval iter X.env) (some u)))
    (hsw : swapsWith ce (some (.Name y py)) spos.line X.env = pure true)
    (hy : X.N[i]? = some y) (hyl : X.env.scope.names.lookup y = some .local)
    (hc : X.calm = true) (hN : X.N.Nodup) (hi : PI X tg iter wi) (ok : BlkOk X.N X.env.scope scope own)
    (hg : ∀ (s : Shared) (H : Hp) (C : Addr) (cl : List (Str × Addr)) (fp : List Addr), PG (X.blk s H scope (compEnvC scope cl C X.env) fp) tg g) (ht : ∀ (s : Shared) (H : Hp) (C : Addr) (cl : List (Str × Addr)) (fp : List Addr), PTs (X.blk s H scope (compEnvC scope cl C X.env) fp) ifs tt)
    (hb : ∀ (s : Shared) (H : Hp) (C : Addr) (cl : List (Str × Addr)) (fp : List Addr), PBd (X.blk s H scope (compEnvC scope cl C X.env) fp) bd tb) (hs : ∀ x, foldedSetIterable iter X.env x = pure x := by intro _; rfl) :
    PS X (.Assign [.Name y py] ce spos) (tAsg (tAc u0 wi g tt tb (own.map (·.2))) (gName i)) := by
  refine ⟨fun pins s σ H D I h => ?_⟩
  rw [exec_Assign_Name_used _ _ _ _ hsw]
  refine wpAny_bind (wpAny_standAt (wpAny_bind ?_))
  rw [hex]
  have h : tAc u0 wi g tt tb (own.map (·.2)) σ H (fun x H1 => gName i x σ H1 D.nx) := h
  refine wpAny_bind (thn (ac_core (Qf := fun _ s' => SP X pins D .next s') C hu0 I hc hN hi ok hg ht hb hs h fun L Ca s' m H' I' q hn f => ?_) fun _ s' hq => wpAny_pure (wpAny_pure hq))
  show wpAny _ _ (assign (.Name y py) X.env (.ref L)) _ _ _
  refine wpAny_assign_Name (store_ok2 (v := V.ref L) I' hN hy (.inl hyl) rfl (fun s2 I2 ⟨a, sb, ha⟩ => ?_) (.inr hyl))
  obtain ⟨f0, f1, f2, f3, f4, f5⟩ := f
  have haC : Ca ≠ a := by
    rcases ha with z | z
    · rw [z]; exact f1
    · exact fun e => f4 y a z e.symm
  refine ⟨m, hn.sameBut sb haC, fun h3 sb3 => ?_⟩
  exact ⟨_, H', I2.turned (t' := s2.toks) (fun b o hb e => (sb3.2 b hb).trans e) f0 f1 f3 f4 f5, q⟩
end
end L2
set_option Elab.async false
set_option linter.all false
set_option maxRecDepth 100000
set_option maxHeartbeats 4000000
namespace KS
open PySem PySem.Spec PyProof.Rows L2
open LamX (Tabs TabS)
def Own.isV : Own → Bool
  | .v _ => true
  | .l _ => false
/-- a comprehension's turns: what is met, in their sequence -/
def compGoA (pt : List (List Val) → List Val → Bool) (S : Vw) (vs : List Nat) (t : Tg) (mt : Mo Bool) (me : Mo (List Own)) : List (List Val) → List Val → Ro → Rs (List (List Val))
  | acc, [], r => .ok acc r
  | acc, d :: ds, r => if okB S (.v d) = true then
      match t.put d (wipeR r vs) with
      | none => .bad
      | some r1 => (mt r1).noex.bind fun b r2 => if b = true then (me r2).noex.bind fun os r3 => if os.all Own.isV && pt acc (os.map Own.val) then compGoA pt S vs t mt me (acc ++ [os.map Own.val]) ds r3 else .bad else compGoA pt S vs t mt me acc ds r2
    else .bad
def mAc (pt : List (List Val) → List Val → Bool) (S : Vw) (vs : List Nat) (t : Tg) (mi : Mo (List Val)) (mt : Mo Bool) (me : Mo (List Own)) (fin : List (List Val) → Option Own) : Mo Own := fun r => (mi r).bind fun items r1 =>
  if items.length ≤ 16777216 then (compGoA pt S vs t mt me [] items r1).noex.bind fun acc r2 => match fin acc with
    | some o => .ok o (wipeR r2 vs)
    | none => .bad
  else .bad
section
variable {g : G} {E : XK} {S : Vw} {k : Nat} {X : Cx} {pn : Option V}
theorem tmps_v {M H : Hp} {f : Nat → List Addr} {ds : List Own} {xs : List V} {fd : List Addr} {Sf : Nat → Bool} (t : Tmps g Sf M H f ds xs fd) (h : ds.all Own.isV = true) : fd = [] ∧ RepL g (View Sf M H f []) (ds.map Own.val) xs := by
  induction t with
  | nil => exact ⟨rfl, .nil⟩
  | cons a b _ ih =>
    rw [List.all_cons, Bool.and_eq_true] at h
    obtain ⟨h1, h2⟩ := ih h.2
    have ra := a.rep
    cases ra with
    | v r => exact ⟨by rw [h1]; rfl, .cons r h2⟩
    | l _ _ => cases h.1
def Pln (o : HO) : Prop := (∀ ps, o ≠ .tbl ps) ∧ ∀ q z, o ≠ LamX.CodeO q z
theorem Sta.updO {M H : Hp} {r : Ro} {s : L2.St} {f : Nat → List Addr} {D : Addr} {o o0 : HO} (st : Sta g M H r s f) (hH : H D = some o0) (hp : Pln o0) (hM : M D = none) (hf : ∀ i, D ∉ f i) : Sta g M (upd H D o) r s f where
  sub := fun a u e => by
    rw [upd_ne (fun z => by rw [z, hM] at e; cases e)]; exact st.sub a u e
  env := fun i d e => by
    obtain ⟨x, h1, h2⟩ := st.env i d e
    refine ⟨x, h1, h2.mono (Le.refl M) fun a ha u hu => ?_⟩
    rw [upd_ne (fun z => by rw [z] at ha; exact hf i ha)]; exact hu
  dis := st.dis
  fre := st.fre
  out := st.out
  tab := tabs_updD st.tab hH hp.1 (fun q z => hp.2 _ _ z)
  len := st.len
  nt := st.nt
/-- what a comprehension gathers: its object, one more -/
structure AcK (g : G) (pt : List (List Val) → List Val → Bool) (u0 : HO) (Put : List V → Hp → HO → HO → Prop) (Rl : Hp → List (List Val) → HO → Prop) : Prop where
  pln : ∀ V acc o, Rl V acc o → Pln o
  start : ∀ V, Rl V [] u0
  mono : ∀ V V' acc o, Le V V' → Rl V acc o → Rl V' acc o
  step : ∀ V H acc o ds ys, Rl V acc o → Le V H → RepL g V ds ys → pt acc ds = true → acc.length < 16777216 → ∃ o', Put ys H o o' ∧ Rl V (acc ++ [ds]) o'
def tAcG (g : G) (E : XK) (S : Vw) (Rl : Hp → List (List Val) → HO → Prop) (pt : List (List Val) → List Val → Bool) (vs : List Nat) (t : Tg) (mi : Mo (List Val)) (mt : Mo Bool) (me : Mo (List Own)) : TE := fun s H Q => ∃ r0 M0 f0, Sta g M0 H r0 s f0 ∧ match mi r0 with
  | .bad => False
  | .ex n v => Ew g E S.fn M0 H f0 n v
  | .ok items r1 => items.length ≤ 16777216 ∧ match compGoA pt S vs t mt me [] items r1 with
    | .ok acc r2 => ∀ D M1 H1 f1 o, Sta g M1 H1 (wipeR r2 vs) s f1 → Step g S.fn M0 H r0 f0 M1 H1 (wipeR r2 vs) f1 → Rl (View S.fn M1 H1 f1 []) acc o → H1 D = some o → M1 D = none → (∀ j, D ∉ f1 j) → H D = none → Q (.ref D) H1
    | _ => False
def TbA (ta : TA) (Put : List V → Hp → HO → HO → Prop) : TBd := fun D σ H K => ta σ H fun ys H4 => ∃ o o', H4 D = some o ∧ Put ys H4 o o' ∧ K (upd H4 D o')
theorem imp_ac {pt : List (List Val) → List Val → Bool} {u0 : HO} {Put : List V → Hp → HO → HO → Prop} {Rl : Hp → List (List Val) → HO → Prop} (ak : AcK g pt u0 Put Rl) {vs : List Nat} {t : Tg} {gt : TG} {mi : Mo (List Val)} {mt : Mo Bool} {me : Mo (List Own)} {s : L2.St} {H : Hp} {Q : VK} (tg : TgOk g t gt) (hvs : ∀ v ∈ vs, S.fn v = false) (hsl : ∀ i ∈ t.slots, i ∈ vs)
    (h : tAcG g E S Rl pt vs t mi mt me s H Q) : tAc u0 (tI g E false S mi) gt (tB g E0x S mt) (TbA (tA g E0x S me) Put) vs s H Q := by
  obtain ⟨r0, M0, f0, st0, h⟩ := h
  refine ⟨r0, M0, f0, st0, ?_⟩
  cases hm : mi r0 with
  | bad => rw [hm] at h; exact h
  | ex n v => rw [hm] at h; exact h
  | ok items r1 =>
    simp only [hm] at h
    intro J M1 H1 f1 st1 p1 src D hD
    obtain ⟨hlen, h⟩ := h
    cases hgo : compGoA pt S vs t mt me [] items r1 with
    | bad => rw [hgo] at h; exact h.elim
    | ex n v => rw [hgo] at h; exact h.elim
    | ok total rEnd =>
      simp only [hgo] at h
      have hD1 : M1 D = none := by
        cases e : M1 D with
        | none => rfl
        | some o => rw [st1.sub _ _ e] at hD; cases hD
      have hDf : ∀ i, D ∉ f1 i := fun i z => by
        obtain ⟨xs, hx⟩ := st1.live z
        rw [hD] at hx; cases hx
      refine ⟨fun i m H => m = items.length - i ∧ i ≤ items.length ∧ ∃ r M f acc o, Sta g M H (wipeR r vs) (L2.wipe s vs) f ∧ Step g S.fn M1 H1 r1 f1 M H (wipeR r vs) f ∧
        compGoA pt S vs t mt me acc (items.drop i) r = .ok total rEnd ∧ acc.length ≤ i ∧ Rl (View S.fn M H f []) acc o ∧ H D = some o ∧ M D = none ∧ ∀ j, D ∉ f j, ⟨items.length, by simp, Nat.zero_le _, ?_⟩, ?_⟩
      · have kk : Le H1 (upd H1 D u0) := fun a o e => by rw [upd_ne (fun z => by rw [z, hD] at e; cases e)]; exact e
        have st1' : Sta g M1 (upd H1 D u0) r1 s f1 := ⟨fun a o e => kk a o (st1.sub a o e), fun i d e => by
          obtain ⟨x, h1, h2⟩ := st1.env i d e
          exact ⟨x, h1, h2.mono (Le.refl _) fun a _ u hu => kk a u hu⟩, st1.dis, st1.fre, st1.out, st1.tab.ext kk, st1.len, st1.nt⟩
        obtain ⟨f2, st2, hf2, p2⟩ := st1'.blk (S := S) hvs
        have p0 : Step g S.fn M1 H1 r1 f1 M1 (upd H1 D u0) r1 f1 := ⟨Le.refl _, fun a o e _ _ => kk a o e, fun a e => by
          by_cases hz : a = D
          · subst hz; exact hD
          · rw [upd_ne hz] at e; exact e, fun _ _ e => .inl e, fun _ _ => ⟨rfl, rfl⟩, fun _ _ e => .inl e, rfl⟩
        refine ⟨r1, M1, f2, [], u0, st2, p0.trans p2, by rw [List.drop_zero]; exact hgo, by simp, ak.start _, upd_same, hD1, fun j z => ?_⟩
        rcases hf2 j with q | ⟨_, q⟩
        · rw [q] at z; exact hDf j z
        · rw [q] at z; cases z
      · rintro i m H ⟨rfl, hi, r, M, f, acc, o, st, p, hrest, hal, racc, hHD, hMD, hDf'⟩
        have hview : Le (View S.fn M1 H1 f1 []) (View S.fn M H f []) := p.view st1 st (by simp)
        have hpl := ak.pln _ _ _ racc
        by_cases hlt : i < items.length
        rotate_left
        · have he : i = items.length := by omega
          subst he
          left
          refine ⟨(src (View S.fn M H f []) H hview st.view_sub st.tab _).2 (Nat.le_refl _), ?_⟩
          rw [List.drop_length] at hrest
          simp only [compGoA, Rs.ok.injEq] at hrest
          obtain ⟨e1, e2⟩ := hrest
          subst e1 e2
          exact h D M H f o (st.swap (s' := s) (fun i d e => (wipe_ne fun z => wipeR_in z d e).symm) (L2.wipe_length s vs).symm) (p1.trans p) racc hHD hMD hDf' (p1.dom _ hD)
        · right
          obtain ⟨d, hd⟩ : ∃ d, items[i]? = some d := ⟨items[i], by simp [hlt]⟩
          obtain ⟨hgoJ, hyl⟩ := (src (View S.fn M H f []) H hview st.view_sub st.tab i).1 d hd
          have hdrop : items.drop i = d :: items.drop (i + 1) := by
            rw [List.drop_eq_getElem_cons hlt]
            congr 1
            have := List.getElem?_eq_getElem hlt
            rw [hd] at this; cases this; rfl
          rw [hdrop] at hrest
          simp only [compGoA] at hrest
          by_cases hok : okB S (.v d) = true
          rotate_left
          · rw [if_neg hok] at hrest; cases hrest
          rw [if_pos hok] at hrest
          cases hput : t.put d (wipeR r vs) with
          | none => rw [hput] at hrest; cases hrest
          | some r2 =>
            simp only [hput] at hrest
            refine ⟨hgoJ, fun H' => ∃ r M f acc o, Sta g M H' (wipeR r vs) (L2.wipe s vs) f ∧ Step g S.fn M1 H1 r1 f1 M H' (wipeR r vs) f ∧
              compGoA pt S vs t mt me acc (items.drop (i + 1)) r = .ok total rEnd ∧ acc.length ≤ i + 1 ∧ Rl (View S.fn M H' f []) acc o ∧ H' D = some o ∧ M D = none ∧ ∀ j, D ∉ f j, fun H' hN => ⟨items.length - (i + 1), by omega, rfl, by omega, hN⟩, fun x H' hy => ?_⟩
            obtain ⟨V', nw, rx⟩ := hyl x H' hy
            obtain ⟨M2, st2, p2, l1, l2, l3, l4, _, l5⟩ := land0 (fd := []) st p (by simp) (by simp) nw
            have rx2 : Rep g M2 d x := okB_rep (M := M2) (H := H') (r := wipeR r vs) (s := L2.wipe s vs) (f := f) hok rx l3 l4
            have hMD2 : M2 D = none := by
              cases e : M2 D with
              | none => rfl
              | some o' =>
                rcases nw.newM D o' (l1 D o' e) with q | q
                · rw [view_out (fun j _ z => hDf' j z) (by simp), hMD] at q; cases q
                · rw [hHD] at q; cases q
            have hHD2 : H' D = some o := nw.keep D _ hHD hpl.1
            have racc2 : Rl (View S.fn M2 H' f []) acc o := ak.mono _ _ _ _ (fun a u e => by
              rcases view_cases S.fn M H f [] a with ⟨⟨j, h1, h2⟩, q⟩ | ⟨h, q⟩ | ⟨h1, h2, q⟩ <;> rw [q] at e
              · rw [view_in h1 h2]; exact nw.keep a u e ((st.live h2).tbl e)
              · cases h
              · exact l2 a u (nw.mono a u (st.view_le a u e))) racc
            refine tg M2 H' (wipeR r vs) r2 (L2.wipe s vs) f d x _ st2 rx2 hput fun s3 f3 st3 hf3 hsl3 hl3 => ?_
            have hws : L2.wipe s3 vs = L2.wipe s vs := by
              rw [← wipe_eq (s := s) (s' := L2.wipe s vs) (L2.wipe_length s vs) (vs := vs) fun i hi => wipe_ne hi]
              exact wipe_eq hl3 fun i hi => (hsl3 i fun z => hi (hsl i z)).1
            refine ⟨hws, ?_⟩
            have hDf3 : ∀ j, D ∉ f3 j := fun j z => by
              rcases hf3 j with q | q
              · rw [q] at z; exact hDf' j z
              · rw [q] at z; cases z
            have p3 : Step g S.fn M2 H' (wipeR r vs) f M2 H' r2 f3 := ⟨Le.refl _, fun _ _ h _ _ => h, fun _ h => h, fun _ _ h => .inl h, fun j hj => by
              have hn : j ∉ t.slots := fun z => by rw [hvs j (hsl j z)] at hj; cases hj
              exact ⟨(hsl3 j hn).2.2, (hsl3 j hn).2.1⟩, fun j a z => (by
              rcases hf3 j with q | q
              · rw [q] at z; exact .inl z
              · rw [q] at z; cases z), (by rw [← st3.len, hl3, st2.len])⟩
            have racc3 : Rl (View S.fn M2 H' f3 []) acc o := ak.mono _ _ _ _ (p3.view st2 st3 (by simp)) racc2
            refine ⟨r2, M2, f3, st3, ?_⟩
            cases e1 : mt r2 with
            | bad => simp [e1, Rs.noex, Rs.bind] at hrest
            | ex n v => simp [e1, Rs.noex, Rs.bind] at hrest
            | ok bb r3 =>
              simp only [e1, Rs.noex, Rs.bind] at hrest
              intro M4 H4 f4 st4 p4
              have keepD : ∀ {M H : Hp} {r r' : Ro} {f f' : Nat → List Addr} {M' H' : Hp} {s s' : L2.St}, Step g S.fn M H r f M' H' r' f' → Sta g M H r s f → Sta g M' H' r' s' f' → H D = some o → M D = none → (∀ j, D ∉ f j) → H' D = some o ∧ M' D = none ∧ ∀ j, D ∉ f' j := by
                intro M H r r' f f' M' H' s s' p st st' h1 h2 h3
                have e := p.keep D _ h1 (fun i _ => h3 i) hpl.1
                refine ⟨e, ?_, fun j z => ?_⟩
                · cases q : M' D with
                  | none => rfl
                  | some o' =>
                    rcases p.newM D o' q with q | q
                    · rw [h2] at q; cases q
                    · rw [h1] at q; cases q
                · rcases p.newF j D z with q | q
                  · exact h3 j q
                  · rw [h1] at q; cases q
              obtain ⟨d1, d2, d3⟩ := keepD p4 st3 st4 hHD2 hMD2 hDf3
              have racc4 : Rl (View S.fn M4 H4 f4 []) acc o := ak.mono _ _ _ _ (p4.view st3 st4 (by simp)) racc3
              have pp := (p2.trans p3).trans p4
              cases bb with
              | false =>
                simp only [Bool.false_eq_true, if_false] at hrest ⊢
                obtain ⟨f5, st5, hf5, p5⟩ := st4.blk (S := S) hvs
                rw [hws] at st5
                refine ⟨r3, M4, f5, acc, o, st5, pp.trans p5, hrest, by omega, ak.mono _ _ _ _ (p5.view st4 st5 (by simp)) racc4, d1, d2, fun j z => ?_⟩
                rcases hf5 j with q | ⟨_, q⟩
                · rw [q] at z; exact d3 j z
                · rw [q] at z; cases z
              | true =>
                simp only [if_true] at hrest ⊢
                refine ⟨r3, M4, f4, st4, ?_⟩
                cases e2 : me r3 with
                | bad => simp [e2] at hrest
                | ex n v => simp [e2] at hrest
                | ok os r4 =>
                  simp only [e2] at hrest
                  by_cases hpt : (os.all Own.isV && pt acc (os.map Own.val)) = true
                  rotate_left
                  · rw [if_neg hpt] at hrest; cases hrest
                  rw [if_pos hpt] at hrest
                  rw [Bool.and_eq_true] at hpt
                  intro ys M5 H5 f5 fd st5 t5 p5 fr5
                  obtain ⟨d4, d5, d6⟩ := keepD p5 st4 st5 d1 d2 d3
                  have racc5 : Rl (View S.fn M5 H5 f5 []) acc o := ak.mono _ _ _ _ (p5.view st4 st5 (by simp)) racc4
                  obtain ⟨rfl, rys⟩ := tmps_v t5 hpt.1
                  obtain ⟨o', hP, hR⟩ := ak.step _ H5 acc o _ ys racc5 st5.view_sub rys hpt.2 (by omega)
                  refine ⟨o, o', d4, hP, ?_⟩
                  have p6 := pp.trans p5
                  have st7 := st5.updO (o := o') d4 hpl d5 d6
                  obtain ⟨f8, st8, hf8, p8⟩ := st7.blk (S := S) hvs
                  rw [hws] at st8
                  have hvu : View S.fn M5 (upd H5 D o') f5 [] = View S.fn M5 H5 f5 [] := view_updD d6
                  have p7 : Step g S.fn M1 H1 r1 f1 M5 (upd H5 D o') r4 f5 := ⟨p6.mono, fun a u e n tt => by
                    by_cases hz : a = D
                    · subst hz; rw [hD] at e; cases e
                    · rw [upd_ne hz]; exact p6.keep a u e n tt, fun a e => by
                    by_cases hz : a = D
                    · subst hz; rw [upd_same] at e; cases e
                    · rw [upd_ne hz] at e; exact p6.dom a e, p6.newM, p6.same, p6.newF, p6.rlen⟩
                  refine ⟨r4, M5, f8, acc ++ [os.map Own.val], o', st8, p7.trans p8, hrest, by simp; omega, ak.mono _ _ _ _ (p8.view st7 st8 (by simp)) (by rw [hvu]; exact hR), upd_same, d5, fun j z => ?_⟩
                  rcases hf8 j with q | ⟨_, q⟩
                  · rw [q] at z; exact d6 j z
                  · rw [q] at z; cases z
end
end KS
set_option Elab.async false
set_option linter.all false
set_option maxRecDepth 100000
set_option maxHeartbeats 4000000
namespace KS
open PySem PySem.Spec PyProof.Rows L2
open LamX (Tabs TabS)
section
variable {P : Program} {w : World} {A : Around}
/-! ### sets of ints -/
def bdSet (P : Program) (w : World) (A : Around) (elt : Expr) : BD := fun env D K E s => wpAny (model P w) A (eval elt env) (fun x s₄ => wpAny (model P w) A (call (.builtin "set.add") [.ref D, x]) (fun _ s₅ => K s₅) E s₄) E s
def setO0 (w : World) : Obj := { cls := .type "set", dict := none, data := .set #[] 0 (.fresh 0 0 (!w.params.followText "set-order")) }
theorem compK_set {elt tg iter : Expr} {ifs : List Expr} {scope : Scope} {pos : Pos} : CompK P w A (.SetComp elt [⟨tg, iter, ifs, 0⟩] scope pos) tg iter ifs (newSet (.type "set")) (setO0 w) (bdSet P w A elt) where
  cl := rfl
  new := fun E s Q h => PpSet.newSet_ok h
  mono := fun env D K E s h => wpAny_mono h (fun x s4 h4 => wpAny_mono h4 (fun _ _ q => q) fun _ _ z => z.elim) fun _ _ z => z.elim
  monoK := fun env D K K' E s h k => wpAny_mono h (fun x s4 h4 => wpAny_mono h4 (fun _ s q => k s q) fun _ _ z => z) fun _ _ z => z
  loop := fun R s it D env I turn n h => PpSet.compLoopS_any I turn n h
  start := fun R s it D env h0 h => PpSet.codeAny_compStart_set h0 h
def PutS (ys : List V) (H : Hp) (o o' : HO) : Prop := ∃ c S n, ys = [.int c] ∧ o = .set S n ∧ n + 1 < scanBound ∧ o' = .set (fun j => S j || decide (j = c)) (if S c = true then n else n + 1)
def RlS (V : Hp) (acc : List (List Val)) (o : HO) : Prop := ∃ (ns : List Int) (S : Int → Bool), acc = ns.map (fun n => [Val.int n]) ∧ o = .set S (ddup ns).length ∧ ∀ j, S j = decide (j ∈ ns)
def ptS (acc : List (List Val)) : List Val → Bool
  | [.int _] => decide (acc.length < 4000)
  | _ => false
theorem ddup_snoc (ns : List Int) (c : Int) : (ddup (ns ++ [c])).length = if c ∈ ns then (ddup ns).length else (ddup ns).length + 1 := by
  symm
  split
  · rename_i h
    refine ddup_len nodup_ddup fun a => ?_
    rw [mem_ddup, List.mem_append, List.mem_singleton]
    exact ⟨.inl, fun z => z.elim id fun e => e ▸ h⟩
  · rename_i h
    have : (ddup ns).length + 1 = (c :: ddup ns).length := rfl
    rw [this]
    refine ddup_len (List.nodup_cons.mpr ⟨fun z => h (mem_ddup.mp z), nodup_ddup⟩) fun a => ?_
    rw [List.mem_cons, mem_ddup, List.mem_append, List.mem_singleton]
    exact Or.comm
theorem ak_set {g : G} : AcK g ptS (.set (fun _ => false) 0) PutS RlS where
  pln := fun V acc o ⟨ns, S, _, h, _⟩ => by subst h; exact ⟨fun ps z => (by cases z), fun q z e => (by cases e)⟩
  start := fun V => ⟨[], _, rfl, rfl, fun j => rfl⟩
  mono := fun V V' acc o _ h => h
  step := fun V H acc o ds ys ⟨ns, S, e1, e2, e3⟩ _ r hp hl => by
    unfold ptS at hp
    split at hp
    · rename_i c
      obtain ⟨x, rfl, rx⟩ := repL1 r rfl
      have := rx.intE
      subst this
      have hlen : ns.length < 4000 := by
        have := of_decide_eq_true hp
        rw [e1, List.length_map] at this; exact this
      have hdd := ddup_le ns
      refine ⟨_, ⟨c, S, _, rfl, e2, by unfold scanBound; omega, rfl⟩, ns ++ [c], fun j => S j || decide (j = c), by rw [e1, List.map_append]; rfl, ?_, fun j => ?_⟩
      · rw [ddup_snoc, e3]
        simp only [decide_eq_true_eq]
      · show (S j || decide (j = c)) = _
        rw [e3]; simp [List.mem_append]
    · cases hp
def accInts : List (List Val) → List Int
  | [] => []
  | [.int n] :: r => n :: accInts r
  | _ :: r => accInts r
theorem accInts_map : ∀ (ns : List Int), accInts (ns.map fun n => [Val.int n]) = ns
  | [] => rfl
  | n :: ns => by simp [accInts, accInts_map ns]
end
section
variable {g : G} {E : XK} {S : Vw} {k : Nat} {X : Cx} {pn : Option V}
theorem pbd_set {elt : Expr} {m : Mo Own} (he : PE X elt (tD g E0x S m)) (hx : X.xe = fun _ _ => False) (hA : X.A = A0) (hP : X.prog = P0) (hw : X.w = w0) : PBd X (bdSet P0 w0 A0 elt) (TbA (tA g E0x S (mCons m mNil)) PutS) := by
  subst hA hP hw
  refine ⟨fun pins s σ H D K I q => ?_⟩
  have q1 := imp_one q
  refine wpAny_mono (he.run pins s σ H _ I q1) (fun z s1 hz => ?_) fun _ _ z => by rw [hx] at z; exact z
  obtain ⟨y, H1, I1, r1, o, o', hD, ⟨c, S, n, e1, e2, e3, e4⟩, hK⟩ := hz
  cases e1
  subst e2 e4
  obtain ⟨tk, rfl⟩ := r1
  have hS : s1.heap.SetOf (intKind X.prog X.w) D S n := I1.hok D _ hD
  refine call_set_add (knd := intKind X.prog X.w) (k := c) (intKind_is _ _ _ _) rfl hS e3 fun h' sb new => ?_
  have he : ∃ u, h'.get? D = some u := by
    have ⟨o, _, _, _, ho, _⟩ := new
    exact ⟨o, ho⟩
  exact ⟨_, I1.write (e := D) (o := .set _ _) (t' := s1.toks + 1) (by rw [hD]; trivial) (.inl rfl) (fun b u hb hu => (sb.2 b hb).trans hu) he new, hK⟩
/-- the word of a comprehension of any kind from the value's -/
theorem imp_acG {Rl : Hp → List (List Val) → HO → Prop} {pt : List (List Val) → List Val → Bool} {vs : List Nat} {t : Tg} {mi : Mo (List Val)} {mt : Mo Bool} {me : Mo (List Own)} {fin : List (List Val) → Option Own} {s : L2.St} {H : Hp} {Q Q' : VK}
    (hf : ∀ r0 M0 f0 r2 acc o2 D M1 H1 f1 o, Sta g M0 H r0 s f0 → fin acc = some o2 → Sta g M1 H1 (wipeR r2 vs) s f1 → Step g S.fn M0 H r0 f0 M1 H1 (wipeR r2 vs) f1 → Rl (View S.fn M1 H1 f1 []) acc o → H1 D = some o → M1 D = none → (∀ j, D ∉ f1 j) → H D = none →
      (∀ x M' H' f' fd, Sta g M' H' (wipeR r2 vs) s f' → Tmp g S.fn M' H' f' o2 x fd → Step g S.fn M0 H r0 f0 M' H' (wipeR r2 vs) f' → (∀ a ∈ fd, H a = none) → Q x H') → Q' (.ref D) H1)
    (h : tD g E S (mAc pt S vs t mi mt me fin) s H Q) : tAcG g E S Rl pt vs t mi mt me s H Q' := by
  obtain ⟨r0, M0, f0, st0, h⟩ := h
  refine ⟨r0, M0, f0, st0, ?_⟩
  unfold mAc at h
  cases hm : mi r0 with
  | bad => rw [hm] at h; exact h
  | ex n v => rw [hm] at h; exact h
  | ok items r1 =>
    simp only [hm, Rs.bind] at h ⊢
    by_cases hlen : items.length ≤ 16777216
    rotate_left
    · rw [if_neg hlen] at h; exact h.elim
    rw [if_pos hlen] at h
    refine ⟨hlen, ?_⟩
    cases hgo : compGoA pt S vs t mt me [] items r1 with
    | bad => rw [hgo] at h; exact h
    | ex n v => rw [hgo] at h; exact h
    | ok acc r2 =>
      simp only [hgo, Rs.noex] at h ⊢
      cases hfi : fin acc with
      | none => rw [hfi] at h; exact h.elim
      | some o2 =>
        simp only [hfi] at h
        intro D M1 H1 f1 o st1 p1 hR hD hM hDf hH
        exact hf r0 M0 f0 r2 acc o2 D M1 H1 f1 o st0 hfi st1 p1 hR hD hM hDf hH h
/-- len({e for t in iter if ..}), e an int -/
theorem dx_lenSc {elt tg iter : Expr} {ifs : List Expr} {scope : Scope} {own : List (PySem.Str × Nat)} {pos p pos2 : Pos} {t : Tg} {mi : Mo (List Val)} {mt : Mo Bool} {me : Mo Own} (c : Cxt g E k X) (hm : g.mg "len" = none) (hi : PI X tg iter (tI g E false S mi)) (ok : blkC X.N X.env.scope scope own = true)
    (hg : ∀ (s : Shared) (H : Hp) (C : Addr) (cl : List (PySem.Str × Addr)) (fp : List Addr), DG (X.blk s H scope (compEnvC scope cl C X.env) fp) tg t) (ht : ∀ (s : Shared) (H : Hp) (C : Addr) (cl : List (PySem.Str × Addr)) (fp : List Addr), PTs (X.blk s H scope (compEnvC scope cl C X.env) fp) ifs (tB g E0x S mt))
    (he : ∀ (s : Shared) (H : Hp) (C : Addr) (cl : List (PySem.Str × Addr)) (fp : List Addr), PE (X.blk s H scope (compEnvC scope cl C X.env) fp) elt (tD g E0x S me)) (hgl : Gl X "len" := by rfl) (hv : ((own.map (·.2)).all fun v => !S.fn v) = true := by rfl) (hsl : (t.slots.all fun i => (own.map (·.2)).contains i) = true := by rfl)
    (hs : ∀ x, foldedSetIterable iter X.env x = pure x := by intro _; rfl) (he2 : starEach [Expr.SetComp elt [⟨tg, iter, ifs, 0⟩] scope pos] X.env = (false, eval (.SetComp elt [⟨tg, iter, ifs, 0⟩] scope pos) X.env) :: starEach [] X.env := by rfl) (hpl2 : (backTo pos2 (starEach [] X.env)).any (·.1) = false := by rfl) :
    PE X (.Call (.Name "len" p) [.SetComp elt [⟨tg, iter, ifs, 0⟩] scope pos] [] pos2) (tD g E S (mAc ptS S (own.map (·.2)) t mi mt (mCons me mNil) fun acc => if acc.length < 4000 then some (.v (.int (ddup (accInts acc)).length)) else none)) := by
  have hpe := pe_ac (u0 := .set (fun _ => false) 0) (g := gOf X.K t) (compK_set (P := X.prog) (w := X.w) (A := X.A) (elt := elt) (tg := tg) (iter := iter) (ifs := ifs) (scope := scope) (pos := pos)) (fun H h _ => (setR_fresh X.w).setOf) (PpSet.eval_SetComp elt _ scope pos) c.calm c.nd hi (blkOk_by ok) hg ht (fun s H C cl fp => pbd_set (he s H C cl fp) rfl rfl rfl rfl) hs
  refine PE.imp (pe_callB call_lenS hgl (by rw [c.mg]; exact hm) PySem.boot_len (pa_cons hpe pa_nil) (by decide) (by decide) he2 hpl2) fun s H Q q => ?_
  show tAc _ _ _ _ _ _ s H (fun x H1 => rLenS [x] H1 Q)
  refine imp_ac ak_set (tgOk X.K t) (fun v h => by simpa using List.all_eq_true.mp hv v h) (fun i h => by simpa using List.all_eq_true.mp hsl i h) (imp_acG (fun r0 M0 f0 r2 acc o2 D M1 H1 f1 o st0 hfi st1 p1 hR hD hM hDf hH q' => ?_) q)
  obtain ⟨ns, S2, e1, e2, e3⟩ := hR
  subst e1 e2
  rw [accInts_map, List.length_map] at hfi
  split at hfi
  · rename_i hlt
    cases hfi
    have := ddup_le ns
    exact ⟨D, S2, _, rfl, hD, by omega, q' (.int _) M1 H1 f1 [] st1 ⟨.v (.int _), fun a ha => by cases ha⟩ p1 (by simp)⟩
  · cases hfi
end
end KS
set_option Elab.async false
set_option linter.all false
set_option maxRecDepth 100000
set_option maxHeartbeats 4000000
namespace KS
open PySem PySem.Spec PyProof.Rows L2
open LamX (Tabs TabS)
/-! ### dicts with tuples as keys -/
def toKey : Val → Option Key
  | .int i => some (.inl i)
  | .str s => some (.inr s)
  | _ => none
def toKeys : List Val → Option (List Key)
  | [] => some []
  | d :: ds => (toKey d).bind fun k => (toKeys ds).map (k :: ·)
def keyOfV : Val → Option (List Key)
  | .tup xs => toKeys xs
  | _ => none
theorem toKeys_map : ∀ (k : List Key), toKeys (k.map keyV) = some k
  | [] => rfl
  | .inl i :: k => by simp [toKeys, keyV, toKey, toKeys_map k]
  | .inr i :: k => by simp [toKeys, keyV, toKey, toKeys_map k]
theorem keyOfV_T (k : List Key) : keyOfV (keyT k) = some k := toKeys_map k
theorem toKeys_eq : ∀ {ds : List Val} {k : List Key}, toKeys ds = some k → ds = k.map keyV
  | [], k, h => by simp [toKeys] at h; subst h; rfl
  | d :: ds, k, h => by
    cases d <;> simp only [toKeys, toKey] at h <;> try (cases h; done)
    all_goals
      rw [Option.bind_some] at h
      cases e : toKeys ds with
      | none => rw [e] at h; cases h
      | some k2 =>
        rw [e] at h; cases h
        rw [toKeys_eq e]; rfl
theorem keyOfV_eq {v : Val} {k : List Key} (h : keyOfV v = some k) : v = keyT k := by
  cases v <;> simp only [keyOfV] at h <;> try (cases h; done)
  rw [toKeys_eq h]; rfl
/-- in its place, or at the end -/
def putP (kvs : List (List Key × Val)) (k : List Key) (v : Val) : List (List Key × Val) :=
  if (kvs.any fun kv => decide (kv.1 = k)) = true then kvs.map (fun kv => if kv.1 = k then (kv.1, v) else kv) else kvs ++ [(k, v)]
def addP (kvs : List (List Key × Val)) : List Val → List (List Key × Val)
  | [k, v] => match keyOfV k with
    | some k => putP kvs k v
    | none => kvs
  | _ => kvs
def dictAcc (acc : List (List Val)) : List (List Key × Val) := acc.foldl addP []
def dctOf (kvs : List (List Key × Val)) : Val := .dct (kvs.map fun p => (keyT p.1, p.2))
section
variable {g : G} {E : XK} {S : Vw} {k : Nat} {X : Cx} {pn : Option V}
/-- the same dict, as values and as what lies -/
inductive DR (g : G) (M : Hp) : List (List Key × Val) → List (List Key × V) → Prop
  | nil : DR g M [] []
  | cons {k : List Key} {d : Val} {x : V} {ds : List (List Key × Val)} {xs : List (List Key × V)} : Rep g M d x → DR g M ds xs → DR g M ((k, d) :: ds) ((k, x) :: xs)
theorem DR.mono {M M' : Hp} (le : Le M M') {ds : List (List Key × Val)} {xs : List (List Key × V)} (h : DR g M ds xs) : DR g M' ds xs := by
  induction h with
  | nil => exact .nil
  | cons r _ ih => exact .cons (r.mono le) ih
theorem DR.any {M : Hp} {ds : List (List Key × Val)} {xs : List (List Key × V)} (h : DR g M ds xs) (q : List Key → Bool) : (ds.any fun kv => q kv.1) = xs.any fun kv => q kv.1 := by
  induction h with
  | nil => rfl
  | cons _ _ ih => rw [List.any_cons, List.any_cons, ih]
theorem DR.len {M : Hp} {ds : List (List Key × Val)} {xs : List (List Key × V)} (h : DR g M ds xs) : ds.length = xs.length := by
  induction h with
  | nil => rfl
  | cons _ _ ih => simp [ih]
theorem DR.snoc {M : Hp} {ds : List (List Key × Val)} {xs : List (List Key × V)} (h : DR g M ds xs) {k : List Key} {d : Val} {x : V} (r : Rep g M d x) : DR g M (ds ++ [(k, d)]) (xs ++ [(k, x)]) := by
  induction h with
  | nil => exact .cons r .nil
  | cons r' _ ih => exact .cons r' ih
theorem DR.repl {M : Hp} {ds : List (List Key × Val)} {xs : List (List Key × V)} (h : DR g M ds xs) {k : List Key} {d : Val} {x : V} (r : Rep g M d x) : DR g M (ds.map fun kv => if kv.1 = k then (kv.1, d) else kv) (xs.map fun kv => if kv.1 = k then (kv.1, x) else kv) := by
  induction h with
  | nil => exact .nil
  | @cons k2 d2 x2 ds xs r' _ ih =>
    rw [List.map_cons, List.map_cons]
    by_cases e : k2 = k
    · rw [if_pos e, if_pos e]; exact .cons r ih
    · rw [if_neg e, if_neg e]; exact .cons r' ih
theorem DR.put {M : Hp} {ds : List (List Key × Val)} {xs : List (List Key × V)} (h : DR g M ds xs) {k : List Key} {d : Val} {x : V} (r : Rep g M d x) : DR g M (putP ds k d) (putK xs k x) := by
  unfold putP putK
  rw [h.any fun c => decide (c = k)]
  split
  · exact h.repl r
  · exact h.snoc r
theorem DR.rep {M : Hp} {ds : List (List Key × Val)} {xs : List (List Key × V)} (h : DR g M ds xs) : (ds.map fun p => (keyT p.1, p.2)).map Prod.fst = xs.map (fun p => keyT p.1) ∧ RepL g M ((ds.map fun p => (keyT p.1, p.2)).map Prod.snd) (xs.map Prod.snd) := by
  induction h with
  | nil => exact ⟨rfl, .nil⟩
  | cons r _ ih => exact ⟨by simp only [List.map_cons, ih.1], .cons r ih.2⟩
def PutD (ys : List V) (H : Hp) (o o' : HO) : Prop := ∃ (kvs : List (List Key × V)) (k : List Key) (b : Addr) (v : V), ys = [.ref b, v] ∧ H b = some (.tup (k.map kV)) ∧ o = .dT kvs ∧ kvs.length < sizeLine ∧ o' = .dT (putK kvs k v)
def RlD (g : G) (V : Hp) (acc : List (List Val)) (o : HO) : Prop := ∃ kvs, o = .dT kvs ∧ DR g V (dictAcc acc) kvs ∧ kvs.length ≤ acc.length
def ptD (acc : List (List Val)) : List Val → Bool
  | [k, _] => (keyOfV k).isSome
  | _ => false
theorem RepL.keys {M : Hp} : ∀ {k : List Key} {xs : List V}, RepL g M (k.map keyV) xs → xs = k.map kV
  | [], _, h => by cases h; rfl
  | .inl i :: k, _, h => by
    cases h with
    | cons r t => have := (show Rep g M (.int i) _ from r).intE; rw [this, RepL.keys t]; rfl
  | .inr i :: k, _, h => by
    cases h with
    | cons r t => have := (show Rep g M (.str i) _ from r).strE; rw [this, RepL.keys t]; rfl
theorem ak_dct : AcK g ptD (.dT []) PutD (RlD g) where
  pln := fun V acc o ⟨ns, h, _⟩ => by subst h; exact ⟨fun ps z => (by cases z), fun q z e => (by cases e)⟩
  start := fun V => ⟨[], rfl, .nil, Nat.le_refl _⟩
  mono := fun V V' acc o le ⟨kvs, e, h, l⟩ => ⟨kvs, e, h.mono le, l⟩
  step := fun V H acc o ds ys ⟨kvs, e, h, l⟩ le r hp hl => by
    unfold ptD at hp
    split at hp
    · rename_i kd vd
      obtain ⟨ky, ek⟩ := Option.isSome_iff_exists.mp hp
      obtain ⟨y, z, rfl, r1, r2⟩ := repL2 r rfl
      have := keyOfV_eq ek
      subst this
      obtain ⟨b, vs, rfl, h1, t1⟩ := (show Rep g V (.tup (ky.map keyV)) y from r1).tupE
      have := t1.keys
      subst this
      have hpl := length_putK kvs ky z
      refine ⟨_, ⟨kvs, ky, b, z, rfl, le _ _ h1, e, by rw [sizeLine_eq]; omega, rfl⟩, _, rfl, ?_, by rw [List.length_append]; simp; omega⟩
      unfold dictAcc
      rw [List.foldl_append]
      show DR g V (addP _ [keyT ky, vd]) _
      unfold addP
      simp only [keyOfV_T]
      exact h.put r2
    · cases hp
def bdDct (P : Program) (w : World) (A : Around) (kx vx : Expr) : BD := fun env D K E s => wpAny (model P w) A (eval kx env) (fun kv s₄ => wpAny (model P w) A (eval vx env) (fun vv s₅ => wpAny (model P w) A (dictSet D kv vv) (fun _ s₆ => K s₆) E s₅) E s₄) E s
theorem compK_dct {P : Program} {w : World} {A : Around} {kx vx tg iter : Expr} {ifs : List Expr} {scope : Scope} {pos : Pos} : CompK P w A (.DictComp kx vx [⟨tg, iter, ifs, 0⟩] scope pos) tg iter ifs newDict { cls := .type "dict", data := .dict #[] } (bdDct P w A kx vx) where
  cl := rfl
  new := fun E s Q h => wpAny_newObj_type h
  mono := fun env D K E s h => wpAny_mono h (fun x s4 h4 => wpAny_mono h4 (fun _ s5 h5 => wpAny_mono h5 (fun _ _ q => q) fun _ _ z => z.elim) fun _ _ z => z.elim) fun _ _ z => z.elim
  monoK := fun env D K K' E s h k => wpAny_mono h (fun x s4 h4 => wpAny_mono h4 (fun _ s5 h5 => wpAny_mono h5 (fun _ s q => k s q) fun _ _ z => z) fun _ _ z => z) fun _ _ z => z
  loop := fun R s it D env I turn n h => compLoop_anyD I turn n h
  start := fun R s it D env h0 h => codeAny_compStart_dict h0 h
theorem d_dictSetT {pins : List (Addr × Obj)} {σ : L2.St} {H : Hp} {s : Shared} {E : Value → Shared → Prop} {D b : Addr} {kvs : List (List Key × V)} {k : List Key} {v : V} {r : Value} {Q : Unit → Shared → Prop} (hu : X.A.units + 1 < cLine) (I : Inv X pins σ H s) (hD : H D = some (.dT kvs)) (hb : H b = some (.tup (k.map kV))) (hz : kvs.length < sizeLine)
    (rv : RelV v r) (h : ∀ s', Inv X pins σ (upd H D (.dT (putK kvs k v))) s' → Q () s') : wpAny (model X.prog X.w) X.A (dictSet D (.ref b) r) Q E s := by
  obtain ⟨z, hd, xs, rel, dd⟩ := dt_of I.hok hD
  have hzx : xs.length ≤ sizeLine := by rw [← Paired.length rel]; exact z
  have hl : (putK kvs k v).length ≤ sizeLine := by have := length_putK kvs k v; omega
  refine wpAny_dictSet_heap (hsz := hzx) (by exact Nat.lt_of_le_of_lt (Nat.le_add_right _ 1) hu) (key_of I.hok hb) dd fun h' dd' hs => h _ ?_
  obtain ⟨q, es, ep, hq, h2, h3, h4, _, h5⟩ := dd'
  refine d_write I (by rw [hD]; exact True.intro) hs ⟨q, hq⟩ ⟨hl, hd, _, (rel.put k hb rv).keeps fun c ys ec => ?_, q, es, ep, hq, h2, h3, h4, h5⟩
  rw [upd_ne (ne_of ec hD (fun z => nomatch z))]
  exact ec
theorem pbd_dct {kx vx : Expr} {mk mv : Mo Own} {A0 : Around} {P0 : Program} {w0 : World} (hu : X.A.units + 1 < cLine) (hk : PE X kx (tD g E0x S mk)) (he : PE X vx (tD g E0x S mv)) (hx : X.xe = fun _ _ => False) (hA : X.A = A0) (hP : X.prog = P0) (hw : X.w = w0) : PBd X (bdDct P0 w0 A0 kx vx) (TbA (tA g E0x S (mCons mk (mCons mv mNil))) PutD) := by
  subst hA hP hw
  refine ⟨fun pins s σ H D K I q => ?_⟩
  have q1 := imp_two q
  refine wpAny_mono (hk.run pins s σ H _ I q1) (fun z s1 hz => ?_) fun _ _ z => by rw [hx] at z; exact z
  obtain ⟨y, H1, I1, r1, q2⟩ := hz
  refine wpAny_mono (he.run pins s1 σ H1 _ I1 q2) (fun z2 s2 hz2 => ?_) fun _ _ z => by rw [hx] at z; exact z
  obtain ⟨y2, H2, I2, r2, o, o', hD, ⟨kvs, ky, b, v, e1, e2, e3, e4, e5⟩, hK⟩ := hz2
  cases e1
  subst e3 e5
  obtain rfl : z = Value.ref b := r1
  exact d_dictSetT hu I2 hD e2 e4 r2 fun s3 I3 => ⟨_, I3, hK⟩
def finD (acc : List (List Val)) : Option Own := some (.v (dctOf (dictAcc acc)))
theorem imp_dct {t : Tg} {vs : List Nat} {mi : Mo (List Val)} {mt : Mo Bool} {me : Mo (List Own)} {s : L2.St} {H : Hp} {Q : VK} (tK : PySem.W.Frag) (hv : (vs.all fun v => !S.fn v) = true) (hsl : (t.slots.all fun i => vs.contains i) = true) (q : tD g E S (mAc ptD S vs t mi mt me finD) s H Q) :
    tAc (.dT []) (tI g E false S mi) (gOf tK t) (tB g E0x S mt) (TbA (tA g E0x S me) PutD) vs s H Q := by
  refine imp_ac ak_dct (tgOk tK t) (fun v h => by simpa using List.all_eq_true.mp hv v h) (fun i h => by simpa using List.all_eq_true.mp hsl i h) (imp_acG (fun r0 M0 f0 r2 acc o2 D M1 H1 f1 o st0 hfi st1 p1 hR hD hM hDf hH q' => ?_) q)
  obtain ⟨kvs, rfl, hdr, hlen⟩ := hR
  unfold finD at hfi
  cases hfi
  have le1 : Le M1 (upd M1 D (.dT kvs)) := fun a u e => by rw [upd_ne (fun z => by rw [z, hM] at e; cases e)]; exact e
  have lev : Le (View S.fn M1 H1 f1 []) (View S.fn (upd M1 D (.dT kvs)) H1 f1 []) := fun a u e => by
    rcases view_cases S.fn M1 H1 f1 [] a with ⟨⟨j, h1, h2⟩, z⟩ | ⟨z, _⟩ | ⟨h1, h2, z⟩
    · rw [z] at e; rw [view_in h1 h2]; exact e
    · cases z
    · rw [z] at e; rw [view_out h1 h2]; exact le1 _ _ e
  have rep := (hdr.mono lev).rep
  refine q' (.ref D) (upd M1 D (.dT kvs)) H1 f1 [] ⟨fun a u e => ?_, fun i d e => ?_, st1.dis, fun i a h => ?_, st1.out, st1.tab, st1.len, fun p hp => ?_⟩ ⟨.v (.dT ?_ rep.1 rep.2), fun a ha => by cases ha⟩ ⟨p1.mono.trans le1, p1.keep, p1.dom, fun a u e => ?_, p1.same, p1.newF, p1.rlen⟩ (by simp)
  · by_cases hz : a = D
    · rw [hz, upd_same] at e; rw [hz, hD]; exact e
    · rw [upd_ne hz] at e; exact st1.sub _ _ e
  · obtain ⟨x, h1, h2⟩ := st1.env i d e
    exact ⟨x, h1, h2.mono le1 fun _ _ _ h => h⟩
  · rw [upd_ne (fun z => hDf i (by rw [← z]; exact h))]; exact st1.fre i a h
  · obtain ⟨ps, e⟩ := tab_at st1.tab hp
    rw [upd_ne (fun z => by rw [z, hD] at e; cases e)]; exact st1.nt p hp
  · rw [view_out (fun j _ => hDf j) (by simp)]; exact upd_same
  · by_cases hz : a = D
    · exact .inr (by rw [hz]; exact hH)
    · rw [upd_ne hz] at e; exact p1.newM _ _ e
/-- y = {k: v for t in iter if ..}, the keys tuples -/
theorem ds_setDc {i : Nat} {y : PySem.Str} {py spos : Pos} {kx vx tg iter : Expr} {ifs : List Expr} {scope : Scope} {own : List (PySem.Str × Nat)} {pos : Pos} {t : Tg} {mi : Mo (List Val)} {mt : Mo Bool} {mk mv : Mo Own} (c : Cxt g E k X) (hi : PI X tg iter (tI g E false S mi)) (ok : blkC X.N X.env.scope scope own = true)
    (hg : ∀ (s : Shared) (H : Hp) (C : Addr) (cl : List (PySem.Str × Addr)) (fp : List Addr), DG (X.blk s H scope (compEnvC scope cl C X.env) fp) tg t) (ht : ∀ (s : Shared) (H : Hp) (C : Addr) (cl : List (PySem.Str × Addr)) (fp : List Addr), PTs (X.blk s H scope (compEnvC scope cl C X.env) fp) ifs (tB g E0x S mt))
    (hk : ∀ (s : Shared) (H : Hp) (C : Addr) (cl : List (PySem.Str × Addr)) (fp : List Addr), PE (X.blk s H scope (compEnvC scope cl C X.env) fp) kx (tD g E0x S mk)) (he : ∀ (s : Shared) (H : Hp) (C : Addr) (cl : List (PySem.Str × Addr)) (fp : List Addr), PE (X.blk s H scope (compEnvC scope cl C X.env) fp) vx (tD g E0x S mv)) (hy : X.N[i]? = some y := by rfl) (hyl : X.env.scope.names.lookup y = some .local := by rfl)
    (hsw : swapsWith (.DictComp kx vx [⟨tg, iter, ifs, 0⟩] scope pos) (some (.Name y py)) spos.line X.env = pure true := by exact swd_true rfl rfl rfl (by decide +kernel)) (hi0 : i ≠ 0 ∨ pn = none := by first | exact .inl (by decide) | exact .inr rfl)
    (hv : ((own.map (·.2)).all fun v => !S.fn v) = true := by rfl) (hsl : (t.slots.all fun i => (own.map (·.2)).contains i) = true := by rfl)
    (hs : ∀ x, foldedSetIterable iter X.env x = pure x := by intro _; rfl) : PS X (.Assign [.Name y py] (.DictComp kx vx [⟨tg, iter, ifs, 0⟩] scope pos) spos) (tS g E pn (sSet S i (mAc ptD S (own.map (·.2)) t mi mt (mCons mk (mCons mv mNil)) finD))) := by
  refine PS.imp (ps_setAc (u0 := .dT []) (g := gOf X.K t) (compK_dct (P := X.prog) (w := X.w) (A := X.A) (kx := kx) (vx := vx) (tg := tg) (iter := iter) (ifs := ifs) (scope := scope) (pos := pos)) (fun H h hb => dt_empty h hb) (fun u => rfl) hsw hy hyl c.calm c.nd hi (blkOk_by ok) hg ht (fun s H C cl fp => pbd_dct (by have := c.room.un; show X.A.units + 1 < cLine; omega) (hk s H C cl fp) (he s H C cl fp) rfl rfl rfl rfl) hs) fun D s H q => ?_
  exact imp_dct X.K hv hsl (imp_set hi0 q)
end
theorem swd_true {kx vx : Expr} {gs : List Comprehension} {scope : Scope} {pos py : Pos} {y : PySem.Str} {l : Nat} {env : Env} (hk : env.scope.kind = .function) (hy : env.scope.names.lookup y = some .local) (hl : (py.line == pos.line) = true)
    (ha : (scope.names.any fun (n, k) => n == y && (k == .local || k == .cell)) = false) : swapsWith (.DictComp kx vx gs scope pos) (some (.Name y py)) l env = pure true := by
  have ky : env.kindOf y = some .local := hy
  have hb : env.blockKind = .function := by unfold Env.blockKind; rw [hk]; rfl
  unfold swapsWith
  simp only [hb, ky, ha, Expr.pos, hl]
  rfl
end KS
set_option Elab.async false
set_option linter.all false
set_option maxRecDepth 100000
set_option maxHeartbeats 4000000
namespace KS
open PySem PySem.Spec PyProof.Rows L2
open LamX (Tabs TabS)
section
variable {g : G} {E : XK} {S : Vw} {k : Nat} {X : Cx} {pn : Option V}
/-! ### in a dict -/
def rInDc (neg : Bool) : R2 := fun x y H Q => ∃ a o, y = .ref a ∧ DGet H a x o ∧ Q (.bl (if neg then !o.isSome else o.isSome)) H
theorem op_inDc (hu : X.A.units + 66 < cLine) : OpR X (compareOp .In) (rInDc false) := by
  intro pins s σ H x y v u Q I rx ry h
  obtain ⟨a, o, rfl, hg, q⟩ := h
  cases ry
  exact d_in (by omega) I hg rx fun s' I' => ⟨.bl _, H, I', rfl, q⟩
theorem op_notInDc (hu : X.A.units + 66 < cLine) : OpR X (compareOp .NotIn) (rInDc true) := by
  intro pins s σ H x y v u Q I rx ry h
  obtain ⟨a, o, rfl, hg, q⟩ := h
  cases ry
  exact d_notIn (by omega) I hg rx fun s' I' => ⟨.bl _, H, I', rfl, q⟩
def inDc (d : Val) (ks : List (Val × Val)) : Option Bool := (keyOfV d).map fun k => ks.any fun p => decide (keyOfV p.1 = some k)
def kInDc : List Val → Option Own
  | [d, .dct ks] => (inDc d ks).map fun b => .v (.bl b)
  | _ => none
def kNotInDc : List Val → Option Own
  | [d, .dct ks] => (inDc d ks).map fun b => .v (.bl (!b))
  | _ => none
theorem dget_dct {M H : Hp} (le : Le M H) {d : Val} {ks : List (Val × Val)} {x y : V} {b : Bool} (r1 : Rep g M d x) (r2 : Rep g M (.dct ks) y) (e : inDc d ks = some b) : ∃ a o, y = .ref a ∧ DGet H a x o ∧ o.isSome = b := by
  cases r2 with
  | dT h1 e1 t =>
    rename_i a kvs
    unfold inDc at e
    cases ek : keyOfV d with
    | none => rw [ek] at e; cases e
    | some ky =>
      rw [ek] at e; cases e
      have := keyOfV_eq ek
      subst this
      obtain ⟨b2, vs, rfl, h2, t2⟩ := (show Rep g M (.tup (ky.map keyV)) x from r1).tupE
      have := t2.keys
      subst this
      refine ⟨a, valV kvs ky, rfl, DGet.t (le _ _ h1) (le _ _ h2), ?_⟩
      rw [← valV_any]
      have e3 : (ks.any fun p => decide (keyOfV p.1 = some ky)) = (ks.map Prod.fst).any fun v => decide (keyOfV v = some ky) := by rw [List.any_map]; rfl
      show _ = ks.any _
      rw [e3, e1, List.any_map]
      congr 1
      funext p
      simp only [Function.comp, keyOfV_T, Option.some.injEq]
theorem pure_inDc : Pure g (R2p (rInDc false)) kInDc := by
  refine Pure.val fun M H xs ds o le r e => ?_
  unfold kInDc at e
  split at e
  all_goals first | (cases e; done) | skip
  rename_i d ks
  obtain ⟨x, y, rfl, r1, r2⟩ := repL2 r rfl
  cases hv : inDc d ks with
  | none => rw [hv] at e; cases e
  | some b =>
    rw [hv] at e; cases e
    obtain ⟨a, o, rfl, hg, ho⟩ := dget_dct le r1 r2 hv
    exact ⟨_, _, rfl, .bl _, fun Q q' => ⟨_, _, rfl, a, o, rfl, hg, by rw [if_neg Bool.false_ne_true, ho]; exact q'⟩⟩
theorem pure_notInDc : Pure g (R2p (rInDc true)) kNotInDc := by
  refine Pure.val fun M H xs ds o le r e => ?_
  unfold kNotInDc at e
  split at e
  all_goals first | (cases e; done) | skip
  rename_i d ks
  obtain ⟨x, y, rfl, r1, r2⟩ := repL2 r rfl
  cases hv : inDc d ks with
  | none => rw [hv] at e; cases e
  | some b =>
    rw [hv] at e; cases e
    obtain ⟨a, o, rfl, hg, ho⟩ := dget_dct le r1 r2 hv
    exact ⟨_, _, rfl, .bl _, fun Q q' => ⟨_, _, rfl, a, o, rfl, hg, by rw [if_pos rfl, ho]; exact q'⟩⟩
end
end KS
set_option Elab.async false
set_option linter.all false
set_option maxRecDepth 100000
set_option maxHeartbeats 4000000
namespace KS
open PySem PySem.Spec PyProof.Rows L2
open LamX (Tabs TabS TabB)
open He (ga ma)
/-! ### the head, for texts with own errors -/
/-- what the names reach, and the interpreter's own statics -/
def asY (g : Addr → Option Obj) (n : Nat) : List Addr := He.asD g n ++ [cStatics]
abbrev FnI : Type := Option (Arguments × FuncBody × Scope × Addr × Addr)
def fnI (K : PySem.W.Frag) (f : Addr) : FnI := match K.lookup f with
  | some ⟨_, _, .func fd, _⟩ => some (fd.params, fd.body, fd.scope, fd.globals, fd.builtins)
  | _ => none
def valI (st : Stmt) : FnI := some (defArgs st, .stmts (defBody st), defScope st, mainGlobals, builtinsNs)
abbrev iniA (K : PySem.W.Frag) (D : PySem.Str) : Addr := ma K (ga K D) "__init__"
abbrev AlY : Type := He.AlX × FnI
def obsY (n : Nat) (fa : List He.Fa) (fn : List He.DefD) (tf : List He.Defn) (ex : PySem.W.Frag → Bool) (D : PySem.Str) (g : Addr → Option Obj) : AlY := ((He.obsT fa fn [] (He.frT g (asY g n)), ex (He.frT g (asY g n)) && He.tabsB g tf (He.frT g (asY g n))), fnI (He.frT g (asY g n)) (iniA (He.frT g (asY g n)) D))
def valY (fn : List He.DefD) (st : Stmt) (w : World) : AlY := ((He.valT fn [] w, true), valI st)
theorem saysX_any {as : List Addr} {fa : List He.Fa} {fn : List He.DefD} {ts : List He.Tab} {tf : List He.Defn} {ex : PySem.W.Frag → Bool} {w : World} {h : Heap} (e1 : He.obsT fa fn ts (He.frT h.get? as) = He.valT fn ts w) (e2 : (ex (He.frT h.get? as) && He.tabsB h.get? tf (He.frT h.get? as)) = true) : He.SaysX fa fn ts tf ex w h (He.frT h.get? as) := by
  obtain ⟨h1, h2⟩ := He.ba e2
  have key : ∀ p ∈ tf, PySem.W.codeHdIn (He.frT h.get? as) (He.cT (He.frT h.get? as) p).1 (He.cT (He.frT h.get? as) p).2 = true ∧ ∃ o, h.get? (He.cT (He.frT h.get? as) p).2 = some o ∧ He.emptyTab o = true := fun p hp => by
    obtain ⟨h3, h4⟩ := He.ba (List.all_eq_true.mp h2 p hp)
    refine ⟨h3, ?_⟩
    cases q : h.get? (He.cT (He.frT h.get? as) p).2 with
    | none => rw [q] at h4; cases h4
    | some o => rw [q] at h4; exact ⟨o, rfl, h4⟩
  exact ⟨e1, h1, fun p hp => (key p hp).1, fun p hp => by
    obtain ⟨_, o, q, z⟩ := key p hp
    exact He.frT_none q z, fun p hp => by
    obtain ⟨_, o, q, z⟩ := key p hp
    rw [q, He.emptyTab_eq z]⟩
/-- what is told -/
structure SaysY (fa : List He.Fa) (fn : List He.DefD) (tf : List He.Defn) (ex : PySem.W.Frag → Bool) (D : PySem.Str) (st : Stmt) (w : World) (h : Heap) (K : PySem.W.Frag) : Prop where
  x : He.SaysX fa fn [] tf ex w h K
  ini : fnI K (iniA K D) = valI st
def hookY (n : Nat) (fa : List He.Fa) (fn : List He.DefD) (tf : List He.Defn) (ex : PySem.W.Frag → Bool) (D : PySem.Str) (st : Stmt) : PySem.W.Hook where
  α := AlY
  obs := fun s => obsY n fa fn tf ex D s.heap.get?
  val := fun w => valY fn st w
  says := fun w h => ∃ K : PySem.W.Frag, K.In h ∧ SaysY fa fn tf ex D st w h K
  of := fun w s e => by
    have a1 : He.obsT fa fn [] (He.frT s.heap.get? (asY s.heap.get? n)) = He.valT fn [] w := congrArg (fun z : AlY => z.1.1) e
    have a2 : (ex (He.frT s.heap.get? (asY s.heap.get? n)) && He.tabsB s.heap.get? tf (He.frT s.heap.get? (asY s.heap.get? n))) = true := congrArg (fun z : AlY => z.1.2) e
    have a3 : fnI (He.frT s.heap.get? (asY s.heap.get? n)) (iniA (He.frT s.heap.get? (asY s.heap.get? n)) D) = valI st := congrArg (fun z : AlY => z.2) e
    exact ⟨_, He.frT_in, saysX_any a1 a2, a3⟩
  keeps := fun _ _ _ ⟨K, hK, c⟩ k => ⟨K, PySem.W.Frag.In.keeps hK k, ⟨c.x.t, c.x.more, c.x.hd, c.x.out, fun p hp => k _ _ (c.x.empty p hp)⟩, c.ini⟩
theorem obsY_eq {n : Nat} {fa : List He.Fa} {fn : List He.DefD} {tf : List He.Defn} {ex : PySem.W.Frag → Bool} {D : PySem.Str} {st : Stmt} {g : Addr → Option Obj} {s : Shared} (h : ∀ a, g a = s.heap.get? a) : obsY n fa fn tf ex D g = (hookY n fa fn tf ex D st).obs s := by
  have e : g = s.heap.get? := funext h
  rw [e] <;> rfl
/-! ### the Bools -/
def oexB (K : PySem.W.Frag) (C : Addr) : Bool := (match K.lookup C with
  | some ⟨.type "type", _, .cls cd, sl⟩ => (match cd.mro, sl.toList with
    | .ref C' :: bm, [_, _, _, _, some (.builtin n), _] => C' == C && (n == "ValueError.__new__" && (!cd.hasDel && (cd.hasDict && PySem.HandSPX.refsVE bm)))
    | _, _ => false)
  | _ => false) && (He.eqO (PySem.W.findIn K (.ref C) "__setattr__") (some (some (.builtin "object.__setattr__"))) && (decide (PySem.W.subIn K (.ref C) (.type "BaseException") = some true) && (decide (PySem.W.typeIn K (.ref C) = some (.type "type")) && PySem.W.keepIn K (.ref C))))
theorem oexB_ok {K : PySem.W.Frag} {C : Addr} (h : oexB K C = true) : OexC K C := by
  obtain ⟨h1, h⟩ := He.ba h
  obtain ⟨h2, h⟩ := He.ba h
  obtain ⟨h3, h⟩ := He.ba h
  obtain ⟨h4, h5⟩ := He.ba h
  refine ⟨?_, He.eqO_ok h2, of_decide_eq_true h3, of_decide_eq_true h4, h5⟩
  split at h1
  · rename_i dd cd sl ho
    split at h1
    · rename_i C' bm k0 k1 k2 k3 n k5 hm hs
      simp only [Bool.and_eq_true, beq_iff_eq, Bool.not_eq_true'] at h1
      obtain ⟨rfl, rfl, hdel, hd, hb⟩ := h1
      obtain ⟨nm, bs, mro, ns, qn, hd', sn, sub, ab, col, del⟩ := cd
      dsimp only at hm hdel hd
      subst hm hdel hd
      have hsl : sl = #[k0, k1, k2, k3, some (.builtin "ValueError.__new__"), k5] := by
        obtain ⟨l⟩ := sl
        simp only at hs
        rw [hs]
      subst hsl
      exact ⟨nm, qn, ns, bs, bm, sn, sub, ab, col, dd, k0, k1, k2, k3, k5, ho, hb⟩
    · cases h1
  · cases h1
def fileB (P : Program) (vs : Array Value) : Bool := match (vs[2]? : Option Value) with
  | some (.str file _) => (P.main.file : PySem.Str) == file
  | _ => false
def one1B (K : PySem.W.Frag) (T : Addr) : Bool := match K.lookup T with
  | some ⟨_, _, .seq its _, _⟩ => decide (its.size = 1)
  | _ => false
def iniB (P : Program) (K : PySem.W.Frag) (D : Addr) (f : Addr) : Bool := (match K.lookup f with
  | some ⟨_, _, .func fd, _⟩ => (match fd.closure, fd.code, fd.defaults with
    | [(n, cc)], .ref cda, .ref T => one1B K T && (decide (n = "__class__") && (PySem.W.codeIn K (.ref cda) fd.qualname && ((match K.lookup cc with
      | some ⟨_, _, .cell (some (.ref d)), _⟩ => d == D
      | _ => false) && (match K.lookup cda with
      | some ⟨_, _, .fields vs, _⟩ => fileB P vs
      | _ => false))))
    | _, _, _ => false)
  | _ => false) && ((PySem.W.clsIn K D).isSome && (He.eqO (PySem.W.nsIn K cStatics "thirdparty.any") (some none) && (He.eqO (PySem.W.nsIn K mainGlobals "super") (some none) && !(P.main.scope.names.lookup ("super" : PySem.Str)).isSome)))
theorem iniB_ok {P : Program} {K : PySem.W.Frag} {D f : Addr} {st : Stmt} (h : iniB P K D f = true) (e : fnI K f = valI st) : ∃ fd, IniC P K D f st fd ∧ fd.params = defArgs st ∧ ∃ T o its m, fd.defaults = .ref T ∧ K.lookup T = some o ∧ o.data = .seq its m ∧ its.size = 1 := by
  obtain ⟨h1, h⟩ := He.ba h
  obtain ⟨h2, h⟩ := He.ba h
  obtain ⟨h3, h⟩ := He.ba h
  obtain ⟨h4, h5⟩ := He.ba h
  unfold fnI valI at e
  split at h1
  · rename_i oc od fd osl ho
    rw [ho] at e
    split at h1
    · rename_i n cc cda T hcl hcode hdfl
      obtain ⟨k0, h1⟩ := He.ba h1
      obtain ⟨k1, h1⟩ := He.ba h1
      obtain ⟨k2, h1⟩ := He.ba h1
      obtain ⟨k3, k4⟩ := He.ba h1
      obtain ⟨n1, n2, n3, n4, n5, n6, n7, n8, n9, n10, n11, n12, n13, n14, n15⟩ := fd
      simp only [Option.some.injEq, Prod.mk.injEq] at e
      obtain ⟨e1, e2, e3, e4, e5⟩ := e
      dsimp only at hcl hcode hdfl
      have k1 := of_decide_eq_true k1
      subst e1 e2 e3 e4 e5 hcl hcode hdfl k1
      refine ⟨_, ⟨⟨oc, od, n1, n2, .ref T, n9, n10, n11, n14, n12, osl, cc, cda, rfl, ho, k2, ?_, ?_⟩, Option.isSome_iff_exists.mp h2, He.eqO_ok h3, He.eqO_ok h4, by simpa using h5⟩, rfl, ?_⟩
      · split at k3
        · rename_i cl cld d csl hc
          have := eq_of_beq k3
          subst this
          exact ⟨_, _, _, hc⟩
        · cases k3
      · split at k4
        · rename_i ccl cdd vs ccs hc
          unfold fileB at k4
          split at k4
          · rename_i file tf hv
            exact ⟨_, _, _, _, _, _, hc, hv, k4⟩
          · cases k4
        · cases k4
      · unfold one1B at k0
        split at k0
        · rename_i _ _ its m _ hT
          exact ⟨T, _, its, m, rfl, hT, rfl, of_decide_eq_true k0⟩
        · cases k0
    · cases h1
  · cases h1
def raB (K : PySem.W.Frag) (D n : PySem.Str) : Bool := oexB K (ga K n) && (He.eqO (PySem.W.nsIn K mainGlobals n) (some (some (.ref (ga K n)))) && (He.eqO (PySem.W.ks_superIn K (ga K n) (ga K D) "__init__") (some (some (.builtin "ValueError.__init__"))) && (decide (PySem.W.subIn K (.ref (ga K n)) (.type "ValueError") = some true) &&
  (decide (PySem.W.mroIn K (ga K n) (.ref (ga K D)) = some true) && (He.eqO (PySem.W.findIn K (.ref (ga K n)) "value") (some none) && (He.eqO (PySem.W.findIn K (.ref (ga K n)) "__init__") (some (some (.ref (iniA K D)))) && decide (PySem.W.typeIn K (.ref (iniA K D)) = some (.type "function"))))))))
structure RaK (K : PySem.W.Frag) (D n : PySem.Str) : Prop where
  at_ : PySem.W.nsIn K mainGlobals n = some (some (.ref (ga K n)))
  sub : SubC K (ga K D) (ga K n)
  ini : PySem.W.findIn K (.ref (ga K n)) "__init__" = some (some (.ref (iniA K D)))
  ty : PySem.W.typeIn K (.ref (iniA K D)) = some (.type "function")
theorem raB_ok {K : PySem.W.Frag} {D n : PySem.Str} (h : raB K D n = true) : RaK K D n := by
  obtain ⟨h1, h⟩ := He.ba h
  obtain ⟨h2, h⟩ := He.ba h
  obtain ⟨h3, h⟩ := He.ba h
  obtain ⟨h4, h⟩ := He.ba h
  obtain ⟨h5, h⟩ := He.ba h
  obtain ⟨h6, h⟩ := He.ba h
  obtain ⟨h7, h8⟩ := He.ba h
  exact ⟨He.eqO_ok h2, ⟨oexB_ok h1, He.eqO_ok h3, of_decide_eq_true h4, of_decide_eq_true h5, He.eqO_ok h6⟩, He.eqO_ok h7, of_decide_eq_true h8⟩
def subE (n m : PySem.Str) : Bool := decide (n = m) || decide (m = "KeptError")
def excB (K : PySem.W.Frag) (C : Addr) : Bool := decide (PySem.W.findIn K (.ref C) "__class__" = some (some (.builtin "object.__class__"))) && (decide (PySem.W.specialIn K (.builtin "object.__class__") "__get__" = some (some (.builtin "getset_descriptor.__get__"))) && (decide (PySem.W.takesIn K (.builtin "object.__class__") = some true) && (decide (PySem.W.mroIn K C (.type "object") = some true) && xfB K C)))
theorem excB_ok {K : PySem.W.Frag} {C : Addr} (h : excB K C = true) : XfC K C ∧ ExcC K C := by
  obtain ⟨h1, h⟩ := He.ba h
  obtain ⟨h2, h⟩ := He.ba h
  obtain ⟨h3, h⟩ := He.ba h
  obtain ⟨h4, h5⟩ := He.ba h
  have x := xfB_ok h5
  exact ⟨x, x.ga, x.gg, x.exC, x.hdC, of_decide_eq_true h1, of_decide_eq_true h2, of_decide_eq_true h3, of_decide_eq_true h4⟩
/-- all of it, for the classes ns and the script's P -/
def errB (P : Program) (ns : List PySem.Str) (K : PySem.W.Frag) : Bool := iniB P K (ga K "KeptError") (iniA K "KeptError") && ns.all fun n => raB K "KeptError" n && (excB K (ga K n) && (decide (PySem.W.exmOne K (.ref (ga K n)) (.ref (ga K "KeptError")) = some true) && (decide (PySem.W.kitOne K (.type "NoneType") (.ref (ga K n)) = some false) &&
  (decide (PySem.W.kitOne K (.ref (ga K n)) (.type "ValueError") = some true) && ns.all fun m => decide (PySem.W.kitOne K (.ref (ga K n)) (.ref (ga K m)) = some (subE n m))))))
structure ErrF (g : G) (ok : PySem.Str → Bool) : Prop where
  ra : ∀ n, ok n = true → RaF g n
  he : HeF g "KeptError" ok
  ex : ExF g ok subE
  at_ : ∀ n, ok n = true → ∃ C, g.mg n = some (.ref C)
theorem errB_ok {g : G} {h : Heap} {ns : List PySem.Str} {st : Stmt} (X : g.K.In h) (G : h.Ns mainGlobals g.mg) (e : errB g.P ns g.K = true) (ei : fnI g.K (iniA g.K "KeptError") = valI st) (is : IniS st) (hK : ("KeptError" : PySem.Str) ∈ ns)
    (hb : ∀ (name qual : PySem.Str) (T : Addr) (kV doc pm ct : Value) (an : Option Addr) (cc cda : Addr) (it : Value), ∀ us : List Value, us.length = 2 → ∃ k, bindArgs (PySem.W.ksFn name qual (defArgs st) (defBody st) (defScope st) (.ref T) kV doc pm an (.ref cda) ct cc) ⟨us, []⟩ = seqItems? (.ref T) >>= k ∧ k (some #[it]) = pure ((["self", "value"] : List PySem.Str).zip us)) : ErrF g (fun n => ns.contains n) := by
  obtain ⟨e1, e2⟩ := He.ba e
  obtain ⟨fd, hfd, _, T, oT, its, mT, hdf, hT, hTd, h1⟩ := iniB_ok e1 ei
  have mem : ∀ {n : PySem.Str}, ns.contains n = true → n ∈ ns := fun h => by simpa using h
  have key : ∀ n ∈ ns, RaK g.K "KeptError" n ∧ (XfC g.K (ga g.K n) ∧ ExcC g.K (ga g.K n)) ∧ PySem.W.exmOne g.K (.ref (ga g.K n)) (.ref (ga g.K "KeptError")) = some true ∧ PySem.W.kitOne g.K (.type "NoneType") (.ref (ga g.K n)) = some false ∧ PySem.W.kitOne g.K (.ref (ga g.K n)) (.type "ValueError") = some true ∧ ∀ m ∈ ns, PySem.W.kitOne g.K (.ref (ga g.K n)) (.ref (ga g.K m)) = some (subE n m) := fun n hn => by
    obtain ⟨h1, h⟩ := He.ba (List.all_eq_true.mp e2 n hn)
    obtain ⟨h2, h⟩ := He.ba h
    obtain ⟨h3, h⟩ := He.ba h
    obtain ⟨h4, h⟩ := He.ba h
    obtain ⟨h5, h6⟩ := He.ba h
    exact ⟨raB_ok h1, excB_ok h2, of_decide_eq_true h3, of_decide_eq_true h4, of_decide_eq_true h5, fun m hm => of_decide_eq_true (List.all_eq_true.mp h6 m hm)⟩
  have at_ : ∀ n ∈ ns, g.mg n = some (.ref (ga g.K n)) := fun n hn => PySem.W.mg_of X G (key n hn).1.at_
  have uniq : ∀ {n : PySem.Str} {C : Addr}, n ∈ ns → g.mg n = some (.ref C) → C = ga g.K n := fun {n C} hn h => by
    rw [at_ n hn] at h; cases h; rfl
  refine ⟨fun n hn => ?_, ⟨_, at_ _ hK, fun n C hn hc => ?_⟩, ⟨fun n C hn hc => ?_, fun n C m C2 hn hm hc hc2 => ?_, fun m C2 hm hc2 => ?_, fun n C hn hc => ?_⟩, fun n hn => ⟨_, at_ n (mem hn)⟩⟩
  · have k := (key n (mem hn)).1
    refine ⟨_, _, _, st, fd, at_ n (mem hn), k.sub, hfd, is, k.ini, k.ty, fun s us KX hl => ?_⟩
    obtain ⟨oc, od, name, qual, dV, kV, doc, pm, ct, an, osl, cc, cda, rfl, _⟩ := hfd.ex
    have hdf : dV = .ref T := hdf
    subst hdf
    rw [List.append_nil] at hl ⊢
    obtain ⟨it, hit⟩ : ∃ it, its = #[it] := by
      obtain ⟨l⟩ := its
      match l, h1 with
      | [x], _ => exact ⟨x, rfl⟩
    subst hit
    obtain ⟨k, e1, e2⟩ := hb name qual T kV doc pm ct an cc cda it us hl
    exact BindsTo.of_defaults rfl (KX _ _ hT) hTd e1 e2
  · rw [uniq (mem hn) hc]; exact (key n (mem hn)).2.2.1
  · rw [uniq (mem hn) hc]
    exact ⟨(key n (mem hn)).2.1.1, (key n (mem hn)).2.1.2, (key n (mem hn)).1.sub.noa⟩
  · rw [uniq (mem hn) hc, uniq (mem hm) hc2]; exact (key n (mem hn)).2.2.2.2.2 m (mem hm)
  · rw [uniq (mem hm) hc2]; exact (key m (mem hm)).2.2.2.1
  · rw [uniq (mem hn) hc]; exact (key n (mem hn)).2.2.2.2.1
end KS
set_option Elab.async false
set_option linter.all false
set_option maxRecDepth 100000
set_option maxHeartbeats 4000000
namespace KS
open PySem PySem.Spec PyProof.Rows L2
open LamX (Tabs TabS TabB)
section
variable {g : G} {E : XK} {S : Vw} {k : Nat} {X : Cx} {pn : Option V} {ok : PySem.Str → Bool}
theorem dx_clsE {x : PySem.Str} {pos : Pos} (c : Cxt g E k X) (F : ErrF g ok) (h : ok x = true) (hg : Gl X x := by rfl) (hd : (x == ("__debug__" : PySem.Str)) = false := by decide) :
    PE X (.Name x pos) (tD g E S (mC (.cls x))) := by
  obtain ⟨C, hC⟩ := F.at_ x h
  exact dx_clsN c hC hg hd
theorem dx_isX {e : Expr} {es : List Expr} {ms : Mo (List Own)} {p pos : Pos} (c : Cxt g E k X) (F : ErrF g ok) (hm : g.mg "isinstance" = none) (ha : PA X (e :: es) (tA g E S ms)) (hg : Gl X "isinstance" := by rfl)
    (he : starEach (e :: es) X.env = (false, eval e X.env) :: starEach es X.env := by rfl) (hpl : (backTo pos (starEach es X.env)).any (·.1) = false := by rfl) :
    PE X (.Call (.Name "isinstance" p) (e :: es) [] pos) (tD g E S (mPure (kIsC ok subE) ms)) :=
  PE.imp (pe_callB call_isX hg (by rw [c.mg]; exact hm) (by decide +kernel) ha (by decide) (by decide) he hpl) fun s H Q q => by
    show tA g E S ms s H fun xs H1 => rIsX X.K xs H1 Q
    rw [c.K]
    exact imp_pure (t := rIsX g.K) (pure_isX F.ex) q
theorem dx_lenSet {e : Expr} {ms : Mo (List Own)} {p pos p2 pos2 : Pos} (c : Cxt g E k X) (hm : g.mg "set" = none) (hm2 : g.mg "len" = none) (ha : PA X [e] (tA g E S ms)) (hg : Gl X "set" := by rfl) (hg2 : Gl X "len" := by rfl)
    (he : starEach [e] X.env = (false, eval e X.env) :: starEach [] X.env := by rfl) (hpl : (backTo pos (starEach [] X.env)).any (·.1) = false := by rfl)
    (he2 : starEach [Expr.Call (.Name "set" p) [e] [] pos] X.env = (false, eval (.Call (.Name "set" p) [e] [] pos) X.env) :: starEach [] X.env := by rfl) (hpl2 : (backTo pos2 (starEach [] X.env)).any (·.1) = false := by rfl) :
    PE X (.Call (.Name "len" p2) [.Call (.Name "set" p) [e] [] pos] [] pos2) (tD g E S (mPure kLenSet ms)) :=
  dx_two c (cr_setI c.calm) call_lenS (pure_lenSet _) hm (by decide +kernel) hm2 (by decide +kernel) ha hg hg2 (by decide) (by decide) (by decide) (by decide) he hpl he2 hpl2
theorem dx_sortSet {e : Expr} {ms : Mo (List Own)} {p pos p2 pos2 : Pos} (c : Cxt g E k X) (hm : g.mg "set" = none) (hm2 : g.mg "sorted" = none) (ha : PA X [e] (tA g E S ms)) (hg : Gl X "set" := by rfl) (hg2 : Gl X "sorted" := by rfl)
    (he : starEach [e] X.env = (false, eval e X.env) :: starEach [] X.env := by rfl) (hpl : (backTo pos (starEach [] X.env)).any (·.1) = false := by rfl)
    (he2 : starEach [Expr.Call (.Name "set" p) [e] [] pos] X.env = (false, eval (.Call (.Name "set" p) [e] [] pos) X.env) :: starEach [] X.env := by rfl) (hpl2 : (backTo pos2 (starEach [] X.env)).any (·.1) = false := by rfl) :
    PE X (.Call (.Name "sorted" p2) [.Call (.Name "set" p) [e] [] pos] [] pos2) (tD g E S (mPure kSortSet ms)) :=
  dx_two c (cr_setOfT c.calm (by have := c.room.un; omega)) (cr_sortedT c.calm) (pure_sortSet _ _ _) hm (by decide +kernel) hm2 (by decide +kernel) ha hg hg2 (by decide) (by decide) (by decide) (by decide) he hpl he2 hpl2
end
end KS
set_option Elab.async false
set_option linter.all false
set_option maxRecDepth 100000
set_option maxHeartbeats 4000000
namespace KS
open PySem PySem.Spec PyProof.Rows L2
open LamX (Tabs TabS TabB)
section
variable {g : G} {E : XK} {S : Vw} {k : Nat} {X : Cx} {pn : Option V}
/-- {k: v for t in iter if ..}, the keys tuples, as a value -/
theorem dx_dc {kx vx tg iter : Expr} {ifs : List Expr} {scope : Scope} {own : List (PySem.Str × Nat)} {pos : Pos} {t : Tg} {mi : Mo (List Val)} {mt : Mo Bool} {mk mv : Mo Own} (c : Cxt g E k X) (hi : PI X tg iter (tI g E false S mi)) (ok : blkC X.N X.env.scope scope own = true)
    (hg : ∀ (s : Shared) (H : Hp) (C : Addr) (cl : List (PySem.Str × Addr)) (fp : List Addr), DG (X.blk s H scope (compEnvC scope cl C X.env) fp) tg t) (ht : ∀ (s : Shared) (H : Hp) (C : Addr) (cl : List (PySem.Str × Addr)) (fp : List Addr), PTs (X.blk s H scope (compEnvC scope cl C X.env) fp) ifs (tB g E0x S mt))
    (hk : ∀ (s : Shared) (H : Hp) (C : Addr) (cl : List (PySem.Str × Addr)) (fp : List Addr), PE (X.blk s H scope (compEnvC scope cl C X.env) fp) kx (tD g E0x S mk)) (he : ∀ (s : Shared) (H : Hp) (C : Addr) (cl : List (PySem.Str × Addr)) (fp : List Addr), PE (X.blk s H scope (compEnvC scope cl C X.env) fp) vx (tD g E0x S mv))
    (hv : ((own.map (·.2)).all fun v => !S.fn v) = true := by rfl) (hsl : (t.slots.all fun i => (own.map (·.2)).contains i) = true := by rfl)
    (hs : ∀ x, foldedSetIterable iter X.env x = pure x := by intro _; rfl) : PE X (.DictComp kx vx [⟨tg, iter, ifs, 0⟩] scope pos) (tD g E S (mAc ptD S (own.map (·.2)) t mi mt (mCons mk (mCons mv mNil)) finD)) := by
  refine PE.imp (pe_ac (u0 := .dT []) (g := gOf X.K t) (compK_dct (P := X.prog) (w := X.w) (A := X.A) (kx := kx) (vx := vx) (tg := tg) (iter := iter) (ifs := ifs) (scope := scope) (pos := pos)) (fun H h hb => dt_empty h hb) (by rw [arm_eval_DictComp]; rfl) c.calm c.nd hi (blkOk_by ok) hg ht (fun s H C cl fp => pbd_dct (by have := c.room.un; show X.A.units + 1 < cLine; omega) (hk s H C cl fp) (he s H C cl fp) rfl rfl rfl rfl) hs) fun s H Q q => imp_dct X.K hv hsl q
end
/-- len of a set comprehension, a dict comprehension -/
def mLenSc (S : Vw) (vs : List Nat) (t : Tg) (mi : Mo (List Val)) (mt : Mo Bool) (me : Mo Own) : Mo Own := mAc ptS S vs t mi mt (mCons me mNil) fun acc => if acc.length < 4000 then some (.v (.int (ddup (accInts acc)).length)) else none
def mDc (S : Vw) (vs : List Nat) (t : Tg) (mi : Mo (List Val)) (mt : Mo Bool) (mk mv : Mo Own) : Mo Own := mAc ptD S vs t mi mt (mCons mk (mCons mv mNil)) finD
end KS
set_option Elab.async false
set_option linter.all false
set_option maxRecDepth 100000
set_option maxHeartbeats 4000000
namespace KS
open PySem PySem.Spec PyProof.Rows L2
open LamX (Tabs TabS TabB)
section
variable {g : G} {E : XK} {S : Vw} {k : Nat} {X : Cx} {pn : Option V}
/-- len(x), x's slot may be its own list, whatever is read beside it -/
def mLenV (i : Nat) : Mo Own := fun r => match (r[i]? : Option (Option Own)) with
  | some (some o) => match kLen [o.val] with
    | some o => .ok o r
    | none => .bad
  | _ => .bad
theorem kLen_v {d : Val} {o : Own} (h : kLen [d] = some o) : ∃ n : Nat, o = .v (.int n) := by
  unfold kLen at h
  split at h
  · cases h; exact ⟨_, rfl⟩
  · cases h; exact ⟨_, rfl⟩
  · cases h; exact ⟨_, rfl⟩
  · split at h
    · cases h; exact ⟨_, rfl⟩
    · cases h
  · cases h
theorem imp_lenV {i : Nat} {s : L2.St} {H : Hp} {Q : VK} (K : PySem.W.Frag) (h : tD g E S (mLenV i) s H Q) : tCB (fun xs H Q => ∃ x n, xs = [x] ∧ LenV K x H n ∧ Q (.int n) H) (tCons (tVar i) tNil) s H Q := by
  obtain ⟨r, M, f, st, h⟩ := h
  unfold mLenV at h
  cases er : (r[i]? : Option (Option Own)) with
  | none => simp only [er] at h
  | some o =>
    cases o with
    | none => simp only [er] at h
    | some o =>
      simp only [er] at h
      obtain ⟨x, hx, ro⟩ := st.env i _ er
      refine ⟨x, hx, ?_⟩
      have done : ∀ n : Nat, kLen [o.val] = some (.v (.int n)) → Q (.int n) H := fun n e => by
        rw [e] at h
        exact h (.int n) M H f [] st ⟨.v (.int n), by simp⟩ .refl (by simp)
      generalize f i = fi at ro
      cases ro with
      | @l a vs ds h1 t1 => exact ⟨_, ds.length, rfl, .inl ⟨vs, .of h1, t1.length⟩, done _ rfl⟩
      | v ro =>
        cases ro with
        | @lst a vs ds h1 t1 => exact ⟨_, ds.length, rfl, .inl ⟨vs, .of (st.sub _ _ h1), t1.length⟩, done _ rfl⟩
        | @tup a vs ds h1 t1 => exact ⟨_, ds.length, rfl, .inr ⟨vs, .of (st.sub _ _ h1), t1.length⟩, done _ rfl⟩
        | @scr a ob ns h1 => exact ⟨_, ns.length, rfl, .inl ⟨_, .inl (.inr ⟨_, st.sub _ _ h1⟩), (List.length_map _).symm⟩, done _ rfl⟩
        | str z =>
          by_cases hz : z.length ≤ 16777216
          · refine ⟨_, z.length, rfl, ⟨by rw [sizeLine_eq]; exact hz, rfl⟩, done _ ?_⟩
            show (if z.length ≤ 16777216 then _ else _) = _
            rw [if_pos hz]
          · have e : kLen [Own.val (.v (.str z))] = none := by
              show (if z.length ≤ 16777216 then _ else _) = _
              rw [if_neg hz]
            rw [e] at h; exact h.elim
        | _ => exact h.elim
theorem dx_lenV (i : Nat) {x : PySem.Str} {p py pos : Pos} (c : Cxt g E k X) (hm : g.mg "len" = none) (hg : Gl X "len" := by rfl) (hN : X.N[i]? = some x := by rfl) (hv : Vis X.env.scope x := by first | exact Or.inl rfl | exact Or.inr (Or.inl rfl) | exact Or.inr (Or.inr rfl))
    (hd : (x == ("__debug__" : PySem.Str)) = false := by decide) (hcd : (x == ("__classdict__" : PySem.Str)) = false := by decide) (he : starEach [Expr.Name x py] X.env = (false, eval (.Name x py) X.env) :: starEach [] X.env := by rfl) (hpl : (backTo pos (starEach [] X.env)).any (·.1) = false := by rfl) :
    PE X (.Call (.Name "len" p) [.Name x py] [] pos) (tD g E S (mLenV i)) :=
  PE.imp (pe_callB call_len hg (by rw [c.mg]; exact hm) PySem.boot_len (pa_cons (pe_var hN hv hd hcd) pa_nil) (by decide) (by decide) he hpl) fun s H Q q => imp_lenV X.K q
/-! ### < of tuples of ints -/
def rLtA (K : PySem.W.Frag) : R2 := fun x y H Q => (rI0 fun i j => .bl (decide (i < j))) x y H Q ∨ rLtT K x y H Q
theorem op_ltA (hu : X.A.units + 66 < cLine) : OpR X (compareOp .Lt) (rLtA X.K) := by
  intro pins s σ H x y v u Q I rx ry h
  rcases h with h | h
  · exact op_lt pins s σ H x y v u Q I rx ry h
  · exact op_ltT (by omega) pins s σ H x y v u Q I rx ry h
def kLtA : List Val → Option Own
  | [.tup xs, .tup ys] => (valInts xs).bind fun ns => (valInts ys).map fun ms => .v (.bl (HT.lexLt ns ms))
  | ds => kLt ds
theorem pure_ltA (K : PySem.W.Frag) : Pure g (R2p (rLtA K)) kLtA := by
  intro M H xs ds o Q le tb r e q
  unfold kLtA at e
  split at e
  · rename_i es fs
    obtain ⟨x, y, rfl, r1, r2⟩ := repL2 r rfl
    cases e1 : valInts es with
    | none => rw [e1] at e; cases e
    | some ns =>
      cases e2 : valInts fs with
      | none => rw [e1, e2] at e; cases e
      | some ms =>
        rw [e1, e2] at e
        cases e
        obtain rfl := valInts_eq e1
        obtain rfl := valInts_eq e2
        obtain ⟨a, vs, rfl, h1, t1⟩ := r1.tupE
        obtain ⟨b, ws, rfl, h2, t2⟩ := r2.tupE
        have := t1.ints
        subst this
        have := t2.ints
        subst this
        exact ⟨_, _, rfl, .inr ⟨a, b, ns, ms, rfl, rfl, .of (le _ _ h1), .of (le _ _ h2), q _ M H [] (.refl le tb) (.v (.bl _)) (by simp)⟩⟩
  · obtain ⟨x, y, e1, h⟩ := pure_lt M H xs _ o Q le tb r e q
    exact ⟨x, y, e1, .inl h⟩
end
end KS
set_option Elab.async false
set_option linter.all false
set_option maxRecDepth 100000
set_option maxHeartbeats 4000000
namespace KL00
open PySem PySem.Spec PyProof.Rows L2 KS
open LamX (Tabs TabS TabB)
def topS (i : Nat) : Stmt := PySem.Challenge.pw_keptissaid_k00_relations_made_of_others.main.body.getD i (.Pass ⟨0, 0, 0, 0⟩)
def errNs : List PySem.Str := ["KeptError", "BadNumber", "BadRelation", "BadPlaces", "BadSpots", "TooMany"]
def okE : PySem.Str → Bool := fun n => errNs.contains n
abbrev s_ini : Stmt := match topS 1 with | .ClassDef _ _ _ body _ _ _ _ _ _ _ => body.getD 0 (.Pass ⟨0, 0, 0, 0⟩) | _ => .Pass ⟨0, 0, 0, 0⟩
abbrev s_is_int : Stmt := topS 9
theorem sc_is_int : FnScope ["value", "low", "high"] ["value", "low", "high"] (defScope s_is_int) := ⟨rfl, rfl, rfl, by decide +kernel, rfl, by decide +kernel, by decide +kernel⟩
abbrev s_look_at_number : Stmt := topS 13
theorem sc_look_at_number : FnScope ["value", "low", "high"] ["value", "low", "high"] (defScope s_look_at_number) := ⟨rfl, rfl, rfl, by decide +kernel, rfl, by decide +kernel, by decide +kernel⟩
abbrev s_look_at_worths : Stmt := topS 14
theorem sc_look_at_worths : FnScope ["worths"] ["worths"] (defScope s_look_at_worths) := ⟨rfl, rfl, rfl, by decide +kernel, rfl, by decide +kernel, by decide +kernel⟩
abbrev s_is_row : Stmt := topS 10
theorem sc_is_row : FnScope ["worths", "places", "value", "one"] ["worths", "places", "value"] (defScope s_is_row) := ⟨rfl, rfl, rfl, by decide +kernel, rfl, by decide +kernel, by decide +kernel⟩
abbrev s_is_rising : Stmt := topS 11
theorem sc_is_rising : FnScope ["some", "one", "other"] ["some"] (defScope s_is_rising) := ⟨rfl, rfl, rfl, by decide +kernel, rfl, by decide +kernel, by decide +kernel⟩
abbrev s_is_relation : Stmt := topS 18
theorem sc_is_relation : FnScope ["worths", "value", "places", "rows", "row"] ["worths", "value"] (defScope s_is_relation) := ⟨rfl, rfl, rfl, by decide +kernel, rfl, by decide +kernel, by decide +kernel⟩
abbrev s_look_at_relations : Stmt := topS 19
theorem sc_look_at_relations : FnScope ["worths", "some", "one"] ["worths", "some"] (defScope s_look_at_relations) := ⟨rfl, rfl, rfl, by decide +kernel, rfl, by decide +kernel, by decide +kernel⟩
abbrev s_both : Stmt := topS 26
theorem sc_both : FnScope ["worths", "one", "other", "row"] ["worths", "one", "other"] (defScope s_both) := ⟨rfl, rfl, rfl, by decide +kernel, rfl, by decide +kernel, by decide +kernel⟩
abbrev s_all_rows : Stmt := topS 22
theorem sc_all_rows : FnScope ["worths", "places", "found", "place", "row", "worth"] ["worths", "places"] (defScope s_all_rows) := ⟨rfl, rfl, rfl, by decide +kernel, rfl, by decide +kernel, by decide +kernel⟩
abbrev s_power : Stmt := topS 12
theorem sc_power : FnScope ["one", "many", "found", "lap"] ["one", "many"] (defScope s_power) := ⟨rfl, rfl, rfl, by decide +kernel, rfl, by decide +kernel, by decide +kernel⟩
abbrev s_look_at_size : Stmt := topS 23
theorem sc_look_at_size : FnScope ["worths", "places"] ["worths", "places"] (defScope s_look_at_size) := ⟨rfl, rfl, rfl, by decide +kernel, rfl, by decide +kernel, by decide +kernel⟩
abbrev s_full : Stmt := topS 24
theorem sc_full : FnScope ["worths", "places"] ["worths", "places"] (defScope s_full) := ⟨rfl, rfl, rfl, by decide +kernel, rfl, by decide +kernel, by decide +kernel⟩
abbrev s_look_at_spots : Stmt := topS 20
theorem sc_look_at_spots : FnScope ["relation", "spots", "spot"] ["relation", "spots"] (defScope s_look_at_spots) := ⟨rfl, rfl, rfl, by decide +kernel, rfl, by decide +kernel, by decide +kernel⟩
abbrev s_sorted_rows : Stmt := topS 21
theorem sc_sorted_rows : FnScope ["places", "rows"] ["places", "rows"] (defScope s_sorted_rows) := ⟨rfl, rfl, rfl, by decide +kernel, rfl, by decide +kernel, by decide +kernel⟩
abbrev s_equal : Stmt := topS 25
theorem sc_equal : FnScope ["worths", "worth"] ["worths"] (defScope s_equal) := ⟨rfl, rfl, rfl, by decide +kernel, rfl, by decide +kernel, by decide +kernel⟩
abbrev s_beside : Stmt := topS 27
theorem sc_beside : FnScope ["worths", "one", "other", "row", "more"] ["worths", "one", "other"] (defScope s_beside) := ⟨rfl, rfl, rfl, by decide +kernel, rfl, by decide +kernel, by decide +kernel⟩
abbrev s_turned : Stmt := topS 28
theorem sc_turned : FnScope ["worths", "relation", "spots", "row", "spot"] ["worths", "relation", "spots"] (defScope s_turned) := ⟨rfl, rfl, rfl, by decide +kernel, rfl, by decide +kernel, by decide +kernel⟩
abbrev s_tied : Stmt := topS 29
theorem sc_tied : FnScope ["worths", "relation", "spots", "row", "spot"] ["worths", "relation", "spots"] (defScope s_tied) := ⟨rfl, rfl, rfl, by decide +kernel, rfl, by decide +kernel, by decide +kernel⟩
abbrev s_rest : Stmt := topS 30
theorem sc_rest : FnScope ["worths", "relation", "inside", "row"] ["worths", "relation"] (defScope s_rest) := ⟨rfl, rfl, rfl, by decide +kernel, rfl, by decide +kernel, by decide +kernel⟩
abbrev s__law_pot : Stmt := topS 32
theorem sc__law_pot : FnScope ["script", "place", "cell", "own", "small"] ["script", "place"] (defScope s__law_pot) := ⟨rfl, rfl, rfl, by decide +kernel, rfl, by decide +kernel, by decide +kernel⟩
abbrev s__law_take : Stmt := topS 33
theorem sc__law_take : FnScope ["pot", "upto", "digit", "prime", "blend"] ["pot", "upto"] (defScope s__law_take) := ⟨rfl, rfl, rfl, by decide +kernel, rfl, by decide +kernel, by decide +kernel⟩
abbrev s__law_of : Stmt := topS 34
theorem sc__law_of : FnScope ["pot", "some"] ["pot", "some"] (defScope s__law_of) := ⟨rfl, rfl, rfl, by decide +kernel, rfl, by decide +kernel, by decide +kernel⟩
abbrev s__law_cells : Stmt := topS 35
theorem sc__law_cells : FnScope ["script", "most"] ["script", "most"] (defScope s__law_cells) := ⟨rfl, rfl, rfl, by decide +kernel, rfl, by decide +kernel, by decide +kernel⟩
abbrev s__law_some : Stmt := topS 36
theorem sc__law_some : FnScope ["pot", "pool", "many", "rests", "found", "lap"] ["pot", "pool", "many"] (defScope s__law_some) := ⟨rfl, rfl, rfl, by decide +kernel, rfl, by decide +kernel, by decide +kernel⟩
abbrev s__law_heard : Stmt := topS 37
theorem sc__law_heard : FnScope ["call", "caught", "back", "error"] ["call"] (defScope s__law_heard) := ⟨rfl, rfl, rfl, by decide +kernel, rfl, by decide +kernel, by decide +kernel⟩
abbrev s__law_longer : Stmt := topS 38
theorem sc__law_longer : FnScope ["found", "some", "longer", "row", "more"] ["found", "some"] (defScope s__law_longer) := ⟨rfl, rfl, rfl, by decide +kernel, rfl, by decide +kernel, by decide +kernel⟩
abbrev s__law_all_rows : Stmt := topS 39
theorem sc__law_all_rows : FnScope ["worths", "places", "found", "lap", "worth"] ["worths", "places"] (defScope s__law_all_rows) := ⟨rfl, rfl, rfl, by decide +kernel, rfl, by decide +kernel, by decide +kernel⟩
abbrev s__law_kind_rows : Stmt := topS 40
theorem sc__law_kind_rows : FnScope ["pot", "worths", "places", "every", "way", "some", "row", "few", "worth"] ["pot", "worths", "places"] (defScope s__law_kind_rows) := ⟨rfl, rfl, rfl, by decide +kernel, rfl, by decide +kernel, by decide +kernel⟩
abbrev s__law_relation_drawn : Stmt := topS 41
theorem sc__law_relation_drawn : FnScope ["pot", "worths", "places", "most", "rows", "pool"] ["pot", "worths", "places", "most"] (defScope s__law_relation_drawn) := ⟨rfl, rfl, rfl, by decide +kernel, rfl, by decide +kernel, by decide +kernel⟩
abbrev s__law_is_right : Stmt := topS 42
theorem sc__law_is_right : FnScope ["worths", "one", "other", "spots", "rows", "caught", "told", "due", "row", "spot"] ["worths", "one", "other", "spots"] (defScope s__law_is_right) := ⟨rfl, rfl, rfl, by decide +kernel, rfl, by decide +kernel, by decide +kernel⟩
abbrev s__law_are_sizes_right : Stmt := topS 43
theorem sc__law_are_sizes_right : FnScope ["worths", "many", "rows", "worth", "wide", "caught"] ["worths", "many"] (defScope s__law_are_sizes_right) := ⟨rfl, rfl, rfl, by decide +kernel, rfl, by decide +kernel, by decide +kernel⟩
abbrev s__law_right : Stmt := topS 44
theorem sc__law_right : FnScope ["pot", "lap", "worths", "one", "other", "spots"] ["pot"] (defScope s__law_right) := ⟨rfl, rfl, rfl, by decide +kernel, rfl, by decide +kernel, by decide +kernel⟩
abbrev s_law : Stmt := topS 45
theorem sc_law : FnScope ["script", "at"] ["script"] (defScope s_law) := ⟨rfl, rfl, rfl, by decide +kernel, rfl, by decide +kernel, by decide +kernel⟩
def ld_0 : LamD := lamD s__law_is_right 0 "_law_is_right.<locals>.<lambda>" ["one", "other", "worths"]
theorem lck_0 : LamCk ["worths", "one", "other", "spots", "rows", "caught", "told", "due", "row", "spot"] (defScope s__law_is_right) [1, 2, 0] ld_0 := ⟨by rfl, by decide +kernel, by decide +kernel, by decide +kernel⟩
def ld_1 : LamD := lamD s__law_are_sizes_right 0 "_law_are_sizes_right.<locals>.<lambda>" ["wide"]
theorem lck_1 : LamCk ["worths", "many", "rows", "worth", "wide", "caught"] (defScope s__law_are_sizes_right) [4] ld_1 := ⟨by rfl, by decide +kernel, by decide +kernel, by decide +kernel⟩
def LLk : Nat → LamD
  | 0 => ld_0
  | 1 => ld_1
  | _ => ⟨"", default, .Name "" ⟨0, 0, 0, 0⟩, default, []⟩
noncomputable def m_is_int : Ms :=
  sRet Vw.no (mAndV (mPure kIsi (mCons (mVar Vw.no 0) (mCons (mC (.ty "int")) (mNil)))) (mAndV (mNotV (mPure kIsi (mCons (mVar Vw.no 0) (mCons (mC (.ty "bool")) (mNil))))) (mChain kLe kLe (mVar Vw.no 1) (mVar Vw.no 0) (mVar Vw.no 2))))
noncomputable def P_is_int : List Val → RP := runP 3 3 m_is_int
noncomputable def m_look_at_number : Ms :=
  sIf (mNot (mTest (mCall Vw.no P_is_int (mCons (mVar Vw.no 0) (mCons (mVar Vw.no 1) (mCons (mVar Vw.no 2) (mNil)))))))
  (sRaise Vw.no "BadNumber" (mVar Vw.no 0))
  (sSkip)
noncomputable def P_look_at_number : List Val → RP := runP 3 3 m_look_at_number
noncomputable def m_look_at_worths : Ms :=
  sExp (mCall Vw.no P_look_at_number (mCons (mVar Vw.no 0) (mCons (mC (.int 1)) (mCons (mC (.int 12)) (mNil)))))
noncomputable def P_look_at_worths : List Val → RP := runP 1 1 m_look_at_worths
noncomputable def m_is_row : Ms :=
  sRet Vw.no (mAndV (mPure kIsi (mCons (mVar Vw.no 2) (mCons (mC (.ty "tuple")) (mNil)))) (mAndV (mP2 kEq (mPure kLen (mCons (mVar Vw.no 2) (mNil))) (mVar Vw.no 1)) (mPure kAll (mCons (mLc Vw.no [3] (.nm 3) (mSeq false Vw.no (mVar Vw.no 2)) mYes (mCall Vw.no P_is_int (mCons (mVar Vw.no 3) (mCons (mC (.int 0)) (mCons (mP2 kSub (mVar Vw.no 0) (mC (.int 1))) (mNil)))))) (mNil)))))
noncomputable def P_is_row : List Val → RP := runP 3 4 m_is_row
noncomputable def m_is_rising : Ms :=
  sRet Vw.no (mPure kAll (mCons (mLc Vw.no [1, 2] (.tp [(.nm 1), (.nm 2)]) (mZip false Vw.no (mCons (mVar Vw.no 0) (mCons (mSl kSl (mVar Vw.no 0) (mPart (mC (.int 1))) mNoPart) (mNil)))) mYes (mP2 kLtA (mVar Vw.no 1) (mVar Vw.no 2))) (mNil)))
noncomputable def P_is_rising : List Val → RP := runP 1 3 m_is_rising
noncomputable def m_is_relation : Ms :=
  sSeq (sExp (mCall Vw.no P_look_at_worths (mCons (mVar Vw.no 0) (mNil))))
  (sSeq (sIf (mOr (mNot (mTest (mPure kIsi (mCons (mVar Vw.no 1) (mCons (mC (.ty "tuple")) (mNil)))))) (mOr (mTest (mP2 kNe (mPure kLen (mCons (mVar Vw.no 1) (mNil))) (mC (.int 2)))) (mNot (mTest (mCall Vw.no P_is_int (mCons (mIxV 1 (mC (.int 0))) (mCons (mC (.int 1)) (mCons (mC (.int 81)) (mNil)))))))))
  (sRet Vw.no (mC (.bl false)))
  (sSkip))
  (sSeq (sAsg Vw.no (.tp [(.nm 2), (.nm 3)]) (mVar Vw.no 1))
  (sSeq (sIf (mOr (mNot (mTest (mPure kIsi (mCons (mVar Vw.no 3) (mCons (mC (.ty "tuple")) (mNil)))))) (mTest (mP2 kGt (mPure kLen (mCons (mVar Vw.no 3) (mNil))) (mC (.int 2000)))))
  (sRet Vw.no (mC (.bl false)))
  (sSkip))
  (sRet Vw.no (mAndV (mPure kAll (mCons (mLc Vw.no [4] (.nm 4) (mSeq false Vw.no (mVar Vw.no 3)) mYes (mCall Vw.no P_is_row (mCons (mVar Vw.no 0) (mCons (mVar Vw.no 2) (mCons (mVar Vw.no 4) (mNil)))))) (mNil))) (mCall Vw.no P_is_rising (mCons (mVar Vw.no 3) (mNil))))))))
noncomputable def P_is_relation : List Val → RP := runP 2 5 m_is_relation
noncomputable def m_look_at_relations : Ms :=
  sSeq (sExp (mCall Vw.no P_look_at_worths (mCons (mVar Vw.no 0) (mNil))))
  (sFor [2] (.nm 2) (mSeq true Vw.no (mVar Vw.no 1))
  (sIf (mNot (mTest (mCall Vw.no P_is_relation (mCons (mVar Vw.no 0) (mCons (mVar Vw.no 2) (mNil))))))
  (sRaise Vw.no "BadRelation" (mVar Vw.no 2))
  (sSkip)))
noncomputable def P_look_at_relations : List Val → RP := runP 2 3 m_look_at_relations
noncomputable def m_both : Ms :=
  sSeq (sExp (mCall Vw.no P_look_at_relations (mCons (mVar Vw.no 0) (mCons (mPure kTup (mCons (mVar Vw.no 1) (mCons (mVar Vw.no 2) (mNil)))) (mNil)))))
  (sSeq (sIf (mTest (mP2 kNe (mIxV 1 (mC (.int 0))) (mIxV 2 (mC (.int 0)))))
  (sRaise Vw.no "BadPlaces" (mVar Vw.no 2))
  (sSkip))
  (sRet Vw.no (mPure kTup (mCons (mIxV 1 (mC (.int 0))) (mCons (mPure kTuple (mCons (mLc Vw.no [3] (.nm 3) (mSeq false Vw.no (mIxV 1 (mC (.int 1)))) (mTest (mP2 kIn (mVar Vw.no 3) (mIxV 2 (mC (.int 1))))) (mVar Vw.no 3)) (mNil))) (mNil))))))
noncomputable def P_both : List Val → RP := runP 3 4 m_both
noncomputable def m_all_rows : Ms :=
  sSeq (sSet Vw.no 2 (mPure kLst (mCons (mPure kTup (mNil)) (mNil))))
  (sFrz 2 (sSeq (sFor [3] (.nm 3) (mRng (mCons (mVar Vw.no 1) mNil))
  (sSeq (sSet Vw.no 2 (mLc2 Vw.no [4, 5] (.nm 4) (mSeq false Vw.no (mVar Vw.no 2)) mYes [5] (.nm 5) (mRng (mCons (mVar Vw.no 0) mNil)) mYes (mP2 kAdd (mVar Vw.no 4) (mPure kTup (mCons (mVar Vw.no 5) (mNil))))))
  (sFrz 2 (sSkip))))
  (sRetV 2)))
noncomputable def P_all_rows : List Val → RP := runP 2 6 m_all_rows
noncomputable def m_power : Ms :=
  sSeq (sSet Vw.no 2 (mC (.int 1)))
  (sSeq (sFor [3] (.nm 3) (mRng (mCons (mVar Vw.no 1) mNil))
  (sSet Vw.no 2 (mP2 kMul (mVar Vw.no 2) (mVar Vw.no 0))))
  (sRetV 2))
noncomputable def P_power : List Val → RP := runP 2 4 m_power
noncomputable def m_look_at_size : Ms :=
  sIf (mOr (mAnd (mTest (mP2 kGt (mVar Vw.no 0) (mC (.int 1)))) (mTest (mP2 kGt (mVar Vw.no 1) (mC (.int 11))))) (mTest (mP2 kGt (mCall Vw.no P_power (mCons (mVar Vw.no 0) (mCons (mPure kMin2 (mCons (mVar Vw.no 1) (mCons (mC (.int 12)) (mNil)))) (mNil)))) (mC (.int 2000)))))
  (sRaise Vw.no "TooMany" (mC (.int 2000)))
  (sSkip)
noncomputable def P_look_at_size : List Val → RP := runP 2 2 m_look_at_size
noncomputable def m_full : Ms :=
  sSeq (sExp (mCall Vw.no P_look_at_worths (mCons (mVar Vw.no 0) (mNil))))
  (sSeq (sExp (mCall Vw.no P_look_at_number (mCons (mVar Vw.no 1) (mCons (mC (.int 1)) (mCons (mC (.int 81)) (mNil))))))
  (sSeq (sExp (mCall Vw.no P_look_at_size (mCons (mVar Vw.no 0) (mCons (mVar Vw.no 1) (mNil)))))
  (sRet Vw.no (mPure kTup (mCons (mVar Vw.no 1) (mCons (mPure kTuple (mCons (mCall Vw.no P_all_rows (mCons (mVar Vw.no 0) (mCons (mVar Vw.no 1) (mNil)))) (mNil))) (mNil)))))))
noncomputable def P_full : List Val → RP := runP 2 2 m_full
noncomputable def lm_0 : Mo Own := mCallK Vw.no P_both 0 3 [2, 0, 1] mNil (mCons (mVar Vw.no 0) (mCons (mVar Vw.no 1) (mCons (mVar Vw.no 2) (mNil))))
noncomputable def lm_1 : Mo Own := mCall Vw.no P_full (mCons (mIxV 0 (mC (.int 0))) (mCons (mIxV 0 (mC (.int 1))) (mNil)))
noncomputable def LPk : Nat → List Val → List Val → RP
  | 0 => lpOf 0 3 lm_0
  | 1 => lpOf 0 1 lm_1
  | _ => fun _ _ => .bad
noncomputable def m_look_at_spots : Ms :=
  sSeq (sIf (mOr (mNot (mTest (mPure kIsi (mCons (mVar Vw.no 1) (mCons (mC (.ty "tuple")) (mNil)))))) (mNot (mTest (mChain kLe kLe (mC (.int 1)) (mPure kLen (mCons (mVar Vw.no 1) (mNil))) (mC (.int 81))))))
  (sRaise Vw.no "BadSpots" (mVar Vw.no 1))
  (sSkip))
  (sIf (mNot (mTest (mPure kAll (mCons (mLc Vw.no [2] (.nm 2) (mSeq false Vw.no (mVar Vw.no 1)) mYes (mCall Vw.no P_is_int (mCons (mVar Vw.no 2) (mCons (mC (.int 0)) (mCons (mP2 kSub (mIxV 0 (mC (.int 0))) (mC (.int 1))) (mNil)))))) (mNil)))))
  (sRaise Vw.no "BadSpots" (mVar Vw.no 1))
  (sSkip))
noncomputable def P_look_at_spots : List Val → RP := runP 2 3 m_look_at_spots
noncomputable def m_sorted_rows : Ms :=
  sRet Vw.no (mPure kTup (mCons (mVar Vw.no 0) (mCons (mPure kTuple (mCons (mPure kSortSet (mCons (mVar Vw.no 1) (mNil))) (mNil))) (mNil))))
noncomputable def P_sorted_rows : List Val → RP := runP 2 2 m_sorted_rows
noncomputable def m_equal : Ms :=
  sSeq (sExp (mCall Vw.no P_look_at_worths (mCons (mVar Vw.no 0) (mNil))))
  (sRet Vw.no (mPure kTup (mCons (mC (.int 2)) (mCons (mPure kTuple (mCons (mLc Vw.no [1] (.nm 1) (mRng (mCons (mVar Vw.no 0) mNil)) mYes (mPure kTup (mCons (mVar Vw.no 1) (mCons (mVar Vw.no 1) (mNil))))) (mNil))) (mNil)))))
noncomputable def P_equal : List Val → RP := runP 1 2 m_equal
noncomputable def m_beside : Ms :=
  sSeq (sExp (mCall Vw.no P_look_at_relations (mCons (mVar Vw.no 0) (mCons (mPure kTup (mCons (mVar Vw.no 1) (mCons (mVar Vw.no 2) (mNil)))) (mNil)))))
  (sSeq (sIf (mTest (mP2 kGt (mP2 kAdd (mIxV 1 (mC (.int 0))) (mIxV 2 (mC (.int 0)))) (mC (.int 81))))
  (sRaise Vw.no "BadPlaces" (mVar Vw.no 2))
  (sSkip))
  (sSeq (sIf (mTest (mP2 kGt (mP2 kMul (mPure kLen (mCons (mIxV 1 (mC (.int 1))) (mNil))) (mPure kLen (mCons (mIxV 2 (mC (.int 1))) (mNil)))) (mC (.int 2000))))
  (sRaise Vw.no "TooMany" (mC (.int 2000)))
  (sSkip))
  (sRet Vw.no (mPure kTup (mCons (mP2 kAdd (mIxV 1 (mC (.int 0))) (mIxV 2 (mC (.int 0)))) (mCons (mPure kTuple (mCons (mLc2 Vw.no [3, 4] (.nm 3) (mSeq false Vw.no (mIxV 1 (mC (.int 1)))) mYes [4] (.nm 4) (mSeq false Vw.no (mIxV 2 (mC (.int 1)))) mYes (mP2 kAdd (mVar Vw.no 3) (mVar Vw.no 4))) (mNil))) (mNil)))))))
noncomputable def P_beside : List Val → RP := runP 3 5 m_beside
noncomputable def m_turned : Ms :=
  sSeq (sExp (mCall Vw.no P_look_at_relations (mCons (mVar Vw.no 0) (mCons (mPure kTup (mCons (mVar Vw.no 1) (mNil))) (mNil)))))
  (sSeq (sExp (mCall Vw.no P_look_at_spots (mCons (mVar Vw.no 1) (mCons (mVar Vw.no 2) (mNil)))))
  (sRet Vw.no (mCall Vw.no P_sorted_rows (mCons (mPure kLen (mCons (mVar Vw.no 2) (mNil))) (mCons (mLc Vw.no [3] (.nm 3) (mSeq false Vw.no (mIxV 1 (mC (.int 1)))) mYes (mPure kTuple (mCons (mLc Vw.no [4] (.nm 4) (mSeq false Vw.no (mVar Vw.no 2)) mYes (mIxV 3 (mVar Vw.no 4))) (mNil)))) (mNil))))))
noncomputable def P_turned : List Val → RP := runP 3 5 m_turned
noncomputable def m_tied : Ms :=
  sSeq (sExp (mCall Vw.no P_look_at_relations (mCons (mVar Vw.no 0) (mCons (mPure kTup (mCons (mVar Vw.no 1) (mNil))) (mNil)))))
  (sSeq (sExp (mCall Vw.no P_look_at_spots (mCons (mVar Vw.no 1) (mCons (mVar Vw.no 2) (mNil)))))
  (sRet Vw.no (mPure kTup (mCons (mIxV 1 (mC (.int 0))) (mCons (mPure kTuple (mCons (mLc Vw.no [3] (.nm 3) (mSeq false Vw.no (mIxV 1 (mC (.int 1)))) (mTest (mP2 kEq (mLenSc Vw.no [4] (.nm 4) (mSeq false Vw.no (mVar Vw.no 2)) mYes (mIxV 3 (mVar Vw.no 4))) (mC (.int 1)))) (mVar Vw.no 3)) (mNil))) (mNil))))))
noncomputable def P_tied : List Val → RP := runP 3 5 m_tied
noncomputable def m_rest : Ms :=
  sSeq (sExp (mCall Vw.no P_look_at_relations (mCons (mVar Vw.no 0) (mCons (mPure kTup (mCons (mVar Vw.no 1) (mNil))) (mNil)))))
  (sSeq (sExp (mCall Vw.no P_look_at_size (mCons (mVar Vw.no 0) (mCons (mIxV 1 (mC (.int 0))) (mNil)))))
  (sSeq (sSet Vw.no 2 (mDc Vw.no [3] (.nm 3) (mSeq false Vw.no (mIxV 1 (mC (.int 1)))) mYes (mVar Vw.no 3) (mC (.bl true))))
  (sFrz 2 (sRet Vw.no (mPure kTup (mCons (mIxV 1 (mC (.int 0))) (mCons (mPure kTuple (mCons (mLc Vw.no [3] (.nm 3) (mSeq false Vw.no (mCall Vw.no P_all_rows (mCons (mVar Vw.no 0) (mCons (mIxV 1 (mC (.int 0))) (mNil))))) (mTest (mP2 kNotInDc (mVar Vw.no 3) (mVar Vw.no 2))) (mVar Vw.no 3)) (mNil))) (mNil))))))))
noncomputable def P_rest : List Val → RP := runP 2 4 m_rest
noncomputable def m__law_pot : Ms :=
  sSeq (sSet Vw.no 2 (mIf (mTest (mP2 kLt (mVar Vw.no 1) (mPure kLen (mCons (mVar Vw.no 0) (mNil))))) (mIxV 0 (mVar Vw.no 1)) (mP2 kAdd (mP2 kAdd (mP2 kMod (mPure kInt (mCons (mPure kSum (mCons (mSl kSl (mVar Vw.no 0) mNoPart (mPart (mC (.int 1)))) (mNil))) (mNil))) (mC (.int 999983))) (mP2 kMul (mC (.int 3119)) (mVar Vw.no 1))) (mC (.int 2027)))))
  (sFrz 2 (sSeq (sSet Vw.no 3 (mP2 kMul (mP2 kMod (mPure kInt (mCons (mPure kAbs (mCons (mVar Vw.no 2) (mNil))) (mNil))) (mP2 kPow (mP2 kPow (mC (.int 10)) (mC (.int 60))) (mC (.int 5)))) (mPure kInt (mCons (mP2 kGe (mPure kAbs (mCons (mVar Vw.no 2) (mNil))) (mP2 kPow (mC (.int 10)) (mC (.int 18)))) (mNil)))))
  (sSeq (sSet Vw.no 4 (mP2 kMod (mPure kInt (mCons (mVar Vw.no 2) (mNil))) (mC (.int 2305843009213693951))))
  (sRet Vw.no (mPure kLst (mCons (mVar Vw.no 3) (mCons (mP2 kMod (mPure kInt (mCons (mP2 kAdd (mP2 kAdd (mP2 kMul (mVar Vw.no 4) (mC (.int 86171))) (mP2 kMul (mP2 kMul (mC (.int 10979)) (mVar Vw.no 1)) (mVar Vw.no 1))) (mC (.int 1907))) (mNil))) (mC (.int 2305843009213693921))) (mCons (mC (.int 0)) (mNil)))))))))
noncomputable def P__law_pot : List Val → RP := runP 2 5 m__law_pot
noncomputable def m__law_take : Ms :=
  sSeq (sIf (mTest (mP2 kGt (mIxV 0 (mC (.int 0))) (mC (.int 0))))
  (sSeq (sSet Vw.no 2 (mP2 kMod (mPure kInt (mCons (mIxV 0 (mC (.int 0))) (mNil))) (mVar Vw.no 1)))
  (sSeq (sSetIx Vw.no 0 (mP2 kFdiv (mIxV 0 (mC (.int 0))) (mVar Vw.no 1)) (mC (.int 0)))
  (sRetV 2)))
  (sSkip))
  (sSeq (sSetIx Vw.no 0 (mP2 kAdd (mIxV 0 (mC (.int 2))) (mC (.int 1))) (mC (.int 2)))
  (sSeq (sSet Vw.no 3 (mP2 kIx (mPure kLst (mCons (mC (.int 2147483647)) (mCons (mC (.int 2147483629)) (mCons (mC (.int 2147483587)) (mCons (mC (.int 2147483579)) (mCons (mC (.int 2147483563)) (mNil))))))) (mP2 kMod (mPure kInt (mCons (mIxV 0 (mC (.int 2))) (mNil))) (mC (.int 5)))))
  (sSeq (sSet Vw.no 4 (mP2 kMod (mPure kInt (mCons (mP2 kPow (mPure kInt (mCons (mP2 kAdd (mP2 kAdd (mIxV 0 (mC (.int 1))) (mP2 kMul (mP2 kMul (mC (.int 98317)) (mIxV 0 (mC (.int 2)))) (mIxV 0 (mC (.int 2))))) (mC (.int 2027))) (mNil))) (mC (.int 3))) (mNil))) (mVar Vw.no 3)))
  (sSeq (sSet Vw.no 4 (mP2 kMod (mPure kInt (mCons (mP2 kMul (mVar Vw.no 4) (mP2 kAdd (mP2 kMod (mPure kInt (mCons (mVar Vw.no 4) (mNil))) (mC (.int 11927))) (mP2 kMul (mC (.int 353)) (mIxV 0 (mC (.int 2)))))) (mNil))) (mC (.int 2305843009213693907))))
  (sRet Vw.no (mP2 kMod (mPure kInt (mCons (mP2 kFdiv (mVar Vw.no 4) (mC (.int 181))) (mNil))) (mVar Vw.no 1)))))))
noncomputable def F__law_take : List Val → List Val → RI := runI 2 5 m__law_take
noncomputable def m__law_of : Ms :=
  sRet Vw.no (mIxV 1 (mCallI Vw.no 0 F__law_take (mCons (mPure kLen (mCons (mVar Vw.no 1) (mNil))) (mNil))))
noncomputable def F__law_of : List Val → List Val → RI := runI 2 2 m__law_of
noncomputable def m__law_cells : Ms :=
  sRet Vw.no (mPure kListRg1 (mCons (mPure kMax2 (mCons (mC (.int 1)) (mCons (mPure kMin2 (mCons (mVar Vw.no 1) (mCons (mPure kLen (mCons (mVar Vw.no 0) (mNil))) (mNil)))) (mNil)))) mNil))
noncomputable def P__law_cells : List Val → RP := runP 2 2 m__law_cells
noncomputable def m__law_some : Ms :=
  sSeq (sPar2 Vw.no 3 4 (mCons (mPure kList (mCons (mVar Vw.no 1) (mNil))) (mCons (mPure kLst (mNil)) (mNil))))
  (sSeq (sFor [5] (.nm 5) (mRng (mCons (mVar Vw.no 2) mNil))
  (sExp (mChg (Vw.but [0, 3, 4]) 4 kAppend (mCons (mChg (Vw.but [0, 3, 4]) 3 kPopAt (mCons (mCallI (Vw.but [0, 3, 4]) 0 F__law_take (mCons (mLenV 3) (mNil))) (mNil))) (mNil)))))
  (sRetV 4))
noncomputable def F__law_some : List Val → List Val → RI := runI 3 6 m__law_some
noncomputable def m__law_heard : Ms :=
  sSeq (sAsg Vw.no (.tp [(.nm 1), (.nm 2)]) (mPure kTup (mCons (mC .non) (mCons (mC .non) (mNil)))))
  (sSeq (sHeard LPk okE 2 1 0 3)
  (sRet Vw.no (mPure kTup (mCons (mVar Vw.no 1) (mCons (mVar Vw.no 2) (mNil))))))
noncomputable def P__law_heard : List Val → RP := runP 1 4 m__law_heard
noncomputable def m__law_longer : Ms :=
  sSeq (sSet Vw.no 2 (mPure kLst (mNil)))
  (sSeq (sFor [3] (.nm 3) (mSeq true Vw.no (mVar Vw.no 0))
  (sExp (mChg Vw.no 2 kExtend (mCons (mLc Vw.no [4] (.nm 4) (mSeq false Vw.no (mVar Vw.no 1)) mYes (mP2 kAdd (mVar Vw.no 3) (mVar Vw.no 4))) (mNil)))))
  (sRetV 2))
noncomputable def P__law_longer : List Val → RP := runP 2 5 m__law_longer
noncomputable def m__law_all_rows : Ms :=
  sSeq (sSet Vw.no 2 (mPure kLst (mCons (mPure kTup (mNil)) (mNil))))
  (sFrz 2 (sSeq (sFor [3] (.nm 3) (mRng (mCons (mVar Vw.no 1) mNil))
  (sSeq (sSet Vw.no 2 (mCall Vw.no P__law_longer (mCons (mVar Vw.no 2) (mCons (mLc Vw.no [4] (.nm 4) (mRng (mCons (mVar Vw.no 0) mNil)) mYes (mPure kTup (mCons (mVar Vw.no 4) (mNil)))) (mNil)))))
  (sFrz 2 (sSkip))))
  (sRetV 2)))
noncomputable def P__law_all_rows : List Val → RP := runP 2 5 m__law_all_rows
noncomputable def m__law_kind_rows : Ms :=
  sSeq (sAsg Vw.no (.tp [(.nm 3), (.nm 4), (.nm 5)]) (mPure kTup (mCons (mCall Vw.no P__law_all_rows (mCons (mVar Vw.no 1) (mCons (mVar Vw.no 2) (mNil)))) (mCons (mCallI Vw.no 0 F__law_take (mCons (mC (.int 6)) (mNil))) (mCons (mCallI Vw.no 0 F__law_take (mCons (mVar Vw.no 1) (mNil))) (mNil))))))
  (sSeq (sIf (mTest (mP2 kEq (mVar Vw.no 4) (mC (.int 0))))
  (sRet Vw.no (mLc Vw.no [6] (.nm 6) (mSeq false Vw.no (mVar Vw.no 3)) (mTest (mP2 kEq (mPure kList (mCons (mVar Vw.no 6) (mNil))) (mPure kSort (mCons (mVar Vw.no 6) (mNil))))) (mVar Vw.no 6)))
  (sSkip))
  (sSeq (sIf (mTest (mP2 kEq (mVar Vw.no 4) (mC (.int 1))))
  (sRet Vw.no (mLc Vw.no [6] (.nm 6) (mSeq false Vw.no (mVar Vw.no 3)) (mTest (mP2 kEq (mP2 kMod (mPure kSum (mCons (mVar Vw.no 6) (mNil))) (mVar Vw.no 1)) (mVar Vw.no 5))) (mVar Vw.no 6)))
  (sSkip))
  (sSeq (sIf (mTest (mP2 kEq (mVar Vw.no 4) (mC (.int 2))))
  (sRet Vw.no (mLc Vw.no [6] (.nm 6) (mSeq false Vw.no (mVar Vw.no 3)) (mTest (mP2 kEq (mPure kLenSet (mCons (mVar Vw.no 6) (mNil))) (mPure kMin2 (mCons (mVar Vw.no 2) (mCons (mVar Vw.no 1) (mNil)))))) (mVar Vw.no 6)))
  (sSkip))
  (sSeq (sIf (mTest (mP2 kEq (mVar Vw.no 4) (mC (.int 3))))
  (sRet Vw.no (mLc Vw.no [6] (.nm 6) (mSeq false Vw.no (mVar Vw.no 3)) (mTest (mP2 kEq (mPure kLenSet (mCons (mVar Vw.no 6) (mNil))) (mC (.int 1)))) (mVar Vw.no 6)))
  (sSkip))
  (sSeq (sIf (mTest (mP2 kEq (mVar Vw.no 4) (mC (.int 4))))
  (sRet Vw.no (mLc Vw.no [6] (.nm 6) (mSeq false Vw.no (mVar Vw.no 3)) (mTest (mP2 kIn (mVar Vw.no 5) (mVar Vw.no 6))) (mVar Vw.no 6)))
  (sSkip))
  (sSeq (sSet Vw.no 7 (mCallI Vw.no 0 F__law_some (mCons (mPure kListRg1 (mCons (mVar Vw.no 1) mNil)) (mCons (mP2 kAdd (mC (.int 1)) (mVar Vw.no 5)) (mNil)))))
  (sFrz 7 (sRet Vw.no (mLc Vw.no [6] (.nm 6) (mSeq false Vw.no (mVar Vw.no 3)) (mTest (mPure kAll (mCons (mLc Vw.no [8] (.nm 8) (mSeq false Vw.no (mVar Vw.no 6)) mYes (mP2 kIn (mVar Vw.no 8) (mVar Vw.no 7))) (mNil)))) (mVar Vw.no 6))))))))))
noncomputable def F__law_kind_rows : List Val → List Val → RI := runI 3 9 m__law_kind_rows
noncomputable def m__law_relation_drawn : Ms :=
  sSeq (sSet Vw.no 4 (mCallI Vw.no 0 F__law_kind_rows (mCons (mVar Vw.no 1) (mCons (mVar Vw.no 2) (mNil)))))
  (sFrz 4 (sSeq (sIf (mOr (mTest (mP2 kEq (mCallI Vw.no 0 F__law_take (mCons (mC (.int 2)) (mNil))) (mC (.int 0)))) (mTest (mP2 kGt (mPure kLen (mCons (mVar Vw.no 4) (mNil))) (mVar Vw.no 3))))
  (sSeq (sSet Vw.no 5 (mIf (mOr (mTest (mP2 kEq (mCallI Vw.no 0 F__law_take (mCons (mC (.int 2)) (mNil))) (mC (.int 0)))) (mTest (mP2 kEq (mVar Vw.no 4) (mPure kLst (mNil))))) (mCall Vw.no P__law_all_rows (mCons (mVar Vw.no 1) (mCons (mVar Vw.no 2) (mNil)))) (mVar Vw.no 4)))
  (sFrz 5 (sSeq (sSet Vw.no 4 (mCallI Vw.no 0 F__law_some (mCons (mVar Vw.no 5) (mCons (mCallI Vw.no 0 F__law_take (mCons (mP2 kAdd (mPure kMin2 (mCons (mVar Vw.no 3) (mCons (mPure kLen (mCons (mVar Vw.no 5) (mNil))) (mNil)))) (mC (.int 1))) (mNil))) (mNil)))))
  (sFrz 4 (sSkip)))))
  (sSkip))
  (sRet Vw.no (mPure kTup (mCons (mVar Vw.no 2) (mCons (mPure kTuple (mCons (mPure kSort (mCons (mVar Vw.no 4) (mNil))) (mNil))) (mNil)))))))
noncomputable def F__law_relation_drawn : List Val → List Val → RI := runI 4 6 m__law_relation_drawn
noncomputable def m__law_is_right : Ms :=
  sSeq (sSet Vw.no 4 (mPure kSort (mCons (mCall Vw.no P__law_longer (mCons (mPure kList (mCons (mIxV 1 (mC (.int 1))) (mNil))) (mCons (mPure kList (mCons (mIxV 2 (mC (.int 1))) (mNil))) (mNil)))) (mNil))))
  (sFrz 4 (sSeq (sIf (mTest (mP2 kNe (mPure kRepr (mCons (mCall Vw.no P_beside (mCons (mVar Vw.no 0) (mCons (mVar Vw.no 1) (mCons (mVar Vw.no 2) (mNil))))) (mNil))) (mPure kRepr (mCons (mPure kTup (mCons (mP2 kAdd (mIxV 1 (mC (.int 0))) (mIxV 2 (mC (.int 0)))) (mCons (mPure kTuple (mCons (mVar Vw.no 4) (mNil))) (mNil)))) (mNil)))))
  (sRet Vw.no (mC (.bl false)))
  (sSkip))
  (sSeq (sAsg Vw.no (.tp [(.nm 5), (.nm 6)]) (mCallL Vw.no P__law_heard 0 [1, 2, 0] (mNil)))
  (sSeq (sSet Vw.no 7 (mPure kTup (mCons (mIxV 1 (mC (.int 0))) (mCons (mPure kTuple (mCons (mLc Vw.no [8] (.nm 8) (mSeq false Vw.no (mIxV 1 (mC (.int 1)))) (mTest (mP2 kIn (mVar Vw.no 8) (mIxV 2 (mC (.int 1))))) (mVar Vw.no 8)) (mNil))) (mNil)))))
  (sSeq (sIf (mTest (mP2 kNe (mIxV 1 (mC (.int 0))) (mIxV 2 (mC (.int 0)))))
  (sSet Vw.no 7 (mC .non))
  (sSkip))
  (sSeq (sIf (mAnd (mTest (mP2 kIs (mVar Vw.no 7) (mC .non))) (mNot (mAnd (mTest (mPure (kIsC okE subE) (mCons (mVar Vw.no 5) (mCons (mC (.cls "BadPlaces")) (mNil))))) (mTest (mP2 kEq (mPure kRepr (mCons (mPure (kValue okE) (mCons (mVar Vw.no 5) mNil)) (mNil))) (mPure kRepr (mCons (mVar Vw.no 2) (mNil))))))))
  (sRet Vw.no (mC (.bl false)))
  (sSkip))
  (sSeq (sIf (mAnd (mTest (mP2 kIsNot (mVar Vw.no 7) (mC .non))) (mOr (mTest (mP2 kIsNot (mVar Vw.no 5) (mC .non))) (mTest (mP2 kNe (mPure kRepr (mCons (mVar Vw.no 6) (mNil))) (mPure kRepr (mCons (mVar Vw.no 7) (mNil)))))))
  (sRet Vw.no (mC (.bl false)))
  (sSkip))
  (sSeq (sSet Vw.no 4 (mPure kSortSet (mCons (mLc Vw.no [8] (.nm 8) (mSeq false Vw.no (mIxV 1 (mC (.int 1)))) mYes (mPure kTuple (mCons (mLc Vw.no [9] (.nm 9) (mSeq false Vw.no (mVar Vw.no 3)) mYes (mIxV 8 (mVar Vw.no 9))) (mNil)))) (mNil))))
  (sFrz 4 (sSeq (sIf (mTest (mP2 kNe (mPure kRepr (mCons (mCallK Vw.no P_turned 1 2 [0, 2, 1] (mCons (mVar Vw.no 0) (mNil)) (mCons (mVar Vw.no 3) (mCons (mVar Vw.no 1) (mNil)))) (mNil))) (mPure kRepr (mCons (mPure kTup (mCons (mPure kLen (mCons (mVar Vw.no 3) (mNil))) (mCons (mPure kTuple (mCons (mVar Vw.no 4) (mNil))) (mNil)))) (mNil)))))
  (sRet Vw.no (mC (.bl false)))
  (sSkip))
  (sSeq (sSet Vw.no 4 (mLc Vw.no [8] (.nm 8) (mSeq false Vw.no (mIxV 1 (mC (.int 1)))) (mTest (mP2 kEq (mPure kLenSet (mCons (mLc Vw.no [9] (.nm 9) (mSeq false Vw.no (mVar Vw.no 3)) mYes (mIxV 8 (mVar Vw.no 9))) (mNil))) (mC (.int 1)))) (mVar Vw.no 8)))
  (sFrz 4 (sSeq (sIf (mTest (mP2 kNe (mPure kRepr (mCons (mCall Vw.no P_tied (mCons (mVar Vw.no 0) (mCons (mVar Vw.no 1) (mCons (mVar Vw.no 3) (mNil))))) (mNil))) (mPure kRepr (mCons (mPure kTup (mCons (mIxV 1 (mC (.int 0))) (mCons (mPure kTuple (mCons (mVar Vw.no 4) (mNil))) (mNil)))) (mNil)))))
  (sRet Vw.no (mC (.bl false)))
  (sSkip))
  (sSeq (sSet Vw.no 4 (mLc Vw.no [8] (.nm 8) (mSeq false Vw.no (mCall Vw.no P__law_all_rows (mCons (mVar Vw.no 0) (mCons (mIxV 1 (mC (.int 0))) (mNil))))) (mTest (mP2 kNotIn (mVar Vw.no 8) (mIxV 1 (mC (.int 1))))) (mVar Vw.no 8)))
  (sFrz 4 (sRet Vw.no (mP2 kEq (mPure kRepr (mCons (mCallK Vw.no P_rest 0 2 [1, 0] mNil (mCons (mVar Vw.no 1) (mCons (mVar Vw.no 0) (mNil)))) (mNil))) (mPure kRepr (mCons (mPure kTup (mCons (mIxV 1 (mC (.int 0))) (mCons (mPure kTuple (mCons (mVar Vw.no 4) (mNil))) (mNil)))) (mNil))))))))))))))))))))
noncomputable def P__law_is_right : List Val → RP := runP 4 10 m__law_is_right
noncomputable def m__law_are_sizes_right : Ms :=
  sSeq (sSet Vw.no 2 (mPure kTuple (mCons (mCall Vw.no P__law_all_rows (mCons (mVar Vw.no 0) (mCons (mVar Vw.no 1) (mNil)))) (mNil))))
  (sSeq (sIf (mTest (mP2 kNe (mPure kRepr (mCons (mCall Vw.no P_full (mCons (mVar Vw.no 0) (mCons (mVar Vw.no 1) (mNil)))) (mNil))) (mPure kRepr (mCons (mPure kTup (mCons (mVar Vw.no 1) (mCons (mVar Vw.no 2) (mNil)))) (mNil)))))
  (sRet Vw.no (mC (.bl false)))
  (sSkip))
  (sSeq (sIf (mTest (mP2 kNe (mPure kRepr (mCons (mCallK Vw.no P_equal 0 1 [0] mNil (mCons (mVar Vw.no 0) (mNil))) (mNil))) (mPure kRepr (mCons (mPure kTup (mCons (mC (.int 2)) (mCons (mPure kTuple (mCons (mLc Vw.no [3] (.nm 3) (mRng (mCons (mVar Vw.no 0) mNil)) mYes (mPure kTup (mCons (mVar Vw.no 3) (mCons (mVar Vw.no 3) (mNil))))) (mNil))) (mNil)))) (mNil)))))
  (sRet Vw.no (mC (.bl false)))
  (sSkip))
  (sSeq (sSet Vw.no 4 (mP2 kIx (mPure kLst (mCons (mPure kTup (mCons (mC (.int 2)) (mCons (mC (.int 11)) (mNil)))) (mCons (mPure kTup (mCons (mC (.int 3)) (mCons (mC (.int 7)) (mNil)))) (mCons (mPure kTup (mCons (mC (.int 4)) (mCons (mC (.int 6)) (mNil)))) (mCons (mPure kTup (mCons (mC (.int 12)) (mCons (mC (.int 4)) (mNil)))) (mCons (mPure kTup (mCons (mC (.int 7)) (mCons (mC (.int 81)) (mNil)))) (mNil))))))) (mP2 kMod (mVar Vw.no 0) (mC (.int 5)))))
  (sSeq (sSet Vw.no 5 (mP2 kIx (mCallL Vw.no P__law_heard 1 [4] (mNil)) (mC (.int 0))))
  (sRet Vw.no (mAndV (mPure (kIsC okE subE) (mCons (mVar Vw.no 5) (mCons (mC (.cls "TooMany")) (mNil)))) (mP2 kEq (mPure kRepr (mCons (mPure (kValue okE) (mCons (mVar Vw.no 5) mNil)) (mNil))) (mC (.str "2000")))))))))
noncomputable def P__law_are_sizes_right : List Val → RP := runP 2 6 m__law_are_sizes_right
noncomputable def m__law_right : Ms :=
  sSeq (sFor [1, 2, 3, 4, 5] (.nm 1) (mRng (mCons (mC (.int 2)) mNil))
  (sSeq (sSet Vw.no 2 (mP2 kAdd (mC (.int 1)) (mCallI Vw.no 0 F__law_take (mCons (mC (.int 5)) (mNil)))))
  (sFrz 2 (sSeq (sSet Vw.no 3 (mCallI Vw.no 0 F__law_relation_drawn (mCons (mVar Vw.no 2) (mCons (mP2 kAdd (mC (.int 1)) (mCallI Vw.no 0 F__law_take (mCons (mC (.int 4)) (mNil)))) (mCons (mC (.int 12)) (mNil))))))
  (sFrz 3 (sSeq (sSet Vw.no 4 (mCallI Vw.no 0 F__law_relation_drawn (mCons (mVar Vw.no 2) (mCons (mCallI Vw.no 0 F__law_of (mCons (mPure kLst (mCons (mIxV 3 (mC (.int 0))) (mCons (mP2 kAdd (mC (.int 1)) (mCallI Vw.no 0 F__law_take (mCons (mC (.int 4)) (mNil)))) (mNil)))) (mNil))) (mCons (mC (.int 12)) (mNil))))))
  (sFrz 4 (sSeq (sSet Vw.no 5 (mPure kTuple (mCons (mLc Vw.no [1] (.nm 1) (mRng (mCons (mP2 kAdd (mC (.int 1)) (mCallI Vw.no 0 F__law_take (mCons (mC (.int 5)) (mNil)))) mNil)) mYes (mPure kInt (mCons (mCallI Vw.no 0 F__law_take (mCons (mIxV 3 (mC (.int 0))) (mNil))) (mNil)))) (mNil))))
  (sIf (mOr (mNot (mTest (mCall Vw.no P__law_is_right (mCons (mVar Vw.no 2) (mCons (mVar Vw.no 3) (mCons (mVar Vw.no 4) (mCons (mVar Vw.no 5) (mNil)))))))) (mNot (mTest (mCall Vw.no P__law_are_sizes_right (mCons (mVar Vw.no 2) (mCons (mP2 kAdd (mC (.int 1)) (mCallI Vw.no 0 F__law_take (mCons (mC (.int 4)) (mNil)))) (mNil)))))))
  (sRet Vw.no (mC (.bl false)))
  (sSkip))))))))))
  (sRet Vw.no (mC (.bl true)))
noncomputable def F__law_right : List Val → List Val → RI := runI 1 6 m__law_right
noncomputable def m_law : Ms :=
  sRet Vw.no (mPure kAll (mCons (mLc Vw.no [1] (.nm 1) (mSeq false Vw.no (mCall Vw.no P__law_cells (mCons (mVar Vw.no 0) (mCons (mC (.int 3)) (mNil))))) mYes (mCallT Vw.no F__law_right (mCons (mCall Vw.no P__law_pot (mCons (mVar Vw.no 0) (mCons (mVar Vw.no 1) (mNil)))) (mNil)))) (mNil)))
noncomputable def P_law : List Val → RP := runP 1 2 m_law
/-- what the text has -/
structure Tx (g : G) : Prop where
  ll : g.L = LLk
  lp : g.LP = LPk
  er : ErrF g okE
  f_is_int : FnF g "is_int" s_is_int ["value", "low", "high"]
  f_look_at_number : FnF g "look_at_number" s_look_at_number ["value", "low", "high"]
  f_look_at_worths : FnF g "look_at_worths" s_look_at_worths ["worths"]
  f_is_row : FnF g "is_row" s_is_row ["worths", "places", "value"]
  f_is_rising : FnF g "is_rising" s_is_rising ["some"]
  f_is_relation : FnF g "is_relation" s_is_relation ["worths", "value"]
  f_look_at_relations : FnF g "look_at_relations" s_look_at_relations ["worths", "some"]
  f_both : FnF g "both" s_both ["worths", "one", "other"]
  f_all_rows : FnF g "all_rows" s_all_rows ["worths", "places"]
  f_power : FnF g "power" s_power ["one", "many"]
  f_look_at_size : FnF g "look_at_size" s_look_at_size ["worths", "places"]
  f_full : FnF g "full" s_full ["worths", "places"]
  f_look_at_spots : FnF g "look_at_spots" s_look_at_spots ["relation", "spots"]
  f_sorted_rows : FnF g "sorted_rows" s_sorted_rows ["places", "rows"]
  f_equal : FnF g "equal" s_equal ["worths"]
  f_beside : FnF g "beside" s_beside ["worths", "one", "other"]
  f_turned : FnF g "turned" s_turned ["worths", "relation", "spots"]
  f_tied : FnF g "tied" s_tied ["worths", "relation", "spots"]
  f_rest : FnF g "rest" s_rest ["worths", "relation"]
  f__law_pot : FnF g "_law_pot" s__law_pot ["script", "place"]
  f__law_take : FnF g "_law_take" s__law_take ["pot", "upto"]
  f__law_of : FnF g "_law_of" s__law_of ["pot", "some"]
  f__law_cells : FnF g "_law_cells" s__law_cells ["script", "most"]
  f__law_some : FnF g "_law_some" s__law_some ["pot", "pool", "many"]
  f__law_heard : FnF g "_law_heard" s__law_heard ["call"]
  f__law_longer : FnF g "_law_longer" s__law_longer ["found", "some"]
  f__law_all_rows : FnF g "_law_all_rows" s__law_all_rows ["worths", "places"]
  f__law_kind_rows : FnF g "_law_kind_rows" s__law_kind_rows ["pot", "worths", "places"]
  f__law_relation_drawn : FnF g "_law_relation_drawn" s__law_relation_drawn ["pot", "worths", "places", "most"]
  t__law_is_right : ∃ cc P, TabB g.base g.mg cc P ∧ (P, ("_law_is_right.<locals>.<lambda>" : PySem.Str)) ∈ g.T ∧ (∀ p ∈ g.T, p.1 = P → p.2 = "_law_is_right.<locals>.<lambda>") ∧ FnL g "_law_is_right" s__law_is_right ["worths", "one", "other", "spots"] cc
  t__law_are_sizes_right : ∃ cc P, TabB g.base g.mg cc P ∧ (P, ("_law_are_sizes_right.<locals>.<lambda>" : PySem.Str)) ∈ g.T ∧ (∀ p ∈ g.T, p.1 = P → p.2 = "_law_are_sizes_right.<locals>.<lambda>") ∧ FnL g "_law_are_sizes_right" s__law_are_sizes_right ["worths", "many"] cc
  f__law_right : FnF g "_law_right" s__law_right ["pot"]
  f_law : FnF g "law" s_law ["script"]
  b_abs : g.mg "abs" = none
  b_all : g.mg "all" = none
  b_bool : g.mg "bool" = none
  b_int : g.mg "int" = none
  b_isinstance : g.mg "isinstance" = none
  b_len : g.mg "len" = none
  b_list : g.mg "list" = none
  b_max : g.mg "max" = none
  b_min : g.mg "min" = none
  b_range : g.mg "range" = none
  b_repr : g.mg "repr" = none
  b_set : g.mg "set" = none
  b_sorted : g.mg "sorted" = none
  b_sum : g.mg "sum" = none
  b_tuple : g.mg "tuple" = none
  b_zip : g.mg "zip" = none
  c_MOST_PLACES : ∃ t, g.mg "MOST_PLACES" = some (.int 81 t)
  c_MOST_ROWS : ∃ t, g.mg "MOST_ROWS" = some (.int 2000 t)
  c_MOST_WORTHS : ∃ t, g.mg "MOST_WORTHS" = some (.int 12 t)
theorem kw_both_0_one_other_worths : KwB "both" s_both ["worths", "one", "other"] ["one", "other", "worths"] 0 3 [2, 0, 1] := ⟨rfl, by decide, fun _ _ _ _ _ _ us ws h1 h2 => match us, h1, ws, h2 with | [], _, [_, _, _], _ => rfl⟩
theorem kw_equal_0_worths : KwB "equal" s_equal ["worths"] ["worths"] 0 1 [0] := ⟨rfl, by decide, fun _ _ _ _ _ _ us ws h1 h2 => match us, h1, ws, h2 with | [], _, [_], _ => rfl⟩
theorem kw_rest_0_relation_worths : KwB "rest" s_rest ["worths", "relation"] ["relation", "worths"] 0 2 [1, 0] := ⟨rfl, by decide, fun _ _ _ _ _ _ us ws h1 h2 => match us, h1, ws, h2 with | [], _, [_, _], _ => rfl⟩
theorem kw_turned_1_spots_relation : KwB "turned" s_turned ["worths", "relation", "spots"] ["spots", "relation"] 1 2 [0, 2, 1] := ⟨rfl, by decide, fun _ _ _ _ _ _ us ws h1 h2 => match us, h1, ws, h2 with | [_], _, [_, _], _ => rfl⟩
section
variable {g : G}
theorem d_is_int (T : Tx g) : DefP g 1 "is_int" s_is_int ["value", "low", "high"] P_is_int := DefP.mk' (k := 0) T.f_is_int sc_is_int fun f E cdv A outer s H c =>
  ss_one (ds_ret (dx_and (dx_blt c call_isi (pure_isi _) T.b_isinstance (by decide +kernel) (da_cons (dx_var 0) (da_cons (dx_tyN c T.b_int (by decide +kernel)) (da_nil)))) (dx_and (dx_not (dx_blt c call_isi (pure_isi _) T.b_isinstance (by decide +kernel) (da_cons (dx_var 0) (da_cons (dx_tyN c T.b_bool (by decide +kernel)) (da_nil))))) (dx_one (dx_chain op_le pure_le op_le pure_le (dx_var 1) (dx_var 0) (dx_var 2))))))
theorem d_look_at_number (T : Tx g) : DefP g 3 "look_at_number" s_look_at_number ["value", "low", "high"] P_look_at_number := DefP.mk' (k := 2) T.f_look_at_number sc_look_at_number fun f E cdv A outer s H c =>
  ss_one (ds_if (S := Vw.no) (dt_not (dt_val (dx_call c (d_is_int T) (by decide) (da_cons (dx_var 0) (da_cons (dx_var 1) (da_cons (dx_var 2) (da_nil)))))))
  (ss_one (ds_raise c (T.er.ra "BadNumber" rfl) (by decide) (dx_var 0)))
  (ss_nil))
theorem d_look_at_worths (T : Tx g) : DefP g 4 "look_at_worths" s_look_at_worths ["worths"] P_look_at_worths := DefP.mk' (k := 3) T.f_look_at_worths sc_look_at_worths fun f E cdv A outer s H c =>
  ss_one (ds_exp (S := Vw.no) (dx_call c (d_look_at_number T) (by decide) (da_cons (dx_var 0) (da_cons (dx_int) (da_cons (dx_gI c T.c_MOST_WORTHS) (da_nil))))))
theorem d_is_row (T : Tx g) : DefP g 2 "is_row" s_is_row ["worths", "places", "value"] P_is_row := DefP.mk' (k := 1) T.f_is_row sc_is_row fun f E cdv A outer s H c =>
  ss_one (ds_ret (dx_and (dx_blt c call_isi (pure_isi _) T.b_isinstance (by decide +kernel) (da_cons (dx_var 2) (da_cons (dx_tyN c T.b_tuple (by decide +kernel)) (da_nil)))) (dx_and (dx_cmp (op_eqS (u64 c.room)) (pure_eq _) (dx_blt c call_len (pure_len _) T.b_len (by decide +kernel) (da_cons (dx_var 2) (da_nil))) (dx_var 1) (by rfl)) (dx_one (dx_blt c (cr_all c.calm) (pure_all _) T.b_all (by decide +kernel) (da_cons (dx_lc (own := [("one", 3)]) c (di_seq (dx_var 2)) (by rfl) (fun _ _ _ _ _ => (dg_name c.blk 3)) (fun _ _ _ _ _ => dts_nil) (fun _ _ _ _ _ => dx_call c.blk (d_is_int T) (by decide) (da_cons (dx_var 3) (da_cons (dx_int) (da_cons (dx_bin op_sub pure_sub (dx_var 0) (dx_int)) (da_nil)))))) (da_nil)))))))
theorem d_is_rising (T : Tx g) : DefP g 1 "is_rising" s_is_rising ["some"] P_is_rising := DefP.mk' (k := 0) T.f_is_rising sc_is_rising fun f E cdv A outer s H c =>
  ss_one (ds_ret (dx_blt c (cr_all c.calm) (pure_all _) T.b_all (by decide +kernel) (da_cons (dx_lc (own := [("one", 1), ("other", 2)]) c (di_zip c T.b_zip (da_cons (dx_var 0) (da_cons (dx_sl (dx_var 0) (do_some (dx_int)) do_none) (da_nil)))) (by rfl) (fun _ _ _ _ _ => (dg_tup c.blk (dgs_cons (dg_name c.blk 1) (dgs_cons (dg_name c.blk 2) dgs_nil)))) (fun _ _ _ _ _ => dts_nil) (fun _ _ _ _ _ => dx_cmp (op_ltA (KS.Room.u65 c.blk.room)) (pure_ltA _) (dx_var 1) (dx_var 2) (by rfl))) (da_nil))))
theorem d_is_relation (T : Tx g) : DefP g 5 "is_relation" s_is_relation ["worths", "value"] P_is_relation := DefP.mk' (k := 4) T.f_is_relation sc_is_relation fun f E cdv A outer s H c =>
  ss_cons (ds_exp (S := Vw.no) (dx_call c (d_look_at_worths T) (by decide) (da_cons (dx_var 0) (da_nil))))
  (ss_cons (ds_if (S := Vw.no) (PW.pt (dw_or (dt_not (dt_val (dx_blt c call_isi (pure_isi _) T.b_isinstance (by decide +kernel) (da_cons (dx_var 1) (da_cons (dx_tyN c T.b_tuple (by decide +kernel)) (da_nil)))))) (dw_or (dt_cmp (op_neS (u64 c.room)) (pure_ne _) (dx_blt c call_len (pure_len _) T.b_len (by decide +kernel) (da_cons (dx_var 1) (da_nil))) (dx_int) (by rfl)) (dw_or1 (dt_not (dt_val (dx_call c (d_is_int T) (by decide) (da_cons (dx_ixV 1 (dx_int)) (da_cons (dx_int) (da_cons (dx_gI c T.c_MOST_PLACES) (da_nil)))))))))))
  (ss_one (ds_ret (dx_bl)))
  (ss_nil))
  (ss_cons (ds_asg (dx_var 1) (dg_tup c (dgs_cons (dg_name c 2) (dgs_cons (dg_name c 3) dgs_nil))))
  (ss_cons (ds_if (S := Vw.no) (PW.pt (dw_or (dt_not (dt_val (dx_blt c call_isi (pure_isi _) T.b_isinstance (by decide +kernel) (da_cons (dx_var 3) (da_cons (dx_tyN c T.b_tuple (by decide +kernel)) (da_nil)))))) (dw_or1 (dt_cmp op_gt pure_gt (dx_blt c call_len (pure_len _) T.b_len (by decide +kernel) (da_cons (dx_var 3) (da_nil))) (dx_gI c T.c_MOST_ROWS) (by rfl)))))
  (ss_one (ds_ret (dx_bl)))
  (ss_nil))
  (ss_one (ds_ret (dx_and (dx_blt c (cr_all c.calm) (pure_all _) T.b_all (by decide +kernel) (da_cons (dx_lc (own := [("row", 4)]) c (di_seq (dx_var 3)) (by rfl) (fun _ _ _ _ _ => (dg_name c.blk 4)) (fun _ _ _ _ _ => dts_nil) (fun _ _ _ _ _ => dx_call c.blk (d_is_row T) (by decide) (da_cons (dx_var 0) (da_cons (dx_var 2) (da_cons (dx_var 4) (da_nil)))))) (da_nil))) (dx_one (dx_call c (d_is_rising T) (by decide) (da_cons (dx_var 3) (da_nil))))))))))
theorem d_look_at_relations (T : Tx g) : DefP g 6 "look_at_relations" s_look_at_relations ["worths", "some"] P_look_at_relations := DefP.mk' (k := 5) T.f_look_at_relations sc_look_at_relations fun f E cdv A outer s H c =>
  ss_cons (ds_exp (S := Vw.no) (dx_call c (d_look_at_worths T) (by decide) (da_cons (dx_var 0) (da_nil))))
  (ss_one (ds_for (S := Vw.no) [2] c (di_seq (dx_var 1)) (dg_name c 2)
  (ss_one (ds_if (S := Vw.no) (dt_not (dt_val (dx_call c (d_is_relation T) (by decide) (da_cons (dx_var 0) (da_cons (dx_var 2) (da_nil))))))
  (ss_one (ds_raise c (T.er.ra "BadRelation" rfl) (by decide) (dx_var 2)))
  (ss_nil)))))
theorem d_both (T : Tx g) : DefP g 7 "both" s_both ["worths", "one", "other"] P_both := DefP.mk' (k := 6) T.f_both sc_both fun f E cdv A outer s H c =>
  ss_cons (ds_exp (S := Vw.no) (dx_call c (d_look_at_relations T) (by decide) (da_cons (dx_var 0) (da_cons (dx_tup (da_cons (dx_var 1) (da_cons (dx_var 2) (da_nil)))) (da_nil)))))
  (ss_cons (ds_if (S := Vw.no) (dt_cmp (op_neS (u64 c.room)) (pure_ne _) (dx_ixV 1 (dx_int)) (dx_ixV 2 (dx_int)) (by rfl))
  (ss_one (ds_raise c (T.er.ra "BadPlaces" rfl) (by decide) (dx_var 2)))
  (ss_nil))
  (ss_one (ds_ret (dx_tup (da_cons (dx_ixV 1 (dx_int)) (da_cons (dx_ty c call_tuple_of (pure_tuple _) T.b_tuple (by decide +kernel) (da_cons (dx_lc (own := [("row", 3)]) c (di_seq (dx_ixV 1 (dx_int))) (by rfl) (fun _ _ _ _ _ => (dg_name c.blk 3)) (fun _ _ _ _ _ => (dts_one (dt_cmp (op_inA (KS.Room.u65 c.blk.room)) (pure_in _) (dx_var 3) (dx_ixV 2 (dx_int)) (by rfl)))) (fun _ _ _ _ _ => dx_var 3)) (da_nil))) (da_nil)))))))
theorem d_all_rows (T : Tx g) : DefP g 1 "all_rows" s_all_rows ["worths", "places"] P_all_rows := DefP.mk' (k := 0) T.f_all_rows sc_all_rows fun f E cdv A outer s H c =>
  ss_cons (ds_set c (dx_lst (da_cons (dx_tup (da_nil)) (da_nil))))
  (ss_frz 2 (ss_cons (ds_for (S := Vw.no) [3] c (di_rng1 c T.b_range (dx_var 1)) (dg_name c 3)
  (ss_cons (ds_setLc2 (own := [("row", 4), ("worth", 5)]) (vs1 := [5]) c (di_seq (dx_var 2)) (by rfl) (fun _ _ _ _ _ => (dg_name c.blk 4)) (fun _ _ _ _ _ => dts_nil) (fun _ _ _ _ _ => di_rng1 c.blk T.b_range (dx_var 0)) (fun _ _ _ _ _ => (dg_name c.blk 5)) (fun _ _ _ _ _ => dts_nil) (fun _ _ _ _ _ => dx_bin op_addA (pure_add _) (dx_var 4) (dx_tup (da_cons (dx_var 5) (da_nil)))))
  (ss_frz 2 (ss_nil))))
  (ss_one (ds_retV 2))))
theorem d_power (T : Tx g) : DefP g 1 "power" s_power ["one", "many"] P_power := DefP.mk' (k := 0) T.f_power sc_power fun f E cdv A outer s H c =>
  ss_cons (ds_set c (dx_int))
  (ss_cons (ds_for (S := Vw.no) [3] c (di_rng1 c T.b_range (dx_var 1)) (dg_name c 3)
  (ss_one (ds_set c (dx_bin op_mulW pure_mul (dx_var 2) (dx_var 0)))))
  (ss_one (ds_retV 2)))
theorem d_look_at_size (T : Tx g) : DefP g 3 "look_at_size" s_look_at_size ["worths", "places"] P_look_at_size := DefP.mk' (k := 2) T.f_look_at_size sc_look_at_size fun f E cdv A outer s H c =>
  ss_one (ds_if (S := Vw.no) (PW.pt (dw_or (PW.pt (dw_and (dt_cmp op_gt pure_gt (dx_var 0) (dx_int) (by rfl)) (dw_and1 (dt_cmp op_gt pure_gt (dx_var 1) (dx_int) (by rfl))))) (dw_or1 (dt_cmp op_gt pure_gt (dx_call c (d_power T) (by decide) (da_cons (dx_var 0) (da_cons (dx_blt c (call_min2 c.calm) pure_min2 T.b_min (by decide +kernel) (da_cons (dx_var 1) (da_cons (dx_int) (da_nil)))) (da_nil)))) (dx_gI c T.c_MOST_ROWS) (by rfl)))))
  (ss_one (ds_raise c (T.er.ra "TooMany" rfl) (by decide) (dx_gI c T.c_MOST_ROWS)))
  (ss_nil))
theorem d_full (T : Tx g) : DefP g 5 "full" s_full ["worths", "places"] P_full := DefP.mk' (k := 4) T.f_full sc_full fun f E cdv A outer s H c =>
  ss_cons (ds_exp (S := Vw.no) (dx_call c (d_look_at_worths T) (by decide) (da_cons (dx_var 0) (da_nil))))
  (ss_cons (ds_exp (S := Vw.no) (dx_call c (d_look_at_number T) (by decide) (da_cons (dx_var 1) (da_cons (dx_int) (da_cons (dx_gI c T.c_MOST_PLACES) (da_nil))))))
  (ss_cons (ds_exp (S := Vw.no) (dx_call c (d_look_at_size T) (by decide) (da_cons (dx_var 0) (da_cons (dx_var 1) (da_nil)))))
  (ss_one (ds_ret (dx_tup (da_cons (dx_var 1) (da_cons (dx_ty c call_tuple_of (pure_tuple _) T.b_tuple (by decide +kernel) (da_cons (dx_call c (d_all_rows T) (by decide) (da_cons (dx_var 0) (da_cons (dx_var 1) (da_nil)))) (da_nil))) (da_nil))))))))
theorem lo_0 (T : Tx g) : LamOk g 8 0 := lam_ok' (k := 7) (ps := []) (names := ["one", "other", "worths"]) (D := ld_0) (m := lm_0) (congrFun T.ll 0) (congrFun T.lp 0) rfl ⟨rfl, rfl, rfl, by decide +kernel, by decide +kernel, by decide +kernel, by decide +kernel, by decide +kernel⟩ (fun _ _ _ _ us hl => match us, hl with | [], _ => rfl) fun E f c' clo A outer s H c =>
  dx_callK0 c (d_both T) kw_both_0_one_other_worths (by decide) (by decide) (da_kcons (dx_var 0) (da_kcons (dx_var 1) (da_kcons (dx_var 2) (da_knil))))
theorem lo_1 (T : Tx g) : LamOk g 6 1 := lam_ok' (k := 5) (ps := []) (names := ["wide"]) (D := ld_1) (m := lm_1) (congrFun T.ll 1) (congrFun T.lp 1) rfl ⟨rfl, rfl, rfl, by decide +kernel, by decide +kernel, by decide +kernel, by decide +kernel, by decide +kernel⟩ (fun _ _ _ _ us hl => match us, hl with | [], _ => rfl) fun E f c' clo A outer s H c =>
  dx_call c (d_full T) (by decide) (da_cons (dx_ixV 0 (dx_int)) (da_cons (dx_ixV 0 (dx_int)) (da_nil)))
theorem lamAll (T : Tx g) : ∀ n, LamOk g 8 n
  | 0 => (lo_0 T).mono (by decide)
  | 1 => (lo_1 T).mono (by decide)
  | n + 2 => lam_bad fun _ _ => by rw [T.lp]; rfl
theorem d_look_at_spots (T : Tx g) : DefP g 3 "look_at_spots" s_look_at_spots ["relation", "spots"] P_look_at_spots := DefP.mk' (k := 2) T.f_look_at_spots sc_look_at_spots fun f E cdv A outer s H c =>
  ss_cons (ds_if (S := Vw.no) (PW.pt (dw_or (dt_not (dt_val (dx_blt c call_isi (pure_isi _) T.b_isinstance (by decide +kernel) (da_cons (dx_var 1) (da_cons (dx_tyN c T.b_tuple (by decide +kernel)) (da_nil)))))) (dw_or1 (dt_not (dt_chain op_le pure_le op_le pure_le (dx_int) (dx_blt c call_len (pure_len _) T.b_len (by decide +kernel) (da_cons (dx_var 1) (da_nil))) (dx_gI c T.c_MOST_PLACES))))))
  (ss_one (ds_raise c (T.er.ra "BadSpots" rfl) (by decide) (dx_var 1)))
  (ss_nil))
  (ss_one (ds_if (S := Vw.no) (dt_not (dt_val (dx_blt c (cr_all c.calm) (pure_all _) T.b_all (by decide +kernel) (da_cons (dx_lc (own := [("spot", 2)]) c (di_seq (dx_var 1)) (by rfl) (fun _ _ _ _ _ => (dg_name c.blk 2)) (fun _ _ _ _ _ => dts_nil) (fun _ _ _ _ _ => dx_call c.blk (d_is_int T) (by decide) (da_cons (dx_var 2) (da_cons (dx_int) (da_cons (dx_bin op_sub pure_sub (dx_ixV 0 (dx_int)) (dx_int)) (da_nil)))))) (da_nil)))))
  (ss_one (ds_raise c (T.er.ra "BadSpots" rfl) (by decide) (dx_var 1)))
  (ss_nil)))
theorem d_sorted_rows (T : Tx g) : DefP g 1 "sorted_rows" s_sorted_rows ["places", "rows"] P_sorted_rows := DefP.mk' (k := 0) T.f_sorted_rows sc_sorted_rows fun f E cdv A outer s H c =>
  ss_one (ds_ret (dx_tup (da_cons (dx_var 0) (da_cons (dx_ty c call_tuple_of (pure_tuple _) T.b_tuple (by decide +kernel) (da_cons (dx_sortSet c T.b_set T.b_sorted (da_cons (dx_var 1) (da_nil))) (da_nil))) (da_nil)))))
theorem d_equal (T : Tx g) : DefP g 5 "equal" s_equal ["worths"] P_equal := DefP.mk' (k := 4) T.f_equal sc_equal fun f E cdv A outer s H c =>
  ss_cons (ds_exp (S := Vw.no) (dx_call c (d_look_at_worths T) (by decide) (da_cons (dx_var 0) (da_nil))))
  (ss_one (ds_ret (dx_tup (da_cons (dx_int) (da_cons (dx_ty c call_tuple_of (pure_tuple _) T.b_tuple (by decide +kernel) (da_cons (dx_lc (own := [("worth", 1)]) c (di_rng1 c T.b_range (dx_var 0)) (by rfl) (fun _ _ _ _ _ => (dg_name c.blk 1)) (fun _ _ _ _ _ => dts_nil) (fun _ _ _ _ _ => dx_tup (da_cons (dx_var 1) (da_cons (dx_var 1) (da_nil))))) (da_nil))) (da_nil))))))
theorem d_beside (T : Tx g) : DefP g 7 "beside" s_beside ["worths", "one", "other"] P_beside := DefP.mk' (k := 6) T.f_beside sc_beside fun f E cdv A outer s H c =>
  ss_cons (ds_exp (S := Vw.no) (dx_call c (d_look_at_relations T) (by decide) (da_cons (dx_var 0) (da_cons (dx_tup (da_cons (dx_var 1) (da_cons (dx_var 2) (da_nil)))) (da_nil)))))
  (ss_cons (ds_if (S := Vw.no) (dt_cmp op_gt pure_gt (dx_bin op_addA (pure_add _) (dx_ixV 1 (dx_int)) (dx_ixV 2 (dx_int))) (dx_gI c T.c_MOST_PLACES) (by rfl))
  (ss_one (ds_raise c (T.er.ra "BadPlaces" rfl) (by decide) (dx_var 2)))
  (ss_nil))
  (ss_cons (ds_if (S := Vw.no) (dt_cmp op_gt pure_gt (dx_bin op_mulW pure_mul (dx_blt c call_len (pure_len _) T.b_len (by decide +kernel) (da_cons (dx_ixV 1 (dx_int)) (da_nil))) (dx_blt c call_len (pure_len _) T.b_len (by decide +kernel) (da_cons (dx_ixV 2 (dx_int)) (da_nil)))) (dx_gI c T.c_MOST_ROWS) (by rfl))
  (ss_one (ds_raise c (T.er.ra "TooMany" rfl) (by decide) (dx_gI c T.c_MOST_ROWS)))
  (ss_nil))
  (ss_one (ds_ret (dx_tup (da_cons (dx_bin op_addA (pure_add _) (dx_ixV 1 (dx_int)) (dx_ixV 2 (dx_int))) (da_cons (dx_ty c call_tuple_of (pure_tuple _) T.b_tuple (by decide +kernel) (da_cons (dx_lc2 (own := [("row", 3), ("more", 4)]) (vs1 := [4]) c (di_seq (dx_ixV 1 (dx_int))) (by rfl) (fun _ _ _ _ _ => (dg_name c.blk 3)) (fun _ _ _ _ _ => dts_nil) (fun _ _ _ _ _ => di_seq (dx_ixV 2 (dx_int))) (fun _ _ _ _ _ => (dg_name c.blk 4)) (fun _ _ _ _ _ => dts_nil) (fun _ _ _ _ _ => dx_bin op_addA (pure_add _) (dx_var 3) (dx_var 4))) (da_nil))) (da_nil))))))))
theorem d_turned (T : Tx g) : DefP g 7 "turned" s_turned ["worths", "relation", "spots"] P_turned := DefP.mk' (k := 6) T.f_turned sc_turned fun f E cdv A outer s H c =>
  ss_cons (ds_exp (S := Vw.no) (dx_call c (d_look_at_relations T) (by decide) (da_cons (dx_var 0) (da_cons (dx_tup (da_cons (dx_var 1) (da_nil))) (da_nil)))))
  (ss_cons (ds_exp (S := Vw.no) (dx_call c (d_look_at_spots T) (by decide) (da_cons (dx_var 1) (da_cons (dx_var 2) (da_nil)))))
  (ss_one (ds_ret (dx_call c (d_sorted_rows T) (by decide) (da_cons (dx_blt c call_len (pure_len _) T.b_len (by decide +kernel) (da_cons (dx_var 2) (da_nil))) (da_cons (dx_lc (own := [("row", 3)]) c (di_seq (dx_ixV 1 (dx_int))) (by rfl) (fun _ _ _ _ _ => (dg_name c.blk 3)) (fun _ _ _ _ _ => dts_nil) (fun _ _ _ _ _ => dx_ty c.blk call_tuple_of (pure_tuple _) T.b_tuple (by decide +kernel) (da_cons (dx_lc (own := [("spot", 4)]) c.blk (di_seq (dx_var 2)) (by rfl) (fun _ _ _ _ _ => (dg_name c.blk.blk 4)) (fun _ _ _ _ _ => dts_nil) (fun _ _ _ _ _ => dx_ixV 3 (dx_var 4))) (da_nil)))) (da_nil)))))))
theorem d_tied (T : Tx g) : DefP g 7 "tied" s_tied ["worths", "relation", "spots"] P_tied := DefP.mk' (k := 6) T.f_tied sc_tied fun f E cdv A outer s H c =>
  ss_cons (ds_exp (S := Vw.no) (dx_call c (d_look_at_relations T) (by decide) (da_cons (dx_var 0) (da_cons (dx_tup (da_cons (dx_var 1) (da_nil))) (da_nil)))))
  (ss_cons (ds_exp (S := Vw.no) (dx_call c (d_look_at_spots T) (by decide) (da_cons (dx_var 1) (da_cons (dx_var 2) (da_nil)))))
  (ss_one (ds_ret (dx_tup (da_cons (dx_ixV 1 (dx_int)) (da_cons (dx_ty c call_tuple_of (pure_tuple _) T.b_tuple (by decide +kernel) (da_cons (dx_lc (own := [("row", 3)]) c (di_seq (dx_ixV 1 (dx_int))) (by rfl) (fun _ _ _ _ _ => (dg_name c.blk 3)) (fun _ _ _ _ _ => (dts_one (dt_cmp (op_eqS (u64 c.blk.room)) (pure_eq _) (dx_lenSc (own := [("spot", 4)]) c.blk T.b_len (di_seq (dx_var 2)) (by rfl) (fun _ _ _ _ _ => (dg_name c.blk.blk 4)) (fun _ _ _ _ _ => dts_nil) (fun _ _ _ _ _ => dx_ixV 3 (dx_var 4))) (dx_int) (by rfl)))) (fun _ _ _ _ _ => dx_var 3)) (da_nil))) (da_nil)))))))
theorem d_rest (T : Tx g) : DefP g 7 "rest" s_rest ["worths", "relation"] P_rest := DefP.mk' (k := 6) T.f_rest sc_rest fun f E cdv A outer s H c =>
  ss_cons (ds_exp (S := Vw.no) (dx_call c (d_look_at_relations T) (by decide) (da_cons (dx_var 0) (da_cons (dx_tup (da_cons (dx_var 1) (da_nil))) (da_nil)))))
  (ss_cons (ds_exp (S := Vw.no) (dx_call c (d_look_at_size T) (by decide) (da_cons (dx_var 0) (da_cons (dx_ixV 1 (dx_int)) (da_nil)))))
  (ss_cons (ds_set c (dx_dc (own := [("row", 3)]) c (di_seq (dx_ixV 1 (dx_int))) (by rfl) (fun _ _ _ _ _ => (dg_name c.blk 3)) (fun _ _ _ _ _ => dts_nil) (fun _ _ _ _ _ => dx_var 3) (fun _ _ _ _ _ => dx_bl)))
  (ss_frz 2 (ss_one (ds_ret (dx_tup (da_cons (dx_ixV 1 (dx_int)) (da_cons (dx_ty c call_tuple_of (pure_tuple _) T.b_tuple (by decide +kernel) (da_cons (dx_lc (own := [("row", 3)]) c (di_seq (dx_call c (d_all_rows T) (by decide) (da_cons (dx_var 0) (da_cons (dx_ixV 1 (dx_int)) (da_nil))))) (by rfl) (fun _ _ _ _ _ => (dg_name c.blk 3)) (fun _ _ _ _ _ => (dts_one (dt_cmp (op_notInDc (KS.Room.u65 c.blk.room)) pure_notInDc (dx_var 3) (dx_var 2) (by rfl)))) (fun _ _ _ _ _ => dx_var 3)) (da_nil))) (da_nil)))))))))
theorem d__law_pot (T : Tx g) : DefP g 1 "_law_pot" s__law_pot ["script", "place"] P__law_pot := DefP.mk' (k := 0) T.f__law_pot sc__law_pot fun f E cdv A outer s H c =>
  ss_cons (ds_set c (dx_if (dt_cmp op_lt pure_lt (dx_var 1) (dx_blt c call_len (pure_len _) T.b_len (by decide +kernel) (da_cons (dx_var 0) (da_nil))) (by rfl)) (dx_ixV 0 (dx_var 1)) (dx_bin op_addA (pure_add _) (dx_bin op_addA (pure_add _) (dx_bin op_mod pure_mod (dx_ty c call_int1 (pure_int) T.b_int (by decide +kernel) (da_cons (dx_blt c (cr_sumA c.calm) (pure_sum _) T.b_sum (by decide +kernel) (da_cons (dx_sl (dx_var 0) do_none (do_some (dx_int))) (da_nil))) (da_nil))) (dx_int)) (dx_bin op_mulW pure_mul (dx_int) (dx_var 1))) (dx_int))))
  (ss_frz 2 (ss_cons (ds_set c (dx_bin op_mulW pure_mul (dx_bin op_mod pure_mod (dx_ty c call_int1 (pure_int) T.b_int (by decide +kernel) (da_cons (dx_blt c call_abs (pure_abs) T.b_abs (by decide +kernel) (da_cons (dx_var 2) (da_nil))) (da_nil))) (dx_bin op_powW pure_pow (dx_bin op_powW pure_pow (dx_int) (dx_int)) (dx_int))) (dx_ty c call_int1 (pure_int) T.b_int (by decide +kernel) (da_cons (dx_cmp op_ge pure_ge (dx_blt c call_abs (pure_abs) T.b_abs (by decide +kernel) (da_cons (dx_var 2) (da_nil))) (dx_bin op_powW pure_pow (dx_int) (dx_int)) (by rfl)) (da_nil)))))
  (ss_cons (ds_set c (dx_bin op_mod pure_mod (dx_ty c call_int1 (pure_int) T.b_int (by decide +kernel) (da_cons (dx_var 2) (da_nil))) (dx_int)))
  (ss_one (ds_ret (dx_lst (da_cons (dx_var 3) (da_cons (dx_bin op_mod pure_mod (dx_ty c call_int1 (pure_int) T.b_int (by decide +kernel) (da_cons (dx_bin op_addA (pure_add _) (dx_bin op_addA (pure_add _) (dx_bin op_mulW pure_mul (dx_var 4) (dx_int)) (dx_bin op_mulW pure_mul (dx_bin op_mulW pure_mul (dx_int) (dx_var 1)) (dx_var 1))) (dx_int)) (da_nil))) (dx_int)) (da_cons (dx_int) (da_nil))))))))))
theorem d__law_take (T : Tx g) : DefI g 1 "_law_take" s__law_take ["pot", "upto"] F__law_take := DefI.mk' (k := 0) T.f__law_take sc__law_take fun f E pn cdv A outer s H c =>
  ss_cons (ds_if (S := Vw.no) (dt_cmp op_gt pure_gt (dx_ixV 0 (dx_int)) (dx_int) (by rfl))
  (ss_cons (ds_set c (dx_bin op_mod pure_mod (dx_ty c call_int1 (pure_int) T.b_int (by decide +kernel) (da_cons (dx_ixV 0 (dx_int)) (da_nil))) (dx_var 1)))
  (ss_cons (ds_setIx 0 (dx_bin op_fdivW pure_fdiv (dx_ixV 0 (dx_int)) (dx_var 1)) (dx_int))
  (ss_one (ds_retV 2))))
  (ss_nil))
  (ss_cons (ds_setIx 0 (dx_bin op_addA (pure_add _) (dx_ixV 0 (dx_int)) (dx_int)) (dx_int))
  (ss_cons (ds_set c (dx_ix (dx_lst (da_cons (dx_int) (da_cons (dx_int) (da_cons (dx_int) (da_cons (dx_int) (da_cons (dx_int) (da_nil))))))) (dx_bin op_mod pure_mod (dx_ty c call_int1 (pure_int) T.b_int (by decide +kernel) (da_cons (dx_ixV 0 (dx_int)) (da_nil))) (dx_int))))
  (ss_cons (ds_set c (dx_bin op_mod pure_mod (dx_ty c call_int1 (pure_int) T.b_int (by decide +kernel) (da_cons (dx_bin op_powW pure_pow (dx_ty c call_int1 (pure_int) T.b_int (by decide +kernel) (da_cons (dx_bin op_addA (pure_add _) (dx_bin op_addA (pure_add _) (dx_ixV 0 (dx_int)) (dx_bin op_mulW pure_mul (dx_bin op_mulW pure_mul (dx_int) (dx_ixV 0 (dx_int))) (dx_ixV 0 (dx_int)))) (dx_int)) (da_nil))) (dx_int)) (da_nil))) (dx_var 3)))
  (ss_cons (ds_set c (dx_bin op_mod pure_mod (dx_ty c call_int1 (pure_int) T.b_int (by decide +kernel) (da_cons (dx_bin op_mulW pure_mul (dx_var 4) (dx_bin op_addA (pure_add _) (dx_bin op_mod pure_mod (dx_ty c call_int1 (pure_int) T.b_int (by decide +kernel) (da_cons (dx_var 4) (da_nil))) (dx_int)) (dx_bin op_mulW pure_mul (dx_int) (dx_ixV 0 (dx_int))))) (da_nil))) (dx_int)))
  (ss_one (ds_ret (dx_bin op_mod pure_mod (dx_ty c call_int1 (pure_int) T.b_int (by decide +kernel) (da_cons (dx_bin op_fdivW pure_fdiv (dx_var 4) (dx_int)) (da_nil))) (dx_var 1))))))))
theorem d__law_of (T : Tx g) : DefI g 2 "_law_of" s__law_of ["pot", "some"] F__law_of := DefI.mk' (k := 1) T.f__law_of sc__law_of fun f E pn cdv A outer s H c =>
  ss_one (ds_ret (dx_ixV 1 (dx_callI 0 c (d__law_take T) (by decide) (da_cons (dx_blt c call_len (pure_len _) T.b_len (by decide +kernel) (da_cons (dx_var 1) (da_nil))) (da_nil)))))
theorem d__law_cells (T : Tx g) : DefP g 1 "_law_cells" s__law_cells ["script", "most"] P__law_cells := DefP.mk' (k := 0) T.f__law_cells sc__law_cells fun f E cdv A outer s H c =>
  ss_one (ds_ret (dx_listRg1 c T.b_list T.b_range (dx_blt c (call_max2 c.calm) pure_max2 T.b_max (by decide +kernel) (da_cons (dx_int) (da_cons (dx_blt c (call_min2 c.calm) pure_min2 T.b_min (by decide +kernel) (da_cons (dx_var 1) (da_cons (dx_blt c call_len (pure_len _) T.b_len (by decide +kernel) (da_cons (dx_var 0) (da_nil))) (da_nil)))) (da_nil))))))
theorem d__law_some (T : Tx g) : DefI g 2 "_law_some" s__law_some ["pot", "pool", "many"] F__law_some := DefI.mk' (k := 1) T.f__law_some sc__law_some fun f E pn cdv A outer s H c =>
  ss_cons (ds_par2 c (da_cons (dx_ty c call_list_of (pure_list _) T.b_list (by decide +kernel) (da_cons (dx_var 1) (da_nil))) (da_cons (dx_lst (da_nil)) (da_nil))))
  (ss_cons (ds_for (S := Vw.no) [5] c (di_rng1 c T.b_range (dx_var 2)) (dg_name c 5)
  (ss_one (ds_exp (S := (Vw.but [0, 3, 4])) (dx_append 4 (da_cons (dx_popAt 3 (da_cons (dx_callI 0 c (d__law_take T) (by decide) (da_cons (dx_lenV 3 c T.b_len) (da_nil))) (da_nil))) (da_nil))))))
  (ss_one (ds_retV 4)))
theorem d__law_heard (T : Tx g) : DefP g 9 "_law_heard" s__law_heard ["call"] P__law_heard := DefP.mk' (k := 8) T.f__law_heard sc__law_heard fun f E cdv A outer s H c =>
  ss_cons (ds_asg (dx_tup (da_cons (dx_non) (da_cons (dx_non) (da_nil)))) (dg_tup c (dgs_cons (dg_name c 1) (dgs_cons (dg_name c 2) dgs_nil))))
  (ss_cons (ds_heard 0 2 1 3 c T.er.he T.lp (lamAll T) (by decide))
  (ss_one (ds_ret (dx_tup (da_cons (dx_var 1) (da_cons (dx_var 2) (da_nil)))))))
theorem d__law_longer (T : Tx g) : DefP g 1 "_law_longer" s__law_longer ["found", "some"] P__law_longer := DefP.mk' (k := 0) T.f__law_longer sc__law_longer fun f E cdv A outer s H c =>
  ss_cons (ds_set c (dx_lst (da_nil)))
  (ss_cons (ds_for (S := Vw.no) [3] c (di_seq (dx_var 0)) (dg_name c 3)
  (ss_one (ds_exp (S := Vw.no) (dx_extend 2 (da_cons (dx_lc (own := [("more", 4)]) c (di_seq (dx_var 1)) (by rfl) (fun _ _ _ _ _ => (dg_name c.blk 4)) (fun _ _ _ _ _ => dts_nil) (fun _ _ _ _ _ => dx_bin op_addA (pure_add _) (dx_var 3) (dx_var 4))) (da_nil))))))
  (ss_one (ds_retV 2)))
theorem d__law_all_rows (T : Tx g) : DefP g 2 "_law_all_rows" s__law_all_rows ["worths", "places"] P__law_all_rows := DefP.mk' (k := 1) T.f__law_all_rows sc__law_all_rows fun f E cdv A outer s H c =>
  ss_cons (ds_set c (dx_lst (da_cons (dx_tup (da_nil)) (da_nil))))
  (ss_frz 2 (ss_cons (ds_for (S := Vw.no) [3] c (di_rng1 c T.b_range (dx_var 1)) (dg_name c 3)
  (ss_cons (ds_set c (dx_call c (d__law_longer T) (by decide) (da_cons (dx_var 2) (da_cons (dx_lc (own := [("worth", 4)]) c (di_rng1 c T.b_range (dx_var 0)) (by rfl) (fun _ _ _ _ _ => (dg_name c.blk 4)) (fun _ _ _ _ _ => dts_nil) (fun _ _ _ _ _ => dx_tup (da_cons (dx_var 4) (da_nil)))) (da_nil)))))
  (ss_frz 2 (ss_nil))))
  (ss_one (ds_retV 2))))
theorem d__law_kind_rows (T : Tx g) : DefI g 3 "_law_kind_rows" s__law_kind_rows ["pot", "worths", "places"] F__law_kind_rows := DefI.mk' (k := 2) T.f__law_kind_rows sc__law_kind_rows fun f E pn cdv A outer s H c =>
  ss_cons (ds_asg (dx_tup (da_cons (dx_call c (d__law_all_rows T) (by decide) (da_cons (dx_var 1) (da_cons (dx_var 2) (da_nil)))) (da_cons (dx_callI 0 c (d__law_take T) (by decide) (da_cons (dx_int) (da_nil))) (da_cons (dx_callI 0 c (d__law_take T) (by decide) (da_cons (dx_var 1) (da_nil))) (da_nil))))) (dg_tup c (dgs_cons (dg_name c 3) (dgs_cons (dg_name c 4) (dgs_cons (dg_name c 5) dgs_nil)))))
  (ss_cons (ds_if (S := Vw.no) (dt_cmp (op_eqS (u64 c.room)) (pure_eq _) (dx_var 4) (dx_int) (by rfl))
  (ss_one (ds_ret (dx_lc (own := [("row", 6)]) c (di_seq (dx_var 3)) (by rfl) (fun _ _ _ _ _ => (dg_name c.blk 6)) (fun _ _ _ _ _ => (dts_one (dt_cmp (op_eqS (u64 c.blk.room)) (pure_eq _) (dx_ty c.blk call_list_of (pure_list _) T.b_list (by decide +kernel) (da_cons (dx_var 6) (da_nil))) (dx_blt c.blk (cr_sortD (KS.Room.u65 c.blk.room)) (pure_sort _) T.b_sorted (by decide +kernel) (da_cons (dx_var 6) (da_nil))) (by rfl)))) (fun _ _ _ _ _ => dx_var 6))))
  (ss_nil))
  (ss_cons (ds_if (S := Vw.no) (dt_cmp (op_eqS (u64 c.room)) (pure_eq _) (dx_var 4) (dx_int) (by rfl))
  (ss_one (ds_ret (dx_lc (own := [("row", 6)]) c (di_seq (dx_var 3)) (by rfl) (fun _ _ _ _ _ => (dg_name c.blk 6)) (fun _ _ _ _ _ => (dts_one (dt_cmp (op_eqS (u64 c.blk.room)) (pure_eq _) (dx_bin op_mod pure_mod (dx_blt c.blk (cr_sumA c.blk.calm) (pure_sum _) T.b_sum (by decide +kernel) (da_cons (dx_var 6) (da_nil))) (dx_var 1)) (dx_var 5) (by rfl)))) (fun _ _ _ _ _ => dx_var 6))))
  (ss_nil))
  (ss_cons (ds_if (S := Vw.no) (dt_cmp (op_eqS (u64 c.room)) (pure_eq _) (dx_var 4) (dx_int) (by rfl))
  (ss_one (ds_ret (dx_lc (own := [("row", 6)]) c (di_seq (dx_var 3)) (by rfl) (fun _ _ _ _ _ => (dg_name c.blk 6)) (fun _ _ _ _ _ => (dts_one (dt_cmp (op_eqS (u64 c.blk.room)) (pure_eq _) (dx_lenSet c.blk T.b_set T.b_len (da_cons (dx_var 6) (da_nil))) (dx_blt c.blk (call_min2 c.blk.calm) pure_min2 T.b_min (by decide +kernel) (da_cons (dx_var 2) (da_cons (dx_var 1) (da_nil)))) (by rfl)))) (fun _ _ _ _ _ => dx_var 6))))
  (ss_nil))
  (ss_cons (ds_if (S := Vw.no) (dt_cmp (op_eqS (u64 c.room)) (pure_eq _) (dx_var 4) (dx_int) (by rfl))
  (ss_one (ds_ret (dx_lc (own := [("row", 6)]) c (di_seq (dx_var 3)) (by rfl) (fun _ _ _ _ _ => (dg_name c.blk 6)) (fun _ _ _ _ _ => (dts_one (dt_cmp (op_eqS (u64 c.blk.room)) (pure_eq _) (dx_lenSet c.blk T.b_set T.b_len (da_cons (dx_var 6) (da_nil))) (dx_int) (by rfl)))) (fun _ _ _ _ _ => dx_var 6))))
  (ss_nil))
  (ss_cons (ds_if (S := Vw.no) (dt_cmp (op_eqS (u64 c.room)) (pure_eq _) (dx_var 4) (dx_int) (by rfl))
  (ss_one (ds_ret (dx_lc (own := [("row", 6)]) c (di_seq (dx_var 3)) (by rfl) (fun _ _ _ _ _ => (dg_name c.blk 6)) (fun _ _ _ _ _ => (dts_one (dt_cmp (op_inA (KS.Room.u65 c.blk.room)) (pure_in _) (dx_var 5) (dx_var 6) (by rfl)))) (fun _ _ _ _ _ => dx_var 6))))
  (ss_nil))
  (ss_cons (ds_set c (dx_callI 0 c (d__law_some T) (by decide) (da_cons (dx_listRg1 c T.b_list T.b_range (dx_var 1)) (da_cons (dx_bin op_addA (pure_add _) (dx_int) (dx_var 5)) (da_nil)))))
  (ss_frz 7 (ss_one (ds_ret (dx_lc (own := [("row", 6)]) c (di_seq (dx_var 3)) (by rfl) (fun _ _ _ _ _ => (dg_name c.blk 6)) (fun _ _ _ _ _ => (dts_one (dt_val (dx_blt c.blk (cr_all c.blk.calm) (pure_all _) T.b_all (by decide +kernel) (da_cons (dx_lc (own := [("worth", 8)]) c.blk (di_seq (dx_var 6)) (by rfl) (fun _ _ _ _ _ => (dg_name c.blk.blk 8)) (fun _ _ _ _ _ => dts_nil) (fun _ _ _ _ _ => dx_cmp (op_inA (KS.Room.u65 c.blk.blk.room)) (pure_in _) (dx_var 8) (dx_var 7) (by rfl))) (da_nil)))))) (fun _ _ _ _ _ => dx_var 6)))))))))))
theorem d__law_relation_drawn (T : Tx g) : DefI g 4 "_law_relation_drawn" s__law_relation_drawn ["pot", "worths", "places", "most"] F__law_relation_drawn := DefI.mk' (k := 3) T.f__law_relation_drawn sc__law_relation_drawn fun f E pn cdv A outer s H c =>
  ss_cons (ds_set c (dx_callI 0 c (d__law_kind_rows T) (by decide) (da_cons (dx_var 1) (da_cons (dx_var 2) (da_nil)))))
  (ss_frz 4 (ss_cons (ds_if (S := Vw.no) (PW.pt (dw_or (dt_cmp (op_eqS (u64 c.room)) (pure_eq _) (dx_callI 0 c (d__law_take T) (by decide) (da_cons (dx_int) (da_nil))) (dx_int) (by rfl)) (dw_or1 (dt_cmp op_gt pure_gt (dx_blt c call_len (pure_len _) T.b_len (by decide +kernel) (da_cons (dx_var 4) (da_nil))) (dx_var 3) (by rfl)))))
  (ss_cons (ds_set c (dx_if (PW.pt (dw_or (dt_cmp (op_eqS (u64 c.room)) (pure_eq _) (dx_callI 0 c (d__law_take T) (by decide) (da_cons (dx_int) (da_nil))) (dx_int) (by rfl)) (dw_or1 (dt_cmp (op_eqS (u64 c.room)) (pure_eq _) (dx_var 4) (dx_lst (da_nil)) (by rfl))))) (dx_call c (d__law_all_rows T) (by decide) (da_cons (dx_var 1) (da_cons (dx_var 2) (da_nil)))) (dx_var 4)))
  (ss_frz 5 (ss_cons (ds_set c (dx_callI 0 c (d__law_some T) (by decide) (da_cons (dx_var 5) (da_cons (dx_callI 0 c (d__law_take T) (by decide) (da_cons (dx_bin op_addA (pure_add _) (dx_blt c (call_min2 c.calm) pure_min2 T.b_min (by decide +kernel) (da_cons (dx_var 3) (da_cons (dx_blt c call_len (pure_len _) T.b_len (by decide +kernel) (da_cons (dx_var 5) (da_nil))) (da_nil)))) (dx_int)) (da_nil))) (da_nil)))))
  (ss_frz 4 (ss_nil)))))
  (ss_nil))
  (ss_one (ds_ret (dx_tup (da_cons (dx_var 2) (da_cons (dx_ty c call_tuple_of (pure_tuple _) T.b_tuple (by decide +kernel) (da_cons (dx_blt c (cr_sortD (KS.Room.u65 c.room)) (pure_sort _) T.b_sorted (by decide +kernel) (da_cons (dx_var 4) (da_nil))) (da_nil))) (da_nil))))))))
theorem d__law_is_right (T : Tx g) : DefP g 10 "_law_is_right" s__law_is_right ["worths", "one", "other", "spots"] P__law_is_right := match T.t__law_is_right with
 | ⟨cc, P, TB, hm, hu, F⟩ => DefP.mkL (k := 9) F sc__law_is_right fun f E A outer s H c =>
  ss_cons (ds_set c (dx_blt c (cr_sortD (KS.Room.u65 c.room)) (pure_sort _) T.b_sorted (by decide +kernel) (da_cons (dx_call c (d__law_longer T) (by decide) (da_cons (dx_ty c call_list_of (pure_list _) T.b_list (by decide +kernel) (da_cons (dx_ixV 1 (dx_int)) (da_nil))) (da_cons (dx_ty c call_list_of (pure_list _) T.b_list (by decide +kernel) (da_cons (dx_ixV 2 (dx_int)) (da_nil))) (da_nil)))) (da_nil))))
  (ss_frz 4 (ss_cons (ds_if (S := Vw.no) (dt_cmp (op_neS (u64 c.room)) (pure_ne _) (dx_blt c (cr_repr c.grd (KS.Room.u65 c.room)) (pure_repr _) T.b_repr (by decide +kernel) (da_cons (dx_call c (d_beside T) (by decide) (da_cons (dx_var 0) (da_cons (dx_var 1) (da_cons (dx_var 2) (da_nil))))) (da_nil))) (dx_blt c (cr_repr c.grd (KS.Room.u65 c.room)) (pure_repr _) T.b_repr (by decide +kernel) (da_cons (dx_tup (da_cons (dx_bin op_addA (pure_add _) (dx_ixV 1 (dx_int)) (dx_ixV 2 (dx_int))) (da_cons (dx_ty c call_tuple_of (pure_tuple _) T.b_tuple (by decide +kernel) (da_cons (dx_var 4) (da_nil))) (da_nil)))) (da_nil))) (by rfl))
  (ss_one (ds_ret (dx_bl)))
  (ss_nil))
  (ss_cons (ds_asg (dx_callL c (d__law_heard T) (by decide) (.nil) (lamHere (congrFun T.ll 0) TB hm hu c lck_0)) (dg_tup c (dgs_cons (dg_name c 5) (dgs_cons (dg_name c 6) dgs_nil))))
  (ss_cons (ds_set c (dx_tup (da_cons (dx_ixV 1 (dx_int)) (da_cons (dx_ty c call_tuple_of (pure_tuple _) T.b_tuple (by decide +kernel) (da_cons (dx_lc (own := [("row", 8)]) c (di_seq (dx_ixV 1 (dx_int))) (by rfl) (fun _ _ _ _ _ => (dg_name c.blk 8)) (fun _ _ _ _ _ => (dts_one (dt_cmp (op_inA (KS.Room.u65 c.blk.room)) (pure_in _) (dx_var 8) (dx_ixV 2 (dx_int)) (by rfl)))) (fun _ _ _ _ _ => dx_var 8)) (da_nil))) (da_nil)))))
  (ss_cons (ds_if (S := Vw.no) (dt_cmp (op_neS (u64 c.room)) (pure_ne _) (dx_ixV 1 (dx_int)) (dx_ixV 2 (dx_int)) (by rfl))
  (ss_one (ds_set c (dx_non)))
  (ss_nil))
  (ss_cons (ds_if (S := Vw.no) (PW.pt (dw_and (dt_cmp op_isA pure_is (dx_var 7) (dx_non) (by rfl)) (dw_and1 (dt_not (PW.pt (dw_and (dt_val (dx_isX c T.er T.b_isinstance (da_cons (dx_var 5) (da_cons (dx_clsE c T.er rfl) (da_nil))))) (dw_and1 (dt_cmp (op_eqS (u64 c.room)) (pure_eq _) (dx_blt c (cr_repr c.grd (KS.Room.u65 c.room)) (pure_repr _) T.b_repr (by decide +kernel) (da_cons (dx_value c T.er.ex (dx_var 5)) (da_nil))) (dx_blt c (cr_repr c.grd (KS.Room.u65 c.room)) (pure_repr _) T.b_repr (by decide +kernel) (da_cons (dx_var 2) (da_nil))) (by rfl)))))))))
  (ss_one (ds_ret (dx_bl)))
  (ss_nil))
  (ss_cons (ds_if (S := Vw.no) (PW.pt (dw_and (dt_cmp op_isNotA pure_isNot (dx_var 7) (dx_non) (by rfl)) (dw_and1 (PW.pt (dw_or (dt_cmp op_isNotA pure_isNot (dx_var 5) (dx_non) (by rfl)) (dw_or1 (dt_cmp (op_neS (u64 c.room)) (pure_ne _) (dx_blt c (cr_repr c.grd (KS.Room.u65 c.room)) (pure_repr _) T.b_repr (by decide +kernel) (da_cons (dx_var 6) (da_nil))) (dx_blt c (cr_repr c.grd (KS.Room.u65 c.room)) (pure_repr _) T.b_repr (by decide +kernel) (da_cons (dx_var 7) (da_nil))) (by rfl))))))))
  (ss_one (ds_ret (dx_bl)))
  (ss_nil))
  (ss_cons (ds_set c (dx_sortSet c T.b_set T.b_sorted (da_cons (dx_lc (own := [("row", 8)]) c (di_seq (dx_ixV 1 (dx_int))) (by rfl) (fun _ _ _ _ _ => (dg_name c.blk 8)) (fun _ _ _ _ _ => dts_nil) (fun _ _ _ _ _ => dx_ty c.blk call_tuple_of (pure_tuple _) T.b_tuple (by decide +kernel) (da_cons (dx_lc (own := [("spot", 9)]) c.blk (di_seq (dx_var 3)) (by rfl) (fun _ _ _ _ _ => (dg_name c.blk.blk 9)) (fun _ _ _ _ _ => dts_nil) (fun _ _ _ _ _ => dx_ixV 8 (dx_var 9))) (da_nil)))) (da_nil))))
  (ss_frz 4 (ss_cons (ds_if (S := Vw.no) (dt_cmp (op_neS (u64 c.room)) (pure_ne _) (dx_blt c (cr_repr c.grd (KS.Room.u65 c.room)) (pure_repr _) T.b_repr (by decide +kernel) (da_cons (dx_callK c (d_turned T) kw_turned_1_spots_relation (by decide) (by decide) (da_cons (dx_var 0) (da_nil)) (da_kcons (dx_var 3) (da_kcons (dx_var 1) (da_knil)))) (da_nil))) (dx_blt c (cr_repr c.grd (KS.Room.u65 c.room)) (pure_repr _) T.b_repr (by decide +kernel) (da_cons (dx_tup (da_cons (dx_blt c call_len (pure_len _) T.b_len (by decide +kernel) (da_cons (dx_var 3) (da_nil))) (da_cons (dx_ty c call_tuple_of (pure_tuple _) T.b_tuple (by decide +kernel) (da_cons (dx_var 4) (da_nil))) (da_nil)))) (da_nil))) (by rfl))
  (ss_one (ds_ret (dx_bl)))
  (ss_nil))
  (ss_cons (ds_setLc (own := [("row", 8)]) c (di_seq (dx_ixV 1 (dx_int))) (by rfl) (fun _ _ _ _ _ => (dg_name c.blk 8)) (fun _ _ _ _ _ => (dts_one (dt_cmp (op_eqS (u64 c.blk.room)) (pure_eq _) (dx_lenSet c.blk T.b_set T.b_len (da_cons (dx_lc (own := [("spot", 9)]) c.blk (di_seq (dx_var 3)) (by rfl) (fun _ _ _ _ _ => (dg_name c.blk.blk 9)) (fun _ _ _ _ _ => dts_nil) (fun _ _ _ _ _ => dx_ixV 8 (dx_var 9))) (da_nil))) (dx_int) (by rfl)))) (fun _ _ _ _ _ => dx_var 8))
  (ss_frz 4 (ss_cons (ds_if (S := Vw.no) (dt_cmp (op_neS (u64 c.room)) (pure_ne _) (dx_blt c (cr_repr c.grd (KS.Room.u65 c.room)) (pure_repr _) T.b_repr (by decide +kernel) (da_cons (dx_call c (d_tied T) (by decide) (da_cons (dx_var 0) (da_cons (dx_var 1) (da_cons (dx_var 3) (da_nil))))) (da_nil))) (dx_blt c (cr_repr c.grd (KS.Room.u65 c.room)) (pure_repr _) T.b_repr (by decide +kernel) (da_cons (dx_tup (da_cons (dx_ixV 1 (dx_int)) (da_cons (dx_ty c call_tuple_of (pure_tuple _) T.b_tuple (by decide +kernel) (da_cons (dx_var 4) (da_nil))) (da_nil)))) (da_nil))) (by rfl))
  (ss_one (ds_ret (dx_bl)))
  (ss_nil))
  (ss_cons (ds_setLc (own := [("row", 8)]) c (di_seq (dx_call c (d__law_all_rows T) (by decide) (da_cons (dx_var 0) (da_cons (dx_ixV 1 (dx_int)) (da_nil))))) (by rfl) (fun _ _ _ _ _ => (dg_name c.blk 8)) (fun _ _ _ _ _ => (dts_one (dt_cmp (op_notInA (KS.Room.u65 c.blk.room)) (pure_notIn _) (dx_var 8) (dx_ixV 1 (dx_int)) (by rfl)))) (fun _ _ _ _ _ => dx_var 8))
  (ss_frz 4 (ss_one (ds_ret (dx_cmp (op_eqS (u64 c.room)) (pure_eq _) (dx_blt c (cr_repr c.grd (KS.Room.u65 c.room)) (pure_repr _) T.b_repr (by decide +kernel) (da_cons (dx_callK0 c (d_rest T) kw_rest_0_relation_worths (by decide) (by decide) (da_kcons (dx_var 1) (da_kcons (dx_var 0) (da_knil)))) (da_nil))) (dx_blt c (cr_repr c.grd (KS.Room.u65 c.room)) (pure_repr _) T.b_repr (by decide +kernel) (da_cons (dx_tup (da_cons (dx_ixV 1 (dx_int)) (da_cons (dx_ty c call_tuple_of (pure_tuple _) T.b_tuple (by decide +kernel) (da_cons (dx_var 4) (da_nil))) (da_nil)))) (da_nil))) (by rfl)))))))))))))))))))
theorem d__law_are_sizes_right (T : Tx g) : DefP g 10 "_law_are_sizes_right" s__law_are_sizes_right ["worths", "many"] P__law_are_sizes_right := match T.t__law_are_sizes_right with
 | ⟨cc, P, TB, hm, hu, F⟩ => DefP.mkL (k := 9) F sc__law_are_sizes_right fun f E A outer s H c =>
  ss_cons (ds_set c (dx_ty c call_tuple_of (pure_tuple _) T.b_tuple (by decide +kernel) (da_cons (dx_call c (d__law_all_rows T) (by decide) (da_cons (dx_var 0) (da_cons (dx_var 1) (da_nil)))) (da_nil))))
  (ss_cons (ds_if (S := Vw.no) (dt_cmp (op_neS (u64 c.room)) (pure_ne _) (dx_blt c (cr_repr c.grd (KS.Room.u65 c.room)) (pure_repr _) T.b_repr (by decide +kernel) (da_cons (dx_call c (d_full T) (by decide) (da_cons (dx_var 0) (da_cons (dx_var 1) (da_nil)))) (da_nil))) (dx_blt c (cr_repr c.grd (KS.Room.u65 c.room)) (pure_repr _) T.b_repr (by decide +kernel) (da_cons (dx_tup (da_cons (dx_var 1) (da_cons (dx_var 2) (da_nil)))) (da_nil))) (by rfl))
  (ss_one (ds_ret (dx_bl)))
  (ss_nil))
  (ss_cons (ds_if (S := Vw.no) (dt_cmp (op_neS (u64 c.room)) (pure_ne _) (dx_blt c (cr_repr c.grd (KS.Room.u65 c.room)) (pure_repr _) T.b_repr (by decide +kernel) (da_cons (dx_callK0 c (d_equal T) kw_equal_0_worths (by decide) (by decide) (da_kcons (dx_var 0) (da_knil))) (da_nil))) (dx_blt c (cr_repr c.grd (KS.Room.u65 c.room)) (pure_repr _) T.b_repr (by decide +kernel) (da_cons (dx_tup (da_cons (dx_int) (da_cons (dx_ty c call_tuple_of (pure_tuple _) T.b_tuple (by decide +kernel) (da_cons (dx_lc (own := [("worth", 3)]) c (di_rng1 c T.b_range (dx_var 0)) (by rfl) (fun _ _ _ _ _ => (dg_name c.blk 3)) (fun _ _ _ _ _ => dts_nil) (fun _ _ _ _ _ => dx_tup (da_cons (dx_var 3) (da_cons (dx_var 3) (da_nil))))) (da_nil))) (da_nil)))) (da_nil))) (by rfl))
  (ss_one (ds_ret (dx_bl)))
  (ss_nil))
  (ss_cons (ds_set c (dx_ix (dx_lst (da_cons (dx_tup (da_cons (dx_int) (da_cons (dx_int) (da_nil)))) (da_cons (dx_tup (da_cons (dx_int) (da_cons (dx_int) (da_nil)))) (da_cons (dx_tup (da_cons (dx_int) (da_cons (dx_int) (da_nil)))) (da_cons (dx_tup (da_cons (dx_int) (da_cons (dx_int) (da_nil)))) (da_cons (dx_tup (da_cons (dx_int) (da_cons (dx_int) (da_nil)))) (da_nil))))))) (dx_bin op_mod pure_mod (dx_var 0) (dx_int))))
  (ss_cons (ds_set c (dx_ix (dx_callL c (d__law_heard T) (by decide) (.nil) (lamHere (congrFun T.ll 1) TB hm hu c lck_1)) (dx_int)))
  (ss_one (ds_ret (dx_and (dx_isX c T.er T.b_isinstance (da_cons (dx_var 5) (da_cons (dx_clsE c T.er rfl) (da_nil)))) (dx_one (dx_cmp (op_eqS (u64 c.room)) (pure_eq _) (dx_blt c (cr_repr c.grd (KS.Room.u65 c.room)) (pure_repr _) T.b_repr (by decide +kernel) (da_cons (dx_value c T.er.ex (dx_var 5)) (da_nil))) (dx_str) (by rfl))))))))))
theorem d__law_right (T : Tx g) : DefI g 11 "_law_right" s__law_right ["pot"] F__law_right := DefI.mk' (k := 10) T.f__law_right sc__law_right fun f E pn cdv A outer s H c =>
  ss_cons (ds_for (S := Vw.no) [1, 2, 3, 4, 5] c (di_rng1 c T.b_range (dx_int)) (dg_name c 1)
  (ss_cons (ds_set c (dx_bin op_addA (pure_add _) (dx_int) (dx_callI 0 c (d__law_take T) (by decide) (da_cons (dx_int) (da_nil)))))
  (ss_frz 2 (ss_cons (ds_set c (dx_callI 0 c (d__law_relation_drawn T) (by decide) (da_cons (dx_var 2) (da_cons (dx_bin op_addA (pure_add _) (dx_int) (dx_callI 0 c (d__law_take T) (by decide) (da_cons (dx_int) (da_nil)))) (da_cons (dx_int) (da_nil))))))
  (ss_frz 3 (ss_cons (ds_set c (dx_callI 0 c (d__law_relation_drawn T) (by decide) (da_cons (dx_var 2) (da_cons (dx_callI 0 c (d__law_of T) (by decide) (da_cons (dx_lst (da_cons (dx_ixV 3 (dx_int)) (da_cons (dx_bin op_addA (pure_add _) (dx_int) (dx_callI 0 c (d__law_take T) (by decide) (da_cons (dx_int) (da_nil)))) (da_nil)))) (da_nil))) (da_cons (dx_int) (da_nil))))))
  (ss_frz 4 (ss_cons (ds_set c (dx_ty c call_tuple_of (pure_tuple _) T.b_tuple (by decide +kernel) (da_cons (dx_lc (own := [("lap", 1)]) c (di_rng1 c T.b_range (dx_bin op_addA (pure_add _) (dx_int) (dx_callI 0 c (d__law_take T) (by decide) (da_cons (dx_int) (da_nil))))) (by rfl) (fun _ _ _ _ _ => (dg_name c.blk 1)) (fun _ _ _ _ _ => dts_nil) (fun _ _ _ _ _ => dx_ty c.blk call_int1 (pure_int) T.b_int (by decide +kernel) (da_cons (dx_callI 0 c.blk (d__law_take T) (by decide) (da_cons (dx_ixV 3 (dx_int)) (da_nil))) (da_nil)))) (da_nil))))
  (ss_one (ds_if (S := Vw.no) (PW.pt (dw_or (dt_not (dt_val (dx_call c (d__law_is_right T) (by decide) (da_cons (dx_var 2) (da_cons (dx_var 3) (da_cons (dx_var 4) (da_cons (dx_var 5) (da_nil)))))))) (dw_or1 (dt_not (dt_val (dx_call c (d__law_are_sizes_right T) (by decide) (da_cons (dx_var 2) (da_cons (dx_bin op_addA (pure_add _) (dx_int) (dx_callI 0 c (d__law_take T) (by decide) (da_cons (dx_int) (da_nil)))) (da_nil)))))))))
  (ss_one (ds_ret (dx_bl)))
  (ss_nil)))))))))))
  (ss_one (ds_ret (dx_bl)))
theorem d_law (T : Tx g) : DefP g 12 "law" s_law ["script"] P_law := DefP.mk' (k := 11) T.f_law sc_law fun f E cdv A outer s H c =>
  ss_one (ds_ret (dx_blt c (cr_all c.calm) (pure_all _) T.b_all (by decide +kernel) (da_cons (dx_lc (own := [("at", 1)]) c (di_seq (dx_call c (d__law_cells T) (by decide) (da_cons (dx_var 0) (da_cons (dx_int) (da_nil))))) (by rfl) (fun _ _ _ _ _ => (dg_name c.blk 1)) (fun _ _ _ _ _ => dts_nil) (fun _ _ _ _ _ => dx_callT c.blk (d__law_right T) (by decide) (da_cons (dx_call c.blk (d__law_pot T) (by decide) (da_cons (dx_var 0) (da_cons (dx_var 1) (da_nil)))) (da_nil)))) (da_nil))))
end
end KL00
set_option Elab.async false
set_option linter.all false
set_option maxRecDepth 100000
set_option maxHeartbeats 4000000
namespace KS
open PySem PySem.Spec PyProof.Rows L2
/-! ### plain laws: loops -/
theorem for_inv {fg : List Nat} {t : Tg} {body : Ms} (I : Nat → Ro → Prop) {items : List Val} {r : Ro} (h0 : I 0 r)
    (hs : ∀ (i : Nat) (d : Val) (r : Ro), items[i]? = some d → I i r → ∃ r1 r2, t.put d (wipeR r fg) = some r1 ∧ (body r1 = .nxt r2 ∨ body r1 = .cnt r2) ∧ I (i + 1) r2) :
    ∃ r', forGo fg t body items r = .nxt (wipeR r' fg) ∧ I items.length r' := by
  have gen : ∀ (ds : List Val) (i : Nat) (r : Ro), items.drop i = ds → i + ds.length = items.length → I i r → ∃ r', forGo fg t body ds r = .nxt (wipeR r' fg) ∧ I items.length r' := by
    intro ds
    induction ds with
    | nil => intro i r _ hl h; exact ⟨r, rfl, by rw [← hl]; exact h⟩
    | cons d ds ih =>
      intro i r hd hl h
      have e : items[i]? = some d := by
        have := congrArg (fun l : List Val => l[0]?) hd
        simpa using this
      obtain ⟨r1, r2, e1, e2, h2⟩ := hs i d r e h
      have hd2 : items.drop (i + 1) = ds := by
        have := congrArg List.tail hd
        simpa using this
      obtain ⟨r', e3, h3⟩ := ih (i + 1) r2 hd2 (by rw [List.length_cons] at hl; omega) h2
      refine ⟨r', ?_, h3⟩
      unfold forGo
      rw [e1]
      rcases e2 with e2 | e2 <;> simp only [e2, e3]
  exact gen items 0 r (by simp) (by simp) h0
theorem comp_inv {S : Vw} {vs : List Nat} {t : Tg} {me : Mo Own} (I : Nat → List Val → Ro → Prop) {items : List Val} {r : Ro} (h0 : I 0 [] r)
    (hs : ∀ (i : Nat) (d : Val) (acc : List Val) (r : Ro), items[i]? = some d → I i acc r → okB S (.v d) = true ∧ ∃ r1 o r3, t.put d (wipeR r vs) = some r1 ∧ me r1 = .ok o r3 ∧ I (i + 1) (acc ++ [o.val]) r3) :
    ∃ acc r', compGo S vs t mYes me items r = .ok acc r' ∧ I items.length acc r' := by
  have gen : ∀ (ds : List Val) (i : Nat) (acc : List Val) (r : Ro), items.drop i = ds → i + ds.length = items.length → I i acc r → ∃ acc' r', compGo S vs t mYes me ds r = .ok acc' r' ∧ I items.length (acc ++ acc') r' := by
    intro ds
    induction ds with
    | nil => intro i acc r _ hl h; exact ⟨[], r, rfl, by rw [← hl, List.append_nil]; exact h⟩
    | cons d ds ih =>
      intro i acc r hd hl h
      have e : items[i]? = some d := by
        have := congrArg (fun l : List Val => l[0]?) hd
        simpa using this
      obtain ⟨hb, r1, o, r3, e1, e2, h2⟩ := hs i d acc r e h
      have hd2 : items.drop (i + 1) = ds := by
        have := congrArg List.tail hd
        simpa using this
      obtain ⟨acc', r', e3, h3⟩ := ih (i + 1) (acc ++ [o.val]) r3 hd2 (by rw [List.length_cons] at hl; omega) h2
      refine ⟨o.val :: acc', r', ?_, by simpa using h3⟩
      unfold compGo
      rw [if_pos hb, e1]
      simp only [mYes, Rs.noex, Rs.bind, e2, e3, if_true]
  obtain ⟨acc, r', h1, h2⟩ := gen items 0 [] r (by simp) (by simp) h0
  exact ⟨acc, r', h1, by simpa using h2⟩
/-- a comprehension that changes nothing -/
theorem lc_map {S : Vw} {vs : List Nat} {t : Tg} {mi : Mo (List Val)} {me : Mo Own} {items : List Val} {r r1 : Ro} (f : Val → Val) (hi : mi r = .ok items r1) (hl : items.length ≤ 16777216)
    (hs : ∀ d ∈ items, okB S (.v d) = true ∧ ∃ r2 o r3, t.put d (wipeR r1 vs) = some r2 ∧ me r2 = .ok o r3 ∧ o.val = f d ∧ wipeR r3 vs = wipeR r1 vs) : mLc S vs t mi mYes me r = .ok (.l (items.map f)) (wipeR r1 vs) := by
  obtain ⟨acc, r', e, h1, h2⟩ := comp_inv (S := S) (vs := vs) (t := t) (me := me) (fun i acc r => acc = (items.take i).map f ∧ wipeR r vs = wipeR r1 vs) (items := items) (r := r1) ⟨by simp, rfl⟩ (fun i d acc r e ⟨h1, h2⟩ => by
    obtain ⟨hb, r2, o, r3, e1, e2, e3, e4⟩ := hs d (List.mem_of_getElem? e)
    refine ⟨hb, r2, o, r3, by rw [h2]; exact e1, e2, ?_, e4⟩
    rw [h1, e3, List.take_add_one, e]
    simp)
  unfold mLc
  rw [hi]
  simp only [Rs.bind, if_pos hl, e, h1, h2, List.take_length]
/-- a comprehension that keeps an invariant -/
theorem lc_inv {S : Vw} {vs : List Nat} {t : Tg} {mi : Mo (List Val)} {me : Mo Own} {items : List Val} {r r1 : Ro} (I : Nat → List Val → Ro → Prop) (hi : mi r = .ok items r1) (hl : items.length ≤ 16777216) (h0 : I 0 [] r1)
    (hs : ∀ (i : Nat) (d : Val) (acc : List Val) (r : Ro), items[i]? = some d → I i acc r → okB S (.v d) = true ∧ ∃ r1 o r3, t.put d (wipeR r vs) = some r1 ∧ me r1 = .ok o r3 ∧ I (i + 1) (acc ++ [o.val]) r3) :
    ∃ acc r', mLc S vs t mi mYes me r = .ok (.l acc) (wipeR r' vs) ∧ I items.length acc r' := by
  obtain ⟨acc, r', e, h⟩ := comp_inv I h0 hs
  refine ⟨acc, r', ?_, h⟩
  unfold mLc
  rw [hi]
  simp only [Rs.bind, if_pos hl, e]
theorem intsFrom_len (n : Nat) (a : Int) : (intsFrom a n).length = n := by simp [intsFrom]
theorem intsFrom_get (n : Nat) (a : Int) (i : Nat) (h : i < n) : (intsFrom a n)[i]? = some (.int (a + (i : Nat))) := by
  unfold intsFrom
  rw [List.getElem?_map, List.getElem?_range h]
  rfl
theorem intsFrom_map (n : Nat) : intsFrom 0 n = (List.range n).map fun i => Val.int ((i : Nat) : Int) := by
  unfold intsFrom
  simp
/-! ### step by step -/
theorem runP_ret {n N : Nat} {m : Ms} {ds : List Val} {o : Own} {r : Ro} (hl : ds.length = n) (h : m (entry N (ds.map Own.v)) = .ret o r) : runP n N m ds = .ok o := by
  unfold runP; rw [if_pos hl, h]
theorem runP_nxt {n N : Nat} {m : Ms} {ds : List Val} {r : Ro} (hl : ds.length = n) (h : m (entry N (ds.map Own.v)) = .nxt r) : runP n N m ds = .ok (.v .non) := by
  unfold runP; rw [if_pos hl, h]
theorem seq_nxt {a b : Ms} {r r1 : Ro} (h : a r = .nxt r1) : sSeq a b r = b r1 := by
  unfold sSeq; rw [h]; rfl
theorem seq_ret {a b : Ms} {r r1 : Ro} {o : Own} (h : a r = .ret o r1) : sSeq a b r = .ret o r1 := by
  unfold sSeq; rw [h]; rfl
theorem set_ok {S : Vw} {i : Nat} {m : Mo Own} {r r1 : Ro} {o : Own} (h : m r = .ok o r1) (hb : okB S o = true := by rfl) : sSet S i m r = .nxt (r1.set i (some o)) := by
  unfold sSet; rw [h]; simp only [if_pos hb]
theorem ret_ok {S : Vw} {m : Mo Own} {r r1 : Ro} {o : Own} (h : m r = .ok o r1) (hb : okB S o = true := by rfl) : sRet S m r = .ret o r1 := by
  unfold sRet; rw [h]; simp only [if_pos hb]
theorem exp_ok {m : Mo Own} {r r1 : Ro} {o : Own} (h : m r = .ok o r1) : sExp m r = .nxt r1 := by
  unfold sExp; rw [h]
theorem if_ok {c : Mo Bool} {a b : Ms} {r r1 : Ro} {x : Bool} (h : c r = .ok x r1) : sIf c a b r = if x = true then a r1 else b r1 := by
  unfold sIf; rw [h]
theorem rng_z {ms : Mo (List Own)} {r r1 : Ro} {n : Int} (h : ms r = .ok [.v (.int n)] r1) (h1 : n < 4611686018427387904 ∧ -4611686018427387904 ≤ n) : mRng ms r = .ok (intsFrom 0 n.toNat) r1 := by
  unfold mRng; rw [h]
  exact if_pos h1
theorem rng_ok {ms : Mo (List Own)} {r r1 : Ro} {n : Nat} (h : ms r = .ok [.v (.int n)] r1) (hn : n ≤ 16777216) : mRng ms r = .ok (intsFrom 0 n) r1 := by
  have e : ∀ z : Int, z = (n : Nat) → z < 4611686018427387904 ∧ -4611686018427387904 ≤ z := fun z hz => by omega
  have := rng_z h (e _ rfl)
  rw [Int.toNat_natCast] at this
  exact this
theorem sfor_inv {fg : List Nat} {t : Tg} {mi : Mo (List Val)} {body : Ms} (I : Nat → Ro → Prop) {items : List Val} {r r1 : Ro} (hi : mi r = .ok items r1) (h0 : I 0 r1)
    (hs : ∀ (i : Nat) (d : Val) (r : Ro), items[i]? = some d → I i r → ∃ r1, t.put d (wipeR r fg) = some r1 ∧ ∃ r2, (body r1 = .nxt r2 ∨ body r1 = .cnt r2) ∧ I (i + 1) r2) :
    ∃ r', sFor fg t mi body r = .nxt (wipeR r' fg) ∧ I items.length r' := by
  unfold sFor; rw [hi]
  exact for_inv I h0 fun i d r e h => by
    obtain ⟨r1, e1, r2, e2, h2⟩ := hs i d r e h
    exact ⟨r1, r2, e1, e2, h2⟩
/-! ### ==, told -/
theorem keq_int (a b : Int) : kEq [.int a, .int b] = some (.v (.bl (decide (a = b)))) := by
  have h1 : SeqAt.shaped (.int a) = true := rfl
  have h2 : SeqAt.shaped (.int b) = true := rfl
  simp [kEq, veq, toPD, h1, h2, PyData.eqv]
  by_cases h : a = b <;> simp [h]
theorem kne_int (a b : Int) : kNe [.int a, .int b] = some (.v (.bl (!decide (a = b)))) := by
  have h1 : SeqAt.shaped (.int a) = true := rfl
  have h2 : SeqAt.shaped (.int b) = true := rfl
  simp [kNe, veq, toPD, h1, h2, PyData.eqv]
  by_cases h : a = b <;> simp [h]
/-! ### isinstance, told -/
theorem isi_int (v : Int) : kIsi [.int v, .ty "int"] = some (.v (.bl true)) := by rfl
theorem isi_int_b (v : Int) : kIsi [.int v, .ty "bool"] = some (.v (.bl false)) := by rfl
theorem isi_int_t (v : Int) : kIsi [.int v, .ty "tuple"] = some (.v (.bl false)) := by rfl
theorem isi_tup (v : List Val) : kIsi [.tup v, .ty "tuple"] = some (.v (.bl true)) := by rfl
theorem isi_tup_i (v : List Val) : kIsi [.tup v, .ty "int"] = some (.v (.bl false)) := by rfl
theorem isi_lst (v : List Val) : kIsi [.lst v, .ty "list"] = some (.v (.bl true)) := by rfl
theorem isi_lst_t (v : List Val) : kIsi [.lst v, .ty "tuple"] = some (.v (.bl false)) := by rfl
end KS
set_option Elab.async false
set_option linter.all false
set_option maxRecDepth 100000
set_option maxHeartbeats 4000000
namespace KS
open PySem PySem.Spec PyProof.Rows L2
/-! ### what is wished of an expression, of statements -/
def Rs.sat {α : Type} (x : Rs α) (Q : α → Ro → Prop) (X : PySem.Str → Val → Prop) : Prop := match x with
  | .ok a r' => Q a r'
  | .ex n v => X n v
  | .bad => False
@[irreducible] def We {α : Type} (m : Mo α) (r : Ro) (Q : α → Ro → Prop) (X : PySem.Str → Val → Prop) : Prop := (m r).sat Q X
structure Post where
  nx : Ro → Prop
  rt : Own → Ro → Prop
  bk : Ro → Prop
  ct : Ro → Prop
  ex : PySem.Str → Val → Prop
def RS.sat (x : RS) (P : Post) : Prop := match x with
  | .nxt r' => P.nx r'
  | .ret d r' => P.rt d r'
  | .brk r' => P.bk r'
  | .cnt r' => P.ct r'
  | .ex n v => P.ex n v
  | .bad => False
@[irreducible] def W (m : Ms) (r : Ro) (P : Post) : Prop := (m r).sat P
def noX : PySem.Str → Val → Prop := fun _ _ => False
section
variable {α : Type} {m a b c : Mo Own} {ms ks : Mo (List Own)} {r : Ro} {Q : Own → Ro → Prop} {X : PySem.Str → Val → Prop} {S : Vw} {i : Nat} {d : Val}
theorem We.sat {m : Mo α} {Q : α → Ro → Prop} (h : We m r Q X) : (m r).sat Q X := by unfold We at h; exact h
theorem We.of {m : Mo α} {Q : α → Ro → Prop} (h : (m r).sat Q X) : We m r Q X := by unfold We; exact h
theorem We.mono {m : Mo α} {Q Q' : α → Ro → Prop} {X X' : PySem.Str → Val → Prop} (h : We m r Q X) (k : ∀ a r, Q a r → Q' a r) (k2 : ∀ n v, X n v → X' n v) : We m r Q' X' := by
  have h := h.sat
  refine We.of ?_
  cases e : m r <;> simp only [e] at h ⊢
  · exact k _ _ h
  · exact k2 _ _ h
  · exact h
theorem We.ok {m : Mo α} {Q : α → Ro → Prop} (h : We m r Q noX) : ∃ a r', m r = .ok a r' ∧ Q a r' := by
  have h := h.sat
  cases e : m r <;> simp only [e] at h
  · exact ⟨_, _, rfl, h⟩
  · exact h.elim
  · exact h.elim
theorem we_ok {m : Mo α} {a : α} {r' : Ro} {Q : α → Ro → Prop} (h : m r = .ok a r') (q : Q a r') : We m r Q X := by
  refine We.of ?_; rw [h]; exact q
theorem We.bind {β : Type} {m : Mo α} {k : α → Ro → Rs β} {Q : β → Ro → Prop} (h : We m r (fun a r1 => (k a r1).sat Q X) X) : We (fun r => (m r).bind k) r Q X := by
  have h := h.sat
  refine We.of ?_
  cases e : m r <;> simp only [e, Rs.bind] at h ⊢ <;> exact h
theorem we_var (h : r[i]? = some (some (.v d))) (q : Q (.v d) r) : We (mVar S i) r Q X := by
  refine We.of ?_; unfold mVar; rw [h]; exact q
theorem we_varL {ds : List Val} (h : r[i]? = some (some (.l ds))) (hS : S.fn i = true) (q : Q (.v (.lst ds)) r) : We (mVar S i) r Q X := by
  refine We.of ?_; unfold mVar; rw [h]; simp only [if_pos hS]; exact q
theorem we_c (q : Q (.v d) r) : We (mC d) r Q X := by unfold We; exact q
theorem we_nil {Q : List Own → Ro → Prop} (q : Q [] r) : We mNil r Q X := by unfold We; exact q
theorem we_cons {Q : List Own → Ro → Prop} (q : We m r (fun o r1 => We ms r1 (fun os r2 => Q (o :: os) r2) X) X) : We (mCons m ms) r Q X := by
  refine We.bind (q.mono (fun a r1 h => ?_) fun _ _ h => h)
  exact (We.bind h).sat
theorem we_pure {k : List Val → Option Own} (q : We ms r (fun os r1 => ∃ o, k (os.map Own.val) = some o ∧ Q o r1) X) : We (mPure k ms) r Q X := by
  refine We.bind (q.mono (fun a r1 h => ?_) fun _ _ h => h)
  obtain ⟨o, h1, h2⟩ := h
  simp only [h1]; exact h2
theorem we_p2 {k : List Val → Option Own} (q : We a r (fun x r1 => We b r1 (fun y r2 => ∃ o, k [x.val, y.val] = some o ∧ Q o r2) X) X) : We (mP2 k a b) r Q X :=
  we_pure (we_cons (q.mono (fun x r1 h => we_cons (h.mono (fun y r2 h => we_nil h) fun _ _ h => h)) fun _ _ h => h))
theorem we_test {Q : Bool → Ro → Prop} (q : We m r (fun o r1 => ∃ t, o = .v (.bl t) ∧ Q t r1) X) : We (mTest m) r Q X := by
  refine We.bind (q.mono (fun a r1 h => ?_) fun _ _ h => h)
  obtain ⟨t, rfl, h⟩ := h
  exact h
theorem we_not {m : Mo Bool} {Q : Bool → Ro → Prop} (q : We m r (fun t r1 => Q (!t) r1) X) : We (mNot m) r Q X := We.bind q
theorem we_and {a b : Mo Bool} {Q : Bool → Ro → Prop} (q : We a r (fun t r1 => if t = true then We b r1 Q X else Q false r1) X) : We (mAnd a b) r Q X := by
  refine We.bind (q.mono (fun t r1 h => ?_) fun _ _ h => h)
  cases t
  · exact h
  · exact We.sat h
theorem we_or {a b : Mo Bool} {Q : Bool → Ro → Prop} (q : We a r (fun t r1 => if t = true then Q true r1 else We b r1 Q X) X) : We (mOr a b) r Q X := by
  refine We.bind (q.mono (fun t r1 h => ?_) fun _ _ h => h)
  cases t
  · exact We.sat h
  · exact h
theorem we_if {c : Mo Bool} (q : We c r (fun t r1 => if t = true then We a r1 Q X else We b r1 Q X) X) : We (mIf c a b) r Q X := by
  refine We.bind (q.mono (fun t r1 h => ?_) fun _ _ h => h)
  cases t
  · exact We.sat h
  · exact We.sat h
/-- both ways of a test that is a bool -/
theorem we_ite {t : Bool} {A B : Prop} (h1 : t = true → A) (h2 : t = false → B) : if t = true then A else B := by
  cases t
  · exact h2 rfl
  · exact h1 rfl
theorem we_ite_t {t : Bool} {A B : Prop} (h : t = true) (h1 : A) : if t = true then A else B := by rw [if_pos h]; exact h1
theorem we_ite_f {t : Bool} {A B : Prop} (h : t = false) (h1 : B) : if t = true then A else B := by rw [if_neg (by rw [h]; simp)]; exact h1
theorem we_andV (q : We a r (fun o r1 => ∃ t, o = .v (.bl t) ∧ if t = true then We b r1 Q X else Q (.v (.bl false)) r1) X) : We (mAndV a b) r Q X := we_if (we_test (q.mono (fun o r1 ⟨t, h1, h2⟩ => ⟨t, h1, by cases t; exact we_c h2; exact h2⟩) fun _ _ h => h))
theorem we_orV (q : We a r (fun o r1 => ∃ t, o = .v (.bl t) ∧ if t = true then Q (.v (.bl true)) r1 else We b r1 Q X) X) : We (mOrV a b) r Q X := we_if (we_test (q.mono (fun o r1 ⟨t, h1, h2⟩ => ⟨t, h1, by cases t; exact h2; exact we_c h2⟩) fun _ _ h => h))
theorem we_notV (q : We a r (fun o r1 => ∃ t, o = .v (.bl t) ∧ Q (.v (.bl (!t))) r1) X) : We (mNotV a) r Q X := by
  refine we_if (we_test (q.mono (fun o r1 h => ?_) fun _ _ h => h))
  obtain ⟨t, e, h⟩ := h
  refine ⟨t, e, ?_⟩
  cases t
  · exact we_c h
  · exact we_c h
theorem we_call {P : List Val → RP} (q : We ms r (fun os r1 => ∃ o, P (os.map Own.val) = .ok o ∧ Q o r1) X) : We (mCall S P ms) r Q X := by
  refine We.bind (q.mono (fun a r1 h => ?_) fun _ _ h => h)
  obtain ⟨o, h1, h2⟩ := h
  simp only [h1]; exact h2
/-- a call that may raise -/
theorem we_callX {P : List Val → RP} (q : We ms r (fun os r1 => (∃ o, P (os.map Own.val) = .ok o ∧ Q o r1) ∨ ∃ n v, P (os.map Own.val) = .ex n v ∧ exB S v = true ∧ X n v) X) : We (mCall S P ms) r Q X := by
  refine We.bind (q.mono (fun a r1 h => ?_) fun _ _ h => h)
  rcases h with ⟨o, h1, h2⟩ | ⟨n, v, h1, h2, h3⟩
  · simp only [h1]; exact h2
  · simp only [h1, RP.at, if_pos h2]; exact h3
theorem we_callK {P : List Val → RP} {n k : Nat} {ix : List Nat} (q : We ms r (fun os r1 => We ks r1 (fun es r2 => ∃ o, P (pick n k ix (os.map Own.val) (es.map Own.val)) = .ok o ∧ Q o r2) X) X) : We (mCallK S P n k ix ms ks) r Q X := by
  refine We.bind (q.mono (fun a r1 h => (We.bind (h.mono (fun b r2 h => ?_) fun _ _ h => h)).sat) fun _ _ h => h)
  obtain ⟨o, h1, h2⟩ := h
  simp only [h1]; exact h2
theorem we_callV {LP : Nat → List Val → List Val → RP} {n : Nat} {caps : List Val} (h : r[i]? = some (some (.v (.lam n caps)))) (q : We ms r (fun os r1 => ∃ o, LP n caps (os.map Own.val) = .ok o ∧ Q o r1) X) : We (mCallV S LP i ms) r Q X := by
  refine We.of ?_; unfold mCallV; simp only [h]
  refine (We.bind (r := r) (q.mono (fun a r1 h => ?_) fun _ _ h => h)).sat
  obtain ⟨o, h1, h2⟩ := h
  simp only [h1]; exact h2
theorem we_callL {P : List Val → RP} {n : Nat} {caps : List Nat} (q : We ms r (fun os r1 => ∃ cs o, capVals r1 caps = some cs ∧ P (os.map Own.val ++ [.lam n cs]) = .ok o ∧ nolamO o = true ∧ Q o r1) X) : We (mCallL S P n caps ms) r Q X := by
  refine We.bind (q.mono (fun a r1 h => ?_) fun _ _ h => h)
  obtain ⟨cs, o, h1, h2, h3, h4⟩ := h
  simp only [h1, h2, if_pos h3]; exact h4
theorem we_callI {F : List Val → List Val → RI} {ds : List Val} (h : r[i]? = some (some (.l ds))) (hS : S.fn i = false) (q : We ms r (fun os r1 => ∃ ds0, r1[i]? = some (some (.l ds0)) ∧ ∃ o ds1, F ds0 (os.map Own.val) = .ok o ds1 ∧ okB S (.l ds1) = true ∧ Q o (r1.set i (some (.l ds1)))) X) : We (mCallI S i F ms) r Q X := by
  refine We.of ?_; unfold mCallI; simp only [h]
  refine (We.bind (r := r) (q.mono (fun a r1 h => ?_) fun _ _ h => h)).sat
  obtain ⟨ds0, h0, o, ds1, h1, h2, h3⟩ := h
  simp only [if_neg (show ¬ (S.fn i = true) by rw [hS]; simp), h0, h1, if_pos h2]; exact h3
theorem we_callT {F : List Val → List Val → RI} (q : We ms r (fun os r1 => ∃ ds0 rest, os = .l ds0 :: rest ∧ ∃ o ds1, F ds0 (rest.map Own.val) = .ok o ds1 ∧ Q o r1) X) : We (mCallT S F ms) r Q X := by
  refine We.bind (q.mono (fun a r1 h => ?_) fun _ _ h => h)
  obtain ⟨ds0, rest, rfl, o, ds1, h1, h2⟩ := h
  simp only [h1]; exact h2
theorem we_chg {kk : List Val → List Val → Option (Val × List Val)} {ds : List Val} (h : r[i]? = some (some (.l ds))) (hS : S.fn i = false) (q : We ms r (fun os r1 => ∃ ds0, r1[i]? = some (some (.l ds0)) ∧ ∃ d ds1, kk ds0 (os.map Own.val) = some (d, ds1) ∧ okB S (.l ds1) = true ∧ Q (.v d) (r1.set i (some (.l ds1)))) X) : We (mChg S i kk ms) r Q X := by
  refine We.of ?_; unfold mChg; simp only [h]
  refine (We.bind (r := r) (q.mono (fun a r1 h => ?_) fun _ _ h => h)).sat
  obtain ⟨ds0, h0, o, ds1, h1, h2, h3⟩ := h
  simp only [if_neg (show ¬ (S.fn i = true) by rw [hS]; simp), h0, h1, if_pos h2]; exact h3
theorem we_ixV {o0 : Own} (h : r[i]? = some (some o0)) (q : We m r (fun d r1 => ∃ n o e, intOf d = some n ∧ r1[i]? = some (some o) ∧ ixO o n = some e ∧ Q (.v e) r1) X) : We (mIxV i m) r Q X := by
  refine We.of ?_; unfold mIxV; simp only [h]
  refine (We.bind (r := r) (q.mono (fun a r1 h => ?_) fun _ _ h => h)).sat
  obtain ⟨n, o, e, h1, h2, h3, h4⟩ := h
  simp only [h1, h2, h3]; exact h4
theorem we_chain {k1 k2 : List Val → Option Own} (q : We a r (fun x r1 => We b r1 (fun y r2 => ∃ t, k1 [x.val, y.val] = some (.v (.bl t)) ∧ if t = true then We c r2 (fun z r3 => ∃ o, k2 [y.val, z.val] = some o ∧ Q o r3) X else Q (.v (.bl false)) r2) X) X) : We (mChain k1 k2 a b c) r Q X := by
  refine We.bind (q.mono (fun x r1 h => (We.bind (h.mono (fun y r2 h => ?_) fun _ _ h => h)).sat) fun _ _ h => h)
  obtain ⟨t, h1, h2⟩ := h
  cases t
  · simp only [h1]; exact h2
  · simp only [h1]
    refine (We.bind (r := r2) (h2.mono (fun z r3 h => ?_) fun _ _ h => h)).sat
    obtain ⟨o, h1, h2⟩ := h
    simp only [h1]; exact h2
theorem we_noPart {Q : Option Int → Ro → Prop} (q : Q none r) : We mNoPart r Q X := by unfold We; exact q
theorem we_part {Q : Option Int → Ro → Prop} (q : We m r (fun o r1 => ∃ n, o = .v (.int n) ∧ Q (some n) r1) X) : We (mPart m) r Q X := by
  refine We.bind (q.mono (fun a r1 h => ?_) fun _ _ h => h)
  obtain ⟨n, rfl, h⟩ := h
  exact h
theorem we_sl {kk : Val → Option Int → Option Int → Option Own} {ml mh : Mo (Option Int)} (q : We m r (fun d r1 => We ml r1 (fun l r2 => We mh r2 (fun u r3 => ∃ o, kk d.val l u = some o ∧ Q o r3) X) X) X) : We (mSl kk m ml mh) r Q X := by
  refine We.bind (q.mono (fun x r1 h => (We.bind (h.mono (fun y r2 h => (We.bind (h.mono (fun z r3 h => ?_) fun _ _ h => h)).sat) fun _ _ h => h)).sat) fun _ _ h => h)
  obtain ⟨o, h1, h2⟩ := h
  simp only [h1]; exact h2
/-! ### what is gone through -/
theorem okB_no {o : Own} : okB .no o = true := by cases o <;> simp [okB]
theorem we_seq {t : Bool} {Q : List Val → Ro → Prop} (q : We m r (fun o r1 => okB S o = true ∧ ∃ ds, (o.val = .lst ds ∨ o.val = .tup ds ∨ ∃ ns, o.val = .scr ns ∧ ds = ns.map Val.int) ∧ Q ds r1) X) : We (mSeq t S m) r Q X := by
  refine We.bind (q.mono (fun o r1 h => ?_) fun _ _ h => h)
  obtain ⟨h0, ds, h1, h2⟩ := h
  simp only [h0, Bool.true_eq_false, and_false, if_false]
  rcases h1 with h1 | h1 | ⟨ns, h1, rfl⟩ <;> simp only [h1] <;> exact h2
theorem we_rng {Q : List Val → Ro → Prop} (q : We ms r (fun os r1 => ∃ n : Int, os = [.v (.int n)] ∧ (n < 4611686018427387904 ∧ -4611686018427387904 ≤ n) ∧ Q (intsFrom 0 n.toNat) r1) X) : We (mRng ms) r Q X := by
  refine We.bind (q.mono (fun o r1 h => ?_) fun _ _ h => h)
  obtain ⟨n, rfl, h1, h2⟩ := h
  simp only [if_pos h1]; exact h2
theorem we_rng2 {Q : List Val → Ro → Prop} (q : We ms r (fun os r1 => ∃ n k : Int, os = [.v (.int n), .v (.int k)] ∧ ((n < 4611686018427387904 ∧ -4611686018427387904 ≤ n) ∧ k < 4611686018427387904 ∧ -4611686018427387904 ≤ k) ∧ Q (intsFrom n (k - n).toNat) r1) X) : We (mRng ms) r Q X := by
  refine We.bind (q.mono (fun o r1 h => ?_) fun _ _ h => h)
  obtain ⟨n, k, rfl, h1, h2⟩ := h
  simp only [if_pos h1]; exact h2
theorem we_enum {t : Bool} {Q : List Val → Ro → Prop} (q : We m r (fun o r1 => okB S o = true ∧ ∃ ds, (o.val = .lst ds ∨ o.val = .tup ds) ∧ Q (enumFrom 0 ds) r1) X) : We (mEnum t S m) r Q X := by
  refine We.bind (q.mono (fun o r1 h => ?_) fun _ _ h => h)
  obtain ⟨h0, ds, h1, h2⟩ := h
  simp only [h0, Bool.true_eq_false, and_false, if_false]
  rcases h1 with h1 | h1 <;> simp only [h1] <;> exact h2
theorem we_zip {t : Bool} {Q : List Val → Ro → Prop} (q : We ms r (fun os r1 => os.all (okB S) = true ∧ ∃ as cs, (os.map Own.val = [.lst as, .lst cs] ∨ os.map Own.val = [.tup as, .tup cs]) ∧ Q (zipT as cs) r1) X) : We (mZip t S ms) r Q X := by
  refine We.bind (q.mono (fun o r1 h => ?_) fun _ _ h => h)
  obtain ⟨h0, as, cs, h1, h2⟩ := h
  simp only [h0, Bool.true_eq_false, and_false, if_false]
  rcases h1 with h1 | h1 <;> simp only [h1] <;> exact h2
/-! ### comprehensions -/
theorem we_lc {vs : List Nat} {t : Tg} {mi : Mo (List Val)} {mt : Mo Bool} {me : Mo Own} (I : Nat → List Val → Ro → Prop)
    (q : We mi r (fun items r1 => items.length ≤ 16777216 ∧ I 0 [] r1 ∧ (∀ (i : Nat) (d : Val) (acc : List Val) (r : Ro), items[i]? = some d → I i acc r → okB S (.v d) = true ∧ ∃ r2, t.put d (wipeR r vs) = some r2 ∧
      We mt r2 (fun b r3 => if b = true then We me r3 (fun o r4 => I (i + 1) (acc ++ [o.val]) r4) noX else I (i + 1) acc r3) noX) ∧ ∀ acc r', acc.length ≤ items.length → I items.length acc r' → Q (.l acc) (wipeR r' vs)) X) : We (mLc S vs t mi mt me) r Q X := by
  refine We.bind (q.mono (fun items r1 h => ?_) fun _ _ h => h)
  obtain ⟨h1, h2, h3, h4⟩ := h
  simp only [if_pos h1]
  have gen : ∀ (ds : List Val) (i : Nat) (acc : List Val) (r : Ro), items.drop i = ds → i + ds.length = items.length → acc.length ≤ i → I i acc r → ∃ acc' r', compGo S vs t mt me ds r = .ok acc' r' ∧ (acc ++ acc').length ≤ items.length ∧ I items.length (acc ++ acc') r' := by
    intro ds
    induction ds with
    | nil => intro i acc r _ hl ha h; exact ⟨[], r, rfl, by rw [← hl, List.append_nil]; exact ha, by rw [← hl, List.append_nil]; exact h⟩
    | cons d ds ih =>
      intro i acc r hd hl ha h
      have e : items[i]? = some d := by
        have := congrArg (fun l : List Val => l[0]?) hd
        simpa using this
      obtain ⟨hb, r2, e1, hw⟩ := h3 i d acc r e h
      have hd2 : items.drop (i + 1) = ds := by
        have := congrArg List.tail hd
        simpa using this
      obtain ⟨b, r3, e2, hw⟩ := hw.ok
      cases b
      · simp only [if_neg (show ¬ (false = true) by simp)] at hw
        obtain ⟨acc', r', e3, h5, h6⟩ := ih (i + 1) acc r3 hd2 (by rw [List.length_cons] at hl; omega) (by omega) hw
        refine ⟨acc', r', ?_, h5, h6⟩
        unfold compGo
        rw [if_pos hb, e1]
        simp only [e2, Rs.noex, Rs.bind, e3, if_neg (show ¬ (false = true) by simp)]
      · simp only [if_true] at hw
        obtain ⟨o, r4, e4, hw⟩ := hw.ok
        obtain ⟨acc', r', e3, h5, h6⟩ := ih (i + 1) (acc ++ [o.val]) r4 hd2 (by rw [List.length_cons] at hl; omega) (by simp; omega) hw
        refine ⟨o.val :: acc', r', ?_, by simpa using h5, by simpa using h6⟩
        unfold compGo
        rw [if_pos hb, e1]
        simp only [e2, Rs.noex, Rs.bind, e3, e4, if_true]
  obtain ⟨acc, r', e, h5, h6⟩ := gen items 0 [] r1 (by simp) (by simp) (by simp) h2
  rw [e]
  exact h4 acc r' (by simpa using h5) (by simpa using h6)
/-- a comprehension that only reads, with a test -/
theorem we_filter {β : Type} {vs : List Nat} {t : Tg} {mi : Mo (List Val)} {mt : Mo Bool} {me : Mo Own} (xs : List β) (e : β → Val) (p : β → Bool) (f : β → Val)
    (q : We mi r (fun items r1 => items = xs.map e ∧ xs.length ≤ 16777216 ∧ (∀ x ∈ xs, okB S (.v (e x)) = true ∧ ∃ r2, t.put (e x) (wipeR r1 vs) = some r2 ∧ We mt r2 (fun b r3 => b = p x ∧ (p x = false → wipeR r3 vs = wipeR r1 vs) ∧ (p x = true → We me r3 (fun o r4 => o.val = f x ∧ wipeR r4 vs = wipeR r1 vs) noX)) noX) ∧ Q (.l ((xs.filter p).map f)) (wipeR r1 vs)) X) : We (mLc S vs t mi mt me) r Q X := by
  refine We.bind (q.mono (fun items r1 h => ?_) fun _ _ h => h)
  obtain ⟨rfl, h1, h2, h3⟩ := h
  rw [if_pos (by simpa using h1)]
  have gen : ∀ (ys : List β) (r : Ro), (∀ x ∈ ys, x ∈ xs) → wipeR r vs = wipeR r1 vs → ∃ r', compGo S vs t mt me (ys.map e) r = .ok ((ys.filter p).map f) r' ∧ wipeR r' vs = wipeR r1 vs := by
    intro ys
    induction ys with
    | nil => intro r _ h; exact ⟨r, rfl, h⟩
    | cons y ys ih =>
      intro r hs h
      obtain ⟨hb, r2, e1, hw⟩ := h2 y (hs y (by simp))
      obtain ⟨b, r3, e2, h4, h5, hw⟩ := hw.ok
      subst h4
      cases hp : p y with
      | false =>
        obtain ⟨r', e3, h6⟩ := ih r3 (fun x hx => hs x (by simp [hx])) (h5 hp)
        refine ⟨r', ?_, h6⟩
        unfold compGo
        rw [List.map_cons]
        simp only [if_pos hb, h, e1, e2, Rs.noex, Rs.bind, hp, if_neg (show ¬ (false = true) by simp), e3]
        rw [List.filter_cons_of_neg (by simp [hp])]
      | true =>
        obtain ⟨o, r4, e4, h7, h8⟩ := (hw hp).ok
        obtain ⟨r', e3, h6⟩ := ih r4 (fun x hx => hs x (by simp [hx])) h8
        refine ⟨r', ?_, h6⟩
        unfold compGo
        rw [List.map_cons]
        simp only [if_pos hb, h, e1, e2, Rs.noex, Rs.bind, hp, if_true, e4, e3, h7]
        rw [List.filter_cons_of_pos hp, List.map_cons]
  obtain ⟨r', e, h6⟩ := gen xs r1 (fun _ h => h) rfl
  rw [e]
  simp only [Rs.bind, h6]
  exact h3
/-- a comprehension that only reads -/
theorem we_map {β : Type} {vs : List Nat} {t : Tg} {mi : Mo (List Val)} {me : Mo Own} (xs : List β) (e : β → Val) (f : β → Val)
    (q : We mi r (fun items r1 => items = xs.map e ∧ xs.length ≤ 16777216 ∧ (∀ x ∈ xs, okB S (.v (e x)) = true ∧ ∃ r2, t.put (e x) (wipeR r1 vs) = some r2 ∧ We me r2 (fun o r3 => o.val = f x ∧ wipeR r3 vs = wipeR r1 vs) noX) ∧ Q (.l (xs.map f)) (wipeR r1 vs)) X) : We (mLc S vs t mi mYes me) r Q X := by
  refine we_filter xs e (fun _ => true) f (q.mono (fun items r1 h => ?_) fun _ _ h => h)
  obtain ⟨h0, h1, h2, h3⟩ := h
  refine ⟨h0, h1, fun x hx => ?_, by rw [List.filter_eq_self.mpr (fun _ _ => rfl)]; exact h3⟩
  obtain ⟨hb, r2, e1, hw⟩ := h2 x hx
  exact ⟨hb, r2, e1, We.of ⟨rfl, ⟨fun h => absurd h (by simp), fun _ => hw⟩⟩⟩
end
/-! ### statements -/
section
variable {m : Mo Own} {a b : Ms} {r : Ro} {P : Post} {S : Vw} {i : Nat} {d : Val}
theorem RS.sat.mono {x : RS} {P P' : Post} (h : x.sat P) (k1 : ∀ r, P.nx r → P'.nx r) (k2 : ∀ o r, P.rt o r → P'.rt o r) (k3 : ∀ r, P.bk r → P'.bk r) (k4 : ∀ r, P.ct r → P'.ct r) (k5 : ∀ n v, P.ex n v → P'.ex n v) : x.sat P' := by
  cases x with
  | nxt r => exact k1 _ h
  | ret o r => exact k2 _ _ h
  | brk r => exact k3 _ h
  | cnt r => exact k4 _ h
  | ex n v => exact k5 _ _ h
  | bad => exact h
theorem w_skip (h : P.nx r) : W sSkip r P := by unfold W at *; exact h
theorem w_brk (h : P.bk r) : W sBrk r P := by unfold W at *; exact h
theorem w_cnt (h : P.ct r) : W sCnt r P := by unfold W at *; exact h
theorem w_seq (h : W a r { P with nx := fun r1 => W b r1 P }) : W (sSeq a b) r P := by
  unfold W sSeq at *
  cases e : a r <;> rw [e] at h <;> exact h
theorem w_frz (h : W a (frzAt i r) P) : W (sFrz i a) r P := by unfold W at *; exact h
theorem w_frzO {o : Own} (h : r[i]? = some (some o)) (q : W a (r.set i (some (.v o.val))) P) : W (sFrz i a) r P := w_frz (by
  unfold frzAt; rw [h]; exact q)
theorem w_set (h : We m r (fun o r1 => okB S o = true ∧ P.nx (r1.set i (some o))) P.ex) : W (sSet S i m) r P := by
  unfold W sSet We at *
  cases e : m r <;> simp only [e] at h ⊢
  · rw [if_pos h.1]; exact h.2
  · exact h
  · exact h
theorem w_setN (h : We m r (fun o r1 => P.nx (r1.set i (some o))) P.ex) : W (sSet .no i m) r P := w_set (h.mono (fun _ _ h => ⟨okB_no, h⟩) fun _ _ h => h)
theorem w_ret (h : We m r (fun o r1 => okB S o = true ∧ P.rt o r1) P.ex) : W (sRet S m) r P := by
  unfold W sRet We at *
  cases e : m r <;> simp only [e] at h ⊢
  · rw [if_pos h.1]; exact h.2
  · exact h
  · exact h
theorem w_retN (h : We m r (fun o r1 => P.rt o r1) P.ex) : W (sRet .no m) r P := w_ret (h.mono (fun _ _ h => ⟨okB_no, h⟩) fun _ _ h => h)
theorem w_retV {o : Own} (e : r[i]? = some (some o)) (h : P.rt o r) : W (sRetV i) r P := by
  unfold W sRetV; rw [e]; exact h
theorem w_retNone (h : P.rt (.v .non) r) : W sRetN r P := by unfold W at *; exact h
theorem w_exp (h : We m r (fun _ r1 => P.nx r1) P.ex) : W (sExp m) r P := by
  unfold W sExp We at *
  cases e : m r <;> simp only [e] at h ⊢ <;> exact h
theorem w_setIx {mi : Mo Own} (h : We (mChg S i kSetIx (mCons m (mCons mi mNil))) r (fun _ r1 => P.nx r1) P.ex) : W (sSetIx S i m mi) r P := w_exp h
theorem w_if {c : Mo Bool} (h : We c r (fun t r1 => if t = true then W a r1 P else W b r1 P) P.ex) : W (sIf c a b) r P := by
  unfold W sIf We at *
  cases e : c r with
  | ok x r1 => simp only [e] at h ⊢; cases x <;> exact h
  | ex n v => simp only [e] at h ⊢; exact h
  | bad => rw [e] at h; exact h.elim
theorem w_asg {t : Tg} (h : We m r (fun o r1 => okB S o = true ∧ ∃ r2, t.put o.val r1 = some r2 ∧ P.nx r2) P.ex) : W (sAsg S t m) r P := by
  unfold W sAsg We at *
  cases e : m r <;> simp only [e] at h ⊢
  · obtain ⟨h1, r2, h2, h3⟩ := h
    rw [if_pos h1, h2]; exact h3
  · exact h
  · exact h
theorem w_par2 {i j : Nat} {ms : Mo (List Own)} (h : We ms r (fun os r1 => ∃ d e, os = [d, e] ∧ okB S d = true ∧ okB S e = true ∧ P.nx ((r1.set i (some d)).set j (some e))) P.ex) : W (sPar2 S i j ms) r P := by
  unfold W sPar2 We at *
  cases e : ms r <;> simp only [e] at h ⊢
  · obtain ⟨d, e, rfl, h1, h2, h3⟩ := h
    simp only [h1, h2, Bool.and_true, if_true]; exact h3
  · exact h
  · exact h
theorem w_par3 {i j l : Nat} {ms : Mo (List Own)} (h : We ms r (fun os r1 => ∃ d e k, os = [d, e, k] ∧ okB S d = true ∧ okB S e = true ∧ okB S k = true ∧ P.nx (((r1.set i (some d)).set j (some e)).set l (some k))) P.ex) : W (sPar3 S i j l ms) r P := by
  unfold W sPar3 We at *
  cases e : ms r <;> simp only [e] at h ⊢
  · obtain ⟨d, e, k, rfl, h1, h2, h4, h3⟩ := h
    simp only [h1, h2, h4, Bool.and_true, if_true]; exact h3
  · exact h
  · exact h
/-- a for by its invariant -/
theorem w_for {fg : List Nat} {t : Tg} {mi : Mo (List Val)} {body : Ms} (I : Nat → Ro → Prop)
    (h : We mi r (fun items r1 => I 0 r1 ∧ (∀ (i : Nat) (d : Val) (r : Ro), items[i]? = some d → I i r → ∃ r1, t.put d (wipeR r fg) = some r1 ∧
      W body r1 { P with nx := fun r2 => I (i + 1) r2, ct := fun r2 => I (i + 1) r2, bk := fun r2 => P.nx (wipeR r2 fg) }) ∧ ∀ r', I items.length r' → P.nx (wipeR r' fg)) P.ex) : W (sFor fg t mi body) r P := by
  unfold W sFor
  unfold We at h
  cases e : mi r with
  | bad => rw [e] at h; exact h.elim
  | ex n v => rw [e] at h; exact h
  | ok items r1 =>
    rw [e] at h
    obtain ⟨h0, hs, hk⟩ := h
    have gen : ∀ (ds : List Val) (i : Nat) (r : Ro), items.drop i = ds → i + ds.length = items.length → I i r → (forGo fg t body ds r).sat P := by
      intro ds
      induction ds with
      | nil => intro i r _ hl h; unfold forGo; exact hk r (by rw [← hl]; exact h)
      | cons d ds ih =>
        intro i r hd hl h
        have e : items[i]? = some d := by
          have := congrArg (fun l : List Val => l[0]?) hd
          simpa using this
        obtain ⟨r1, e1, hw⟩ := hs i d r e h
        have hd2 : items.drop (i + 1) = ds := by
          have := congrArg List.tail hd
          simpa using this
        have hl2 : i + 1 + ds.length = items.length := by rw [List.length_cons] at hl; omega
        unfold forGo
        simp only [e1]
        unfold W at hw
        cases eb : body r1 <;> rw [eb] at hw <;> simp only [eb]
        · exact ih (i + 1) _ hd2 hl2 hw
        · exact hw
        · exact hw
        · exact ih (i + 1) _ hd2 hl2 hw
        · exact hw
        · exact hw
    exact gen items 0 r1 (by simp) (by simp) h0
/-- a while by its invariant and a measure -/
theorem w_while {fg : List Nat} {c : Mo Bool} {body : Ms} (I : Nat → Ro → Prop) (n : Nat) (h0 : I n r)
    (hs : ∀ (k : Nat) (r : Ro), I k r → We c r (fun t r1 => if t = true then W body r1 { P with nx := fun r2 => ∃ j, j < k ∧ I j (wipeR r2 fg), ct := fun r2 => ∃ j, j < k ∧ I j (wipeR r2 fg), bk := fun r2 => P.nx (wipeR r2 fg) } else P.nx r1) P.ex) : W (sWhile fg c body) r P := by
  have gen : ∀ (n k : Nat) (r : Ro), k < n → I k r → ∃ N x, whileN fg c body N r = some x ∧ x.sat P := by
    intro n
    induction n with
    | zero => intro k r h; omega
    | succ n ih =>
      intro k r hk h
      have h1 := hs k r h
      unfold We at h1
      cases e : c r with
      | bad => rw [e] at h1; exact h1.elim
      | ex m v => rw [e] at h1; exact ⟨1, .ex m v, by simp [whileN, e], h1⟩
      | ok t r1 =>
        rw [e] at h1
        cases t with
        | false => exact ⟨1, .nxt r1, by simp [whileN, e], h1⟩
        | true =>
          have h1 : W body r1 { P with nx := fun r2 => ∃ j, j < k ∧ I j (wipeR r2 fg), ct := fun r2 => ∃ j, j < k ∧ I j (wipeR r2 fg), bk := fun r2 => P.nx (wipeR r2 fg) } := by
            simpa only [Rs.sat, if_true] using h1
          unfold W at h1
          cases e2 : body r1 with
          | bad => rw [e2] at h1; exact h1.elim
          | ex m v => rw [e2] at h1; exact ⟨1, .ex m v, by simp [whileN, e, e2], h1⟩
          | ret o r2 => rw [e2] at h1; exact ⟨1, .ret o r2, by simp [whileN, e, e2], h1⟩
          | brk r2 => rw [e2] at h1; exact ⟨1, .nxt (wipeR r2 fg), by simp [whileN, e, e2], h1⟩
          | nxt r2 =>
            rw [e2] at h1
            obtain ⟨j, hj, h2⟩ := h1
            obtain ⟨N, x, h3, h4⟩ := ih j _ (by omega) h2
            exact ⟨N + 1, x, by simp [whileN, e, e2, h3], h4⟩
          | cnt r2 =>
            rw [e2] at h1
            obtain ⟨j, hj, h2⟩ := h1
            obtain ⟨N, x, h3, h4⟩ := ih j _ (by omega) h2
            exact ⟨N + 1, x, by simp [whileN, e, e2, h3], h4⟩
  obtain ⟨N, x, h1, h2⟩ := gen (n + 1) n r (by omega) h0
  unfold W
  rw [sWhile_eq h1]
  exact h2
end
/-! ### a def -/
def okP (G : RP → Prop) : Post := ⟨fun _ => G (.ok (.v .non)), fun o _ => G (.ok o), fun _ => False, fun _ => False, fun n v => G (.ex n v)⟩
theorem runP_w {n N : Nat} {m : Ms} {ds : List Val} (G : RP → Prop) (hl : ds.length = n) (h : W m (entry N (ds.map Own.v)) (okP G)) : G (runP n N m ds) := by
  unfold runP; rw [if_pos hl]
  unfold W at h
  cases e : m (entry N (ds.map Own.v)) <;> rw [e] at h <;> first | exact h | exact h.elim
theorem runP_eq {n N : Nat} {m : Ms} {ds : List Val} {x : RP} (hl : ds.length = n) (h : W m (entry N (ds.map Own.v)) (okP fun y => y = x)) : runP n N m ds = x := runP_w (fun y => y = x) hl h
/-- what a def that changes its first argument comes to -/
def okI (G : Own → List Val → Prop) : Post := ⟨fun r => ∃ ds1, r[0]? = some (some (Own.l ds1)) ∧ G (.v .non) ds1, fun o r => ∃ ds1, r[0]? = some (some (Own.l ds1)) ∧ G o ds1, fun _ => False, fun _ => False, fun _ _ => False⟩
theorem runI_w {n N : Nat} {m : Ms} {ds0 ds : List Val} (G : Own → List Val → Prop) (hl : ds.length + 1 = n) (h : W m (entry N (.l ds0 :: ds.map Own.v)) (okI G)) : ∃ o ds1, runI n N m ds0 ds = .ok o ds1 ∧ G o ds1 := by
  unfold runI; rw [if_pos hl]
  unfold W at h
  cases e : m (entry N (.l ds0 :: ds.map Own.v)) with
  | nxt r => rw [e] at h; obtain ⟨ds1, h1, h2⟩ := h; exact ⟨_, _, by simp only [h1], h2⟩
  | ret o r => rw [e] at h; obtain ⟨ds1, h1, h2⟩ := h; exact ⟨_, _, by simp only [h1], h2⟩
  | brk r => rw [e] at h; exact h.elim
  | cnt r => rw [e] at h; exact h.elim
  | ex n v => rw [e] at h; exact h.elim
  | bad => rw [e] at h; exact h.elim
end KS
set_option Elab.async false
set_option linter.all false
set_option maxRecDepth 100000
set_option maxHeartbeats 4000000
namespace KS
open PySem PySem.Spec PyProof.Rows L2
/-! ### what is told at the leaves -/
theorem val_v (d : Val) : Own.val (.v d) = d := rfl
theorem val_l (ds : List Val) : Own.val (.l ds) = .lst ds := rfl
theorem small_of {n : Int} (h1 : -1000000000000000000000000 ≤ n) (h2 : n ≤ 1000000000000000000000000) : small n = true := by
  unfold small bigN
  refine decide_eq_true ?_
  have : n.natAbs ≤ 1000000000000000000000000 := by omega
  exact Nat.lt_of_le_of_lt this (by decide +kernel)
theorem small_mono {n m : Int} (h : small m = true) (h0 : 0 ≤ n) (h1 : n ≤ m) : small n = true := by
  unfold small at h ⊢
  have h := of_decide_eq_true h
  exact decide_eq_true (by omega)
theorem kadd_int (a b : Int) : kAdd [.int a, .int b] = some (.v (.int (a + b))) := rfl
theorem ksub_int (a b : Int) : kSub [.int a, .int b] = some (.v (.int (a - b))) := rfl
theorem kmul_int {a b : Int} (h1 : small a = true) (h2 : small b = true) : kMul [.int a, .int b] = some (.v (.int (a * b))) := by
  simp [kMul, kInt2, h1, h2]
theorem kmod_int {a b : Int} (h : 0 < b) : kMod [.int a, .int b] = some (.v (.int (a % b))) := by
  simp [kMod, kInt2, h]
theorem kfdiv_int {a b : Int} (h : 0 < b) (h2 : small b = true) : kFdiv [.int a, .int b] = some (.v (.int (a / b))) := by
  simp [kFdiv, kInt2, h, h2]
theorem kpow_int {a b : Int} (h : 0 ≤ b) (h1 : b ≤ 1000) (h2 : small a = true) : kPow [.int a, .int b] = some (.v (.int (a ^ b.toNat))) := by
  simp [kPow, kInt2, h, h1, h2]
theorem klt_int (a b : Int) : kLt [.int a, .int b] = some (.v (.bl (decide (a < b)))) := rfl
theorem kle_int (a b : Int) : kLe [.int a, .int b] = some (.v (.bl (decide (a ≤ b)))) := rfl
theorem kgt_int (a b : Int) : kGt [.int a, .int b] = some (.v (.bl (decide (b < a)))) := rfl
theorem kge_int (a b : Int) : kGe [.int a, .int b] = some (.v (.bl (decide (b ≤ a)))) := rfl
theorem keq_str (a b : PySem.Str) : kEq [.str a, .str b] = some (.v (.bl (decide (a = b)))) := rfl
theorem kne_str (a b : PySem.Str) : kNe [.str a, .str b] = some (.v (.bl (!decide (a = b)))) := rfl
theorem kadd_tup {a b : List Val} (h : a.length + b.length ≤ 16777216) : kAdd [.tup a, .tup b] = some (.v (.tup (a ++ b))) := by
  simp [kAdd, h]
theorem kadd_lst {a b : List Val} (h : a.length + b.length ≤ 16777216) : kAdd [.lst a, .lst b] = some (.l (a ++ b)) := by
  simp [kAdd, h]
theorem ktup {ds : List Val} (h : ds.length ≤ 16777216) : KS.kTup ds = some (.v (.tup ds)) := by
  unfold KS.kTup; rw [if_pos h]
theorem klst {ds : List Val} (h : ds.length ≤ 16777216) : KS.kLst ds = some (.l ds) := by
  unfold KS.kLst; rw [if_pos h]
theorem kall_map {α : Type} (xs : List α) (p : α → Bool) : kAll [.lst (xs.map fun x => Val.bl (p x))] = some (.v (.bl (xs.all p))) := by
  have : valBls (xs.map fun x => Val.bl (p x)) = some (xs.map p) := by
    induction xs with
    | nil => rfl
    | cons x xs ih => simp [valBls, ih]
  simp [kAll, this, List.all_map, Function.comp_def]
theorem kany_map {α : Type} (xs : List α) (p : α → Bool) : kAny [.lst (xs.map fun x => Val.bl (p x))] = some (.v (.bl (xs.any p))) := by
  have : valBls (xs.map fun x => Val.bl (p x)) = some (xs.map p) := by
    induction xs with
    | nil => rfl
    | cons x xs ih => simp [valBls, ih]
  simp [kAny, this, List.any_map, Function.comp_def]
theorem ksum_tup (ns : List Int) : kSum [.tup (ns.map Val.int)] = some (.v (.int ns.sum)) := by simp [kSum, valInts_map]
theorem ksum_lst (ns : List Int) : kSum [.lst (ns.map Val.int)] = some (.v (.int ns.sum)) := by simp [kSum, valInts_map]
theorem atI_nat {α : Type} {xs : List α} {n : Nat} {e : α} (h : xs[n]? = some e) : atI xs (n : Int) = some e := by
  have hn : n < xs.length := (List.getElem?_eq_some_iff.mp h).1
  unfold atI ixN
  rw [if_pos (Int.natCast_nonneg n), if_pos (by omega)]
  simpa using h
theorem atI_int {α : Type} {xs : List α} {i : Int} {e : α} (h0 : 0 ≤ i) (h : xs[i.toNat]? = some e) : atI xs i = some e := by
  have := atI_nat h
  rwa [show ((i.toNat : Nat) : Int) = i by omega] at this
theorem ixO_tup {xs : List Val} {i : Int} {e : Val} (h0 : 0 ≤ i) (h : xs[i.toNat]? = some e) : ixO (.v (.tup xs)) i = some e := atI_int h0 h
theorem ixO_lst {xs : List Val} {i : Int} {e : Val} (h0 : 0 ≤ i) (h : xs[i.toNat]? = some e) : ixO (.v (.lst xs)) i = some e := atI_int h0 h
theorem ixO_l {xs : List Val} {i : Int} {e : Val} (h0 : 0 ≤ i) (h : xs[i.toNat]? = some e) : ixO (.l xs) i = some e := atI_int h0 h
theorem kix_tup {xs : List Val} {i : Int} {e : Val} (h0 : 0 ≤ i) (h : xs[i.toNat]? = some e) : kIx [.tup xs, .int i] = some (.v e) := by simp [kIx, atI_int h0 h]
theorem kix_lst {xs : List Val} {i : Int} {e : Val} (h0 : 0 ≤ i) (h : xs[i.toNat]? = some e) : kIx [.lst xs, .int i] = some (.v e) := by simp [kIx, atI_int h0 h]
theorem kappend {ds : List Val} {e : Val} (h : ds.length < 16777216) : kAppend ds [e] = some (.non, ds ++ [e]) := by simp [kAppend, h]
theorem kextend {ds es : List Val} (h : ds.length + es.length ≤ 16777216) : kExtend ds [.lst es] = some (.non, ds ++ es) := by simp [kExtend, h]
theorem ksetIx {ds : List Val} {d : Val} {i : Int} (h0 : 0 ≤ i) (h : i < ds.length) : kSetIx ds [d, .int i] = some (.non, ds.set i.toNat d) := by
  simp [kSetIx, ixN, h0, h]
theorem klen_tup (ds : List Val) : kLen [.tup ds] = some (.v (.int ds.length)) := rfl
theorem klen_lst (ds : List Val) : kLen [.lst ds] = some (.v (.int ds.length)) := rfl
theorem klen_scr (ds : List Int) : kLen [.scr ds] = some (.v (.int ds.length)) := rfl
theorem ktuple_lst (ds : List Val) : kTuple [.lst ds] = some (.v (.tup ds)) := rfl
theorem ktuple_tup (ds : List Val) : kTuple [.tup ds] = some (.v (.tup ds)) := rfl
theorem kint_int (n : Int) : kInt [.int n] = some (.v (.int n)) := rfl
theorem kint_bl (b : Bool) : kInt [.bl b] = some (.v (.int (if b then 1 else 0))) := rfl
theorem kabs_int (n : Int) : kAbs [.int n] = some (.v (.int (if n < 0 then -n else n))) := rfl
theorem kneg_int (n : Int) : kNeg [.int n] = some (.v (.int (-n))) := rfl
theorem kmax2 (a b : Int) : kMax2 [.int a, .int b] = some (.v (.int (if b > a then b else a))) := rfl
theorem kmin2 (a b : Int) : kMin2 [.int a, .int b] = some (.v (.int (if b < a then b else a))) := rfl
theorem kis_bl (a b : Bool) : kIs [.bl a, .bl b] = some (.v (.bl (decide (a = b)))) := rfl
theorem kisNot_bl (a b : Bool) : kIsNot [.bl a, .bl b] = some (.v (.bl (!decide (a = b)))) := rfl
theorem kis_non (d : Val) : kIs [d, .non] = some (.v (.bl (isNon d))) := by cases d <;> rfl
theorem kisNot_non (d : Val) : kIsNot [d, .non] = some (.v (.bl (!isNon d))) := by cases d <;> rfl
/-! ### repr -/
/-- what can be told by repr: so deep, so great at most -/
def Shw (d : Val) (n b : Nat) : Prop := ∃ p, toPD d = some p ∧ p.showable = true ∧ p.hasDict = false ∧ p.depth ≤ n ∧ p.leavesShort 13 = true ∧ p.bulk ≤ b
theorem Shw.mono {d : Val} {n b n' b' : Nat} (h : Shw d n b) (hn : n ≤ n') (hb : b ≤ b') : Shw d n' b' := by
  obtain ⟨p, h1, h2, h3, h4, h5, h6⟩ := h
  exact ⟨p, h1, h2, h3, by omega, h5, by omega⟩
theorem shw_int {i : Int} (h : i.natAbs < 1000000000000) : Shw (.int i) 0 0 := by
  refine ⟨.int i, rfl, ?_, rfl, by simp [PyData.depth], ?_, by simp [PyData.bulk]⟩
  · simp only [PyData.showable]
    refine decide_eq_true ?_
    by_cases h0 : i.natAbs = 0
    · rw [h0]; decide
    · exact (Nat.log2_lt h0).mpr (Nat.lt_of_lt_of_le h (by decide +kernel))
  · simp only [PyData.leavesShort]
    exact decide_eq_true (PyData.shown_int_le (by simpa using h))
theorem shw_non : Shw .non 0 0 := ⟨.none, rfl, rfl, rfl, by simp [PyData.depth], rfl, by simp [PyData.bulk]⟩
theorem shw_bl (b : Bool) : Shw (.bl b) 0 0 := ⟨.bool b, rfl, rfl, rfl, by simp [PyData.depth], rfl, by simp [PyData.bulk]⟩
theorem shws {xs : List Val} {n b : Nat} (h : ∀ x ∈ xs, Shw x n b) : ∃ ps, toPDs xs = some ps ∧ PyData.showableAll ps = true ∧ PyData.hasDictAll ps = false ∧ PyData.depthAll ps ≤ n ∧ PyData.leavesShortAll 13 ps = true ∧ PyData.bulkAll ps ≤ xs.length * (b + 1) := by
  induction xs with
  | nil => exact ⟨[], rfl, rfl, rfl, by simp [PyData.depthAll], rfl, by simp [PyData.bulkAll]⟩
  | cons x xs ih =>
    obtain ⟨p, h1, h2, h3, h4, h5, h6⟩ := h x (by simp)
    obtain ⟨ps, k1, k2, k3, k4, k5, k6⟩ := ih fun y hy => h y (by simp [hy])
    refine ⟨p :: ps, by simp [toPDs, h1, k1], by simp [PyData.showableAll, h2, k2], by simp [PyData.hasDictAll, h3, k3], by simp only [PyData.depthAll]; omega, by simp [PyData.leavesShortAll, h5, k5], ?_⟩
    simp only [PyData.bulkAll, List.length_cons, Nat.succ_mul]
    omega
theorem shw_tup {xs : List Val} {n b : Nat} (h : ∀ x ∈ xs, Shw x n b) : Shw (.tup xs) (n + 1) (xs.length * (b + 1)) := by
  obtain ⟨ps, k1, k2, k3, k4, k5, k6⟩ := shws h
  exact ⟨.tuple ps, by simp [toPD, k1], by simp [PyData.showable, k2], by simp [PyData.hasDict, k3], by simp only [PyData.depth]; omega, by simp [PyData.leavesShort, k5], by simp only [PyData.bulk]; exact k6⟩
theorem shw_lst {xs : List Val} {n b : Nat} (h : ∀ x ∈ xs, Shw x n b) : Shw (.lst xs) (n + 1) (xs.length * (b + 1)) := by
  obtain ⟨ps, k1, k2, k3, k4, k5, k6⟩ := shws h
  exact ⟨.list ps, by simp [toPD, k1], by simp [PyData.showable, k2], by simp [PyData.hasDict, k3], by simp only [PyData.depth]; omega, by simp [PyData.leavesShort, k5], by simp only [PyData.bulk]; exact k6⟩
theorem shw_ints {xs : List Int} (h : ∀ x ∈ xs, x.natAbs < 1000000000000) : Shw (.tup (xs.map .int)) 1 xs.length := by
  have := shw_tup (xs := xs.map Val.int) (n := 0) (b := 0) fun x hx => by
    obtain ⟨y, hy, rfl⟩ := List.mem_map.mp hx
    exact shw_int (h y hy)
  simpa using this
/-- what repr tells -/
def rpr (d : Val) : PySem.Str := ((toPD d).getD .none).shown
theorem krepr {d : Val} {n b : Nat} (h : Shw d n b) (hn : n ≤ 60) (hb : b ≤ 1048576) : kRepr [d] = some (.v (.str (rpr d))) := by
  obtain ⟨p, h1, h2, h3, h4, h5, h6⟩ := h
  have h7 := PyData.shown_fits_bulk (B := 13) (by omega) (by omega) h5 (by simpa using Nat.le_trans h6 hb)
  rw [sizeLine_eq] at h7
  have h8 : decide (p.depth ≤ 60) = true := decide_eq_true (by omega)
  have h9 : decide (p.shown.length ≤ 16777216) = true := decide_eq_true (by simpa using h7)
  unfold kRepr reprV rpr
  simp only [h1, h2, h3, h8, h9, Bool.not_false, Bool.and_true, if_true, Option.map_some, Option.getD_some]
end KS
namespace KS
open PySem PySem.Spec PyProof.Rows L2
/-! ### comprehensions with two fors -/
theorem goGen_map {β : Type} {S : Vw} {vs : List Nat} {t : Tg} {body : Ro → Rs (List Val)} (I : Ro → Prop) (e : β → Val) (f : β → List Val) : ∀ (xs : List β) (r : Ro), (∀ x ∈ xs, ∀ r, I r → okB S (.v (e x)) = true ∧ ∃ r2, t.put (e x) (wipeR r vs) = some r2 ∧ ∃ r3, body r2 = .ok (f x) r3 ∧ I r3) → I r →
    ∃ r', goGen S vs t body (xs.map e) r = .ok (xs.flatMap f) r' ∧ I r'
  | [], r, _, h => ⟨r, rfl, h⟩
  | x :: xs, r, hs, h => by
    obtain ⟨hb, r2, e1, r3, e2, h3⟩ := hs x (by simp) r h
    obtain ⟨r', e3, h4⟩ := goGen_map I e f xs r3 (fun y hy => hs y (by simp [hy])) h3
    refine ⟨r', ?_, h4⟩
    rw [List.map_cons]
    unfold goGen
    simp only [if_pos hb, e1, e2, Rs.noex, Rs.bind, e3, List.flatMap_cons]
theorem we_map2 {β γ : Type} {S : Vw} {vs vs1 : List Nat} {t t1 : Tg} {mi mi1 : Mo (List Val)} {me : Mo Own} {r : Ro} {Q : Own → Ro → Prop} {X : PySem.Str → Val → Prop} (xs : List β) (e : β → Val) (ys : β → List γ) (e1 : γ → Val) (f : β → γ → Val)
    (q : We mi r (fun items r1 => items = xs.map e ∧ (xs.flatMap fun x => (ys x).map (f x)).length ≤ 16777216 ∧ (∀ x ∈ xs, okB S (.v (e x)) = true ∧ ∃ r2, t.put (e x) (wipeR r1 vs) = some r2 ∧ We mi1 r2 (fun items1 r3 => items1 = (ys x).map e1 ∧
      (∀ y ∈ ys x, okB S (.v (e1 y)) = true ∧ ∃ r4, t1.put (e1 y) (wipeR r3 vs1) = some r4 ∧ We me r4 (fun o r5 => o.val = f x y ∧ wipeR r5 vs1 = wipeR r3 vs1) noX) ∧ ∀ r', wipeR r' vs1 = wipeR r3 vs1 → wipeR r' vs = wipeR r1 vs) noX) ∧
      Q (.l (xs.flatMap fun x => (ys x).map (f x))) (wipeR r1 vs)) X) : We (mLc2 S vs t mi mYes vs1 t1 mi1 mYes me) r Q X := by
  unfold mLc2
  refine We.bind (q.mono (fun items r1 h => ?_) fun _ _ h => h)
  obtain ⟨rfl, hl, hs, hq⟩ := h
  obtain ⟨r', e2, h2⟩ := goGen_map (S := S) (vs := vs) (t := t) (body := elem2 S mYes mi1 vs1 t1 mYes me) (fun r => wipeR r vs = wipeR r1 vs) e (fun x => (ys x).map (f x)) xs r1 (fun x hx r hr => by
    obtain ⟨hb, r2, e3, hw⟩ := hs x hx
    refine ⟨hb, r2, by rw [hr]; exact e3, ?_⟩
    obtain ⟨items1, r3, e4, rfl, h5, h6⟩ := hw.ok
    obtain ⟨r', e7, h7⟩ := goGen_map (S := S) (vs := vs1) (t := t1) (body := elem1 mYes me) (fun r => wipeR r vs1 = wipeR r3 vs1) e1 (fun y => [f x y]) (ys x) r3 (fun y hy r hr => by
      obtain ⟨hb, r4, e5, hw⟩ := h5 y hy
      refine ⟨hb, r4, by rw [hr]; exact e5, ?_⟩
      obtain ⟨o, r5, e6, h8, h9⟩ := hw.ok
      refine ⟨r5, ?_, h9⟩
      unfold elem1
      simp only [mYes, Rs.noex, Rs.bind, if_true, e6, h8]) rfl
    refine ⟨r', ?_, h6 r' h7⟩
    unfold elem2
    simp only [mYes, Rs.noex, Rs.bind, if_true, e4, e7]
    rw [← List.map_eq_flatMap]) rfl
  simp only [e2, if_pos hl, h2]
  exact hq
end KS

namespace KS
open PySem PySem.Spec PyProof.Rows L2
/-! ### leaves, as goals -/
theorem nt {t : Bool} (h : t = false) : (!t) = true := by rw [h]; rfl
theorem nf {t : Bool} (h : t = true) : (!t) = false := by rw [h]; rfl
theorem lf {k : List Val → Option Own} {ds : List Val} {o : Own} {Q : Own → Prop} (h : k ds = some o) (q : Q o) : ∃ o, k ds = some o ∧ Q o := ⟨o, h, q⟩
theorem lfc {k : List Val → Option Own} {ds : List Val} {t : Bool} {Q : Bool → Prop} (h : k ds = some (.v (.bl t))) (q : Q t) : ∃ t, k ds = some (.v (.bl t)) ∧ Q t := ⟨t, h, q⟩
theorem lf_mul {a b : Int} {Q : Own → Prop} (h1 : small a = true) (h2 : small b = true) (q : Q (.v (.int (a * b)))) : ∃ o, kMul [.int a, .int b] = some o ∧ Q o := ⟨_, kmul_int h1 h2, q⟩
theorem lf_mod {a b : Int} {Q : Own → Prop} (h1 : 0 < b) (q : Q (.v (.int (a % b)))) : ∃ o, kMod [.int a, .int b] = some o ∧ Q o := ⟨_, kmod_int h1, q⟩
theorem lf_fdiv {a b : Int} {Q : Own → Prop} (h1 : 0 < b) (h2 : small b = true) (q : Q (.v (.int (a / b)))) : ∃ o, kFdiv [.int a, .int b] = some o ∧ Q o := ⟨_, kfdiv_int h1 h2, q⟩
theorem lf_tup {ds : List Val} {Q : Own → Prop} (h1 : ds.length ≤ 16777216) (q : Q (.v (.tup ds))) : ∃ o, KS.kTup ds = some o ∧ Q o := ⟨_, ktup h1, q⟩
theorem lf_lst {ds : List Val} {Q : Own → Prop} (h1 : ds.length ≤ 16777216) (q : Q (.l ds)) : ∃ o, KS.kLst ds = some o ∧ Q o := ⟨_, klst h1, q⟩
theorem lf_bl {t : Bool} {Q : Bool → Prop} (q : Q t) : ∃ t', (Own.v (.bl t)) = .v (.bl t') ∧ Q t' := ⟨t, rfl, q⟩
theorem lf_int {n : Int} {Q : Int → Prop} (q : Q n) : ∃ m, (Own.v (.int n)) = .v (.int m) ∧ Q m := ⟨n, rfl, q⟩
theorem ksl_lst (ds : List Val) (lo hi : Option Int) : kSl (.lst ds) lo hi = some (.l (KS.cutD ds lo hi)) := rfl
theorem ksl_tup (ds : List Val) (lo hi : Option Int) : kSl (.tup ds) lo hi = some (.v (.tup (KS.cutD ds lo hi))) := rfl
theorem ksl_scr (ns : List Int) (lo hi : Option Int) : kSl (.scr ns) lo hi = some (.l (KS.cutD (ns.map Val.int) lo hi)) := rfl
theorem cutD_map {α β : Type} (f : α → β) (xs : List α) (lo hi : Option Int) : KS.cutD (xs.map f) lo hi = (KS.cutD xs lo hi).map f := by
  simp [KS.cutD, List.map_drop, List.map_take]
theorem lf_sl {d : Val} {lo hi : Option Int} {o : Own} {Q : Own → Prop} (h : kSl d lo hi = some o) (q : Q o) : ∃ o, kSl d lo hi = some o ∧ Q o := ⟨o, h, q⟩
theorem lf_ix {o0 : Own} {n0 : Int} {e : Val} {Q : Val → Prop} {r : Ro} {i : Nat} (h : r[i]? = some (some o0)) (h1 : ixO o0 n0 = some e) (q : Q e) : ∃ n o e, intOf (.v (.int n0)) = some n ∧ r[i]? = some (some o) ∧ ixO o n = some e ∧ Q e := ⟨n0, o0, e, rfl, h, h1, q⟩
theorem lf_okB {o : Own} {A : Prop} (q : A) : okB .no o = true ∧ A := ⟨okB_no, q⟩
theorem lf_seqL {ds : List Val} {Q : List Val → Prop} (q : Q ds) : ∃ es, (Val.lst ds = .lst es ∨ Val.lst ds = .tup es ∨ ∃ ns, Val.lst ds = .scr ns ∧ es = ns.map Val.int) ∧ Q es := ⟨ds, .inl rfl, q⟩
theorem lf_seqT {ds : List Val} {Q : List Val → Prop} (q : Q ds) : ∃ es, (Val.tup ds = .lst es ∨ Val.tup ds = .tup es ∨ ∃ ns, Val.tup ds = .scr ns ∧ es = ns.map Val.int) ∧ Q es := ⟨ds, .inr (.inl rfl), q⟩
theorem lf_enumL {ds : List Val} {Q : List Val → Prop} (q : Q ds) : ∃ es, (Val.lst ds = .lst es ∨ Val.lst ds = .tup es) ∧ Q es := ⟨ds, .inl rfl, q⟩
theorem lf_enumT {ds : List Val} {Q : List Val → Prop} (q : Q ds) : ∃ es, (Val.tup ds = .lst es ∨ Val.tup ds = .tup es) ∧ Q es := ⟨ds, .inr rfl, q⟩
theorem lf_rng {n : Int} {Q : Int → Prop} (h1 : n < 4611686018427387904 ∧ -4611686018427387904 ≤ n) (q : Q n) : ∃ m : Int, [Own.v (.int n)] = [.v (.int m)] ∧ (m < 4611686018427387904 ∧ -4611686018427387904 ≤ m) ∧ Q m := ⟨n, rfl, h1, q⟩
end KS
set_option hygiene false in
local macro_rules
  | `(tactic| trivial) => `(tactic| (repeat (first | (with_reducible apply KS.w_seq) | (with_reducible apply KS.w_setN) | (with_reducible apply KS.w_set) | (with_reducible apply KS.w_retN) | (with_reducible apply KS.w_ret) | (with_reducible apply KS.w_retNone) | (with_reducible apply KS.w_exp) | (with_reducible apply KS.w_setIx) | (with_reducible apply KS.w_if) | (with_reducible apply KS.w_asg) | (with_reducible apply KS.w_par2) | (with_reducible apply KS.w_par3) | (with_reducible apply KS.w_skip) | (with_reducible apply KS.w_brk) | (with_reducible apply KS.w_cnt) | (with_reducible apply KS.we_cons) | (with_reducible apply KS.we_nil) | (with_reducible apply KS.we_c) | (with_reducible apply KS.we_p2) | (with_reducible apply KS.we_pure) | (with_reducible apply KS.we_test) | (with_reducible apply KS.we_not) | (with_reducible apply KS.we_and) | (with_reducible apply KS.we_or) | (with_reducible apply KS.we_if) | (with_reducible apply KS.we_andV) | (with_reducible apply KS.we_orV) | (with_reducible apply KS.we_notV) | (with_reducible apply KS.we_call) | (with_reducible apply KS.we_callK) | (with_reducible apply KS.we_callT) | (with_reducible apply KS.we_callL) | (with_reducible apply KS.we_chain) | (with_reducible apply KS.we_sl) | (with_reducible apply KS.we_part) | (with_reducible apply KS.we_noPart) | (with_reducible apply KS.we_seq) | (with_reducible apply KS.we_enum) | (with_reducible apply KS.we_zip) | ((with_reducible apply KS.w_frzO); (case h => rfl)) | ((with_reducible apply KS.w_retV); (case e => rfl)) | ((with_reducible apply KS.we_var); (case h => rfl)) | ((with_reducible apply KS.we_ixV); (case h => rfl)) | ((with_reducible apply KS.we_callV); (case h => rfl)) | ((with_reducible apply KS.we_varL); (case h => rfl); (case hS => rfl)) | ((with_reducible apply KS.we_callI); (case h => rfl); (case hS => rfl)) | ((with_reducible apply KS.we_chg); (case h => rfl); (case hS => rfl)) | (dsimp only [KS.val_v, KS.val_l, List.map, List.set, KS.wipeR, KS.okP, KS.okI]) | (with_reducible apply KS.lf (KS.kadd_int _ _)) | (with_reducible apply KS.lf (KS.ksub_int _ _)) | (with_reducible apply KS.lf (KS.klt_int _ _)) | (with_reducible apply KS.lf (KS.kle_int _ _)) | (with_reducible apply KS.lf (KS.kgt_int _ _)) | (with_reducible apply KS.lf (KS.kge_int _ _)) | (with_reducible apply KS.lf (KS.keq_int _ _)) | (with_reducible apply KS.lf (KS.kne_int _ _)) | (with_reducible apply KS.lf (KS.keq_str _ _)) | (with_reducible apply KS.lf (KS.kne_str _ _)) | (with_reducible apply KS.lf (KS.isi_int _)) | (with_reducible apply KS.lf (KS.isi_int_b _)) | (with_reducible apply KS.lf (KS.isi_int_t _)) | (with_reducible apply KS.lf (KS.isi_tup _)) | (with_reducible apply KS.lf (KS.isi_tup_i _)) | (with_reducible apply KS.lf (KS.isi_lst _)) | (with_reducible apply KS.lf (KS.isi_lst_t _)) | (with_reducible apply KS.lf (KS.klen_tup _)) | (with_reducible apply KS.lf (KS.klen_lst _)) | (with_reducible apply KS.lf (KS.klen_scr _)) | (with_reducible apply KS.lf (KS.ktuple_lst _)) | (with_reducible apply KS.lf (KS.ktuple_tup _)) | (with_reducible apply KS.lf (KS.kint_int _)) | (with_reducible apply KS.lf (KS.kint_bl _)) | (with_reducible apply KS.lf (KS.kabs_int _)) | (with_reducible apply KS.lf (KS.kneg_int _)) | (with_reducible apply KS.lf (KS.kmax2 _ _)) | (with_reducible apply KS.lf (KS.kmin2 _ _)) | (with_reducible apply KS.lf (KS.kis_bl _ _)) | (with_reducible apply KS.lf (KS.kisNot_bl _ _)) | (with_reducible apply KS.lf (KS.kis_non _)) | (with_reducible apply KS.lf (KS.kisNot_non _)) | (with_reducible apply KS.lfc (KS.klt_int _ _)) | (with_reducible apply KS.lfc (KS.kle_int _ _)) | (with_reducible apply KS.lfc (KS.kgt_int _ _)) | (with_reducible apply KS.lfc (KS.kge_int _ _)) | (with_reducible apply KS.lfc (KS.keq_int _ _)) | (with_reducible apply KS.lfc (KS.kne_int _ _)) | (with_reducible apply KS.lfc (KS.keq_str _ _)) | (with_reducible apply KS.lfc (KS.kne_str _ _)) | (with_reducible apply KS.lf_bl) | (with_reducible apply KS.lf_int) | (with_reducible apply KS.lf_sl (KS.ksl_lst _ _ _)) | (with_reducible apply KS.lf_sl (KS.ksl_tup _ _ _)) | (with_reducible apply KS.lf_sl (KS.ksl_scr _ _ _)) | (with_reducible apply KS.lf_okB) | (with_reducible apply KS.lf_seqL) | (with_reducible apply KS.lf_seqT) | (with_reducible apply KS.lf_enumL) | (with_reducible apply KS.lf_enumT) | ((with_reducible apply KS.lf_mul); (case h1 => (first | (with_reducible assumption) | exact KS.small_of (by omega) (by omega) | fail)); (case h2 => (first | (with_reducible assumption) | exact KS.small_of (by omega) (by omega) | fail))) | ((with_reducible apply KS.lf_mod); (case h1 => omega)) | ((with_reducible apply KS.lf_fdiv); (case h1 => omega); (case h2 => (first | (with_reducible assumption) | exact KS.small_of (by omega) (by omega) | fail))) | ((with_reducible apply KS.lf_tup); (case h1 => (simp only [List.length_cons, List.length_nil, Nat.reduceAdd]; decide))) | ((with_reducible apply KS.lf_lst); (case h1 => (simp only [List.length_cons, List.length_nil, Nat.reduceAdd]; decide))) | ((with_reducible apply KS.lf_ix); (case h => rfl); (case h1 => first | exact KS.ixO_tup (by decide) rfl | exact KS.ixO_lst (by decide) rfl | exact KS.ixO_l (by decide) rfl | fail)) | ((with_reducible apply KS.lf_rng); (case h1 => (constructor <;> omega))))))
set_option hygiene false in
local macro_rules
  | `(tactic| and_intros) => `(tactic| (repeat (first | (with_reducible apply KS.w_seq) | (with_reducible apply KS.w_setN) | (with_reducible apply KS.w_set) | (with_reducible apply KS.w_retN) | (with_reducible apply KS.w_ret) | (with_reducible apply KS.w_retNone) | (with_reducible apply KS.w_exp) | (with_reducible apply KS.w_setIx) | (with_reducible apply KS.w_if) | (with_reducible apply KS.w_asg) | (with_reducible apply KS.w_par2) | (with_reducible apply KS.w_par3) | (with_reducible apply KS.w_skip) | (with_reducible apply KS.w_brk) | (with_reducible apply KS.w_cnt) | (with_reducible apply KS.we_cons) | (with_reducible apply KS.we_nil) | (with_reducible apply KS.we_c) | (with_reducible apply KS.we_p2) | (with_reducible apply KS.we_pure) | (with_reducible apply KS.we_test) | (with_reducible apply KS.we_not) | (with_reducible apply KS.we_and) | (with_reducible apply KS.we_or) | (with_reducible apply KS.we_if) | (with_reducible apply KS.we_andV) | (with_reducible apply KS.we_orV) | (with_reducible apply KS.we_notV) | (with_reducible apply KS.we_call) | (with_reducible apply KS.we_callK) | (with_reducible apply KS.we_callT) | (with_reducible apply KS.we_callL) | (with_reducible apply KS.we_chain) | (with_reducible apply KS.we_sl) | (with_reducible apply KS.we_part) | (with_reducible apply KS.we_noPart) | (with_reducible apply KS.we_seq) | (with_reducible apply KS.we_enum) | (with_reducible apply KS.we_zip) | ((with_reducible apply KS.w_frzO); (case h => rfl)) | ((with_reducible apply KS.w_retV); (case e => rfl)) | ((with_reducible apply KS.we_var); (case h => rfl)) | ((with_reducible apply KS.we_ixV); (case h => rfl)) | ((with_reducible apply KS.we_callV); (case h => rfl)) | ((with_reducible apply KS.we_varL); (case h => rfl); (case hS => rfl)) | ((with_reducible apply KS.we_callI); (case h => rfl); (case hS => rfl)) | ((with_reducible apply KS.we_chg); (case h => rfl); (case hS => rfl)) | (dsimp only [KS.val_v, KS.val_l, List.map, List.set, KS.wipeR, KS.okP, KS.okI]) | (with_reducible apply KS.lf (KS.kadd_int _ _)) | (with_reducible apply KS.lf (KS.ksub_int _ _)) | (with_reducible apply KS.lf (KS.klt_int _ _)) | (with_reducible apply KS.lf (KS.kle_int _ _)) | (with_reducible apply KS.lf (KS.kgt_int _ _)) | (with_reducible apply KS.lf (KS.kge_int _ _)) | (with_reducible apply KS.lf (KS.keq_int _ _)) | (with_reducible apply KS.lf (KS.kne_int _ _)) | (with_reducible apply KS.lf (KS.keq_str _ _)) | (with_reducible apply KS.lf (KS.kne_str _ _)) | (with_reducible apply KS.lf (KS.isi_int _)) | (with_reducible apply KS.lf (KS.isi_int_b _)) | (with_reducible apply KS.lf (KS.isi_int_t _)) | (with_reducible apply KS.lf (KS.isi_tup _)) | (with_reducible apply KS.lf (KS.isi_tup_i _)) | (with_reducible apply KS.lf (KS.isi_lst _)) | (with_reducible apply KS.lf (KS.isi_lst_t _)) | (with_reducible apply KS.lf (KS.klen_tup _)) | (with_reducible apply KS.lf (KS.klen_lst _)) | (with_reducible apply KS.lf (KS.klen_scr _)) | (with_reducible apply KS.lf (KS.ktuple_lst _)) | (with_reducible apply KS.lf (KS.ktuple_tup _)) | (with_reducible apply KS.lf (KS.kint_int _)) | (with_reducible apply KS.lf (KS.kint_bl _)) | (with_reducible apply KS.lf (KS.kabs_int _)) | (with_reducible apply KS.lf (KS.kneg_int _)) | (with_reducible apply KS.lf (KS.kmax2 _ _)) | (with_reducible apply KS.lf (KS.kmin2 _ _)) | (with_reducible apply KS.lf (KS.kis_bl _ _)) | (with_reducible apply KS.lf (KS.kisNot_bl _ _)) | (with_reducible apply KS.lf (KS.kis_non _)) | (with_reducible apply KS.lf (KS.kisNot_non _)) | (with_reducible apply KS.lfc (KS.klt_int _ _)) | (with_reducible apply KS.lfc (KS.kle_int _ _)) | (with_reducible apply KS.lfc (KS.kgt_int _ _)) | (with_reducible apply KS.lfc (KS.kge_int _ _)) | (with_reducible apply KS.lfc (KS.keq_int _ _)) | (with_reducible apply KS.lfc (KS.kne_int _ _)) | (with_reducible apply KS.lfc (KS.keq_str _ _)) | (with_reducible apply KS.lfc (KS.kne_str _ _)) | (with_reducible apply KS.lf_bl) | (with_reducible apply KS.lf_int) | (with_reducible apply KS.lf_sl (KS.ksl_lst _ _ _)) | (with_reducible apply KS.lf_sl (KS.ksl_tup _ _ _)) | (with_reducible apply KS.lf_sl (KS.ksl_scr _ _ _)) | (with_reducible apply KS.lf_okB) | (with_reducible apply KS.lf_seqL) | (with_reducible apply KS.lf_seqT) | (with_reducible apply KS.lf_enumL) | (with_reducible apply KS.lf_enumT) | ((with_reducible apply KS.lf_mul); (case h1 => (first | (with_reducible assumption) | exact KS.small_of (by omega) (by omega) | fail)); (case h2 => (first | (with_reducible assumption) | exact KS.small_of (by omega) (by omega) | fail))) | ((with_reducible apply KS.lf_mod); (case h1 => omega)) | ((with_reducible apply KS.lf_fdiv); (case h1 => omega); (case h2 => (first | (with_reducible assumption) | exact KS.small_of (by omega) (by omega) | fail))) | ((with_reducible apply KS.lf_tup); (case h1 => (simp only [List.length_cons, List.length_nil, Nat.reduceAdd]; decide))) | ((with_reducible apply KS.lf_lst); (case h1 => (simp only [List.length_cons, List.length_nil, Nat.reduceAdd]; decide))) | ((with_reducible apply KS.lf_ix); (case h => rfl); (case h1 => first | exact KS.ixO_tup (by decide) rfl | exact KS.ixO_lst (by decide) rfl | exact KS.ixO_l (by decide) rfl | fail)) | ((with_reducible apply KS.lf_rng); (case h1 => (constructor <;> omega))) | ((with_reducible apply KS.we_ite_t); (case h => (first | (with_reducible rfl) | decide | (with_reducible assumption) | exact decide_eq_true (by omega) | exact decide_eq_false (by omega) | exact KS.nt (decide_eq_false (by omega)) | exact KS.nf (decide_eq_true (by omega)) | fail))) | ((with_reducible apply KS.we_ite_f); (case h => (first | (with_reducible rfl) | decide | (with_reducible assumption) | exact decide_eq_true (by omega) | exact decide_eq_false (by omega) | exact KS.nt (decide_eq_false (by omega)) | exact KS.nf (decide_eq_true (by omega)) | fail))) | ((with_reducible apply KS.we_ite_t); (case h => (first | (simp <;> omega) | (simp [*] <;> omega) | fail))) | ((with_reducible apply KS.we_ite_f); (case h => (first | (simp <;> omega) | (simp [*] <;> omega) | fail))))))
set_option Elab.async false
set_option linter.all false
set_option maxRecDepth 100000
set_option maxHeartbeats 4000000
namespace KS
open PySem PySem.Spec PyProof.Rows L2
/-! ### what is wished of raise, try, sets, dicts -/
section
variable {m : Mo Own} {r : Ro} {P : Post} {S : Vw} {i : Nat} {d : Val} {Q : Own → Ro → Prop} {X : PySem.Str → Val → Prop}
theorem w_raise {n : PySem.Str} (h : We m r (fun o _ => ∃ d, o = .v d ∧ okB S (.v d) = true ∧ P.ex n d) P.ex) : W (sRaise S n m) r P := by
  unfold W sRaise We at *
  cases e : m r with
  | ok o r1 =>
    rw [e] at h
    obtain ⟨d, rfl, h1, h2⟩ := h
    simp only [if_pos h1]; exact h2
  | ex n v => rw [e] at h; exact h
  | bad => rw [e] at h; exact h.elim
theorem w_raiseN {n : PySem.Str} (h : We m r (fun o _ => ∃ d, o = .v d ∧ P.ex n d) P.ex) : W (sRaise .no n m) r P := w_raise (h.mono (fun o _ ⟨d, h1, h2⟩ => ⟨d, h1, okB_no, h2⟩) fun _ _ h => h)
theorem w_heard_ok {LP : Nat → List Val → List Val → RP} {ok : PySem.Str → Bool} {ib ic ia ie n : Nat} {caps : List Val} {o : Own} (h : r[ia]? = some (some (.v (.lam n caps)))) (e : LP n caps [] = .ok o) (q : P.nx (r.set ib (some o))) : W (sHeard LP ok ib ic ia ie) r P := by
  unfold W sHeard; simp only [h, e]; exact q
theorem w_heard_ex {LP : Nat → List Val → List Val → RP} {ok : PySem.Str → Bool} {ib ic ia ie n : Nat} {caps : List Val} {m : PySem.Str} {v : Val} (h : r[ia]? = some (some (.v (.lam n caps)))) (e : LP n caps [] = .ex m v) (h1 : ok m = true) (h2 : ic < r.length) (q : P.nx ((r.set ie none).set ic (some (.v (.exc m v))))) : W (sHeard LP ok ib ic ia ie) r P := by
  unfold W sHeard; simp only [h, e, if_pos (And.intro h1 h2)]; exact q
theorem we_lenV {o0 : Own} (h : r[i]? = some (some o0)) (q : ∃ o, kLen [o0.val] = some o ∧ Q o r) : We (mLenV i) r Q X := by
  obtain ⟨o, h1, h2⟩ := q
  refine We.of ?_; unfold mLenV; simp only [h, h1]; exact h2
/-- what is gathered by a comprehension that only reads -/
theorem we_ac {β : Type} {pt : List (List Val) → List Val → Bool} {vs : List Nat} {t : Tg} {mi : Mo (List Val)} {me : Mo (List Own)} {fin : List (List Val) → Option Own} (xs : List β) (e : β → Val) (f : β → List Val)
    (q : We mi r (fun items r1 => items = xs.map e ∧ xs.length ≤ 16777216 ∧ (∀ x ∈ xs, okB S (.v (e x)) = true ∧ ∃ r2, t.put (e x) (wipeR r1 vs) = some r2 ∧ We me r2 (fun os r3 => os.all Own.isV = true ∧ os.map Own.val = f x ∧ wipeR r3 vs = wipeR r1 vs) noX) ∧
      (∀ (acc : List (List Val)), ∀ x ∈ xs, acc.length < xs.length → pt acc (f x) = true) ∧ ∃ o, fin (xs.map f) = some o ∧ Q o (wipeR r1 vs)) X) : We (mAc pt S vs t mi mYes me fin) r Q X := by
  unfold mAc
  refine We.bind (q.mono (fun items r1 h => ?_) fun _ _ h => h)
  obtain ⟨rfl, h1, h2, h3, o, h4, h5⟩ := h
  rw [if_pos (by simpa using h1)]
  have gen : ∀ (ys : List β) (acc : List (List Val)) (r : Ro), (∀ x ∈ ys, x ∈ xs) → acc.length + ys.length = xs.length → wipeR r vs = wipeR r1 vs → ∃ r', compGoA pt S vs t mYes me acc (ys.map e) r = .ok (acc ++ ys.map f) r' ∧ wipeR r' vs = wipeR r1 vs := by
    intro ys
    induction ys with
    | nil => intro acc r _ _ h; exact ⟨r, by simp [compGoA], h⟩
    | cons y ys ih =>
      intro acc r hs hl h
      obtain ⟨hb, r2, e1, hw⟩ := h2 y (hs y (by simp))
      obtain ⟨os, r3, e2, h6, h7, h8⟩ := hw.ok
      have hp := h3 acc y (hs y (by simp)) (by rw [List.length_cons] at hl; omega)
      obtain ⟨r', e3, h9⟩ := ih (acc ++ [f y]) r3 (fun x hx => hs x (by simp [hx])) (by rw [List.length_append]; simp at hl ⊢; omega) h8
      refine ⟨r', ?_, h9⟩
      rw [List.map_cons]
      unfold compGoA
      simp only [if_pos hb, h, e1, mYes, Rs.noex, Rs.bind, if_true, e2, h6, h7, hp, Bool.and_self]
      rw [e3]
      simp
  obtain ⟨r', e, h6⟩ := gen xs [] r1 (fun _ h => h) (by simp) rfl
  rw [e]
  simp only [Rs.noex, Rs.bind, List.nil_append, h4, h6]
  exact h5
end
/-! ### leaves -/
theorem kltA_rows (a b : List Int) : kLtA [.tup (a.map .int), .tup (b.map .int)] = some (.v (.bl (HT.lexLt a b))) := by
  simp [kLtA, valInts_map]
theorem klenSet_tup {a : List Int} (h : a.length < 4000) : kLenSet [.tup (a.map .int)] = some (.v (.int (ddup a).length)) := by
  simp [kLenSet, valInts_map, h]
theorem klenSet_lst {a : List Int} (h : a.length < 4000) : kLenSet [.lst (a.map .int)] = some (.v (.int (ddup a).length)) := by
  simp [kLenSet, valInts_map, h]
theorem ksortSet_rows {rs : List (List Int)} (h : okRows rs = true) : kSortSet [.lst (rs.map rowV)] = some (.l ((sortT rs).map rowV)) := by
  simp [kSortSet, rowsOfV_map, h]
theorem mem_sortT {rs : List (List Int)} {x : List Int} : x ∈ sortT rs ↔ x ∈ rs := by
  unfold sortT
  rw [(List.mergeSort_perm _ _).mem_iff, mem_ddup]
end KS
set_option Elab.async false
set_option linter.all false
set_option maxRecDepth 100000
set_option maxHeartbeats 4000000
namespace KS
open PySem PySem.Spec PyProof.Rows L2
open PySem.W (dataLe keyToks keyToksAll alike alikeAll)
/-! ### rows of ints in their order -/
theorem lt_irrefl : ∀ (a : List Int), HT.lexLt a a = false
  | [] => rfl
  | x :: a => by rw [HT.lexLt_cons, if_pos rfl]; exact lt_irrefl a
theorem lt_trans : ∀ {a b c : List Int}, HT.lexLt a b = true → HT.lexLt b c = true → HT.lexLt a c = true
  | _, [], [], h, _ => h
  | [], _ :: _, [], _, h => by cases h
  | _ :: _, _ :: _, [], _, h => by cases h
  | [], [], _ :: _, h, _ => by cases h
  | _ :: _, [], _ :: _, h, _ => by cases h
  | [], _ :: _, _ :: _, _, _ => rfl
  | x :: a, y :: b, z :: c, h1, h2 => by
    rw [HT.lexLt_cons] at h1 h2 ⊢
    by_cases e1 : x = y
    · subst e1
      rw [if_pos rfl] at h1
      by_cases e2 : x = z
      · rw [if_pos e2] at h2 ⊢; exact lt_trans h1 h2
      · rw [if_neg e2] at h2 ⊢; exact h2
    · rw [if_neg e1] at h1
      have h1 := of_decide_eq_true h1
      by_cases e2 : y = z
      · subst e2
        rw [if_neg e1]; exact decide_eq_true h1
      · rw [if_neg e2] at h2
        have h2 := of_decide_eq_true h2
        rw [if_neg (by omega)]; exact decide_eq_true (by omega)
theorem lt_total : ∀ {a b : List Int}, HT.lexLt a b = false → HT.lexLt b a = false → a = b
  | [], [], _, _ => rfl
  | [], _ :: _, h, _ => by cases h
  | _ :: _, [], _, h => by cases h
  | x :: a, y :: b, h1, h2 => by
    rw [HT.lexLt_cons] at h1 h2
    by_cases e : x = y
    · subst e
      rw [if_pos rfl] at h1 h2
      rw [lt_total h1 h2]
    · rw [if_neg e] at h1
      rw [if_neg (Ne.symm e)] at h2
      have h1 := of_decide_eq_false h1
      have h2 := of_decide_eq_false h2
      omega
theorem lt_asymm {a b : List Int} (h : HT.lexLt a b = true) : HT.lexLt b a = false := by
  cases e : HT.lexLt b a with
  | false => rfl
  | true => have := lt_trans h e; rw [lt_irrefl] at this; cases this
def rowLe (a b : List Int) : Bool := !HT.lexLt b a
theorem rowLe_trans (a b c : List Int) (h1 : rowLe a b = true) (h2 : rowLe b c = true) : rowLe a c = true := by
  unfold rowLe at *
  rw [Bool.not_eq_true'] at *
  cases e : HT.lexLt c a with
  | false => rfl
  | true =>
    cases e2 : HT.lexLt a b with
    | true => rw [lt_trans e e2] at h2; cases h2
    | false => rw [lt_total e2 h1] at e; rw [e] at h2; cases h2
theorem rowLe_total (a b : List Int) : (rowLe a b || rowLe b a) = true := by
  unfold rowLe
  cases e : HT.lexLt b a with
  | false => rfl
  | true => rw [lt_asymm e]; rfl
theorem rowLe_anti {a b : List Int} (h1 : rowLe a b = true) (h2 : rowLe b a = true) : a = b := by
  unfold rowLe at *
  rw [Bool.not_eq_true'] at *
  exact lt_total h2 h1
/-- strictly ascending -/
def Rising (rs : List (List Int)) : Prop := rs.Pairwise fun a b => HT.lexLt a b = true
theorem Rising.nodup {rs : List (List Int)} (h : Rising rs) : rs.Nodup := by
  refine List.Pairwise.imp (fun {a b} h e => ?_) h
  rw [e, lt_irrefl] at h; cases h
theorem Rising.sub {rs qs : List (List Int)} (h : Rising rs) (s : List.Sublist qs rs) : Rising qs := List.Pairwise.sublist s h
theorem Rising.le {rs : List (List Int)} (h : Rising rs) : rs.Pairwise fun a b => rowLe a b = true :=
  List.Pairwise.imp (fun {a b} h => by unfold rowLe; rw [lt_asymm h]; rfl) h
def sortR (rs : List (List Int)) : List (List Int) := rs.mergeSort rowLe
theorem sortR_perm (rs : List (List Int)) : (sortR rs).Perm rs := List.mergeSort_perm _ _
theorem sortR_rising {rs : List (List Int)} (h : rs.Nodup) : Rising (sortR rs) := by
  have h1 := List.pairwise_mergeSort (le := rowLe) rowLe_trans rowLe_total rs
  have h2 : (sortR rs).Nodup := (sortR_perm rs).nodup_iff.mpr h
  refine List.Pairwise.imp (fun {a b} h => ?_) (List.Pairwise.and h1 h2)
  obtain ⟨h3, h4⟩ := h
  cases e : HT.lexLt a b with
  | true => rfl
  | false =>
    unfold rowLe at h3
    rw [Bool.not_eq_true'] at h3
    exact (h4 (lt_total e h3)).elim
theorem rising_uniq {rs qs : List (List Int)} (h1 : Rising rs) (h2 : Rising qs) (h : ∀ x, x ∈ rs ↔ x ∈ qs) : rs = qs :=
  List.Perm.eq_of_pairwise (le := fun a b => rowLe a b = true) (fun a b _ _ h1 h2 => rowLe_anti h1 h2) h1.le h2.le ((List.perm_ext_iff_of_nodup h1.nodup h2.nodup).mpr h)
theorem sortR_eq {rs : List (List Int)} (h : Rising rs) : sortR rs = rs := rising_uniq (sortR_rising h.nodup) h fun x => (sortR_perm rs).mem_iff
theorem lex_ints : ∀ (a b : List Int), PyProof.Rows.lexLt itemOrd (keyToksAll (a.map PyData.int)) (keyToksAll (b.map PyData.int)) = HT.lexLt a b
  | [], [] => by simp [keyToksAll, lex_self, HT.lexLt, PyProof.Rows.lexLt, itemLt]
  | [], y :: b => by
    show PyProof.Rows.lexLt itemOrd [.inl 0] (keyToksAll (.int y :: b.map PyData.int)) = true
    rw [PySem.W.toks_all_cons, lex_diff (by simp)]; rfl
  | x :: a, [] => by
    show PyProof.Rows.lexLt itemOrd (keyToksAll (.int x :: a.map PyData.int)) [.inl 0] = false
    rw [PySem.W.toks_all_cons, lex_diff (by simp)]; rfl
  | x :: a, y :: b => by
    show PyProof.Rows.lexLt itemOrd (keyToksAll (.int x :: a.map PyData.int)) (keyToksAll (.int y :: b.map PyData.int)) = _
    rw [PySem.W.toks_all_cons, PySem.W.toks_all_cons, lex_self]
    show PyProof.Rows.lexLt itemOrd (.inl x :: keyToksAll (a.map PyData.int)) (.inl y :: keyToksAll (b.map PyData.int)) = _
    rw [HT.lexLt_cons]
    by_cases e : x = y
    · subst e
      rw [if_pos rfl, lex_self]; exact lex_ints a b
    · rw [if_neg e, lex_diff (fun z => e (Sum.inl.inj z))]; rfl
theorem toPDs_ints : ∀ (ns : List Int), toPDs (ns.map Val.int) = some (ns.map PyData.int)
  | [] => rfl
  | n :: ns => by simp [toPDs, toPD, toPDs_ints ns]
theorem toPD_row (r : List Int) : toPD (rowV r) = some (.tuple (r.map PyData.int)) := by simp [rowV, toPD, toPDs_ints]
theorem toPDs_rows : ∀ (rs : List (List Int)), toPDs (rs.map rowV) = some (rs.map fun r => PyData.tuple (r.map PyData.int))
  | [] => rfl
  | r :: rs => by simp [toPDs, toPD_row, toPDs_rows rs]
theorem alike_ints : ∀ (a b : List Int), alikeAll (a.map PyData.int) (b.map PyData.int) = true
  | [], [] => by simp [alikeAll]
  | [], _ :: _ => by simp [alikeAll]
  | _ :: _, [] => by simp [alikeAll]
  | x :: a, y :: b => by simp [alikeAll, alike, alike_ints a b]
theorem depth_ints : ∀ (a : List Int), PyData.depthAll (a.map PyData.int) ≤ 1
  | [] => by simp [PyData.depthAll]
  | x :: a => by have := depth_ints a; simp only [List.map_cons, PyData.depthAll, PyData.depth]; omega
theorem sortV_rows (rs : List (List Int)) : sortV (rs.map rowV) = (sortR rs).map rowV := by
  unfold sortV sortR
  rw [List.map_mergeSort (r := rowLe) (s := dataLe false pdOf) (f := rowV)]
  intro a _ b _
  have h : ∀ r, pdOf (rowV r) = .tuple (r.map PyData.int) := fun r => by unfold pdOf; rw [toPD_row]; rfl
  show rowLe a b = !PyProof.Rows.lexLt itemOrd (keyToks (pdOf (rowV b))) (keyToks (pdOf (rowV a)))
  rw [h, h]
  show _ = !PyProof.Rows.lexLt itemOrd (keyToksAll _) (keyToksAll _)
  rw [lex_ints]; rfl
theorem ksort_rows {rs : List (List Int)} (h : ∀ r ∈ rs, r ≠ []) : kSort [.lst (rs.map rowV)] = some (.l ((sortR rs).map rowV)) := by
  unfold kSort
  simp only [toPDs_rows]
  have hb : sortB (rs.map fun r => PyData.tuple (r.map PyData.int)) = true := by
    unfold sortB alikeB
    simp only [Bool.and_eq_true, Bool.or_eq_true, List.all_eq_true, List.mem_map, decide_eq_true_eq]
    refine ⟨⟨?_, .inl ?_⟩, ?_⟩
    · rintro _ ⟨a, _, rfl⟩ _ ⟨b, _, rfl⟩
      simp only [alike]; exact alike_ints a b
    · rintro _ ⟨a, ha, rfl⟩
      have := h a ha
      cases a with
      | nil => exact (this rfl).elim
      | cons x a => rfl
    · rintro _ ⟨a, _, rfl⟩
      have := depth_ints a
      simp only [PyData.depth]; omega
  rw [if_pos hb, sortV_rows]
theorem ksort_ints (ns : List Int) : ∃ ms : List Int, kSort [.tup (ns.map .int)] = some (.l (ms.map .int)) ∧ ms.Perm ns := by
  unfold kSort
  simp only [toPDs_ints]
  have hb : sortB (ns.map PyData.int) = true := by
    unfold sortB alikeB
    simp only [Bool.and_eq_true, Bool.or_eq_true, List.all_eq_true, List.mem_map, decide_eq_true_eq]
    refine ⟨⟨?_, .inr ?_⟩, ?_⟩
    · rintro _ ⟨a, _, rfl⟩ _ ⟨b, _, rfl⟩; rfl
    · rintro _ ⟨a, ha, rfl⟩; rfl
    · rintro _ ⟨a, _, rfl⟩; simp [PyData.depth]
  rw [if_pos hb]
  refine ⟨ns.mergeSort fun a b => dataLe false pdOf (.int a) (.int b), ?_, List.mergeSort_perm _ _⟩
  unfold sortV
  rw [List.map_mergeSort (r := fun a b => dataLe false pdOf (Val.int a) (Val.int b)) (s := dataLe false pdOf) (f := Val.int) (fun a _ b _ => rfl)]
end KS
set_option Elab.async false
set_option linter.all false
set_option maxRecDepth 100000
set_option maxHeartbeats 4000000
namespace KS
open PySem PySem.Spec PyProof.Rows L2
theorem lay_ints : ∀ (a : List Int), PyData.canLayAll0 (a.map PyData.int) = true
  | [] => by simp [PyData.canLayAll0]
  | x :: a => by simp [PyData.canLayAll0, PyData.canLay0, lay_ints a]
theorem lay_rows : ∀ (rs : List (List Int)), PyData.canLayAll0 (rs.map fun r => PyData.tuple (r.map PyData.int)) = true
  | [] => by simp [PyData.canLayAll0]
  | x :: a => by simp [PyData.canLayAll0, PyData.canLay0, lay_rows a, lay_ints]
theorem depth_rows : ∀ (rs : List (List Int)), PyData.depthAll (rs.map fun r => PyData.tuple (r.map PyData.int)) ≤ 2
  | [] => by simp [PyData.depthAll]
  | x :: a => by
    have := depth_rows a
    have := depth_ints x
    simp only [List.map_cons, PyData.depthAll, PyData.depth]; omega
theorem shaped_row (r : List Int) : SeqAt.shaped (.tuple (r.map PyData.int)) = true := by
  have := depth_ints r
  simp only [SeqAt.shaped, PyData.canLay0, lay_ints, Bool.true_and, PyData.depth]
  exact decide_eq_true (by omega)
theorem shaped_lrow (r : List Int) : SeqAt.shaped (.list (r.map PyData.int)) = true := by
  have := depth_ints r
  simp only [SeqAt.shaped, PyData.canLay0, lay_ints, Bool.true_and, PyData.depth]
  exact decide_eq_true (by omega)
theorem shaped_rows (rs : List (List Int)) : SeqAt.shaped (.list (rs.map fun r => PyData.tuple (r.map PyData.int))) = true := by
  have := depth_rows rs
  simp only [SeqAt.shaped, PyData.canLay0, lay_rows, Bool.true_and, PyData.depth]
  exact decide_eq_true (by omega)
theorem eqv_ints : ∀ (a b : List Int), PyData.eqvAll (a.map PyData.int) (b.map PyData.int) = decide (a = b)
  | [], [] => by simp [PyData.eqvAll]
  | [], _ :: _ => by simp [PyData.eqvAll]
  | _ :: _, [] => by simp [PyData.eqvAll]
  | x :: a, y :: b => by
    simp only [List.map_cons, PyData.eqvAll, PyData.eqv, eqv_ints a b]
    by_cases e : x = y <;> by_cases e2 : a = b <;> simp [e, e2]
theorem eqv_row (a b : List Int) : PyData.eqv (.tuple (a.map PyData.int)) (.tuple (b.map PyData.int)) = decide (a = b) := by simp only [PyData.eqv, eqv_ints]
theorem vin_rows (r : List Int) (rs : List (List Int)) : vin (rowV r) (rs.map rowV) = some (decide (r ∈ rs)) := by
  unfold vin
  simp only [toPD_row, toPDs_rows, shaped_row, shaped_rows, Bool.and_self, if_true, List.any_map, Function.comp_def, eqv_row]
  congr 1
  rw [Bool.eq_iff_iff]
  simp only [List.any_eq_true, decide_eq_true_eq]
  exact ⟨fun ⟨x, h, e⟩ => e ▸ h, fun h => ⟨r, h, rfl⟩⟩
theorem kin_rows (r : List Int) (rs : List (List Int)) : kIn [.tup (r.map .int), .tup (rs.map rowV)] = some (.v (.bl (decide (r ∈ rs)))) := by
  have := vin_rows r rs
  unfold rowV at this
  simp only [kIn]; unfold rowV; rw [this]; rfl
theorem knin_rows (r : List Int) (rs : List (List Int)) : kNotIn [.tup (r.map .int), .tup (rs.map rowV)] = some (.v (.bl (!decide (r ∈ rs)))) := by
  have := vin_rows r rs
  unfold rowV at this
  simp only [kNotIn]; unfold rowV; rw [this]; rfl
theorem vin_ints (x : Int) (a : List Int) : vin (.int x) (a.map .int) = some (decide (x ∈ a)) := by
  unfold vin
  have h : SeqAt.shaped (.int x) = true := rfl
  simp only [toPD, toPDs_ints, h, shaped_lrow, Bool.and_self, if_true, List.any_map, Function.comp_def]
  congr 1
  rw [Bool.eq_iff_iff]
  simp only [List.any_eq_true, decide_eq_true_eq, PyData.eqv]
  constructor
  · rintro ⟨y, h, e⟩
    have : y = x := by simpa using e
    exact this ▸ h
  · intro h
    exact ⟨x, h, by simp⟩
theorem kin_tup (x : Int) (a : List Int) : kIn [.int x, .tup (a.map .int)] = some (.v (.bl (decide (x ∈ a)))) := by
  simp only [kIn, vin_ints]; rfl
theorem kin_lst (x : Int) (a : List Int) : kIn [.int x, .lst (a.map .int)] = some (.v (.bl (decide (x ∈ a)))) := by
  simp only [kIn, vin_ints]; rfl
theorem keq_lints (a b : List Int) : kEq [.lst (a.map .int), .lst (b.map .int)] = some (.v (.bl (decide (a = b)))) := by
  simp [kEq, veq, toPD, toPDs_ints, shaped_lrow, PyData.eqv, eqv_ints]
end KS
set_option Elab.async false
set_option linter.all false
set_option maxRecDepth 100000
set_option maxHeartbeats 4000000
namespace KL00
open PySem PySem.Spec PyProof.Rows KS
/-- a row -/
abbrev row (xs : List Int) : Val := .tup (xs.map .int)
theorem is_int_v (v lo hi : Int) : P_is_int [.int v, .int lo, .int hi] = .ok (.v (.bl (decide (lo ≤ v ∧ v ≤ hi)))) := by
  refine runP_eq rfl ?_
  unfold m_is_int
  simp only [KS.entry, List.map_cons, List.map_nil, List.length_cons, List.length_nil, Nat.reduceAdd, Nat.reduceSub, List.replicate, List.cons_append, List.nil_append]
  and_intros
  refine we_ite (fun h => ?_) fun h => ?_
  · trivial
    simp at h
    simp [h]
  · simp at h
    show RP.ok _ = _
    simp; omega
/-- a row: n entries in 0 .. w - 1 -/
def RowOk (w : Int) (n : Nat) (xs : List Int) : Prop := xs.length = n ∧ n ≤ 16777216 ∧ ∀ x ∈ xs, 0 ≤ x ∧ x < w
theorem is_row_v {w : Int} {n : Nat} {xs : List Int} (h : RowOk w n xs) : P_is_row [.int w, .int n, row xs] = .ok (.v (.bl true)) := by
  obtain ⟨rfl, hl, hx⟩ := h
  refine runP_eq rfl ?_
  unfold m_is_row
  simp only [KS.entry, List.map_cons, List.map_nil, List.length_cons, List.length_nil, Nat.reduceAdd, Nat.reduceSub, List.replicate, List.cons_append, List.nil_append]
  and_intros
  refine we_map xs .int (fun _ => .bl true) (we_seq ?_)
  trivial
  refine ⟨rfl, hl, fun x h => ⟨okB_no, _, rfl, ?_⟩, ?_⟩
  · trivial
    refine ⟨_, is_int_v _ _ _, ?_⟩
    have := hx x h
    simp [wipeR, Own.val]; omega
  trivial
  refine ⟨_, kall_map xs (fun _ => true), ?_⟩
  simp [okP]
theorem pow_small {w i : Nat} (hw : w ≤ 12) (hi : i ≤ 12) : small ((w : Int) ^ i) = true := by
  have h1 : w ^ i ≤ 12 ^ i := Nat.pow_le_pow_left hw i
  have h2 : 12 ^ i ≤ 12 ^ 12 := Nat.pow_le_pow_right (by omega) hi
  have h3 : (12 : Nat) ^ 12 = 8916100448256 := by decide
  have h4 : ((w : Int) ^ i) = ((w ^ i : Nat) : Int) := by simp
  rw [h4]
  exact small_of (by omega) (by omega)

theorem power_v {w n : Nat} (hw : w ≤ 12) (hn : n ≤ 12) : P_power [.int w, .int n] = .ok (.v (.int ((w : Int) ^ n))) := by
  refine runP_eq rfl ?_
  unfold m_power
  simp only [KS.entry, List.map_cons, List.map_nil, List.length_cons, List.length_nil, Nat.reduceAdd, Nat.reduceSub, List.replicate, List.cons_append, List.nil_append]
  trivial
  refine w_for (fun i r => ∃ x, r = [some (Own.v (.int w)), some (Own.v (.int n)), some (Own.v (.int ((w : Int) ^ i))), x]) (we_rng ?_)
  trivial
  refine ⟨⟨_, rfl⟩, ?_, ?_⟩
  · rintro i d r hd ⟨x, rfl⟩
    have hi : i < n := by have := (List.getElem?_eq_some_iff.mp hd).1; rw [intsFrom_len] at this; omega
    have h1 := pow_small hw (show i ≤ 12 by omega)
    have h2 : small (w : Int) = true := small_of (by omega) (by omega)
    refine ⟨_, rfl, ?_⟩
    trivial
    exact ⟨_, by rw [Int.pow_succ]⟩
  · rintro r ⟨x, rfl⟩
    rw [intsFrom_len]
    trivial
    simp
def rows (w : Nat) : Nat → List (List Int)
  | 0 => [[]]
  | k + 1 => (rows w k).flatMap fun row => (List.range w).map fun x => row ++ [((x : Nat) : Int)]
theorem rows_len (w k : Nat) : (rows w k).length = w ^ k := by
  induction k with
  | zero => simp [rows]
  | succ k ih => rw [rows, List.length_flatMap]; simp [List.map_const', ih, Nat.pow_succ]
theorem rows_ok {w k : Nat} {row : List Int} (h : row ∈ rows w k) : row.length = k ∧ ∀ x ∈ row, 0 ≤ x ∧ x < (w : Int) := by
  induction k generalizing row with
  | zero => simp [rows] at h; subst h; simp
  | succ k ih =>
    simp only [rows, List.mem_flatMap, List.mem_map, List.mem_range] at h
    obtain ⟨r, hr, x, hx, rfl⟩ := h
    obtain ⟨h1, h2⟩ := ih hr
    refine ⟨by simp [h1], fun y hy => ?_⟩
    rcases List.mem_append.mp hy with z | z
    · exact h2 y z
    · obtain rfl : y = _ := by simpa using z
      omega

theorem look_number_v {v lo hi : Int} (h : lo ≤ v ∧ v ≤ hi) : P_look_at_number [.int v, .int lo, .int hi] = .ok (.v .non) := by
  refine runP_eq rfl ?_
  unfold m_look_at_number
  simp only [KS.entry, List.map_cons, List.map_nil, List.length_cons, List.length_nil, Nat.reduceAdd, Nat.reduceSub, List.replicate, List.cons_append, List.nil_append]
  trivial
  refine ⟨_, is_int_v _ _ _, ?_⟩
  and_intros
theorem look_worths_v {w : Nat} (h1 : 1 ≤ w) (h2 : w ≤ 12) : P_look_at_worths [.int w] = .ok (.v .non) := by
  refine runP_eq rfl ?_
  unfold m_look_at_worths
  simp only [KS.entry, List.map_cons, List.map_nil, List.length_cons, List.length_nil, Nat.reduceAdd, Nat.reduceSub, List.replicate, List.cons_append, List.nil_append]
  trivial
  refine ⟨_, look_number_v (by omega), ?_⟩
  trivial

/-! ### the rows of a relation -/
theorem mem_rows {w k : Nat} {r : List Int} : r ∈ rows w k ↔ r.length = k ∧ ∀ x ∈ r, 0 ≤ x ∧ x < (w : Int) := by
  refine ⟨rows_ok, ?_⟩
  induction k generalizing r with
  | zero =>
    rintro ⟨h, _⟩
    rw [List.length_eq_zero_iff.mp h]; simp [rows]
  | succ k ih =>
    rintro ⟨h, h2⟩
    have hne : r ≠ [] := by intro e; rw [e] at h; simp at h
    obtain ⟨h3, h4⟩ := h2 (r.getLast hne) (List.getLast_mem hne)
    simp only [rows, List.mem_flatMap, List.mem_map, List.mem_range]
    refine ⟨r.dropLast, ih ⟨by rw [List.length_dropLast]; omega, fun x hx => h2 x ((List.dropLast_sublist _).subset hx)⟩, (r.getLast hne).toNat, by omega, ?_⟩
    rw [show (((r.getLast hne).toNat : Nat) : Int) = r.getLast hne by omega]
    exact List.dropLast_concat_getLast hne
theorem lt_append : ∀ {a b : List Int} (c d : List Int), a.length = b.length → HT.lexLt (a ++ c) (b ++ d) = if a = b then HT.lexLt c d else HT.lexLt a b
  | [], [], c, d, _ => by simp
  | [], _ :: _, _, _, h => by simp at h
  | _ :: _, [], _, _, h => by simp at h
  | x :: a, y :: b, c, d, h => by
    rw [List.cons_append, List.cons_append, HT.lexLt_cons, HT.lexLt_cons]
    by_cases e : x = y
    · subst e
      rw [if_pos rfl, if_pos rfl, lt_append c d (by simpa using h)]
      by_cases e2 : a = b
      · rw [if_pos e2, if_pos (by rw [e2])]
      · rw [if_neg e2, if_neg (fun z => e2 (List.cons.inj z).2)]
    · rw [if_neg e, if_neg e, if_neg (fun z => e (List.cons.inj z).1)]
/-- each row of some with each of others behind it -/
def prod (xs ys : List (List Int)) : List (List Int) := xs.flatMap fun r => ys.map fun q => r ++ q
theorem prod_rising {k : Nat} {xs ys : List (List Int)} (hk : ∀ r ∈ xs, r.length = k) (h1 : Rising xs) (h2 : Rising ys) : Rising (prod xs ys) := by
  unfold prod
  induction xs with
  | nil => exact List.Pairwise.nil
  | cons x xs ih =>
    rw [List.flatMap_cons]
    unfold Rising at *
    rw [List.pairwise_cons] at h1
    rw [List.pairwise_append]
    refine ⟨?_, ih (fun r hr => hk r (by simp [hr])) h1.2, ?_⟩
    · rw [List.pairwise_map]
      refine h2.imp fun {a b} h => ?_
      rw [lt_append _ _ rfl, if_pos rfl]; exact h
    · intro a ha b hb
      obtain ⟨q, _, rfl⟩ := List.mem_map.mp ha
      obtain ⟨y, hy, hb⟩ := List.mem_flatMap.mp hb
      obtain ⟨q2, _, rfl⟩ := List.mem_map.mp hb
      have h3 := h1.1 y hy
      rw [lt_append _ _ (by rw [hk x (by simp), hk y (by simp [hy])]), if_neg (fun e => by rw [e, lt_irrefl] at h3; cases h3)]
      exact h3
theorem ones_rising (w : Nat) : Rising ((List.range w).map fun (x : Nat) => [(x : Int)]) := by
  unfold Rising
  rw [List.pairwise_map]
  refine (List.pairwise_lt_range (n := w)).imp fun {a b} h => ?_
  rw [HT.lexLt_cons, if_neg (by omega)]; exact decide_eq_true (by omega)
theorem rows_succ (w k : Nat) : rows w (k + 1) = prod (rows w k) ((List.range w).map fun (x : Nat) => [(x : Int)]) := by
  simp [rows, prod, Function.comp_def]
theorem rows_rising (w k : Nat) : Rising (rows w k) := by
  induction k with
  | zero => simp [rows, Rising]
  | succ k ih => rw [rows_succ]; exact prod_rising (fun r hr => (rows_ok hr).1) ih (ones_rising w)
end KL00
set_option Elab.async false
set_option linter.all false
set_option maxRecDepth 100000
set_option maxHeartbeats 4000000
namespace KL00
open PySem PySem.Spec PyProof.Rows KS
theorem zipT_map {α : Type} (f : α → Val) (xs ys : List α) : zipT (xs.map f) (ys.map f) = (xs.zip ys).map fun p => Val.tup [f p.1, f p.2] := by
  induction xs generalizing ys with
  | nil => simp [zipT]
  | cons x xs ih => cases ys with
    | nil => simp [zipT]
    | cons y ys => simp only [List.map_cons, zipT, List.zip_cons_cons, ih]
theorem rising_zip : ∀ {rs : List (List Int)}, Rising rs → ∀ p ∈ rs.zip (rs.drop 1), HT.lexLt p.1 p.2 = true
  | [], _, p, h => by simp at h
  | [x], _, p, h => by simp at h
  | x :: y :: rs, hr, p, h => by
    unfold Rising at hr
    rw [List.pairwise_cons] at hr
    simp only [List.drop_succ_cons, List.drop_zero, List.zip_cons_cons, List.mem_cons] at h
    rcases h with rfl | h
    · exact hr.1 y (by simp)
    · exact rising_zip hr.2 p (by simpa using h)
theorem cut1 {α : Type} (xs : List α) : KS.cutD xs (some 1) none = xs.drop 1 := by
  unfold KS.cutD
  have h1 : HT.sIx xs.length 0 (some 1) = min 1 xs.length := by simp [HT.sIx]
  have h2 : HT.sIx xs.length xs.length none = xs.length := by simp [HT.sIx]
  rw [h1, h2]
  cases xs with
  | nil => simp
  | cons x xs => simp
theorem is_rising_v {rs : List (List Int)} (hr : Rising rs) (hl : rs.length ≤ 16777216) : P_is_rising [.tup (rs.map row)] = .ok (.v (.bl true)) := by
  refine runP_eq rfl ?_
  unfold m_is_rising
  simp only [KS.entry, List.map_cons, List.map_nil, List.length_cons, List.length_nil, Nat.reduceAdd, Nat.reduceSub, List.replicate, List.cons_append, List.nil_append]
  trivial
  refine we_map (rs.zip (rs.drop 1)) (fun p => .tup [row p.1, row p.2]) (fun _ => .bl true) (we_zip ?_)
  trivial
  refine ⟨by simp [okB_no], rs.map row, (rs.drop 1).map row, .inr ?_, zipT_map row rs (rs.drop 1), ?_, fun p hp => ⟨okB_no, _, rfl, ?_⟩, ?_⟩
  · rw [cut1]; simp [Own.val]
  · simp; omega
  · trivial
    refine ⟨_, kltA_rows _ _, ?_⟩
    rw [rising_zip hr p hp]
    simp [Own.val, wipeR]
  trivial
  refine ⟨_, kall_map (rs.zip (rs.drop 1)) (fun _ => true), ?_⟩
  simp [okP]
/-- a relation -/
structure RelOk (w k : Nat) (rs : List (List Int)) : Prop where
  w1 : 1 ≤ w
  w2 : w ≤ 12
  k1 : 1 ≤ k
  k2 : k ≤ 81
  len : rs.length ≤ 2000
  ok : ∀ r ∈ rs, r.length = k ∧ ∀ x ∈ r, 0 ≤ x ∧ x < (w : Int)
  ris : Rising rs
theorem RelOk.row {w k : Nat} {rs : List (List Int)} (h : RelOk w k rs) {r : List Int} (hr : r ∈ rs) : RowOk w k r := ⟨(h.ok r hr).1, by have := h.k2; omega, (h.ok r hr).2⟩
abbrev relV (k : Nat) (rs : List (List Int)) : Val := .tup [.int k, .tup (rs.map row)]
theorem is_relation_v {w k : Nat} {rs : List (List Int)} (h : RelOk w k rs) : P_is_relation [.int w, relV k rs] = .ok (.v (.bl true)) := by
  have h1 := h.k1
  have h2 := h.k2
  have h3 := h.len
  refine runP_eq rfl ?_
  unfold m_is_relation
  simp only [KS.entry, List.map_cons, List.map_nil, List.length_cons, List.length_nil, Nat.reduceAdd, Nat.reduceSub, List.replicate, List.cons_append, List.nil_append]
  trivial
  refine ⟨_, look_worths_v h.w1 h.w2, ?_⟩
  and_intros
  refine ⟨_, is_int_v _ _ _, ?_⟩
  and_intros
  refine ⟨_, rfl, ?_⟩
  and_intros
  refine we_map rs row (fun _ => .bl true) (we_seq ?_)
  trivial
  refine ⟨rfl, by omega, fun r hr => ⟨okB_no, _, rfl, ?_⟩, ?_⟩
  · trivial
    refine ⟨_, is_row_v (h.row hr), ?_⟩
    simp [Own.val, wipeR]
  trivial
  refine ⟨_, kall_map rs (fun _ => true), ?_⟩
  and_intros
  refine ⟨_, is_rising_v h.ris (by omega), ?_⟩
  trivial
theorem look_rel_v {w : Nat} {ds : List (Nat × List (List Int))} (h1 : 1 ≤ w) (h2 : w ≤ 12) (h : ∀ d ∈ ds, RelOk w d.1 d.2) : P_look_at_relations [.int w, .tup (ds.map fun d => relV d.1 d.2)] = .ok (.v .non) := by
  refine runP_eq rfl ?_
  unfold m_look_at_relations
  simp only [KS.entry, List.map_cons, List.map_nil, List.length_cons, List.length_nil, Nat.reduceAdd, Nat.reduceSub, List.replicate, List.cons_append, List.nil_append]
  trivial
  refine ⟨_, look_worths_v h1 h2, ?_⟩
  trivial
  refine w_for (fun i r => ∃ x, r = [some (Own.v (.int w)), some (Own.v (.tup (ds.map fun d => relV d.1 d.2))), x]) (we_seq ?_)
  trivial
  refine ⟨⟨_, rfl⟩, ?_, ?_⟩
  · rintro i d r hd ⟨x, rfl⟩
    rw [List.getElem?_map] at hd
    cases hdi : ds[i]? with
    | none => rw [hdi] at hd; cases hd
    | some y =>
      rw [hdi] at hd; cases hd
      refine ⟨_, rfl, ?_⟩
      trivial
      refine ⟨_, is_relation_v (h y (List.mem_of_getElem? hdi)), ?_⟩
      and_intros
      exact ⟨_, rfl⟩
  · rintro r ⟨x, rfl⟩
    trivial
theorem look_rel1 {w k : Nat} {rs : List (List Int)} (h : RelOk w k rs) : P_look_at_relations [.int w, .tup [relV k rs]] = .ok (.v .non) := look_rel_v (ds := [(k, rs)]) h.w1 h.w2 (by simpa using h)
theorem look_rel2 {w k l : Nat} {rs qs : List (List Int)} (h : RelOk w k rs) (h' : RelOk w l qs) : P_look_at_relations [.int w, .tup [relV k rs, relV l qs]] = .ok (.v .non) := look_rel_v (ds := [(k, rs), (l, qs)]) h.w1 h.w2 (by
  intro d hd
  simp at hd
  rcases hd with rfl | rfl
  · exact h
  · exact h')
theorem look_spots_v {w k : Nat} {rs : List (List Int)} {ss : List Int} (h : RelOk w k rs) (h1 : 1 ≤ ss.length) (h2 : ss.length ≤ 81) (hs : ∀ s ∈ ss, 0 ≤ s ∧ s < (k : Int)) : P_look_at_spots [relV k rs, row ss] = .ok (.v .non) := by
  refine runP_eq rfl ?_
  unfold m_look_at_spots
  simp only [KS.entry, List.map_cons, List.map_nil, List.length_cons, List.length_nil, Nat.reduceAdd, Nat.reduceSub, List.replicate, List.cons_append, List.nil_append]
  and_intros
  refine we_map ss .int (fun _ => .bl true) (we_seq ?_)
  trivial
  refine ⟨rfl, by omega, fun s hs2 => ⟨okB_no, _, rfl, ?_⟩, ?_⟩
  · have := hs s hs2
    trivial
    refine ⟨_, is_int_v _ _ _, ?_⟩
    simp [Own.val, wipeR]; omega
  trivial
  refine ⟨_, kall_map ss (fun _ => true), ?_⟩
  and_intros
theorem size_ok {w n : Nat} (hw : w ≤ 12) (hn : n ≤ 11) (h : w ^ n ≤ 2000) : P_look_at_size [.int w, .int n] = .ok (.v .non) := by
  have e : (if (12 : Int) < (n : Int) then (12 : Int) else (n : Int)) = (n : Nat) := by rw [if_neg (by omega)]
  have e2 : ((w : Int) ^ n) = ((w ^ n : Nat) : Int) := by simp
  refine runP_eq rfl ?_
  unfold m_look_at_size
  simp only [KS.entry, List.map_cons, List.map_nil, List.length_cons, List.length_nil, Nat.reduceAdd, Nat.reduceSub, List.replicate, List.cons_append, List.nil_append]
  trivial
  refine we_ite (fun h => ?_) fun h => ?_
  · and_intros
    rw [e]
    refine ⟨_, power_v hw (by omega), ?_⟩
    rw [e2]
    and_intros
  · and_intros
    rw [e]
    refine ⟨_, power_v hw (by omega), ?_⟩
    rw [e2]
    and_intros
theorem size_ex {w n : Nat} (hw : 1 < w) (hw2 : w ≤ 12) (h : 11 < n ∨ 2000 < w ^ n) : P_look_at_size [.int w, .int n] = .ex "TooMany" (.int 2000) := by
  refine runP_eq rfl ?_
  unfold m_look_at_size
  simp only [KS.entry, List.map_cons, List.map_nil, List.length_cons, List.length_nil, Nat.reduceAdd, Nat.reduceSub, List.replicate, List.cons_append, List.nil_append]
  trivial
  refine we_ite_t (by simp; omega) ?_
  trivial
  refine we_ite (fun h2 => ?_) fun h2 => ?_
  · and_intros
    refine w_raiseN (we_c ⟨_, rfl, ?_⟩)
    rfl
  · have h2 : n ≤ 11 := by simp at h2; omega
    have h := h.resolve_left (by omega)
    have e : (if (12 : Int) < (n : Int) then (12 : Int) else (n : Int)) = (n : Nat) := by rw [if_neg (by omega)]
    have e2 : ((w : Int) ^ n) = ((w ^ n : Nat) : Int) := by simp
    and_intros
    rw [e]
    refine ⟨_, power_v hw2 (by omega), ?_⟩
    rw [e2]
    and_intros
    refine w_raiseN (we_c ⟨_, rfl, ?_⟩)
    rfl
end KL00
set_option Elab.async false
set_option linter.all false
set_option maxRecDepth 100000
set_option maxHeartbeats 4000000
namespace KL00
open PySem PySem.Spec PyProof.Rows KS
theorem kix_ints {tab : List Int} {i : Int} (h0 : 0 ≤ i) (h1 : i < tab.length) : kIx [.tup (tab.map .int), .int i] = some (.v (.int (tab.getD i.toNat 0))) := by
  refine kix_tup h0 ?_
  have h : i.toNat < tab.length := by omega
  simp [List.getElem?_map, List.getElem?_eq_getElem h, List.getD_eq_getElem?_getD]
theorem ixO_ints {tab : List Int} {i : Int} (h0 : 0 ≤ i) (h1 : i < tab.length) : ixO (.v (row tab)) i = some (.int (tab.getD i.toNat 0)) := by
  refine ixO_tup h0 ?_
  have h : i.toNat < tab.length := by omega
  simp [List.getElem?_map, List.getElem?_eq_getElem h, List.getD_eq_getElem?_getD]
theorem getD_rng {tab : List Int} {P : Int → Prop} (h : ∀ x ∈ tab, P x) {i : Nat} (hi : i < tab.length) : P (tab.getD i 0) := by
  rw [List.getD_eq_getElem?_getD, List.getElem?_eq_getElem hi]
  exact h _ (List.getElem_mem hi)
theorem pow_le {w i k : Nat} (h1 : 1 ≤ w) (h : i ≤ k) : w ^ i ≤ w ^ k := Nat.pow_le_pow_right h1 h
theorem all_rows_v {w k : Nat} (h1 : 1 ≤ w) (hw : w ≤ 12) (hs : w ^ k ≤ 65536) (hk : k ≤ 100000) : P_all_rows [.int w, .int k] = .ok (.v (.lst ((rows w k).map row))) := by
  refine runP_eq rfl ?_
  unfold m_all_rows
  simp only [KS.entry, List.map_cons, List.map_nil, List.length_cons, List.length_nil, Nat.reduceAdd, Nat.reduceSub, List.replicate, List.cons_append, List.nil_append]
  trivial
  refine w_for (fun i r => ∃ x, r = [some (Own.v (.int w)), some (Own.v (.int k)), some (Own.v (.lst ((rows w i).map row))), x, none, none]) (we_rng ?_)
  trivial
  refine ⟨⟨_, rfl⟩, ?_, ?_⟩
  · rintro i d r hd ⟨x, rfl⟩
    have hi : i < k := by have := (List.getElem?_eq_some_iff.mp hd).1; rw [intsFrom_len] at this; omega
    refine ⟨_, rfl, ?_⟩
    trivial
    refine we_map2 (rows w i) row (fun _ => List.range w) (fun x => .int x) (fun r x => row (r ++ [(x : Int)])) (we_seq ?_)
    trivial
    have e : ((rows w i).flatMap fun x => (List.range w).map fun (y : Nat) => row (x ++ [(y : Int)])) = (rows w (i + 1)).map row := by
      simp [rows, List.map_flatMap, Function.comp_def]
    have hl : (rows w i).length ≤ 65536 := by rw [rows_len]; exact Nat.le_trans (pow_le h1 (by omega)) hs
    refine ⟨rfl, ?_, fun row hr => ⟨okB_no, _, rfl, we_rng ?_⟩, ?_⟩
    · rw [e, List.length_map, rows_len]
      have := pow_le (i := i + 1) (k := k) h1 hi
      omega
    · trivial
      refine ⟨by rw [Int.toNat_natCast, intsFrom_map], fun y hy => ⟨okB_no, _, rfl, ?_⟩, fun r' h => by rw [h]; rfl⟩
      trivial
      refine ⟨_, kadd_tup (by have := (rows_ok hr).1; simp; omega), ?_⟩
      simp [Own.val, wipeR]
    · rw [e]
      trivial
      exact ⟨_, rfl⟩
  · rintro r ⟨x, rfl⟩
    rw [intsFrom_len]
    trivial
    simp

theorem full_v {w k : Nat} (h1 : 1 ≤ w) (hw : w ≤ 12) (k1 : 1 ≤ k) (hk : k ≤ 11) (hs : w ^ k ≤ 2000) : P_full [.int w, .int k] = .ok (.v (relV k (rows w k))) := by
  refine runP_eq rfl ?_
  unfold m_full
  simp only [KS.entry, List.map_cons, List.map_nil, List.length_cons, List.length_nil, Nat.reduceAdd, Nat.reduceSub, List.replicate, List.cons_append, List.nil_append]
  trivial
  refine ⟨_, look_worths_v h1 hw, ?_⟩
  trivial
  refine ⟨_, look_number_v (by omega), ?_⟩
  trivial
  refine ⟨_, size_ok hw hk hs, ?_⟩
  trivial
  refine ⟨_, all_rows_v h1 hw (by omega) (by omega), ?_⟩
  trivial
theorem full_ex {w k : Nat} (h1 : 1 < w) (hw : w ≤ 12) (k1 : 1 ≤ k) (hk : k ≤ 81) (hs : 11 < k ∨ 2000 < w ^ k) : P_full [.int w, .int k] = .ex "TooMany" (.int 2000) := by
  refine runP_eq rfl ?_
  unfold m_full
  simp only [KS.entry, List.map_cons, List.map_nil, List.length_cons, List.length_nil, Nat.reduceAdd, Nat.reduceSub, List.replicate, List.cons_append, List.nil_append]
  trivial
  refine ⟨_, look_worths_v (by omega) hw, ?_⟩
  trivial
  refine ⟨_, look_number_v (by omega), ?_⟩
  refine w_seq (w_exp (we_callX ?_))
  trivial
  exact .inr ⟨_, _, size_ex h1 hw hs, rfl, rfl⟩
theorem equal_v {w : Nat} (h1 : 1 ≤ w) (hw : w ≤ 12) : P_equal [.int w] = .ok (.v (.tup [.int 2, .tup ((List.range w).map fun (x : Nat) => row [(x : Int), (x : Int)])])) := by
  refine runP_eq rfl ?_
  unfold m_equal
  simp only [KS.entry, List.map_cons, List.map_nil, List.length_cons, List.length_nil, Nat.reduceAdd, Nat.reduceSub, List.replicate, List.cons_append, List.nil_append]
  trivial
  refine ⟨_, look_worths_v h1 hw, ?_⟩
  trivial
  refine we_map (List.range w) (fun x => .int x) (fun (x : Nat) => row [(x : Int), (x : Int)]) (we_rng ?_)
  trivial
  refine ⟨by rw [Int.toNat_natCast, intsFrom_map], by simp; omega, fun x hx => ⟨okB_no, _, rfl, ?_⟩, ?_⟩
  · trivial
    simp
  trivial
theorem both_v {w k : Nat} {rs qs : List (List Int)} (h : RelOk w k rs) (h' : RelOk w k qs) : P_both [.int w, relV k rs, relV k qs] = .ok (.v (relV k (rs.filter fun r => decide (r ∈ qs)))) := by
  have := h.len
  refine runP_eq rfl ?_
  unfold m_both
  simp only [KS.entry, List.map_cons, List.map_nil, List.length_cons, List.length_nil, Nat.reduceAdd, Nat.reduceSub, List.replicate, List.cons_append, List.nil_append]
  trivial
  refine ⟨_, look_rel2 h h', ?_⟩
  and_intros
  refine we_filter rs row (fun r => decide (r ∈ qs)) row (we_seq ?_)
  trivial
  refine ⟨rfl, by omega, fun r hr => ⟨okB_no, _, rfl, ?_⟩, ?_⟩
  · trivial
    refine ⟨_, kin_rows r qs, ?_⟩
    trivial
    refine ⟨rfl, fun _ => rfl, fun _ => ?_⟩
    trivial
    exact ⟨rfl, rfl⟩
  · trivial
theorem both_ex {w k l : Nat} {rs qs : List (List Int)} (h : RelOk w k rs) (h' : RelOk w l qs) (hne : k ≠ l) : P_both [.int w, relV k rs, relV l qs] = .ex "BadPlaces" (relV l qs) := by
  refine runP_eq rfl ?_
  unfold m_both
  simp only [KS.entry, List.map_cons, List.map_nil, List.length_cons, List.length_nil, Nat.reduceAdd, Nat.reduceSub, List.replicate, List.cons_append, List.nil_append]
  trivial
  refine ⟨_, look_rel2 h h', ?_⟩
  and_intros
  refine w_raiseN (we_var rfl ⟨_, rfl, ?_⟩)
  rfl
theorem beside_v {w k l : Nat} {rs qs : List (List Int)} (h : RelOk w k rs) (h' : RelOk w l qs) (hk : k + l ≤ 81) (hl : rs.length ≤ 40) (hl2 : qs.length ≤ 40) : P_beside [.int w, relV k rs, relV l qs] = .ok (.v (relV (k + l) (prod rs qs))) := by
  have e : (rs.flatMap fun x => qs.map fun y => row (x ++ y)) = (prod rs qs).map row := by
    simp [prod, List.map_flatMap, Function.comp_def]
  have hmul : rs.length * qs.length ≤ 40 * 40 := Nat.mul_le_mul hl hl2
  have hplen : (prod rs qs).length ≤ 1600 := by
    have : (prod rs qs).length = rs.length * qs.length := by
      unfold prod
      rw [List.length_flatMap]; simp [List.map_const']
    omega
  refine runP_eq rfl ?_
  unfold m_beside
  simp only [KS.entry, List.map_cons, List.map_nil, List.length_cons, List.length_nil, Nat.reduceAdd, Nat.reduceSub, List.replicate, List.cons_append, List.nil_append]
  trivial
  refine ⟨_, look_rel2 h h', ?_⟩
  and_intros
  simp only [List.length_map]
  refine ⟨_, kmul_int (small_of (by omega) (by omega)) (small_of (by omega) (by omega)), ?_⟩
  trivial
  refine we_ite_f ?_ ?_
  · refine decide_eq_false ?_
    have : ((rs.length : Int) * (qs.length : Int)) = ((rs.length * qs.length : Nat) : Int) := by simp
    omega
  and_intros
  refine we_map2 rs row (fun _ => qs) row (fun r q => row (r ++ q)) (we_seq ?_)
  trivial
  refine ⟨rfl, ?_, fun r hr => ⟨okB_no, _, rfl, we_seq ?_⟩, ?_⟩
  · rw [e, List.length_map]; omega
  · trivial
    refine ⟨rfl, fun q hq => ⟨okB_no, _, rfl, ?_⟩, fun r' hr' => by rw [hr']; rfl⟩
    trivial
    refine ⟨_, kadd_tup (by have := (h.ok r hr).1; have := (h'.ok q hq).1; simp; omega), ?_⟩
    simp [Own.val, wipeR]
  · rw [e]
    trivial
    simp
end KL00
set_option Elab.async false
set_option linter.all false
set_option maxRecDepth 100000
set_option maxHeartbeats 4000000
namespace KL00
open PySem PySem.Spec PyProof.Rows KS
/-- the worths of a row at spots -/
def cut (ss r : List Int) : List Int := ss.map fun s => r.getD s.toNat 0
theorem cut_ok {w k : Nat} {rs : List (List Int)} {ss : List Int} (h : RelOk w k rs) (hs : ∀ s ∈ ss, 0 ≤ s ∧ s < (k : Int)) {r : List Int} (hr : r ∈ rs) : (cut ss r).length = ss.length ∧ ∀ x ∈ cut ss r, 0 ≤ x ∧ x < (w : Int) := by
  obtain ⟨h1, h2⟩ := h.ok r hr
  refine ⟨by simp [cut], fun x hx => ?_⟩
  obtain ⟨s, hs2, rfl⟩ := List.mem_map.mp hx
  have := hs s hs2
  exact getD_rng (P := fun x => 0 ≤ x ∧ x < (w : Int)) h2 (by omega)
theorem okRows_of {rs : List (List Int)} {n : Nat} (h1 : rs.length < 64) (hn : 1 ≤ n) (h : ∀ r ∈ rs, r.length = n ∧ ∀ x ∈ r, 0 ≤ x) : okRows rs = true := by
  unfold okRows
  simp only [Bool.and_eq_true, decide_eq_true_eq, List.all_eq_true]
  refine ⟨h1, fun r hr => ?_⟩
  obtain ⟨h2, h3⟩ := h r hr
  refine ⟨⟨?_, by omega⟩, h3⟩
  cases rs with
  | nil => cases hr
  | cons q rs => rw [List.headD_cons, h2, (h q (by simp)).1]
theorem sorted_rows_v {rs : List (List Int)} {n : Nat} (h1 : rs.length < 64) (hn : 1 ≤ n) (h : ∀ r ∈ rs, r.length = n ∧ ∀ x ∈ r, 0 ≤ x) : P_sorted_rows [.int n, .lst (rs.map row)] = .ok (.v (relV n (sortT rs))) := by
  refine runP_eq rfl ?_
  unfold m_sorted_rows
  simp only [KS.entry, List.map_cons, List.map_nil, List.length_cons, List.length_nil, Nat.reduceAdd, Nat.reduceSub, List.replicate, List.cons_append, List.nil_append]
  trivial
  refine ⟨_, ksortSet_rows (okRows_of h1 hn h), ?_⟩
  trivial
  rfl
theorem turned_v {w k : Nat} {rs : List (List Int)} {ss : List Int} (h : RelOk w k rs) (hl : rs.length < 64) (h1 : 1 ≤ ss.length) (h2 : ss.length ≤ 81) (hs : ∀ s ∈ ss, 0 ≤ s ∧ s < (k : Int)) : P_turned [.int w, relV k rs, row ss] = .ok (.v (relV ss.length (sortT (rs.map (cut ss))))) := by
  refine runP_eq rfl ?_
  unfold m_turned
  simp only [KS.entry, List.map_cons, List.map_nil, List.length_cons, List.length_nil, Nat.reduceAdd, Nat.reduceSub, List.replicate, List.cons_append, List.nil_append]
  trivial
  refine ⟨_, look_rel1 h, ?_⟩
  trivial
  refine ⟨_, look_spots_v h h1 h2 hs, ?_⟩
  trivial
  refine we_map rs row (fun r => row (cut ss r)) (we_seq ?_)
  trivial
  refine ⟨rfl, by omega, fun r hr => ⟨okB_no, _, rfl, ?_⟩, ?_⟩
  · trivial
    refine we_map ss .int (fun s => .int (r.getD s.toNat 0)) (we_seq ?_)
    trivial
    refine ⟨rfl, by omega, fun s hs2 => ⟨okB_no, _, rfl, ?_⟩, ?_⟩
    · trivial
      have := hs s hs2
      have := (h.ok r hr).1
      refine ⟨_, _, _, rfl, rfl, ixO_ints (by omega) (by omega), ?_⟩
      simp [Own.val, wipeR]
    · trivial
      simp [cut, Function.comp_def]
  have e : (rs.map fun r => row (cut ss r)) = (rs.map (cut ss)).map row := by simp [Function.comp_def]
  rw [e]
  simp only [List.length_map]
  trivial
  refine ⟨_, sorted_rows_v (by rw [List.length_map]; omega) h1 (fun r hr => ?_), ?_⟩
  · obtain ⟨q, hq, rfl⟩ := List.mem_map.mp hr
    obtain ⟨h3, h4⟩ := cut_ok h hs hq
    exact ⟨h3, fun x hx => (h4 x hx).1⟩
  trivial
theorem tied_v {w k : Nat} {rs : List (List Int)} {ss : List Int} (h : RelOk w k rs) (h1 : 1 ≤ ss.length) (h2 : ss.length ≤ 81) (hs : ∀ s ∈ ss, 0 ≤ s ∧ s < (k : Int)) : P_tied [.int w, relV k rs, row ss] = .ok (.v (relV k (rs.filter fun r => decide (((ddup (cut ss r)).length : Int) = 1)))) := by
  have := h.len
  refine runP_eq rfl ?_
  unfold m_tied
  simp only [KS.entry, List.map_cons, List.map_nil, List.length_cons, List.length_nil, Nat.reduceAdd, Nat.reduceSub, List.replicate, List.cons_append, List.nil_append]
  trivial
  refine ⟨_, look_rel1 h, ?_⟩
  trivial
  refine ⟨_, look_spots_v h h1 h2 hs, ?_⟩
  trivial
  refine we_filter rs row (fun r => decide (((ddup (cut ss r)).length : Int) = 1)) row (we_seq ?_)
  trivial
  refine ⟨rfl, by omega, fun r hr => ⟨okB_no, _, rfl, ?_⟩, ?_⟩
  · trivial
    unfold mLenSc
    refine we_ac ss .int (fun s => [.int (r.getD s.toNat 0)]) (we_seq ?_)
    trivial
    refine ⟨rfl, by omega, fun s hs2 => ⟨okB_no, _, rfl, ?_⟩, fun acc x hx hl => ?_, ?_⟩
    · trivial
      have := hs s hs2
      have := (h.ok r hr).1
      refine ⟨_, _, _, rfl, rfl, ixO_ints (by omega) (by omega), ?_⟩
      trivial
      exact ⟨rfl, rfl, rfl⟩
    · exact decide_eq_true (by omega)
    · have e : (ss.map fun s => [Val.int (r.getD s.toNat 0)]) = (cut ss r).map fun n => [Val.int n] := by simp [cut, Function.comp_def]
      have hl : ((cut ss r).map fun n => [Val.int n]).length < 4000 := by simp [cut]; omega
      rw [e]
      refine ⟨.v (.int (ddup (cut ss r)).length), by rw [if_pos hl, accInts_map], ?_⟩
      trivial
      refine ⟨rfl, fun _ => rfl, fun _ => ?_⟩
      trivial
      exact ⟨rfl, rfl⟩
  · trivial
/-! ### a dict of rows -/
def rkey (r : List Int) : List L2.Key := r.map Sum.inl
theorem keyOf_row (r : List Int) : keyOfV (row r) = some (rkey r) := by
  have : row r = keyT (rkey r) := by simp [keyT, rkey, Function.comp_def, keyV]
  rw [this, keyOfV_T]
theorem rkey_inj {a b : List Int} (h : rkey a = rkey b) : a = b := by
  induction a generalizing b with
  | nil => cases b with
    | nil => rfl
    | cons y b => cases h
  | cons x a ih => cases b with
    | nil => cases h
    | cons y b =>
      simp only [rkey, List.map_cons, List.cons.injEq, Sum.inl.injEq] at h
      rw [h.1, ih h.2]
theorem putP_any (kvs : List (List L2.Key × Val)) (k k2 : List L2.Key) (v : Val) : ((putP kvs k v).any fun p => decide (p.1 = k2)) = ((kvs.any fun p => decide (p.1 = k2)) || decide (k = k2)) := by
  unfold putP
  split
  · rename_i h
    rw [List.any_map]
    have e : ∀ p : List L2.Key × Val, decide ((if p.1 = k then (p.1, v) else p).1 = k2) = decide (p.1 = k2) := fun p => by split <;> rfl
    simp only [Function.comp_def, e]
    cases hk : decide (k = k2) with
    | false => simp
    | true =>
      have := of_decide_eq_true hk
      subst this
      rw [h]; rfl
  · simp
theorem dict_any (rs : List (List Int)) (k2 : List L2.Key) : ((dictAcc (rs.map fun r => [row r, Val.bl true])).any fun p => decide (p.1 = k2)) = rs.any fun r => decide (rkey r = k2) := by
  unfold dictAcc
  have gen : ∀ (rs : List (List Int)) (kvs : List (List L2.Key × Val)), (((rs.map fun r => [row r, Val.bl true]).foldl addP kvs).any fun p => decide (p.1 = k2)) = ((kvs.any fun p => decide (p.1 = k2)) || rs.any fun r => decide (rkey r = k2)) := by
    intro rs
    induction rs with
    | nil => intro kvs; simp
    | cons r rs ih =>
      intro kvs
      rw [List.map_cons, List.foldl_cons, ih, List.any_cons]
      have e : addP kvs [row r, Val.bl true] = putP kvs (rkey r) (.bl true) := by
        unfold addP; simp only [keyOf_row]
      rw [e, putP_any, Bool.or_assoc]
  rw [gen]; rfl
theorem in_dict (r : List Int) (rs : List (List Int)) : kNotInDc [row r, dctOf (dictAcc (rs.map fun r => [row r, Val.bl true]))] = some (.v (.bl (!decide (r ∈ rs)))) := by
  unfold kNotInDc dctOf inDc
  simp only [keyOf_row, Option.map_some, List.any_map, Function.comp_def, keyOfV_T, Option.some.injEq]
  rw [dict_any]
  congr 4
  rw [Bool.eq_iff_iff]
  simp only [List.any_eq_true, decide_eq_true_eq]
  exact ⟨fun ⟨x, h, e⟩ => rkey_inj e ▸ h, fun h => ⟨r, h, rfl⟩⟩
theorem rest_v {w k : Nat} {rs : List (List Int)} (h : RelOk w k rs) (hk : k ≤ 11) (hs : w ^ k ≤ 2000) : P_rest [.int w, relV k rs] = .ok (.v (relV k ((rows w k).filter fun r => !decide (r ∈ rs)))) := by
  have := h.len
  refine runP_eq rfl ?_
  unfold m_rest
  simp only [KS.entry, List.map_cons, List.map_nil, List.length_cons, List.length_nil, Nat.reduceAdd, Nat.reduceSub, List.replicate, List.cons_append, List.nil_append]
  trivial
  refine ⟨_, look_rel1 h, ?_⟩
  trivial
  refine ⟨_, size_ok h.w2 hk hs, ?_⟩
  trivial
  unfold mDc
  refine we_ac rs row (fun r => [row r, .bl true]) (we_seq ?_)
  trivial
  refine ⟨rfl, by omega, fun r hr => ⟨okB_no, _, rfl, ?_⟩, fun acc r hr hl => ?_, ?_⟩
  · trivial
    exact ⟨rfl, rfl, rfl⟩
  · show (keyOfV (row r)).isSome = true
    rw [keyOf_row]; rfl
  refine ⟨_, rfl, ?_⟩
  trivial
  refine we_filter (rows w k) row (fun r => !decide (r ∈ rs)) row (we_seq ?_)
  trivial
  refine ⟨_, all_rows_v h.w1 h.w2 (by omega) (by omega), ?_⟩
  trivial
  refine ⟨rfl, by rw [rows_len]; omega, fun r hr => ⟨okB_no, _, rfl, ?_⟩, ?_⟩
  · trivial
    refine ⟨_, in_dict r rs, ?_⟩
    trivial
    refine ⟨rfl, fun _ => rfl, fun _ => ?_⟩
    trivial
    exact ⟨rfl, rfl⟩
  · trivial
end KL00
set_option Elab.async false
set_option linter.all false
set_option maxRecDepth 100000
set_option maxHeartbeats 4000000
namespace KL00
open PySem PySem.Spec PyProof.Rows KS
/-! ### draws -/
def Pot (n : Nat) (pot : List Val) : Prop := ∃ own sec cnt : Int, pot = [.int own, .int sec, .int cnt] ∧ 0 ≤ sec ∧ sec < 2305843009213693952 ∧ 0 ≤ cnt ∧ cnt ≤ n
theorem Pot.mono {n m : Nat} {pot : List Val} (h : Pot n pot) (hm : n ≤ m) : Pot m pot := by
  obtain ⟨own, sec, cnt, h1, h2, h3, h4, h5⟩ := h
  exact ⟨own, sec, cnt, h1, h2, h3, h4, by omega⟩
theorem prime_v {i : Int} (h0 : 0 ≤ i) (h5 : i < 5) : ∃ p, kIx [.lst [.int 2147483647, .int 2147483629, .int 2147483587, .int 2147483579, .int 2147483563], .int i] = some (.v (.int p)) ∧ 2147483563 ≤ p ∧ p ≤ 2147483647 := by
  have : i = 0 ∨ i = 1 ∨ i = 2 ∨ i = 3 ∨ i = 4 := by omega
  rcases this with rfl | rfl | rfl | rfl | rfl
  · exact ⟨_, kix_lst (by decide) rfl, by decide, by decide⟩
  · exact ⟨_, kix_lst (by decide) rfl, by decide, by decide⟩
  · exact ⟨_, kix_lst (by decide) rfl, by decide, by decide⟩
  · exact ⟨_, kix_lst (by decide) rfl, by decide, by decide⟩
  · exact ⟨_, kix_lst (by decide) rfl, by decide, by decide⟩
theorem take_v {n : Nat} {pot : List Val} {u : Int} (hp : Pot n pot) (hn : n ≤ 1000000000) (h1 : 0 < u) (h2 : u ≤ 1000000000) : ∃ d pot', F__law_take pot [.int u] = .ok (.v (.int d)) pot' ∧ 0 ≤ d ∧ d < u ∧ Pot (n + 1) pot' := by
  obtain ⟨own, sec, cnt, rfl, h3, h4, h5, h6⟩ := hp
  obtain ⟨o, ds1, e, d, rfl, q⟩ := runI_w (n := 2) (N := 5) (m := m__law_take) (ds0 := [.int own, .int sec, .int cnt]) (ds := [.int u]) (fun o ds1 => ∃ d, o = .v (.int d) ∧ 0 ≤ d ∧ d < u ∧ Pot (n + 1) ds1) rfl (by
    unfold m__law_take
    simp only [KS.entry, List.map_cons, List.map_nil, List.length_cons, List.length_nil, Nat.reduceAdd, Nat.reduceSub, List.replicate, List.cons_append, List.nil_append]
    trivial
    refine we_ite (fun h => ?_) fun h => ?_
    · trivial
      refine ⟨_, rfl, _, _, ksetIx (by decide) (by simp), okB_no, ?_⟩
      trivial
      refine ⟨_, rfl, _, rfl, Int.emod_nonneg _ (by omega), Int.emod_lt_of_pos _ h1, _, sec, cnt, rfl, h3, h4, h5, by omega⟩
    · trivial
      refine ⟨_, rfl, _, _, ksetIx (by decide) (by simp), okB_no, ?_⟩
      trivial
      obtain ⟨p, e, hp1, hp2⟩ := prime_v (i := (cnt + 1) % 5) (by omega) (by omega)
      refine ⟨_, e, ?_⟩
      have b1 : 0 ≤ 98317 * (cnt + 1) * (cnt + 1) := Int.mul_nonneg (by omega) (by omega)
      have b2 : 98317 * (cnt + 1) * (cnt + 1) ≤ 98317 * 1000000001 * 1000000001 := Int.mul_le_mul (by omega) (by omega) (by omega) (by omega)
      trivial
      refine ⟨_, kpow_int (by decide) (by decide) (small_of (by omega) (by omega)), ?_⟩
      trivial
      generalize hb : (sec + 98317 * (cnt + 1) * (cnt + 1) + 2027) ^ (3 : Int).toNat % p = b
      have b3 : 0 ≤ b := by rw [← hb]; exact Int.emod_nonneg _ (by omega)
      have b4 : b < p := by rw [← hb]; exact Int.emod_lt_of_pos _ (by omega)
      trivial
      refine ⟨_, rfl, _, rfl, Int.emod_nonneg _ (by omega), Int.emod_lt_of_pos _ h1, _, _, _, rfl, h3, h4, by omega, by omega⟩)
  exact ⟨d, ds1, e, q⟩
theorem of_v {n : Nat} {pot ds : List Val} {d0 : Val} (hd : d0 = .lst ds ∨ d0 = .tup ds) (hp : Pot n pot) (hn : n ≤ 1000000000) (h1 : ds ≠ []) (h2 : ds.length ≤ 1000000000) : ∃ d pot', F__law_of pot [d0] = .ok (.v d) pot' ∧ d ∈ ds ∧ Pot (n + 1) pot' := by
  have h0 : 0 < ds.length := List.length_pos_iff.mpr h1
  obtain ⟨o, ds1, e, d, rfl, q⟩ := runI_w (n := 2) (N := 2) (m := m__law_of) (ds0 := pot) (ds := [d0]) (fun o ds1 => ∃ d, o = .v d ∧ d ∈ ds ∧ Pot (n + 1) ds1) rfl (by
    obtain ⟨x, pot', e, h3, h4, h5⟩ := take_v (u := ds.length) hp hn (by omega) (by omega)
    have hx : x.toNat < ds.length := by omega
    unfold m__law_of
    simp only [KS.entry, List.map_cons, List.map_nil, List.length_cons, List.length_nil, Nat.reduceAdd, Nat.reduceSub, List.replicate, List.cons_append, List.nil_append]
    trivial
    refine ⟨_, show kLen [d0] = some (.v (.int ds.length)) by rcases hd with rfl | rfl <;> rfl, ?_⟩
    trivial
    refine ⟨_, rfl, _, _, e, okB_no, ?_⟩
    trivial
    refine ⟨_, _, ds[x.toNat], rfl, rfl, ?_, ?_⟩
    · rcases hd with rfl | rfl
      · exact ixO_lst h3 (List.getElem?_eq_getElem hx)
      · exact ixO_tup h3 (List.getElem?_eq_getElem hx)
    · trivial
      exact ⟨_, rfl, _, rfl, List.getElem_mem hx, h5⟩)
  exact ⟨d, ds1, e, q⟩
theorem pot_v {ns : List Int} {i : Nat} (hi : i ≤ 2) : ∃ pot, P__law_pot [.scr ns, .int i] = .ok (.l pot) ∧ Pot 0 pot := by
  have p60 : small ((10 : Int) ^ (60 : Int).toNat) = true := by unfold small bigN; decide +kernel
  have p5 : 0 < ((10 : Int) ^ (60 : Int).toNat) ^ (5 : Int).toNat := by decide +kernel
  have p6 : small (((10 : Int) ^ (60 : Int).toNat) ^ (5 : Int).toNat) = true := by unfold small bigN; decide +kernel
  have go : ∃ pot, P__law_pot [.scr ns, .int i] = .ok (.l pot) ∧ Pot 0 pot := by
    refine runP_w (fun x => ∃ pot, x = .ok (.l pot) ∧ Pot 0 pot) rfl ?_
    unfold m__law_pot
    simp only [KS.entry, List.map_cons, List.map_nil, List.length_cons, List.length_nil, Nat.reduceAdd, Nat.reduceSub, List.replicate, List.cons_append, List.nil_append]
    refine w_seq (w_setN (we_if ?_))
    trivial
    refine we_ite (fun h => ?_) fun h => ?_
    · have h : i < ns.length := by simpa using h
      trivial
      refine ⟨_, _, _, rfl, rfl, show ixO (.v (.scr ns)) (i : Int) = some (.int ns[i]) by simp [ixO, atI_nat (List.getElem?_eq_getElem h)], ?_⟩
      trivial
      refine ⟨_, kpow_int (by decide) (by decide) (small_of (by omega) (by omega)), ?_⟩
      trivial
      refine ⟨_, kpow_int (by decide) (by decide) p60, ?_⟩
      generalize ((10 : Int) ^ (60 : Int).toNat) ^ (5 : Int).toNat = z at p5 p6 ⊢
      trivial
      refine ⟨_, kpow_int (by decide) (by decide) (small_of (by omega) (by omega)), ?_⟩
      trivial
      refine ⟨_, kmul_int (small_mono p6 (Int.emod_nonneg _ (by omega)) (Int.le_of_lt (Int.emod_lt_of_pos _ p5))) (by split <;> exact small_of (by omega) (by omega)), ?_⟩
      trivial
      refine ⟨_, rfl, _, _, _, rfl, ?_, ?_, by omega, by omega⟩
      · exact Int.emod_nonneg _ (by omega)
      · exact Int.lt_trans (Int.emod_lt_of_pos _ (by omega)) (by omega)
    · trivial
      rw [cutD_map]
      refine ⟨_, ksum_lst _, ?_⟩
      trivial
      refine ⟨_, kpow_int (by decide) (by decide) (small_of (by omega) (by omega)), ?_⟩
      trivial
      refine ⟨_, kpow_int (by decide) (by decide) p60, ?_⟩
      generalize ((10 : Int) ^ (60 : Int).toNat) ^ (5 : Int).toNat = z at p5 p6 ⊢
      trivial
      refine ⟨_, kpow_int (by decide) (by decide) (small_of (by omega) (by omega)), ?_⟩
      trivial
      refine ⟨_, kmul_int (small_mono p6 (Int.emod_nonneg _ (by omega)) (Int.le_of_lt (Int.emod_lt_of_pos _ p5))) (by split <;> exact small_of (by omega) (by omega)), ?_⟩
      trivial
      refine ⟨_, rfl, _, _, _, rfl, ?_, ?_, by omega, by omega⟩
      · exact Int.emod_nonneg _ (by omega)
      · exact Int.lt_trans (Int.emod_lt_of_pos _ (by omega)) (by omega)
  exact go
theorem cells_v {ns : List Int} : P__law_cells [.scr ns, .int 3] = .ok (.l (intsFrom 0 (max 1 (min 3 ns.length)))) := by
  refine runP_eq rfl ?_
  unfold m__law_cells
  simp only [KS.entry, List.map_cons, List.map_nil, List.length_cons, List.length_nil, Nat.reduceAdd, Nat.reduceSub, List.replicate, List.cons_append, List.nil_append]
  trivial
  generalize hn : ns.length = n
  have e : (if (if (n : Int) < 3 then (n : Int) else 3) > 1 then (if (n : Int) < 3 then (n : Int) else 3) else 1) = ((max 1 (min 3 n) : Nat) : Int) := by
    split <;> split at * <;> omega
  rw [e]
  have h : max 1 (min 3 n) ≤ 3 := by omega
  generalize max 1 (min 3 n) = k at h ⊢
  refine ⟨.l (intsFrom 0 k), ?_, ?_⟩
  · have h1 : decide (0 ≤ (k : Int)) = true := decide_eq_true (by omega)
    have h2 : decide ((k : Int) ≤ 16777216) = true := decide_eq_true (by omega)
    simp only [kListRg1, h1, h2, Bool.and_self, if_true, Int.toNat_natCast]
  · trivial
theorem prod_len (xs ys : List (List Int)) : (prod xs ys).length = xs.length * ys.length := by
  unfold prod
  rw [List.length_flatMap]; simp [List.map_const']
theorem longer_v {xs ys : List (List Int)} (h1 : ∀ x ∈ xs, x.length ≤ 100000) (h3 : ∀ y ∈ ys, y.length ≤ 100000) (h2 : xs.length * ys.length ≤ 65536) : P__law_longer [.lst (xs.map row), .lst (ys.map row)] = .ok (.l ((prod xs ys).map row)) := by
  refine runP_eq rfl ?_
  unfold m__law_longer
  simp only [KS.entry, List.map_cons, List.map_nil, List.length_cons, List.length_nil, Nat.reduceAdd, Nat.reduceSub, List.replicate, List.cons_append, List.nil_append]
  trivial
  refine w_for (fun i r => ∃ x, r = [some (Own.v (.lst (xs.map row))), some (Own.v (.lst (ys.map row))), some (Own.l ((prod (xs.take i) ys).map row)), x, none]) (we_seq ?_)
  trivial
  refine ⟨⟨_, rfl⟩, ?_, ?_⟩
  · rintro i d r hd ⟨x, rfl⟩
    rw [List.getElem?_map] at hd
    cases hxi : xs[i]? with
    | none => rw [hxi] at hd; cases hd
    | some y =>
      rw [hxi] at hd; cases hd
      have hi : i < xs.length := (List.getElem?_eq_some_iff.mp hxi).1
      have hy := h1 y (List.mem_of_getElem? hxi)
      refine ⟨_, rfl, ?_⟩
      trivial
      refine we_map ys row (fun q => row (y ++ q)) (we_seq ?_)
      trivial
      have hw : ys.length ≤ 65536 := by
        have : 1 * ys.length ≤ xs.length * ys.length := Nat.mul_le_mul_right _ (by omega)
        omega
      refine ⟨rfl, by omega, fun z hz => ⟨okB_no, _, rfl, ?_⟩, ?_⟩
      · trivial
        refine ⟨_, kadd_tup (by have := h3 z hz; simp; omega), ?_⟩
        simp [Own.val, wipeR]
      · trivial
        have e : xs.take (i + 1) = xs.take i ++ [y] := by rw [List.take_add_one, hxi]; rfl
        refine ⟨_, rfl, _, _, kextend ?_, okB_no, ?_⟩
        · have h3 : (xs.take i).length * ys.length + ys.length ≤ xs.length * ys.length := by
            rw [← Nat.succ_mul]; exact Nat.mul_le_mul_right _ (by simp; omega)
          rw [List.length_map, List.length_map, prod_len]
          omega
        · trivial
          refine ⟨some (.v (row y)), ?_⟩
          rw [e]
          simp [prod, Function.comp_def]
  · rintro r ⟨x, rfl⟩
    rw [List.length_map, List.take_length]
    trivial
theorem law_all_rows_v {w k : Nat} (h1 : 1 ≤ w) (hw : w ≤ 12) (hs : w ^ k ≤ 65536) (hk : k ≤ 100000) : P__law_all_rows [.int w, .int k] = .ok (.v (.lst ((rows w k).map row))) := by
  refine runP_eq rfl ?_
  unfold m__law_all_rows
  simp only [KS.entry, List.map_cons, List.map_nil, List.length_cons, List.length_nil, Nat.reduceAdd, Nat.reduceSub, List.replicate, List.cons_append, List.nil_append]
  trivial
  refine w_for (fun i r => ∃ x, r = [some (Own.v (.int w)), some (Own.v (.int k)), some (Own.v (.lst ((rows w i).map row))), x, none]) (we_rng ?_)
  trivial
  refine ⟨⟨_, rfl⟩, ?_, ?_⟩
  · rintro i d r hd ⟨x, rfl⟩
    have hi : i < k := by have := (List.getElem?_eq_some_iff.mp hd).1; rw [intsFrom_len] at this; omega
    refine ⟨_, rfl, ?_⟩
    trivial
    refine we_map (List.range w) (fun x => .int x) (fun (x : Nat) => row [(x : Int)]) (we_rng ?_)
    trivial
    refine ⟨by rw [Int.toNat_natCast, intsFrom_map], by simp; omega, fun z hz => ⟨okB_no, _, rfl, ?_⟩, ?_⟩
    · trivial
      simp
    · trivial
      have hl : (rows w i).length * w ≤ 65536 := by
        rw [rows_len, ← Nat.pow_succ]
        exact Nat.le_trans (pow_le h1 (by omega)) hs
      have e2 : ((List.range w).map fun (x : Nat) => row [(x : Int)]) = ((List.range w).map fun (x : Nat) => [(x : Int)]).map row := by simp [Function.comp_def]
      rw [e2]
      refine ⟨_, longer_v (fun x hx => by have := (rows_ok hx).1; omega) (fun x hx => by obtain ⟨y, _, rfl⟩ := List.mem_map.mp hx; simp) (by simpa using hl), ?_⟩
      rw [← rows_succ]
      trivial
      exact ⟨_, rfl⟩
  · rintro r ⟨x, rfl⟩
    rw [intsFrom_len]
    trivial
    simp
end KL00
set_option Elab.async false
set_option linter.all false
set_option maxRecDepth 100000
set_option maxHeartbeats 4000000
namespace KL00
open PySem PySem.Spec PyProof.Rows KS
theorem nlL_iff : ∀ {xs : List Val}, nlL xs = true ↔ ∀ x ∈ xs, nl x = true
  | [] => by simp [nlL]
  | x :: xs => by simp [nlL, nlL_iff (xs := xs)]
theorem nlL_ints (xs : List Int) : nlL (xs.map .int) = true := nlL_iff.mpr fun x hx => by
  obtain ⟨y, _, rfl⟩ := List.mem_map.mp hx
  rfl
theorem nl_row (r : List Int) : nl (row r) = true := by simp [nl, nlL_ints]
theorem nlL_rows (rs : List (List Int)) : nlL (rs.map row) = true := nlL_iff.mpr fun x hx => by
  obtain ⟨y, _, rfl⟩ := List.mem_map.mp hx
  exact nl_row y
theorem okB_l {S : Vw} {ds : List Val} (h : nlL ds = true) : okB S (.l ds) = true := by simp [okB, h]
theorem Pot.nl {n : Nat} {pot : List Val} (h : Pot n pot) : nlL pot = true := by
  obtain ⟨own, sec, cnt, rfl, _⟩ := h
  rfl
theorem kpopAt {ds : List Val} {i : Int} {d : Val} (h0 : 0 ≤ i) (h1 : i < 1000000) (h : ds[i.toNat]? = some d) : kPopAt ds [.int i] = some (d, ds.eraseIdx i.toNat) := by
  have hl : i.toNat < ds.length := (List.getElem?_eq_some_iff.mp h).1
  have hs : seqIndex? i ds.length = some i.toNat := by
    unfold seqIndex?
    simp [show ¬ i < 0 by omega, show i < (ds.length : Int) by omega, h0]
  simp only [kPopAt]
  rw [if_pos ⟨by omega, by omega⟩]
  simp only [hs, h]
/-- so many unlike ones -/
theorem some_v {n many : Nat} {pot ds : List Val} {d0 : Val} (hd : d0 = .lst ds ∨ d0 = .tup ds) (hp : Pot n pot) (hn : n ≤ 1000000) (hm : many ≤ ds.length) (hl : ds.length ≤ 900000) (hnl : nlL ds = true) :
    ∃ found rests pot', F__law_some pot [d0, .int many] = .ok (.l found) pot' ∧ found.length = many ∧ (found ++ rests).Perm ds ∧ Pot (n + many) pot' := by
  obtain ⟨o, ds1, e, found, rests, rfl, q⟩ := runI_w (n := 3) (N := 6) (m := m__law_some) (ds0 := pot) (ds := [d0, .int many]) (fun o ds1 => ∃ found rests, o = .l found ∧ found.length = many ∧ (found ++ rests).Perm ds ∧ Pot (n + many) ds1) rfl (by
    have hk : kList [d0] = some (.l ds) := by rcases hd with rfl | rfl <;> rfl
    unfold m__law_some
    simp only [KS.entry, List.map_cons, List.map_nil, List.length_cons, List.length_nil, Nat.reduceAdd, Nat.reduceSub, List.replicate, List.cons_append, List.nil_append]
    trivial
    refine ⟨_, hk, ?_⟩
    trivial
    refine ⟨_, _, rfl, okB_no, okB_no, ?_⟩
    trivial
    refine w_for (fun i r => ∃ pot found rests x, r = [some (.l pot), some (.v d0), some (.v (.int many)), some (.l rests), some (.l found), x] ∧ found.length = i ∧ (found ++ rests).Perm ds ∧ Pot (n + i) pot) (we_rng ?_)
    trivial
    refine ⟨⟨pot, [], ds, none, rfl, rfl, by simp, hp⟩, ?_, ?_⟩
    · rintro i d r hd ⟨pot2, found, rests, x, rfl, h1, h2, h3⟩
      have hi : i < many := by have := (List.getElem?_eq_some_iff.mp hd).1; rw [intsFrom_len] at this; omega
      have hlen := h2.length_eq
      rw [List.length_append] at hlen
      have hnl2 : ∀ x ∈ found ++ rests, nl x = true := fun x hx => nlL_iff.mp hnl x (h2.mem_iff.mp hx)
      obtain ⟨j, pot3, e3, hj1, hj2, hp3⟩ := take_v (u := rests.length) h3 (by omega) (by omega) (by omega)
      obtain ⟨y, hy⟩ : ∃ y, rests[j.toNat]? = some y := ⟨_, List.getElem?_eq_getElem (show j.toNat < rests.length by omega)⟩
      have hpm := L2.erase_perm rests j.toNat y hy
      refine ⟨_, rfl, ?_⟩
      trivial
      refine we_lenV rfl ⟨_, rfl, ?_⟩
      trivial
      refine ⟨_, rfl, _, _, e3, okB_l hp3.nl, ?_⟩
      trivial
      refine ⟨_, rfl, _, _, kpopAt hj1 (by omega) hy, ?_, ?_⟩
      · exact okB_l <| nlL_iff.mpr fun x hx => hnl2 x (List.mem_append_right _ ((List.eraseIdx_sublist _ _).subset hx))
      trivial
      refine ⟨_, rfl, _, _, kappend (by omega), ?_, ?_⟩
      · refine okB_l (nlL_iff.mpr fun x hx => ?_)
        rcases List.mem_append.mp hx with hx | hx
        · exact hnl2 x (List.mem_append_left _ hx)
        · obtain rfl : x = y := by simpa using hx
          exact hnl2 x (List.mem_append_right _ (List.mem_of_getElem? hy))
      trivial
      refine ⟨_, _, _, _, rfl, by simp [h1], ?_, hp3⟩
      refine List.Perm.trans ?_ h2
      rw [List.append_assoc]
      exact List.Perm.append_left _ hpm
    · rintro r ⟨pot2, found, rests, x, rfl, h1, h2, h3⟩
      rw [intsFrom_len] at h1 h3
      trivial
      exact ⟨_, rfl, _, _, rfl, by simpa using h1, h2, by simpa using h3⟩)
  exact ⟨found, rests, ds1, e, q⟩
end KL00
set_option Elab.async false
set_option linter.all false
set_option maxRecDepth 100000
set_option maxHeartbeats 4000000
namespace KL00
open PySem PySem.Spec PyProof.Rows KS
theorem ints_of {few : List Val} (h : ∀ x ∈ few, ∃ i : Int, x = .int i) : ∃ ns : List Int, few = ns.map .int := by
  induction few with
  | nil => exact ⟨[], rfl⟩
  | cons x few ih =>
    obtain ⟨i, rfl⟩ := h x (by simp)
    obtain ⟨ns, rfl⟩ := ih fun y hy => h y (by simp [hy])
    exact ⟨i :: ns, rfl⟩
theorem kind_v {n w k : Nat} {pot : List Val} (hp : Pot n pot) (hn : n ≤ 900000) (h1 : 1 ≤ w) (h2 : w ≤ 5) (k1 : 1 ≤ k) (h3 : k ≤ 4) :
    ∃ (p : List Int → Bool) (pot' : List Val), F__law_kind_rows pot [.int w, .int k] = .ok (.l (((rows w k).filter p).map row)) pot' ∧ Pot (n + 20) pot' := by
  have hs : w ^ k ≤ 625 := Nat.le_trans (Nat.pow_le_pow_left h2 k) (Nat.le_trans (Nat.pow_le_pow_right (by omega) h3) (by decide))
  obtain ⟨o, ds1, e, p, rfl, q⟩ := runI_w (n := 3) (N := 9) (m := m__law_kind_rows) (ds0 := pot) (ds := [.int w, .int k]) (fun o ds1 => ∃ p, o = .l (((rows w k).filter p).map row) ∧ Pot (n + 20) ds1) rfl (by
    have hrl : (rows w k).length ≤ 625 := by rw [rows_len]; exact hs
    unfold m__law_kind_rows
    simp only [KS.entry, List.map_cons, List.map_nil, List.length_cons, List.length_nil, Nat.reduceAdd, Nat.reduceSub, List.replicate, List.cons_append, List.nil_append]
    trivial
    refine ⟨_, law_all_rows_v h1 (by omega) (by omega) (by omega), ?_⟩
    trivial
    obtain ⟨way, pot1, e1, hw1, hw2, hp1⟩ := take_v (u := 6) hp (by omega) (by omega) (by omega)
    refine ⟨_, rfl, _, _, e1, okB_no, ?_⟩
    trivial
    obtain ⟨sm, pot2, e2, hs1, hs2, hp2⟩ := take_v (u := w) hp1 (by omega) (by omega) (by omega)
    refine ⟨_, rfl, _, _, e2, okB_no, ?_⟩
    trivial
    refine ⟨_, rfl, ?_⟩
    trivial
    refine we_ite (fun h => ?_) fun h => ?_
    · trivial
      have hk : ∀ r : List Int, ∃ b : List Int, kSort [row r] = some (.l (b.map .int)) := fun r => by
        obtain ⟨ms, h, _⟩ := ksort_ints r
        exact ⟨ms, h⟩
      refine we_filter (rows w k) row (fun r => decide (r = (hk r).choose)) row (we_seq ?_)
      trivial
      refine ⟨rfl, by omega, fun r hr => ⟨okB_no, _, rfl, ?_⟩, ?_⟩
      · trivial
        refine ⟨_, show kList [row r] = some (.l (r.map .int)) from rfl, ?_⟩
        trivial
        refine ⟨_, (hk r).choose_spec, ?_⟩
        trivial
        refine ⟨_, keq_lints r _, ?_⟩
        trivial
        refine ⟨rfl, fun _ => rfl, fun _ => ?_⟩
        trivial
        exact ⟨rfl, rfl⟩
      · trivial
        exact ⟨_, rfl, _, rfl, hp2.mono (by omega)⟩
    trivial
    refine we_ite (fun h => ?_) fun h => ?_
    · trivial
      refine we_filter (rows w k) row (fun r => decide (r.sum % (w : Int) = sm)) row (we_seq ?_)
      trivial
      refine ⟨rfl, by omega, fun r hr => ⟨okB_no, _, rfl, ?_⟩, ?_⟩
      · trivial
        refine ⟨_, ksum_tup r, ?_⟩
        trivial
        refine ⟨rfl, fun _ => rfl, fun _ => ?_⟩
        trivial
        exact ⟨rfl, rfl⟩
      · trivial
        exact ⟨_, rfl, _, rfl, hp2.mono (by omega)⟩
    trivial
    refine we_ite (fun h => ?_) fun h => ?_
    · trivial
      refine we_filter (rows w k) row (fun r => decide (((ddup r).length : Int) = if (w : Int) < (k : Int) then (w : Int) else (k : Int))) row (we_seq ?_)
      trivial
      refine ⟨rfl, by omega, fun r hr => ⟨okB_no, _, rfl, ?_⟩, ?_⟩
      · have := (rows_ok hr).1
        trivial
        refine ⟨_, klenSet_tup (by omega), ?_⟩
        trivial
        refine ⟨rfl, fun _ => rfl, fun _ => ?_⟩
        trivial
        exact ⟨rfl, rfl⟩
      · trivial
        exact ⟨_, rfl, _, rfl, hp2.mono (by omega)⟩
    trivial
    refine we_ite (fun h => ?_) fun h => ?_
    · trivial
      refine we_filter (rows w k) row (fun r => decide (((ddup r).length : Int) = 1)) row (we_seq ?_)
      trivial
      refine ⟨rfl, by omega, fun r hr => ⟨okB_no, _, rfl, ?_⟩, ?_⟩
      · have := (rows_ok hr).1
        trivial
        refine ⟨_, klenSet_tup (by omega), ?_⟩
        trivial
        refine ⟨rfl, fun _ => rfl, fun _ => ?_⟩
        trivial
        exact ⟨rfl, rfl⟩
      · trivial
        exact ⟨_, rfl, _, rfl, hp2.mono (by omega)⟩
    trivial
    refine we_ite (fun h => ?_) fun h => ?_
    · trivial
      refine we_filter (rows w k) row (fun r => decide (sm ∈ r)) row (we_seq ?_)
      trivial
      refine ⟨rfl, by omega, fun r hr => ⟨okB_no, _, rfl, ?_⟩, ?_⟩
      · trivial
        refine ⟨_, kin_tup sm r, ?_⟩
        trivial
        refine ⟨rfl, fun _ => rfl, fun _ => ?_⟩
        trivial
        exact ⟨rfl, rfl⟩
      · trivial
        exact ⟨_, rfl, _, rfl, hp2.mono (by omega)⟩
    trivial
    have hrg : kListRg1 [.int w] = some (.l (intsFrom 0 w)) := by
      have h1 : decide (0 ≤ (w : Int)) = true := decide_eq_true (by omega)
      have h2 : decide ((w : Int) ≤ 16777216) = true := decide_eq_true (by omega)
      simp only [kListRg1, h1, h2, Bool.and_self, if_true, Int.toNat_natCast]
    refine ⟨_, hrg, ?_⟩
    trivial
    obtain ⟨m, hm⟩ : ∃ m : Nat, 1 + sm = m := ⟨(1 + sm).toNat, by omega⟩
    rw [hm]
    obtain ⟨few, rests, pot3, e3, _, hperm, hp3⟩ := some_v (many := m) (ds := intsFrom 0 w) (.inl rfl) hp2 (by omega) (by rw [intsFrom_len]; omega) (by rw [intsFrom_len]; omega) (by rw [intsFrom_map]; refine nlL_iff.mpr fun x hx => ?_; obtain ⟨y, _, rfl⟩ := List.mem_map.mp hx; rfl)
    refine ⟨_, rfl, _, _, e3, okB_no, ?_⟩
    obtain ⟨ns, rfl⟩ := ints_of (few := few) fun x hx => by
      have := hperm.mem_iff.mp (List.mem_append_left _ hx)
      rw [intsFrom_map] at this
      obtain ⟨y, _, rfl⟩ := List.mem_map.mp this
      exact ⟨_, rfl⟩
    trivial
    refine we_filter (rows w k) row (fun r => r.all fun x => decide (x ∈ ns)) row (we_seq ?_)
    trivial
    refine ⟨rfl, by omega, fun r hr => ⟨okB_no, _, rfl, ?_⟩, ?_⟩
    · have := (rows_ok hr).1
      trivial
      refine we_map r .int (fun x => .bl (decide (x ∈ ns))) (we_seq ?_)
      trivial
      refine ⟨rfl, by omega, fun x hx => ⟨okB_no, _, rfl, ?_⟩, ?_⟩
      · trivial
        refine ⟨_, kin_lst x ns, ?_⟩
        simp [Own.val, wipeR]
      trivial
      refine ⟨_, kall_map r (fun x => decide (x ∈ ns)), ?_⟩
      trivial
      refine ⟨rfl, fun _ => rfl, fun _ => ?_⟩
      trivial
      exact ⟨rfl, rfl⟩
    · trivial
      exact ⟨_, rfl, _, rfl, hp3.mono (by omega)⟩)
  exact ⟨p, ds1, e, q⟩
end KL00
set_option Elab.async false
set_option linter.all false
set_option maxRecDepth 100000
set_option maxHeartbeats 4000000
namespace KL00
open PySem PySem.Spec PyProof.Rows KS
theorem keq_nil (rs : List (List Int)) : kEq [.lst (rs.map row), .lst []] = some (.v (.bl (decide (rs = [])))) := by
  have h := shaped_rows rs
  have h2 : toPDs (rs.map row) = some (rs.map fun r => PyData.tuple (r.map PyData.int)) := toPDs_rows rs
  have h3 : SeqAt.shaped (.list []) = true := rfl
  have h4 : toPDs [] = some [] := rfl
  cases rs with
  | nil => rfl
  | cons r rs =>
    have h5 : PyData.eqv (.list ((r :: rs).map fun r => PyData.tuple (r.map PyData.int))) (.list []) = false := by simp [PyData.eqv, PyData.eqvAll]
    simp only [kEq, veq, toPD, h2, h4, Option.map_some, h, h3, Bool.and_self, if_true, h5]
    rfl
theorem rows_of {found : List Val} {ps : List (List Int)} (h : ∀ x ∈ found, x ∈ ps.map row) : ∃ qs : List (List Int), found = qs.map row ∧ ∀ q ∈ qs, q ∈ ps := by
  induction found with
  | nil => exact ⟨[], rfl, by simp⟩
  | cons x found ih =>
    obtain ⟨q, hq, rfl⟩ := List.mem_map.mp (h x (by simp))
    obtain ⟨qs, rfl, h2⟩ := ih fun y hy => h y (by simp [hy])
    exact ⟨q :: qs, rfl, fun z hz => by
      rcases List.mem_cons.mp hz with rfl | hz
      · exact hq
      · exact h2 z hz⟩
theorem row_inj {a b : List Int} (h : row a = row b) : a = b := by
  have h := Val.tup.inj h
  have := congrArg valInts h
  rw [valInts_map, valInts_map] at this
  exact Option.some.inj this
theorem rel_of {w k m : Nat} {qs : List (List Int)} (h1 : 1 ≤ w) (h2 : w ≤ 12) (k1 : 1 ≤ k) (k2 : k ≤ 81) (hm : m ≤ 2000) (hl : qs.length ≤ m) (hn : qs.Nodup) (hq : ∀ q ∈ qs, q ∈ rows w k) : RelOk w k (sortR qs) where
  w1 := h1
  w2 := h2
  k1 := k1
  k2 := k2
  len := by rw [(sortR_perm qs).length_eq]; omega
  ok := fun r hr => rows_ok (hq r ((sortR_perm qs).mem_iff.mp hr))
  ris := sortR_rising hn
theorem ksort_r {rs : List (List Int)} (h : ∀ r ∈ rs, r ≠ []) : kSort [.lst (rs.map row)] = some (.l ((sortR rs).map row)) := ksort_rows h
theorem rel_v {n w k m : Nat} {pot : List Val} (hp : Pot n pot) (hn : n ≤ 800000) (h1 : 1 ≤ w) (h2 : w ≤ 5) (k1 : 1 ≤ k) (h3 : k ≤ 4) (hm : m ≤ 60) :
    ∃ (rs : List (List Int)) (pot' : List Val), F__law_relation_drawn pot [.int w, .int k, .int m] = .ok (.v (relV k rs)) pot' ∧ RelOk w k rs ∧ rs.length ≤ m ∧ Pot (n + 100) pot' := by
  have hs : w ^ k ≤ 625 := Nat.le_trans (Nat.pow_le_pow_left h2 k) (Nat.le_trans (Nat.pow_le_pow_right (by omega) h3) (by decide))
  have hrl : (rows w k).length ≤ 625 := by rw [rows_len]; exact hs
  obtain ⟨o, ds1, e, rs, rfl, q⟩ := runI_w (n := 4) (N := 6) (m := m__law_relation_drawn) (ds0 := pot) (ds := [.int w, .int k, .int m]) (fun o ds1 => ∃ rs, o = .v (relV k rs) ∧ RelOk w k rs ∧ rs.length ≤ m ∧ Pot (n + 100) ds1) rfl (by
    unfold m__law_relation_drawn
    simp only [KS.entry, List.map_cons, List.map_nil, List.length_cons, List.length_nil, Nat.reduceAdd, Nat.reduceSub, List.replicate, List.cons_append, List.nil_append]
    trivial
    obtain ⟨p, pot1, e1, hp1⟩ := kind_v (k := k) hp (by omega) h1 h2 k1 h3
    refine ⟨_, rfl, _, _, e1, okB_no, ?_⟩
    trivial
    obtain ⟨a, pot2, e2, ha1, ha2, hp2⟩ := take_v (u := 2) hp1 (by omega) (by omega) (by omega)
    have hsub : ∀ q ∈ (rows w k).filter p, q ∈ rows w k := fun q hq => (List.mem_filter.mp hq).1
    have hnd : ((rows w k).filter p).Nodup := ((rows_rising w k).sub List.filter_sublist).nodup
    have hfl : ((rows w k).filter p).length ≤ 625 := Nat.le_trans (List.length_filter_le _ _) hrl
    generalize (rows w k).filter p = fs at hsub hnd hfl ⊢
    refine ⟨_, rfl, _, _, e2, okB_no, ?_⟩
    have fin : ∀ (qs : List (List Int)) (pot' : List Val), qs.Nodup → (∀ q ∈ qs, q ∈ rows w k) → qs.length ≤ m → Pot (n + 100) pot' → kSort [.lst (qs.map row)] = some (.l ((sortR qs).map row)) ∧ RelOk w k (sortR qs) ∧ (sortR qs).length ≤ m ∧ Pot (n + 100) pot' := by
      intro qs pot' hq1 hq2 hq3 hq4
      refine ⟨ksort_r fun r hr e => ?_, rel_of h1 (by omega) k1 (by omega) (by omega) hq3 hq1 hq2, by rw [(sortR_perm qs).length_eq]; exact hq3, hq4⟩
      have := (rows_ok (hq2 r hr)).1
      rw [e] at this; simp at this; omega
    have draw : ∀ (ps : List (List Int)) (pot3 : List Val), ps.Nodup → (∀ q ∈ ps, q ∈ rows w k) → ps.length ≤ 625 → Pot (n + 22) pot3 → W (sFrz 5 (sSeq (sSet Vw.no 4 (mCallI Vw.no 0 F__law_some (mCons (mVar Vw.no 5) (mCons (mCallI Vw.no 0 F__law_take (mCons (mP2 kAdd (mPure kMin2 (mCons (mVar Vw.no 3) (mCons (mPure kLen (mCons (mVar Vw.no 5) (mNil))) (mNil)))) (mC (.int 1))) (mNil))) (mNil)))))
  (sFrz 4 (sSkip)))) [some (.l pot3), some (.v (.int w)), some (.v (.int k)), some (.v (.int m)), some (.v (.lst (fs.map row))), some (.v (.lst (ps.map row)))] { okI (fun o ds1 => ∃ rs, o = .v (relV k rs) ∧ RelOk w k rs ∧ rs.length ≤ m ∧ Pot (n + 100) ds1) with nx := fun r1 => W (sRet Vw.no (mPure KS.kTup (mCons (mVar Vw.no 2) (mCons (mPure kTuple (mCons (mPure kSort (mCons (mVar Vw.no 4) mNil)) mNil)) mNil)))) r1 (okI fun o ds1 => ∃ rs, o = .v (relV k rs) ∧ RelOk w k rs ∧ rs.length ≤ m ∧ Pot (n + 100) ds1) } := by
      intro ps pot3 hq1 hq2 hq3 hq4
      trivial
      obtain ⟨u, hu, hu1, hu2⟩ : ∃ u : Nat, (if ((ps.map row).length : Int) < (m : Int) then ((ps.map row).length : Int) else (m : Int)) = u ∧ u ≤ m ∧ u ≤ ps.length := by
        refine ⟨min ps.length m, ?_, by omega, by omega⟩
        rw [List.length_map]
        split <;> omega
      rw [hu]
      obtain ⟨many, pot4, e4, hm1, hm2, hp4⟩ := take_v (u := (u : Int) + 1) hq4 (by omega) (by omega) (by omega)
      refine ⟨_, rfl, _, _, e4, okB_no, ?_⟩
      obtain ⟨mm, rfl⟩ : ∃ mm : Nat, many = mm := ⟨many.toNat, by omega⟩
      trivial
      obtain ⟨found, rests, pot5, e5, hf1, hf2, hp5⟩ := some_v (many := mm) (ds := ps.map row) (.inl rfl) hp4 (by omega) (by rw [List.length_map]; omega) (by rw [List.length_map]; omega) (nlL_rows ps)
      refine ⟨_, rfl, _, _, e5, okB_no, ?_⟩
      obtain ⟨qs, rfl, hqs⟩ := rows_of (found := found) (ps := ps) fun x hx => hf2.mem_iff.mp (List.mem_append_left _ hx)
      have hnd2 : qs.Nodup := by
        have h5 : (ps.map row).Nodup := by
          unfold List.Nodup at *
          rw [List.pairwise_map]
          exact hq1.imp fun h e => h (row_inj e)
        have h6 := (hf2.nodup_iff.mpr h5)
        have h7 := (List.nodup_append.mp h6).1
        unfold List.Nodup at *
        rw [List.pairwise_map] at h7
        exact h7.imp fun h e => h (by rw [e])
      rw [List.length_map] at hf1
      trivial
      obtain ⟨f1, f2, f3, f4⟩ := fin qs pot5 hnd2 (fun q hq => hq2 q (hqs q hq)) (by omega) (hp5.mono (by omega))
      refine ⟨_, f1, ?_⟩
      trivial
      exact ⟨_, rfl, _, rfl, f2, f3, f4⟩
    have drawn : ∀ (pot3 : List Val), Pot (n + 21) pot3 → W (sSeq (sSet Vw.no 5 (mIf (mOr (mTest (mP2 kEq (mCallI Vw.no 0 F__law_take (mCons (mC (.int 2)) (mNil))) (mC (.int 0)))) (mTest (mP2 kEq (mVar Vw.no 4) (mPure kLst (mNil))))) (mCall Vw.no P__law_all_rows (mCons (mVar Vw.no 1) (mCons (mVar Vw.no 2) (mNil)))) (mVar Vw.no 4)))
  (sFrz 5 (sSeq (sSet Vw.no 4 (mCallI Vw.no 0 F__law_some (mCons (mVar Vw.no 5) (mCons (mCallI Vw.no 0 F__law_take (mCons (mP2 kAdd (mPure kMin2 (mCons (mVar Vw.no 3) (mCons (mPure kLen (mCons (mVar Vw.no 5) (mNil))) (mNil)))) (mC (.int 1))) (mNil))) (mNil)))))
  (sFrz 4 (sSkip))))) [some (.l pot3), some (.v (.int w)), some (.v (.int k)), some (.v (.int m)), some (.v (.lst (fs.map row))), none] { okI (fun o ds1 => ∃ rs, o = .v (relV k rs) ∧ RelOk w k rs ∧ rs.length ≤ m ∧ Pot (n + 100) ds1) with nx := fun r1 => W (sRet Vw.no (mPure KS.kTup (mCons (mVar Vw.no 2) (mCons (mPure kTuple (mCons (mPure kSort (mCons (mVar Vw.no 4) mNil)) mNil)) mNil)))) r1 (okI fun o ds1 => ∃ rs, o = .v (relV k rs) ∧ RelOk w k rs ∧ rs.length ≤ m ∧ Pot (n + 100) ds1) } := by
      intro pot3 hp3
      obtain ⟨b, pot4, e4, hb1, hb2, hp4⟩ := take_v (u := 2) hp3 (by omega) (by omega) (by omega)
      have all : We (mCall Vw.no P__law_all_rows (mCons (mVar Vw.no 1) (mCons (mVar Vw.no 2) mNil))) [some (.l pot4), some (.v (.int w)), some (.v (.int k)), some (.v (.int m)), some (.v (.lst (fs.map row))), none] (fun o r1 => W (sFrz 5 (sSeq (sSet Vw.no 4 (mCallI Vw.no 0 F__law_some (mCons (mVar Vw.no 5) (mCons (mCallI Vw.no 0 F__law_take (mCons (mP2 kAdd (mPure kMin2 (mCons (mVar Vw.no 3) (mCons (mPure kLen (mCons (mVar Vw.no 5) (mNil))) (mNil)))) (mC (.int 1))) (mNil))) (mNil))))) (sFrz 4 (sSkip)))) (r1.set 5 (some o)) { okI (fun o ds1 => ∃ rs, o = .v (relV k rs) ∧ RelOk w k rs ∧ rs.length ≤ m ∧ Pot (n + 100) ds1) with nx := fun r1 => W (sRet Vw.no (mPure KS.kTup (mCons (mVar Vw.no 2) (mCons (mPure kTuple (mCons (mPure kSort (mCons (mVar Vw.no 4) mNil)) mNil)) mNil)))) r1 (okI fun o ds1 => ∃ rs, o = .v (relV k rs) ∧ RelOk w k rs ∧ rs.length ≤ m ∧ Pot (n + 100) ds1) }) noX := by
        trivial
        refine ⟨_, law_all_rows_v h1 (by omega) (by omega) (by omega), ?_⟩
        exact draw (rows w k) pot4 (rows_rising w k).nodup (fun q hq => hq) hrl hp4
      refine w_seq (w_setN (we_if (we_or ?_)))
      trivial
      refine ⟨_, rfl, _, _, e4, okB_no, ?_⟩
      trivial
      refine we_ite (fun h => ?_) fun h => ?_
      · refine we_ite_t rfl ?_
        exact all.mono (fun _ _ h => h) fun _ _ h => h.elim
      · trivial
        refine ⟨_, keq_nil fs, ?_⟩
        trivial
        refine we_ite (fun h => ?_) fun h => ?_
        · exact all.mono (fun _ _ h => h) fun _ _ h => h.elim
        · refine we_var rfl ?_
          try dsimp only [KS.val_v, KS.val_l, List.map, List.set, KS.wipeR, KS.okP, KS.okI]
          exact draw fs pot4 hnd hsub hfl hp4
    trivial
    refine we_ite (fun h => ?_) fun h => ?_
    · refine we_ite_t rfl ?_
      exact drawn pot2 (hp2.mono (by omega))
    · trivial
      refine we_ite (fun h => ?_) fun h => ?_
      · exact drawn pot2 (hp2.mono (by omega))
      · have hlen : fs.length ≤ m := by
          simp only [List.length_map, decide_eq_false_iff_not] at h
          omega
        trivial
        obtain ⟨f1, f2, f3, f4⟩ := fin fs pot2 hnd hsub hlen (hp2.mono (by omega))
        refine ⟨_, f1, ?_⟩
        trivial
        exact ⟨_, rfl, _, rfl, f2, f3, f4⟩)
  exact ⟨rs, ds1, e, q⟩
end KL00
set_option Elab.async false
set_option linter.all false
set_option maxRecDepth 100000
set_option maxHeartbeats 4000000
namespace KL00
open PySem PySem.Spec PyProof.Rows KS
theorem lp_w {np nn : Nat} {m : Mo Own} {caps ds : List Val} {o : Own} (h1 : ds.length = np) (h2 : caps.length = nn) (h3 : nolamL ds = true) (h4 : nolamL caps = true) (h : We m ((ds ++ caps).map fun d => some (Own.v d)) (fun x _ => x = o) noX) : lpOf np nn m caps ds = .ok o := by
  unfold lpOf
  rw [if_pos ⟨h1, h2, h3, h4⟩]
  obtain ⟨a, r', e, rfl⟩ := h.ok
  rw [e]
theorem lp_x {np nn : Nat} {m : Mo Own} {caps ds : List Val} {n : PySem.Str} {v : Val} (h1 : ds.length = np) (h2 : caps.length = nn) (h3 : nolamL ds = true) (h4 : nolamL caps = true) (h : We m ((ds ++ caps).map fun d => some (Own.v d)) (fun x _ => False) (fun n' v' => n' = n ∧ v' = v)) : lpOf np nn m caps ds = .ex n v := by
  unfold lpOf
  rw [if_pos ⟨h1, h2, h3, h4⟩]
  have h := h.sat
  cases e : m ((ds ++ caps).map fun d => some (Own.v d)) with
  | ok a r => rw [e] at h; exact h.elim
  | ex n' v' => rw [e] at h; obtain ⟨rfl, rfl⟩ := h; rfl
  | bad => rw [e] at h; exact h.elim
theorem we_callKX {S : Vw} {r : Ro} {ms ks : Mo (List Own)} {Q : Own → Ro → Prop} {X : PySem.Str → Val → Prop} {P : List Val → RP} {n k : Nat} {ix : List Nat} (q : We ms r (fun os r1 => We ks r1 (fun es r2 => ∃ m v, P (pick n k ix (os.map Own.val) (es.map Own.val)) = .ex m v ∧ exB S v = true ∧ X m v) X) X) : We (mCallK S P n k ix ms ks) r Q X := by
  refine We.bind (q.mono (fun a r1 h => (We.bind (h.mono (fun b r2 h => ?_) fun _ _ h => h)).sat) fun _ _ h => h)
  obtain ⟨m, v, h1, h2, h3⟩ := h
  simp only [h1, RP.at, if_pos h2]; exact h3
theorem nolam_ints (xs : List Int) : nolamL (xs.map .int) = true := by
  induction xs with
  | nil => rfl
  | cons x xs ih => simp [nolamL, nolam, ih]
theorem nolam_rows (rs : List (List Int)) : nolamL (rs.map row) = true := by
  induction rs with
  | nil => rfl
  | cons x xs ih => simp [nolamL, nolam, ih, nolam_ints]
theorem nolam_rel (k : Nat) (rs : List (List Int)) : nolam (relV k rs) = true := by simp [nolam, nolamL, nolam_rows]
theorem heard_ok {j : Nat} {cs : List Val} {d : Val} (h : LPk j cs [] = .ok (.v d)) : P__law_heard [.lam j cs] = .ok (.v (.tup [.non, d])) := by
  refine runP_eq rfl ?_
  unfold m__law_heard
  simp only [KS.entry, List.map_cons, List.map_nil, List.length_cons, List.length_nil, Nat.reduceAdd, Nat.reduceSub, List.replicate, List.cons_append, List.nil_append]
  trivial
  refine ⟨_, rfl, ?_⟩
  trivial
  refine w_heard_ok rfl h ?_
  trivial
theorem heard_ex {j : Nat} {cs : List Val} {n : PySem.Str} {v : Val} (h : LPk j cs [] = .ex n v) (hn : okE n = true) : P__law_heard [.lam j cs] = .ok (.v (.tup [.exc n v, .non])) := by
  refine runP_eq rfl ?_
  unfold m__law_heard
  simp only [KS.entry, List.map_cons, List.map_nil, List.length_cons, List.length_nil, Nat.reduceAdd, Nat.reduceSub, List.replicate, List.cons_append, List.nil_append]
  trivial
  refine ⟨_, rfl, ?_⟩
  trivial
  refine w_heard_ex rfl h hn (by simp) ?_
  trivial
theorem lam_both {w k : Nat} {rs qs : List (List Int)} (h : RelOk w k rs) (h' : RelOk w k qs) : LPk 0 [relV k rs, relV k qs, .int w] [] = .ok (.v (relV k (rs.filter fun r => decide (r ∈ qs)))) := by
  refine lp_w rfl rfl rfl (by simp only [nolamL, nolam, nolam_rows, Bool.and_self]) ?_
  unfold lm_0
  refine we_callK ?_
  simp only [KS.entry, List.map_cons, List.map_nil, List.length_cons, List.length_nil, Nat.reduceAdd, Nat.reduceSub, List.replicate, List.cons_append, List.nil_append]
  trivial
  exact ⟨_, both_v h h', rfl⟩
theorem lam_both_x {w k l : Nat} {rs qs : List (List Int)} (h : RelOk w k rs) (h' : RelOk w l qs) (hne : k ≠ l) : LPk 0 [relV k rs, relV l qs, .int w] [] = .ex "BadPlaces" (relV l qs) := by
  refine lp_x rfl rfl rfl (by simp only [nolamL, nolam, nolam_rows, Bool.and_self]) ?_
  unfold lm_0
  refine we_callKX ?_
  simp only [KS.entry, List.map_cons, List.map_nil, List.length_cons, List.length_nil, Nat.reduceAdd, Nat.reduceSub, List.replicate, List.cons_append, List.nil_append]
  trivial
  exact ⟨_, _, both_ex h h' hne, by simp [exB], rfl, rfl⟩
theorem lam_full_x {w k : Nat} (h1 : 1 < w) (hw : w ≤ 12) (k1 : 1 ≤ k) (hk : k ≤ 81) (hs : 11 < k ∨ 2000 < w ^ k) : LPk 1 [.tup [.int w, .int k]] [] = .ex "TooMany" (.int 2000) := by
  refine lp_x rfl rfl rfl rfl ?_
  unfold lm_1
  refine we_callX ?_
  simp only [KS.entry, List.map_cons, List.map_nil, List.length_cons, List.length_nil, Nat.reduceAdd, Nat.reduceSub, List.replicate, List.cons_append, List.nil_append]
  trivial
  exact .inr ⟨_, _, full_ex h1 hw k1 hk hs, rfl, rfl, rfl⟩
/-! ### what repr tells of relations -/
theorem shw_rel {k kk N : Nat} {rs : List (List Int)} (hk : k ≤ 1000) (h : ∀ r ∈ rs, r.length ≤ kk ∧ ∀ x ∈ r, 0 ≤ x ∧ x < 1000) (hl : rs.length ≤ N) : Shw (relV k rs) 3 (2 * (N * (kk + 1) + 1)) := by
  have h1 : Shw (.tup (rs.map row)) 2 (N * (kk + 1)) := by
    refine (shw_tup (xs := rs.map row) (n := 1) (b := kk) fun x hx => ?_).mono (by omega) (by rw [List.length_map]; exact Nat.mul_le_mul_right _ hl)
    obtain ⟨r, hr, rfl⟩ := List.mem_map.mp hx
    exact (shw_ints fun x hx => by have := (h r hr).2 x hx; omega).mono (by omega) (h r hr).1
  have := shw_tup (xs := [.int k, .tup (rs.map row)]) (n := 2) (b := N * (kk + 1)) fun x hx => by
    rcases List.mem_cons.mp hx with rfl | hx
    · exact (shw_int (by omega)).mono (by omega) (by omega)
    · obtain rfl : x = .tup (rs.map row) := by simpa using hx
      exact h1
  exact this
theorem krepr_rel {k : Nat} {rs : List (List Int)} (hk : k ≤ 1000) (h : ∀ r ∈ rs, r.length ≤ 8 ∧ ∀ x ∈ r, 0 ≤ x ∧ x < 1000) (hl : rs.length ≤ 1000) : kRepr [relV k rs] = some (.v (.str (rpr (relV k rs)))) :=
  krepr (shw_rel hk h hl) (by omega) (by omega)
end KL00
set_option Elab.async false
set_option linter.all false
set_option maxRecDepth 100000
set_option maxHeartbeats 4000000
namespace KL00
open PySem PySem.Spec PyProof.Rows KS
theorem okE_bp : okE "BadPlaces" = true := by decide
theorem okE_tm : okE "TooMany" = true := by decide
theorem ksort_sorted {rs : List (List Int)} (hr : Rising rs) (h : ∀ r ∈ rs, r ≠ []) : kSort [.lst (rs.map row)] = some (.l (rs.map row)) := by
  rw [ksort_r h, sortR_eq hr]
theorem prod_ok {w k l : Nat} {rs qs : List (List Int)} (h : RelOk w k rs) (h' : RelOk w l qs) : ∀ r ∈ prod rs qs, r.length = k + l ∧ ∀ x ∈ r, 0 ≤ x ∧ x < (w : Int) := by
  intro r hr
  obtain ⟨a, ha, hr⟩ := List.mem_flatMap.mp hr
  obtain ⟨b, hb, rfl⟩ := List.mem_map.mp hr
  refine ⟨by rw [List.length_append, (h.ok a ha).1, (h'.ok b hb).1], fun x hx => ?_⟩
  rcases List.mem_append.mp hx with hx | hx
  · exact (h.ok a ha).2 x hx
  · exact (h'.ok b hb).2 x hx
@[irreducible] noncomputable def right_tail : Ms :=
  sSeq (sSet Vw.no 4 (mPure kSortSet (mCons (mLc Vw.no [8] (.nm 8) (mSeq false Vw.no (mIxV 1 (mC (.int 1)))) mYes (mPure kTuple (mCons (mLc Vw.no [9] (.nm 9) (mSeq false Vw.no (mVar Vw.no 3)) mYes (mIxV 8 (mVar Vw.no 9))) (mNil)))) (mNil))))
  (sFrz 4 (sSeq (sIf (mTest (mP2 kNe (mPure kRepr (mCons (mCallK Vw.no P_turned 1 2 [0, 2, 1] (mCons (mVar Vw.no 0) (mNil)) (mCons (mVar Vw.no 3) (mCons (mVar Vw.no 1) (mNil)))) (mNil))) (mPure kRepr (mCons (mPure kTup (mCons (mPure kLen (mCons (mVar Vw.no 3) (mNil))) (mCons (mPure kTuple (mCons (mVar Vw.no 4) (mNil))) (mNil)))) (mNil)))))
  (sRet Vw.no (mC (.bl false)))
  (sSkip))
  (sSeq (sSet Vw.no 4 (mLc Vw.no [8] (.nm 8) (mSeq false Vw.no (mIxV 1 (mC (.int 1)))) (mTest (mP2 kEq (mPure kLenSet (mCons (mLc Vw.no [9] (.nm 9) (mSeq false Vw.no (mVar Vw.no 3)) mYes (mIxV 8 (mVar Vw.no 9))) (mNil))) (mC (.int 1)))) (mVar Vw.no 8)))
  (sFrz 4 (sSeq (sIf (mTest (mP2 kNe (mPure kRepr (mCons (mCall Vw.no P_tied (mCons (mVar Vw.no 0) (mCons (mVar Vw.no 1) (mCons (mVar Vw.no 3) (mNil))))) (mNil))) (mPure kRepr (mCons (mPure kTup (mCons (mIxV 1 (mC (.int 0))) (mCons (mPure kTuple (mCons (mVar Vw.no 4) (mNil))) (mNil)))) (mNil)))))
  (sRet Vw.no (mC (.bl false)))
  (sSkip))
  (sSeq (sSet Vw.no 4 (mLc Vw.no [8] (.nm 8) (mSeq false Vw.no (mCall Vw.no P__law_all_rows (mCons (mVar Vw.no 0) (mCons (mIxV 1 (mC (.int 0))) (mNil))))) (mTest (mP2 kNotIn (mVar Vw.no 8) (mIxV 1 (mC (.int 1))))) (mVar Vw.no 8)))
  (sFrz 4 (sRet Vw.no (mP2 kEq (mPure kRepr (mCons (mCallK Vw.no P_rest 0 2 [1, 0] mNil (mCons (mVar Vw.no 1) (mCons (mVar Vw.no 0) (mNil)))) (mNil))) (mPure kRepr (mCons (mPure kTup (mCons (mIxV 1 (mC (.int 0))) (mCons (mPure kTuple (mCons (mVar Vw.no 4) (mNil))) (mNil)))) (mNil))))))))))))
theorem right_split : m__law_is_right =
  sSeq (sSet Vw.no 4 (mPure kSort (mCons (mCall Vw.no P__law_longer (mCons (mPure kList (mCons (mIxV 1 (mC (.int 1))) (mNil))) (mCons (mPure kList (mCons (mIxV 2 (mC (.int 1))) (mNil))) (mNil)))) (mNil))))
  (sFrz 4 (sSeq (sIf (mTest (mP2 kNe (mPure kRepr (mCons (mCall Vw.no P_beside (mCons (mVar Vw.no 0) (mCons (mVar Vw.no 1) (mCons (mVar Vw.no 2) (mNil))))) (mNil))) (mPure kRepr (mCons (mPure kTup (mCons (mP2 kAdd (mIxV 1 (mC (.int 0))) (mIxV 2 (mC (.int 0)))) (mCons (mPure kTuple (mCons (mVar Vw.no 4) (mNil))) (mNil)))) (mNil)))))
  (sRet Vw.no (mC (.bl false)))
  (sSkip))
  (sSeq (sAsg Vw.no (.tp [(.nm 5), (.nm 6)]) (mCallL Vw.no P__law_heard 0 [1, 2, 0] (mNil)))
  (sSeq (sSet Vw.no 7 (mPure kTup (mCons (mIxV 1 (mC (.int 0))) (mCons (mPure kTuple (mCons (mLc Vw.no [8] (.nm 8) (mSeq false Vw.no (mIxV 1 (mC (.int 1)))) (mTest (mP2 kIn (mVar Vw.no 8) (mIxV 2 (mC (.int 1))))) (mVar Vw.no 8)) (mNil))) (mNil)))))
  (sSeq (sIf (mTest (mP2 kNe (mIxV 1 (mC (.int 0))) (mIxV 2 (mC (.int 0)))))
  (sSet Vw.no 7 (mC .non))
  (sSkip))
  (sSeq (sIf (mAnd (mTest (mP2 kIs (mVar Vw.no 7) (mC .non))) (mNot (mAnd (mTest (mPure (kIsC okE subE) (mCons (mVar Vw.no 5) (mCons (mC (.cls "BadPlaces")) (mNil))))) (mTest (mP2 kEq (mPure kRepr (mCons (mPure (kValue okE) (mCons (mVar Vw.no 5) mNil)) (mNil))) (mPure kRepr (mCons (mVar Vw.no 2) (mNil))))))))
  (sRet Vw.no (mC (.bl false)))
  (sSkip))
  (sSeq (sIf (mAnd (mTest (mP2 kIsNot (mVar Vw.no 7) (mC .non))) (mOr (mTest (mP2 kIsNot (mVar Vw.no 5) (mC .non))) (mTest (mP2 kNe (mPure kRepr (mCons (mVar Vw.no 6) (mNil))) (mPure kRepr (mCons (mVar Vw.no 7) (mNil)))))))
  (sRet Vw.no (mC (.bl false)))
  (sSkip))
  right_tail))))))) := by unfold m__law_is_right right_tail; rfl
theorem tail_v {w k l : Nat} {rs qs : List (List Int)} {ss : List Int} (h : RelOk w k rs) (h' : RelOk w l qs) (hw : w ≤ 5) (hk : k ≤ 4) (hl : l ≤ 4) (hr : rs.length ≤ 12) (hq : qs.length ≤ 12) (s1 : 1 ≤ ss.length) (s2 : ss.length ≤ 5) (hs : ∀ s ∈ ss, 0 ≤ s ∧ s < (k : Int)) (x4 x5 x6 x7 : Option Own) : W right_tail [some (.v (.int w)), some (.v (relV k rs)), some (.v (relV l qs)), some (.v (row ss)), x4, x5, x6, x7, none, none] (okP fun y => y = .ok (.v (.bl true))) := by
  have hwk : w ^ k ≤ 625 := Nat.le_trans (Nat.pow_le_pow_left hw k) (Nat.le_trans (Nat.pow_le_pow_right (by omega) hk) (by decide))
  have hmul : rs.length * qs.length ≤ 12 * 12 := Nat.mul_le_mul hr hq
  have hk1 := h.k1
  have hl1 := h'.k1
  have hsub : ∀ p : List Int → Bool, ∀ r ∈ rs.filter p, r.length ≤ 8 ∧ ∀ x ∈ r, 0 ≤ x ∧ x < 1000 := fun p r hr2 => by
    obtain ⟨h3, h4⟩ := h.ok r (List.mem_filter.mp hr2).1
    exact ⟨by omega, fun x hx => by have := h4 x hx; omega⟩
  have hfl : ∀ p : List Int → Bool, (rs.filter p).length ≤ 1000 := fun p => Nat.le_trans (List.length_filter_le _ _) (by omega)
  have hcut : ∀ r ∈ rs.map (cut ss), r.length = ss.length ∧ ∀ x ∈ r, 0 ≤ x ∧ x < (w : Int) := fun r hr2 => by
    obtain ⟨q, hq2, rfl⟩ := List.mem_map.mp hr2
    exact cut_ok h hs hq2
  unfold right_tail
  trivial
  refine we_map rs row (fun r => row (cut ss r)) (we_seq ?_)
  trivial
  refine ⟨rfl, by omega, fun r hr => ⟨okB_no, _, rfl, ?_⟩, ?_⟩
  · trivial
    refine we_map ss .int (fun s => .int (r.getD s.toNat 0)) (we_seq ?_)
    trivial
    refine ⟨rfl, by omega, fun s hs2 => ⟨okB_no, _, rfl, ?_⟩, ?_⟩
    · trivial
      have := hs s hs2
      have := (h.ok r hr).1
      refine ⟨_, _, _, rfl, rfl, ixO_ints (by omega) (by omega), ?_⟩
      simp [Own.val, wipeR]
    · trivial
      simp [cut, Function.comp_def]
  have e : (rs.map fun r => row (cut ss r)) = (rs.map (cut ss)).map row := by simp [Function.comp_def]
  rw [e]
  trivial
  refine ⟨_, (ksortSet_rows (okRows_of (n := ss.length) (by rw [List.length_map]; omega) s1 (fun r hr => ⟨(hcut r hr).1, fun x hx => ((hcut r hr).2 x hx).1⟩)) : kSortSet [.lst ((rs.map (cut ss)).map row)] = some (.l ((sortT (rs.map (cut ss))).map row))), ?_⟩
  trivial
  refine ⟨_, (turned_v h (by omega) s1 (by omega) hs : P_turned [.int w, relV k rs, row ss] = _), ?_⟩
  trivial
  have hst : kRepr [relV ss.length (sortT (rs.map (cut ss)))] = some (.v (.str (rpr (relV ss.length (sortT (rs.map (cut ss))))))) := by
    refine krepr_rel (by omega) (fun r hr2 => ?_) ?_
    · obtain ⟨h3, h4⟩ := hcut r (mem_sortT.mp hr2)
      exact ⟨by omega, fun x hx => by have := h4 x hx; omega⟩
    · unfold sortT
      rw [(List.mergeSort_perm _ _).length_eq]
      have := ddup_le (rs.map (cut ss))
      rw [List.length_map] at this
      omega
  refine ⟨_, hst, ?_⟩
  trivial
  have e3 : ((ss.map Val.int).length : Int) = (ss.length : Nat) := by simp
  rw [e3]
  refine ⟨_, (hst : kRepr [.tup [.int (ss.length : Nat), .tup ((sortT (rs.map (cut ss))).map rowV)]] = _), ?_⟩
  trivial
  refine we_ite_f (by simp) ?_
  trivial
  refine we_filter rs row (fun r => decide (((ddup (cut ss r)).length : Int) = 1)) row (we_seq ?_)
  trivial
  refine ⟨rfl, by omega, fun r hr => ⟨okB_no, _, rfl, ?_⟩, ?_⟩
  · trivial
    refine we_map ss .int (fun s => .int (r.getD s.toNat 0)) (we_seq ?_)
    trivial
    refine ⟨rfl, by omega, fun s hs2 => ⟨okB_no, _, rfl, ?_⟩, ?_⟩
    · trivial
      have := hs s hs2
      have := (h.ok r hr).1
      refine ⟨_, _, _, rfl, rfl, ixO_ints (by omega) (by omega), ?_⟩
      simp [Own.val, wipeR]
    · have e : (ss.map fun s => Val.int (r.getD s.toNat 0)) = (cut ss r).map .int := by simp [cut, Function.comp_def]
      rw [e]
      trivial
      refine ⟨_, klenSet_lst (by simp [cut]; omega), ?_⟩
      trivial
      refine ⟨rfl, fun _ => rfl, fun _ => ?_⟩
      trivial
      exact ⟨rfl, rfl⟩
  trivial
  refine ⟨_, tied_v h s1 (by omega) hs, ?_⟩
  trivial
  have htd := krepr_rel (k := k) (by omega) (hsub fun r => decide (((ddup (cut ss r)).length : Int) = 1)) (hfl _)
  refine ⟨_, htd, ?_⟩
  trivial
  refine ⟨_, htd, ?_⟩
  trivial
  refine we_ite_f (by simp) ?_
  trivial
  refine we_filter (rows w k) row (fun r => !decide (r ∈ rs)) row (we_seq ?_)
  trivial
  refine ⟨_, law_all_rows_v h.w1 h.w2 (by omega) (by omega), ?_⟩
  trivial
  refine ⟨rfl, by rw [rows_len]; omega, fun r hr => ⟨okB_no, _, rfl, ?_⟩, ?_⟩
  · trivial
    refine ⟨_, knin_rows r rs, ?_⟩
    trivial
    refine ⟨rfl, fun _ => rfl, fun _ => ?_⟩
    trivial
    exact ⟨rfl, rfl⟩
  trivial
  refine ⟨_, (rest_v h (by omega) (by omega) : P_rest [.int w, relV k rs] = _), ?_⟩
  trivial
  have hre := krepr_rel (k := k) (rs := (rows w k).filter fun r => !decide (r ∈ rs)) (by omega) (fun r hr2 => by
    obtain ⟨h3, h4⟩ := rows_ok (List.mem_filter.mp hr2).1
    exact ⟨by omega, fun x hx => by have := h4 x hx; omega⟩) (Nat.le_trans (List.length_filter_le _ _) (by rw [rows_len]; omega))
  refine ⟨_, hre, ?_⟩
  trivial
  refine ⟨_, hre, ?_⟩
  trivial
  simp
theorem is_right_v {w k l : Nat} {rs qs : List (List Int)} {ss : List Int} (h : RelOk w k rs) (h' : RelOk w l qs) (hw : w ≤ 5) (hk : k ≤ 4) (hl : l ≤ 4) (hr : rs.length ≤ 12) (hq : qs.length ≤ 12) (s1 : 1 ≤ ss.length) (s2 : ss.length ≤ 5) (hs : ∀ s ∈ ss, 0 ≤ s ∧ s < (k : Int)) :
    P__law_is_right [.int w, relV k rs, relV l qs, row ss] = .ok (.v (.bl true)) := by
  have hwk : w ^ k ≤ 625 := Nat.le_trans (Nat.pow_le_pow_left hw k) (Nat.le_trans (Nat.pow_le_pow_right (by omega) hk) (by decide))
  have hmul : rs.length * qs.length ≤ 12 * 12 := Nat.mul_le_mul hr hq
  have hk1 := h.k1
  have hl1 := h'.k1
  have hsub : ∀ p : List Int → Bool, ∀ r ∈ rs.filter p, r.length ≤ 8 ∧ ∀ x ∈ r, 0 ≤ x ∧ x < 1000 := fun p r hr2 => by
    obtain ⟨h3, h4⟩ := h.ok r (List.mem_filter.mp hr2).1
    exact ⟨by omega, fun x hx => by have := h4 x hx; omega⟩
  have hfl : ∀ p : List Int → Bool, (rs.filter p).length ≤ 1000 := fun p => Nat.le_trans (List.length_filter_le _ _) (by omega)
  have hcut : ∀ r ∈ rs.map (cut ss), r.length = ss.length ∧ ∀ x ∈ r, 0 ≤ x ∧ x < (w : Int) := fun r hr2 => by
    obtain ⟨q, hq2, rfl⟩ := List.mem_map.mp hr2
    exact cut_ok h hs hq2
  refine runP_eq rfl ?_
  rw [right_split]
  simp only [KS.entry, List.map_cons, List.map_nil, List.length_cons, List.length_nil, Nat.reduceAdd, Nat.reduceSub, List.replicate, List.cons_append, List.nil_append]
  trivial
  refine ⟨_, show kList [.tup (rs.map row)] = some (.l (rs.map row)) from rfl, ?_⟩
  trivial
  refine ⟨_, show kList [.tup (qs.map row)] = some (.l (qs.map row)) from rfl, ?_⟩
  trivial
  refine ⟨_, longer_v (fun x hx => by have := (h.ok x hx).1; omega) (fun x hx => by have := (h'.ok x hx).1; omega) (by omega), ?_⟩
  trivial
  refine ⟨_, ksort_sorted (prod_rising (fun r hr => (h.ok r hr).1) h.ris h'.ris) (fun r hr e => by
    have := (prod_ok h h' r hr).1
    rw [e] at this; simp at this; omega), ?_⟩
  trivial
  refine ⟨_, beside_v h h' (by omega) (by omega) (by omega), ?_⟩
  trivial
  have hprod : kRepr [relV (k + l) (prod rs qs)] = some (.v (.str (rpr (relV (k + l) (prod rs qs))))) := krepr_rel (by omega) (fun r hr2 => by
    obtain ⟨h3, h4⟩ := prod_ok h h' r hr2
    exact ⟨by omega, fun x hx => by have := h4 x hx; omega⟩) (by rw [prod_len]; omega)
  refine ⟨_, hprod, ?_⟩
  trivial
  have hprod2 : kRepr [.tup [.int ((k : Int) + l), .tup ((prod rs qs).map row)]] = some (.v (.str (rpr (relV (k + l) (prod rs qs))))) := by
    rw [show ((k : Int) + l) = ((k + l : Nat) : Int) by omega]; exact hprod
  refine ⟨_, hprod2, ?_⟩
  trivial
  refine we_ite_f (by simp) ?_
  trivial
  by_cases e : k = l
  · subst e
    refine ⟨_, _, rfl, heard_ok (lam_both h h'), by simp only [nolamO, nolamL, nolam, nolam_rows, Bool.and_self], okB_no, _, rfl, ?_⟩
    trivial
    refine we_filter rs row (fun r => decide (r ∈ qs)) row (we_seq ?_)
    trivial
    refine ⟨rfl, by omega, fun r hr => ⟨okB_no, _, rfl, ?_⟩, ?_⟩
    · trivial
      refine ⟨_, kin_rows r qs, ?_⟩
      trivial
      refine ⟨rfl, fun _ => rfl, fun _ => ?_⟩
      trivial
      exact ⟨rfl, rfl⟩
    and_intros
    have hbo := krepr_rel (k := k) (by omega) (hsub fun r => decide (r ∈ qs)) (hfl _)
    refine we_ite_f rfl ?_
    refine we_ite_f rfl ?_
    trivial
    refine we_ite_t rfl ?_
    trivial
    refine we_ite_f rfl ?_
    trivial
    refine ⟨_, hbo, ?_⟩
    trivial
    refine ⟨_, hbo, ?_⟩
    trivial
    refine we_ite_f (by simp) ?_
    trivial
    exact tail_v h h' hw hk hl hr hq s1 s2 hs _ _ _ _
  · refine ⟨_, _, rfl, heard_ex (lam_both_x h h' e) okE_bp, by simp only [nolamO, nolamL, nolam, nolam_rows, Bool.and_self], okB_no, _, rfl, ?_⟩
    trivial
    refine we_filter rs row (fun r => decide (r ∈ qs)) row (we_seq ?_)
    trivial
    refine ⟨rfl, by omega, fun r hr => ⟨okB_no, _, rfl, ?_⟩, ?_⟩
    · trivial
      refine ⟨_, kin_rows r qs, ?_⟩
      trivial
      refine ⟨rfl, fun _ => rfl, fun _ => ?_⟩
      trivial
      exact ⟨rfl, rfl⟩
    and_intros
    have hqr := krepr_rel (k := l) (rs := qs) (by omega) (fun r hr2 => by
      obtain ⟨h3, h4⟩ := h'.ok r hr2
      exact ⟨by omega, fun x hx => by have := h4 x hx; omega⟩) (by omega)
    refine ⟨_, show kIsC okE subE [.exc "BadPlaces" (relV l qs), .cls "BadPlaces"] = some (.v (.bl true)) from rfl, ?_⟩
    trivial
    refine we_ite_t rfl ?_
    trivial
    refine ⟨_, show kValue okE [.exc "BadPlaces" (relV l qs)] = some (.v (relV l qs)) from rfl, ?_⟩
    trivial
    refine ⟨_, hqr, ?_⟩
    trivial
    refine ⟨_, hqr, ?_⟩
    trivial
    refine we_ite_f (by simp) ?_
    trivial
    refine we_ite_f rfl ?_
    refine we_ite_f rfl ?_
    trivial
    exact tail_v h h' hw hk hl hr hq s1 s2 hs _ _ _ _
end KL00
set_option Elab.async false
set_option linter.all false
set_option maxRecDepth 100000
set_option maxHeartbeats 4000000
namespace KL00
open PySem PySem.Spec PyProof.Rows KS
theorem wide_v {i : Int} (h0 : 0 ≤ i) (h5 : i < 5) : ∃ a b : Nat, kIx [.lst [.tup [.int 2, .int 11], .tup [.int 3, .int 7], .tup [.int 4, .int 6], .tup [.int 12, .int 4], .tup [.int 7, .int 81]], .int i] = some (.v (.tup [.int a, .int b])) ∧ 1 < a ∧ a ≤ 12 ∧ 1 ≤ b ∧ b ≤ 81 ∧ (11 < b ∨ 2000 < a ^ b) := by
  have : i = 0 ∨ i = 1 ∨ i = 2 ∨ i = 3 ∨ i = 4 := by omega
  rcases this with rfl | rfl | rfl | rfl | rfl
  · exact ⟨2, 11, kix_lst (by decide) rfl, by decide, by decide, by decide, by decide, .inr (by decide)⟩
  · exact ⟨3, 7, kix_lst (by decide) rfl, by decide, by decide, by decide, by decide, .inr (by decide)⟩
  · exact ⟨4, 6, kix_lst (by decide) rfl, by decide, by decide, by decide, by decide, .inr (by decide)⟩
  · exact ⟨12, 4, kix_lst (by decide) rfl, by decide, by decide, by decide, by decide, .inr (by decide)⟩
  · exact ⟨7, 81, kix_lst (by decide) rfl, by decide, by decide, by decide, by decide, .inl (by decide)⟩
theorem krepr_2000 : kRepr [.int 2000] = some (.v (.str "2000")) := by
  have h := krepr (shw_int (i := 2000) (by decide)) (by omega) (by omega)
  rw [h]
  have e : rpr (.int 2000) = "2000" := by decide +kernel
  rw [e]
theorem sizes_v {w k : Nat} (h1 : 1 ≤ w) (hw : w ≤ 5) (k1 : 1 ≤ k) (hk : k ≤ 4) : P__law_are_sizes_right [.int w, .int k] = .ok (.v (.bl true)) := by
  have hwk : w ^ k ≤ 625 := Nat.le_trans (Nat.pow_le_pow_left hw k) (Nat.le_trans (Nat.pow_le_pow_right (by omega) hk) (by decide))
  obtain ⟨a, b, ew, ha1, ha2, hb1, hb2, hab⟩ := wide_v (i := (w : Int) % 5) (by omega) (by omega)
  refine runP_eq rfl ?_
  unfold m__law_are_sizes_right
  simp only [KS.entry, List.map_cons, List.map_nil, List.length_cons, List.length_nil, Nat.reduceAdd, Nat.reduceSub, List.replicate, List.cons_append, List.nil_append]
  trivial
  refine ⟨_, law_all_rows_v h1 (by omega) (by omega) (by omega), ?_⟩
  trivial
  refine ⟨_, full_v h1 (by omega) k1 (by omega) (by omega), ?_⟩
  trivial
  have hre := krepr_rel (k := k) (rs := rows w k) (by omega) (fun r hr2 => by
    obtain ⟨h3, h4⟩ := rows_ok hr2
    exact ⟨by omega, fun x hx => by have := h4 x hx; omega⟩) (by rw [rows_len]; omega)
  refine ⟨_, hre, ?_⟩
  trivial
  refine ⟨_, hre, ?_⟩
  trivial
  refine we_ite_f (by simp) ?_
  trivial
  refine ⟨_, (equal_v h1 (by omega) : P_equal [.int w] = _), ?_⟩
  trivial
  have e : ((List.range w).map fun (x : Nat) => row [(x : Int), (x : Int)]) = ((List.range w).map fun (x : Nat) => [(x : Int), (x : Int)]).map row := by simp [Function.comp_def]
  have heq : kRepr [.tup [.int 2, .tup ((List.range w).map fun (x : Nat) => row [(x : Int), (x : Int)])]] = some (.v (.str (rpr (relV 2 ((List.range w).map fun (x : Nat) => [(x : Int), (x : Int)]))))) := by
    rw [e]
    exact krepr_rel (k := 2) (rs := (List.range w).map fun (x : Nat) => [(x : Int), (x : Int)]) (by omega) (fun r hr2 => by
      obtain ⟨x, hx, rfl⟩ := List.mem_map.mp hr2
      have hx : x < w := by simpa using hx
      refine ⟨by simp, fun y hy => ?_⟩
      have : y = (x : Int) := by simpa using hy
      omega) (by simp; omega)
  refine ⟨_, heq, ?_⟩
  trivial
  refine we_map (List.range w) (fun x => .int x) (fun (x : Nat) => row [(x : Int), (x : Int)]) (we_rng ?_)
  trivial
  refine ⟨by rw [Int.toNat_natCast, intsFrom_map], by simp; omega, fun x hx => ⟨okB_no, _, rfl, ?_⟩, ?_⟩
  · trivial
    simp
  trivial
  refine ⟨_, heq, ?_⟩
  trivial
  refine we_ite_f (by simp) ?_
  trivial
  refine ⟨_, ew, ?_⟩
  trivial
  refine ⟨_, _, rfl, heard_ex (lam_full_x ha1 ha2 hb1 hb2 hab) okE_tm, rfl, ?_⟩
  trivial
  refine ⟨_, show kIx [.tup [.exc "TooMany" (.int 2000), .non], .int 0] = some (.v (.exc "TooMany" (.int 2000))) from rfl, ?_⟩
  trivial
  refine ⟨_, show kIsC okE subE [.exc "TooMany" (.int 2000), .cls "TooMany"] = some (.v (.bl true)) from rfl, ?_⟩
  trivial
  refine we_ite_t rfl ?_
  trivial
  refine ⟨_, show kValue okE [.exc "TooMany" (.int 2000)] = some (.v (.int 2000)) from rfl, ?_⟩
  trivial
  refine ⟨_, krepr_2000, ?_⟩
  trivial
  simp
end KL00
set_option Elab.async false
set_option linter.all false
set_option maxRecDepth 100000
set_option maxHeartbeats 4000000
namespace KL00
open PySem PySem.Spec PyProof.Rows KS
theorem right_v {pot : List Val} (hp : Pot 0 pot) : ∃ pot', F__law_right pot [] = .ok (.v (.bl true)) pot' := by
  obtain ⟨o, ds1, e, rfl⟩ := runI_w (n := 1) (N := 6) (m := m__law_right) (ds0 := pot) (ds := []) (fun o ds1 => o = .v (.bl true)) rfl (by
    unfold m__law_right
    simp only [KS.entry, List.map_cons, List.map_nil, List.length_cons, List.length_nil, Nat.reduceAdd, Nat.reduceSub, List.replicate, List.cons_append, List.nil_append]
    trivial
    refine w_for (fun i r' => ∃ pot x y z u v, Pot (1000 * i) pot ∧ r' = [some (.l pot), x, y, z, u, v]) (we_rng ?_)
    trivial
    refine ⟨⟨pot, _, _, _, _, _, hp, rfl⟩, ?_, ?_⟩
    · rintro i d r' hd ⟨pot1, x, y, z, u, v, h7, rfl⟩
      have hi : i < 2 := (List.getElem?_eq_some_iff.mp hd).1
      refine ⟨_, rfl, ?_⟩
      trivial
      obtain ⟨a, pot2, e2, ha1, ha2, hp2⟩ := take_v (u := 5) h7 (by omega) (by omega) (by omega)
      refine ⟨_, rfl, _, _, e2, okB_no, ?_⟩
      trivial
      obtain ⟨w, hw⟩ : ∃ m : Nat, 1 + a = m := ⟨(1 + a).toNat, by omega⟩
      rw [hw]
      have hw1 : 1 ≤ w := by omega
      have hw2 : w ≤ 5 := by omega
      obtain ⟨b, pot3, e3, hb1, hb2, hp3⟩ := take_v (u := 4) hp2 (by omega) (by omega) (by omega)
      refine ⟨_, rfl, _, _, e3, okB_no, ?_⟩
      trivial
      obtain ⟨k, hk⟩ : ∃ m : Nat, 1 + b = m := ⟨(1 + b).toNat, by omega⟩
      rw [hk]
      obtain ⟨rs, pot4, e4, hrs, hrl, hp4⟩ := rel_v (k := k) (m := 12) hp3 (by omega) hw1 hw2 (by omega) (by omega) (by omega)
      refine ⟨_, rfl, _, _, (e4 : F__law_relation_drawn pot3 [.int w, .int k, .int 12] = _), okB_no, ?_⟩
      trivial
      obtain ⟨c, pot5, e5, hc1, hc2, hp5⟩ := take_v (u := 4) hp4 (by omega) (by omega) (by omega)
      refine ⟨_, rfl, _, _, e5, okB_no, ?_⟩
      trivial
      obtain ⟨dl, pot6, e6, hdl, hp6⟩ := of_v (ds := [.int k, .int (1 + c)]) (.inl rfl) hp5 (by omega) (by simp) (by simp)
      refine ⟨_, rfl, _, _, e6, okB_no, ?_⟩
      obtain ⟨l, rfl, hl1, hl2⟩ : ∃ l : Nat, dl = .int l ∧ 1 ≤ l ∧ l ≤ 4 := by
        rcases List.mem_cons.mp hdl with h | h
        · exact ⟨k, h, by omega, by omega⟩
        · refine ⟨(1 + c).toNat, ?_, by omega, by omega⟩
          have : dl = .int (1 + c) := by simpa using h
          rw [this, show (1 + c) = (((1 + c).toNat : Nat) : Int) by omega]; rfl
      trivial
      obtain ⟨qs, pot7, e7, hqs, hql, hp7⟩ := rel_v (k := l) (m := 12) hp6 (by omega) hw1 hw2 hl1 hl2 (by omega)
      refine ⟨_, rfl, _, _, (e7 : F__law_relation_drawn pot6 [.int w, .int l, .int 12] = _), okB_no, ?_⟩
      trivial
      refine we_lc (fun j acc r' => ∃ pot, ∃ ss : List Int, ∃ y, acc = ss.map .int ∧ ss.length = j ∧ (∀ s ∈ ss, 0 ≤ s ∧ s < (k : Int)) ∧ Pot (1000 * i + 300 + j) pot ∧ r' = [some (.l pot), y, some (.v (.int w)), some (.v (relV k rs)), some (.v (relV l qs)), none]) (we_rng ?_)
      trivial
      obtain ⟨f, pot8, e8, hf1, hf2, hp8⟩ := take_v (u := 5) hp7 (by omega) (by omega) (by omega)
      refine ⟨_, rfl, _, _, e8, okB_no, ?_⟩
      trivial
      rw [intsFrom_len]
      refine ⟨by omega, ⟨pot8, [], _, rfl, rfl, by simp, hp8.mono (by omega), rfl⟩, ?_, ?_⟩
      · rintro j dj acc r' hdj ⟨pot9, ss, y, rfl, h5, h6, h8, rfl⟩
        have hj : j < (1 + f).toNat := by have := (List.getElem?_eq_some_iff.mp hdj).1; rwa [intsFrom_len] at this
        refine ⟨okB_no, _, rfl, we_ok (a := true) rfl ?_⟩
        and_intros
        obtain ⟨s, pot10, e10, hs1, hs2, hp10⟩ := take_v (u := (k : Int)) h8 (by omega) (by omega) (by omega)
        refine ⟨_, rfl, _, _, e10, okB_no, ?_⟩
        trivial
        refine ⟨pot10, ss ++ [s], _, by simp [Own.val], by simp [h5], fun q hq => ?_, hp10.mono (by omega), rfl⟩
        rcases List.mem_append.mp hq with hq | hq
        · exact h6 q hq
        · obtain rfl : q = s := by simpa using hq
          exact ⟨hs1, hs2⟩
      rintro acc r' hlen ⟨pot9, ss, y, rfl, h5, h6, h8, rfl⟩
      trivial
      refine ⟨_, is_right_v hrs hqs hw2 (by omega) hl2 hrl hql (by omega) (by omega) h6, ?_⟩
      and_intros
      obtain ⟨g, pot11, e11, hg1, hg2, hp11⟩ := take_v (u := 4) h8 (by omega) (by omega) (by omega)
      refine ⟨_, rfl, _, _, e11, okB_no, ?_⟩
      trivial
      obtain ⟨m, hm⟩ : ∃ m : Nat, 1 + g = m := ⟨(1 + g).toNat, by omega⟩
      rw [hm]
      refine ⟨_, sizes_v hw1 hw2 (by omega) (by omega), ?_⟩
      and_intros
      exact ⟨_, _, _, _, _, _, hp11.mono (by omega), rfl⟩
    · rintro r' ⟨pot1, x, y, z, u, v, h7, rfl⟩
      trivial
      exact ⟨_, rfl, rfl⟩)
  exact ⟨ds1, e⟩
theorem law_v {ns : List Int} : P_law [.scr ns] = .ok (.v (.bl true)) := by
  refine runP_eq rfl ?_
  unfold m_law
  simp only [KS.entry, List.map_cons, List.map_nil, List.length_cons, List.length_nil, Nat.reduceAdd, Nat.reduceSub, List.replicate, List.cons_append, List.nil_append]
  trivial
  have hk : max 1 (min 3 ns.length) ≤ 3 := by omega
  refine we_map (List.range (max 1 (min 3 ns.length))) (fun i => .int i) (fun _ => .bl true) (we_seq ?_)
  trivial
  refine ⟨_, cells_v, ?_⟩
  trivial
  refine ⟨by rw [intsFrom_map], by simp; omega, fun i hi => ⟨okB_no, _, rfl, ?_⟩, ?_⟩
  · have hi : i < max 1 (min 3 ns.length) := by simpa using hi
    have hi : i ≤ 2 := by omega
    trivial
    obtain ⟨pot, e, hp⟩ := pot_v (ns := ns) hi
    refine ⟨_, e, ?_⟩
    trivial
    obtain ⟨pot', e'⟩ := right_v hp
    refine ⟨_, _, rfl, _, _, e', ?_⟩
    simp [Own.val, wipeR]
  · trivial
    refine ⟨_, kall_map (List.range (max 1 (min 3 ns.length))) (fun _ => true), ?_⟩
    trivial
    simp
end KL00
set_option Elab.async false
set_option linter.all false
set_option maxRecDepth 100000
set_option maxHeartbeats 0
namespace KL00
open PySem PySem.Spec PyProof.Rows L2 KS
open LamX (Tabs TabS TabB)
def fa0 : List He.Fa := [.glo "is_int", .glo "look_at_number", .glo "look_at_worths", .glo "is_row", .glo "is_rising", .glo "is_relation", .glo "look_at_relations", .glo "both", .glo "all_rows", .glo "power", .glo "look_at_size", .glo "full", .glo "look_at_spots", .glo "sorted_rows", .glo "equal", .glo "beside", .glo "turned", .glo "tied", .glo "rest", .glo "_law_pot", .glo "_law_take", .glo "_law_of", .glo "_law_cells", .glo "_law_some", .glo "_law_heard", .glo "_law_longer", .glo "_law_all_rows", .glo "_law_kind_rows", .glo "_law_relation_drawn", .glo "_law_is_right"]
def fa1 : List He.Fa := [.glo "_law_are_sizes_right", .glo "_law_right", .glo "law", .free "abs", .free "all", .free "bool", .free "int", .free "isinstance", .free "len", .free "list", .free "max", .free "min", .free "range", .free "repr", .free "set", .free "sorted", .free "sum", .free "tuple", .free "zip", .int "MOST_PLACES" 81, .int "MOST_ROWS" 2000, .int "MOST_WORTHS" 12]
def fa : List He.Fa := fa0 ++ fa1
def dd_is_int : He.DefD := ⟨("is_int", none), "is_int", "is_int", defArgs s_is_int, defBody s_is_int, defScope s_is_int, [], []⟩
def dd_look_at_number : He.DefD := ⟨("look_at_number", none), "look_at_number", "look_at_number", defArgs s_look_at_number, defBody s_look_at_number, defScope s_look_at_number, [], []⟩
def dd_look_at_worths : He.DefD := ⟨("look_at_worths", none), "look_at_worths", "look_at_worths", defArgs s_look_at_worths, defBody s_look_at_worths, defScope s_look_at_worths, [], []⟩
def dd_is_row : He.DefD := ⟨("is_row", none), "is_row", "is_row", defArgs s_is_row, defBody s_is_row, defScope s_is_row, [], []⟩
def dd_is_rising : He.DefD := ⟨("is_rising", none), "is_rising", "is_rising", defArgs s_is_rising, defBody s_is_rising, defScope s_is_rising, [], []⟩
def dd_is_relation : He.DefD := ⟨("is_relation", none), "is_relation", "is_relation", defArgs s_is_relation, defBody s_is_relation, defScope s_is_relation, [], []⟩
def dd_look_at_relations : He.DefD := ⟨("look_at_relations", none), "look_at_relations", "look_at_relations", defArgs s_look_at_relations, defBody s_look_at_relations, defScope s_look_at_relations, [], []⟩
def dd_both : He.DefD := ⟨("both", none), "both", "both", defArgs s_both, defBody s_both, defScope s_both, [], []⟩
def dd_all_rows : He.DefD := ⟨("all_rows", none), "all_rows", "all_rows", defArgs s_all_rows, defBody s_all_rows, defScope s_all_rows, [], []⟩
def dd_power : He.DefD := ⟨("power", none), "power", "power", defArgs s_power, defBody s_power, defScope s_power, [], []⟩
def dd_look_at_size : He.DefD := ⟨("look_at_size", none), "look_at_size", "look_at_size", defArgs s_look_at_size, defBody s_look_at_size, defScope s_look_at_size, [], []⟩
def dd_full : He.DefD := ⟨("full", none), "full", "full", defArgs s_full, defBody s_full, defScope s_full, [], []⟩
def dd_look_at_spots : He.DefD := ⟨("look_at_spots", none), "look_at_spots", "look_at_spots", defArgs s_look_at_spots, defBody s_look_at_spots, defScope s_look_at_spots, [], []⟩
def dd_sorted_rows : He.DefD := ⟨("sorted_rows", none), "sorted_rows", "sorted_rows", defArgs s_sorted_rows, defBody s_sorted_rows, defScope s_sorted_rows, [], []⟩
def dd_equal : He.DefD := ⟨("equal", none), "equal", "equal", defArgs s_equal, defBody s_equal, defScope s_equal, [], []⟩
def dd_beside : He.DefD := ⟨("beside", none), "beside", "beside", defArgs s_beside, defBody s_beside, defScope s_beside, [], []⟩
def dd_turned : He.DefD := ⟨("turned", none), "turned", "turned", defArgs s_turned, defBody s_turned, defScope s_turned, [], []⟩
def dd_tied : He.DefD := ⟨("tied", none), "tied", "tied", defArgs s_tied, defBody s_tied, defScope s_tied, [], []⟩
def dd_rest : He.DefD := ⟨("rest", none), "rest", "rest", defArgs s_rest, defBody s_rest, defScope s_rest, [], []⟩
def dd__law_pot : He.DefD := ⟨("_law_pot", none), "_law_pot", "_law_pot", defArgs s__law_pot, defBody s__law_pot, defScope s__law_pot, [], []⟩
def dd__law_take : He.DefD := ⟨("_law_take", none), "_law_take", "_law_take", defArgs s__law_take, defBody s__law_take, defScope s__law_take, [], []⟩
def dd__law_of : He.DefD := ⟨("_law_of", none), "_law_of", "_law_of", defArgs s__law_of, defBody s__law_of, defScope s__law_of, [], []⟩
def dd__law_cells : He.DefD := ⟨("_law_cells", none), "_law_cells", "_law_cells", defArgs s__law_cells, defBody s__law_cells, defScope s__law_cells, [], []⟩
def dd__law_some : He.DefD := ⟨("_law_some", none), "_law_some", "_law_some", defArgs s__law_some, defBody s__law_some, defScope s__law_some, [], []⟩
def dd__law_heard : He.DefD := ⟨("_law_heard", none), "_law_heard", "_law_heard", defArgs s__law_heard, defBody s__law_heard, defScope s__law_heard, [], []⟩
def dd__law_longer : He.DefD := ⟨("_law_longer", none), "_law_longer", "_law_longer", defArgs s__law_longer, defBody s__law_longer, defScope s__law_longer, [], []⟩
def dd__law_all_rows : He.DefD := ⟨("_law_all_rows", none), "_law_all_rows", "_law_all_rows", defArgs s__law_all_rows, defBody s__law_all_rows, defScope s__law_all_rows, [], []⟩
def dd__law_kind_rows : He.DefD := ⟨("_law_kind_rows", none), "_law_kind_rows", "_law_kind_rows", defArgs s__law_kind_rows, defBody s__law_kind_rows, defScope s__law_kind_rows, [], []⟩
def dd__law_relation_drawn : He.DefD := ⟨("_law_relation_drawn", none), "_law_relation_drawn", "_law_relation_drawn", defArgs s__law_relation_drawn, defBody s__law_relation_drawn, defScope s__law_relation_drawn, [], []⟩
def dd__law_is_right : He.DefD := ⟨("_law_is_right", none), "_law_is_right", "_law_is_right", defArgs s__law_is_right, defBody s__law_is_right, defScope s__law_is_right, [], []⟩
def dd__law_are_sizes_right : He.DefD := ⟨("_law_are_sizes_right", none), "_law_are_sizes_right", "_law_are_sizes_right", defArgs s__law_are_sizes_right, defBody s__law_are_sizes_right, defScope s__law_are_sizes_right, [], []⟩
def dd__law_right : He.DefD := ⟨("_law_right", none), "_law_right", "_law_right", defArgs s__law_right, defBody s__law_right, defScope s__law_right, [], []⟩
def dd_law : He.DefD := ⟨("law", none), "law", "law", defArgs s_law, defBody s_law, defScope s_law, [], []⟩
def fn0 : List He.DefD := [dd_is_int, dd_look_at_number, dd_look_at_worths, dd_is_row, dd_is_rising, dd_is_relation, dd_look_at_relations, dd_both, dd_all_rows, dd_power, dd_look_at_size, dd_full, dd_look_at_spots, dd_sorted_rows, dd_equal, dd_beside, dd_turned, dd_tied, dd_rest, dd__law_pot, dd__law_take, dd__law_of, dd__law_cells, dd__law_some, dd__law_heard, dd__law_longer, dd__law_all_rows, dd__law_kind_rows, dd__law_relation_drawn, dd__law_is_right]
def fn1 : List He.DefD := [dd__law_are_sizes_right, dd__law_right, dd_law]
def fn : List He.DefD := fn0 ++ fn1
abbrev tfl : List He.Defn := [("_law_is_right", none), ("_law_are_sizes_right", none)]
abbrev TT (K : PySem.W.Frag) : List (Addr × PySem.Str) := [((He.cT K ("_law_is_right", none)).2, "_law_is_right.<locals>.<lambda>"), ((He.cT K ("_law_are_sizes_right", none)).2, "_law_are_sizes_right.<locals>.<lambda>")]
def exK (K : PySem.W.Frag) : Bool := noLst K && (decide ((TT K).map (·.1)).Nodup && errB PySem.Challenge.rw_keptissaid_k00_relations_made_of_others.prog errNs K)
theorem exK_l {K : PySem.W.Frag} (h : exK K = true) : noLst K = true := by unfold exK at h; exact (He.ba h).1
theorem exK_n {K : PySem.W.Frag} (h : exK K = true) : ((TT K).map (·.1)).Nodup := by unfold exK at h; exact of_decide_eq_true (He.ba (He.ba h).2).1
theorem exK_e {K : PySem.W.Frag} (h : exK K = true) : errB PySem.Challenge.rw_keptissaid_k00_relations_made_of_others.prog errNs K = true := by unfold exK at h; exact (He.ba (He.ba h).2).2
abbrev RR : PySem.W.OpenRow := PySem.W.OpenLaw.row PySem.Challenge.rw_keptissaid_k00_relations_made_of_others
theorem ini_s : IniS s_ini := ⟨⟨rfl, _, _, rfl, rfl⟩, rfl, rfl⟩
abbrev hk : PySem.W.Hook := hookY 5 fa fn tfl exK "KeptError" s_ini
def ob (s : PySem.W.SharedT) : AlY := obsY 5 fa fn tfl exK "KeptError" (HandSHeadRun.getT s)
theorem ob_eq (s : PySem.W.SharedT) : ob s = hk.obs s.abs := obsY_eq (HandSHeadRun.getT_eq s)
def names : List PySem.Str := (["MOST_WORTHS", "MOST_PLACES", "MOST_ROWS", "KeptError", "BadNumber", "BadRelation", "BadPlaces", "BadSpots", "TooMany", "is_int", "is_row", "is_rising", "power", "look_at_number", "look_at_worths", "is_relation", "look_at_relations", "look_at_spots", "sorted_rows", "all_rows", "look_at_size", "full", "equal", "both"] : List PySem.Str) ++ (["beside", "turned", "tied", "rest", "_law_pot", "_law_take", "_law_of", "_law_cells", "_law_some", "_law_heard", "_law_longer", "_law_all_rows", "_law_kind_rows", "_law_relation_drawn", "_law_is_right", "_law_are_sizes_right", "_law_right"] : List PySem.Str)
theorem run (w : World) : HandSHeadRun.RunEq RR (PySem.W.view RR.prog [45]) hk ob 4000 names w := by
  intro os
  kernel_rfl
theorem tl {P : Program} {w : World} {K : PySem.W.Frag} {mg : PySem.Str → Option Value} {base h h2 : Heap} (X : K.In h) (G : h.Ns mainGlobals mg) (c : He.SaysX fa fn [] tfl exK w h2 K) : FnF ⟨P, w, K, mg, base, TT K, LLk, LPk⟩ "law" s_law ["script"] := fnF_of (c.t.d.def_ 32 (d := dd_law) rfl) (He.glo_ok X G (c.t.d.fact 32 (f := .glo "law") rfl)) fun _ _ _ _ _ _ us hl => match us, hl with | [_], _ => rfl
/-- the facts -/
theorem tx {P : Program} {w : World} {K : PySem.W.Frag} {mg : PySem.Str → Option Value} {base h h2 : Heap} (X : K.In h) (G : h.Ns mainGlobals mg) (c : He.SaysX fa fn [] tfl exK w h2 K) (TB : ∀ p ∈ tfl.map (He.cT K), TabB base mg p.1 p.2) (er : ErrF ⟨P, w, K, mg, base, TT K, LLk, LPk⟩ okE) : Tx ⟨P, w, K, mg, base, TT K, LLk, LPk⟩ where
  ll := rfl
  lp := rfl
  er := er
  f_is_int := fnF_of (c.t.d.def_ 0 (d := dd_is_int) rfl) (He.glo_ok X G (c.t.d.fact 0 (f := .glo "is_int") rfl)) fun _ _ _ _ _ _ us hl => match us, hl with | [_, _, _], _ => rfl
  f_look_at_number := fnF_of (c.t.d.def_ 1 (d := dd_look_at_number) rfl) (He.glo_ok X G (c.t.d.fact 1 (f := .glo "look_at_number") rfl)) fun _ _ _ _ _ _ us hl => match us, hl with | [_, _, _], _ => rfl
  f_look_at_worths := fnF_of (c.t.d.def_ 2 (d := dd_look_at_worths) rfl) (He.glo_ok X G (c.t.d.fact 2 (f := .glo "look_at_worths") rfl)) fun _ _ _ _ _ _ us hl => match us, hl with | [_], _ => rfl
  f_is_row := fnF_of (c.t.d.def_ 3 (d := dd_is_row) rfl) (He.glo_ok X G (c.t.d.fact 3 (f := .glo "is_row") rfl)) fun _ _ _ _ _ _ us hl => match us, hl with | [_, _, _], _ => rfl
  f_is_rising := fnF_of (c.t.d.def_ 4 (d := dd_is_rising) rfl) (He.glo_ok X G (c.t.d.fact 4 (f := .glo "is_rising") rfl)) fun _ _ _ _ _ _ us hl => match us, hl with | [_], _ => rfl
  f_is_relation := fnF_of (c.t.d.def_ 5 (d := dd_is_relation) rfl) (He.glo_ok X G (c.t.d.fact 5 (f := .glo "is_relation") rfl)) fun _ _ _ _ _ _ us hl => match us, hl with | [_, _], _ => rfl
  f_look_at_relations := fnF_of (c.t.d.def_ 6 (d := dd_look_at_relations) rfl) (He.glo_ok X G (c.t.d.fact 6 (f := .glo "look_at_relations") rfl)) fun _ _ _ _ _ _ us hl => match us, hl with | [_, _], _ => rfl
  f_both := fnF_of (c.t.d.def_ 7 (d := dd_both) rfl) (He.glo_ok X G (c.t.d.fact 7 (f := .glo "both") rfl)) fun _ _ _ _ _ _ us hl => match us, hl with | [_, _, _], _ => rfl
  f_all_rows := fnF_of (c.t.d.def_ 8 (d := dd_all_rows) rfl) (He.glo_ok X G (c.t.d.fact 8 (f := .glo "all_rows") rfl)) fun _ _ _ _ _ _ us hl => match us, hl with | [_, _], _ => rfl
  f_power := fnF_of (c.t.d.def_ 9 (d := dd_power) rfl) (He.glo_ok X G (c.t.d.fact 9 (f := .glo "power") rfl)) fun _ _ _ _ _ _ us hl => match us, hl with | [_, _], _ => rfl
  f_look_at_size := fnF_of (c.t.d.def_ 10 (d := dd_look_at_size) rfl) (He.glo_ok X G (c.t.d.fact 10 (f := .glo "look_at_size") rfl)) fun _ _ _ _ _ _ us hl => match us, hl with | [_, _], _ => rfl
  f_full := fnF_of (c.t.d.def_ 11 (d := dd_full) rfl) (He.glo_ok X G (c.t.d.fact 11 (f := .glo "full") rfl)) fun _ _ _ _ _ _ us hl => match us, hl with | [_, _], _ => rfl
  f_look_at_spots := fnF_of (c.t.d.def_ 12 (d := dd_look_at_spots) rfl) (He.glo_ok X G (c.t.d.fact 12 (f := .glo "look_at_spots") rfl)) fun _ _ _ _ _ _ us hl => match us, hl with | [_, _], _ => rfl
  f_sorted_rows := fnF_of (c.t.d.def_ 13 (d := dd_sorted_rows) rfl) (He.glo_ok X G (c.t.d.fact 13 (f := .glo "sorted_rows") rfl)) fun _ _ _ _ _ _ us hl => match us, hl with | [_, _], _ => rfl
  f_equal := fnF_of (c.t.d.def_ 14 (d := dd_equal) rfl) (He.glo_ok X G (c.t.d.fact 14 (f := .glo "equal") rfl)) fun _ _ _ _ _ _ us hl => match us, hl with | [_], _ => rfl
  f_beside := fnF_of (c.t.d.def_ 15 (d := dd_beside) rfl) (He.glo_ok X G (c.t.d.fact 15 (f := .glo "beside") rfl)) fun _ _ _ _ _ _ us hl => match us, hl with | [_, _, _], _ => rfl
  f_turned := fnF_of (c.t.d.def_ 16 (d := dd_turned) rfl) (He.glo_ok X G (c.t.d.fact 16 (f := .glo "turned") rfl)) fun _ _ _ _ _ _ us hl => match us, hl with | [_, _, _], _ => rfl
  f_tied := fnF_of (c.t.d.def_ 17 (d := dd_tied) rfl) (He.glo_ok X G (c.t.d.fact 17 (f := .glo "tied") rfl)) fun _ _ _ _ _ _ us hl => match us, hl with | [_, _, _], _ => rfl
  f_rest := fnF_of (c.t.d.def_ 18 (d := dd_rest) rfl) (He.glo_ok X G (c.t.d.fact 18 (f := .glo "rest") rfl)) fun _ _ _ _ _ _ us hl => match us, hl with | [_, _], _ => rfl
  f__law_pot := fnF_of (c.t.d.def_ 19 (d := dd__law_pot) rfl) (He.glo_ok X G (c.t.d.fact 19 (f := .glo "_law_pot") rfl)) fun _ _ _ _ _ _ us hl => match us, hl with | [_, _], _ => rfl
  f__law_take := fnF_of (c.t.d.def_ 20 (d := dd__law_take) rfl) (He.glo_ok X G (c.t.d.fact 20 (f := .glo "_law_take") rfl)) fun _ _ _ _ _ _ us hl => match us, hl with | [_, _], _ => rfl
  f__law_of := fnF_of (c.t.d.def_ 21 (d := dd__law_of) rfl) (He.glo_ok X G (c.t.d.fact 21 (f := .glo "_law_of") rfl)) fun _ _ _ _ _ _ us hl => match us, hl with | [_, _], _ => rfl
  f__law_cells := fnF_of (c.t.d.def_ 22 (d := dd__law_cells) rfl) (He.glo_ok X G (c.t.d.fact 22 (f := .glo "_law_cells") rfl)) fun _ _ _ _ _ _ us hl => match us, hl with | [_, _], _ => rfl
  f__law_some := fnF_of (c.t.d.def_ 23 (d := dd__law_some) rfl) (He.glo_ok X G (c.t.d.fact 23 (f := .glo "_law_some") rfl)) fun _ _ _ _ _ _ us hl => match us, hl with | [_, _, _], _ => rfl
  f__law_heard := fnF_of (c.t.d.def_ 24 (d := dd__law_heard) rfl) (He.glo_ok X G (c.t.d.fact 24 (f := .glo "_law_heard") rfl)) fun _ _ _ _ _ _ us hl => match us, hl with | [_], _ => rfl
  f__law_longer := fnF_of (c.t.d.def_ 25 (d := dd__law_longer) rfl) (He.glo_ok X G (c.t.d.fact 25 (f := .glo "_law_longer") rfl)) fun _ _ _ _ _ _ us hl => match us, hl with | [_, _], _ => rfl
  f__law_all_rows := fnF_of (c.t.d.def_ 26 (d := dd__law_all_rows) rfl) (He.glo_ok X G (c.t.d.fact 26 (f := .glo "_law_all_rows") rfl)) fun _ _ _ _ _ _ us hl => match us, hl with | [_, _], _ => rfl
  f__law_kind_rows := fnF_of (c.t.d.def_ 27 (d := dd__law_kind_rows) rfl) (He.glo_ok X G (c.t.d.fact 27 (f := .glo "_law_kind_rows") rfl)) fun _ _ _ _ _ _ us hl => match us, hl with | [_, _, _], _ => rfl
  f__law_relation_drawn := fnF_of (c.t.d.def_ 28 (d := dd__law_relation_drawn) rfl) (He.glo_ok X G (c.t.d.fact 28 (f := .glo "_law_relation_drawn") rfl)) fun _ _ _ _ _ _ us hl => match us, hl with | [_, _, _, _], _ => rfl
  t__law_is_right := ⟨(He.cT K ("_law_is_right", none)).1, (He.cT K ("_law_is_right", none)).2, TB _ (List.mem_map.mpr ⟨_, (by simp : (("_law_is_right", none) : He.Defn) ∈ tfl), rfl⟩), (by simp : _ ∈ TT K), uniq_of (exK_n c.more) (by simp), fnL_of (p := ("_law_is_right", none)) (c.t.d.def_ 29 (d := dd__law_is_right) rfl) (He.glo_ok X G (c.t.d.fact 29 (f := .glo "_law_is_right") rfl)) fun _ _ _ _ _ _ us hl => match us, hl with | [_, _, _, _], _ => rfl⟩
  t__law_are_sizes_right := ⟨(He.cT K ("_law_are_sizes_right", none)).1, (He.cT K ("_law_are_sizes_right", none)).2, TB _ (List.mem_map.mpr ⟨_, (by simp : (("_law_are_sizes_right", none) : He.Defn) ∈ tfl), rfl⟩), (by simp : _ ∈ TT K), uniq_of (exK_n c.more) (by simp), fnL_of (p := ("_law_are_sizes_right", none)) (c.t.d.def_ 30 (d := dd__law_are_sizes_right) rfl) (He.glo_ok X G (c.t.d.fact 30 (f := .glo "_law_are_sizes_right") rfl)) fun _ _ _ _ _ _ us hl => match us, hl with | [_, _], _ => rfl⟩
  f__law_right := fnF_of (c.t.d.def_ 31 (d := dd__law_right) rfl) (He.glo_ok X G (c.t.d.fact 31 (f := .glo "_law_right") rfl)) fun _ _ _ _ _ _ us hl => match us, hl with | [_], _ => rfl
  f_law := fnF_of (c.t.d.def_ 32 (d := dd_law) rfl) (He.glo_ok X G (c.t.d.fact 32 (f := .glo "law") rfl)) fun _ _ _ _ _ _ us hl => match us, hl with | [_], _ => rfl
  b_abs := He.free_ok X G (c.t.d.fact 33 (f := .free "abs") rfl)
  b_all := He.free_ok X G (c.t.d.fact 34 (f := .free "all") rfl)
  b_bool := He.free_ok X G (c.t.d.fact 35 (f := .free "bool") rfl)
  b_int := He.free_ok X G (c.t.d.fact 36 (f := .free "int") rfl)
  b_isinstance := He.free_ok X G (c.t.d.fact 37 (f := .free "isinstance") rfl)
  b_len := He.free_ok X G (c.t.d.fact 38 (f := .free "len") rfl)
  b_list := He.free_ok X G (c.t.d.fact 39 (f := .free "list") rfl)
  b_max := He.free_ok X G (c.t.d.fact 40 (f := .free "max") rfl)
  b_min := He.free_ok X G (c.t.d.fact 41 (f := .free "min") rfl)
  b_range := He.free_ok X G (c.t.d.fact 42 (f := .free "range") rfl)
  b_repr := He.free_ok X G (c.t.d.fact 43 (f := .free "repr") rfl)
  b_set := He.free_ok X G (c.t.d.fact 44 (f := .free "set") rfl)
  b_sorted := He.free_ok X G (c.t.d.fact 45 (f := .free "sorted") rfl)
  b_sum := He.free_ok X G (c.t.d.fact 46 (f := .free "sum") rfl)
  b_tuple := He.free_ok X G (c.t.d.fact 47 (f := .free "tuple") rfl)
  b_zip := He.free_ok X G (c.t.d.fact 48 (f := .free "zip") rfl)
  c_MOST_PLACES := He.int_ok X G (c.t.d.fact 49 (f := .int "MOST_PLACES" 81) rfl)
  c_MOST_ROWS := He.int_ok X G (c.t.d.fact 50 (f := .int "MOST_ROWS" 2000) rfl)
  c_MOST_WORTHS := He.int_ok X G (c.t.d.fact 51 (f := .int "MOST_WORTHS" 12) rfl)
end KL00
open PySem PySem.W PySem.Calls PyProof.Rows
theorem KL00.holds (law_true : ∀ ns : List Int, ns.length ≤ 63 → (∀ z ∈ ns, Builtin.Int.intBits z ≤ 1048576) → KL00.P_law [.scr ns] = .ok (.v (.bl true))) : PySem.Challenge.rw_keptissaid_k00_relations_made_of_others.Holds := by
  w_on; o_law
  refine HandSHeadRun.head_any (r := OpenLaw.row PySem.Challenge.rw_keptissaid_k00_relations_made_of_others) (q := view (OpenLaw.row PySem.Challenge.rw_keptissaid_k00_relations_made_of_others).prog [45]) (H := KL00.hk) (ob := KL00.ob) (M := 4000) (loose := KL00.names) (d := HandSHeadRun.topDef (OpenLaw.row PySem.Challenge.rw_keptissaid_k00_relations_made_of_others).prog 45) (kwd := []) KL00.ob_eq (by kernel_rfl) (fun s => by kernel_rfl) KL00.run (by kernel_rfl) (by kernel_rfl) (by kernel_rfl) (by rfl) (by first | assumption | decide +kernel) (by decide +kernel) ⟨rfl, rfl, rfl, rfl, rfl, by decide +kernel⟩ ?hw ?hc
  case hw => w_witness2
  case hc =>
    refine KS.walk_G (l := PySem.Challenge.rw_keptissaid_k00_relations_made_of_others) (n := 63) (k := 12) (x := "script") rfl (by decide) (by kernel_rfl) ⟨rfl, by decide, by decide⟩ ?F
    intro w mg fa h Y G hmg0
    obtain ⟨K, KX, c0⟩ := Y
    have c := c0.x
    have hmg : mg ("law" : PySem.Str) = some (.ref fa) := by
      have e : (HandSHeadRun.topDef (OpenLaw.row PySem.Challenge.rw_keptissaid_k00_relations_made_of_others).prog 45).name = ("law" : PySem.Str) := by kernel_rfl
      rw [← e]
      exact hmg0
    obtain ⟨f0, fd, hm, F, hb⟩ := KL00.tl (P := PySem.Challenge.rw_keptissaid_k00_relations_made_of_others.prog) (w := w) (base := h) KX G c
    have e : some (Value.ref fa) = some (.ref f0) := hmg.symm.trans hm
    cases e
    have bA : ∀ (s : Shared) (u : Value), PySem.BindsTo s fd ⟨[u], []⟩ [("script", u)] := fun s u => KS.fun_binds (ps := ["script"]) F (fun _ _ _ _ _ _ us hl => match us, hl with | [_], _ => rfl) s [u] rfl
    refine ⟨K, fd, KL00.tfl.map (He.cT K), fun base => KS.spP ⟨PySem.Challenge.rw_keptissaid_k00_relations_made_of_others.prog, w, K, mg, base, KL00.TT K, KL00.LLk, KL00.LPk⟩ KL00.P_law, KX, KL00.exK_l c.more, fun p hp => ?_, fun p hp => ?_, fun p hp => ?_, bA, fun a vs ns hl hbits ha base => KS.law_sp (law_true ns hl hbits) (KS.tabs_H0 (fun p hp => ?_) ha), fun base Kb Gb TB => ?_⟩
    · obtain ⟨q, hq, rfl⟩ := List.mem_map.mp hp
      exact c.empty q hq
    · obtain ⟨q, hq, rfl⟩ := List.mem_map.mp hp
      exact c.out q hq
    · obtain ⟨q, hq, rfl⟩ := List.mem_map.mp hp
      exact PySem.W.codeHd_of_K KX (c.hd q hq)
    · exact (List.mem_map.mpr ⟨p, hp, rfl⟩ : p.1 ∈ (KL00.TT K).map Prod.fst)
    obtain ⟨f1, fd1, F1, hm1, F3, hb1⟩ := (KL00.d_law (KL00.tx (P := PySem.Challenge.rw_keptissaid_k00_relations_made_of_others.prog) (w := w) (base := base) Kb Gb c TB (KS.errB_ok (g := ⟨PySem.Challenge.rw_keptissaid_k00_relations_made_of_others.prog, w, K, mg, base, KL00.TT K, KL00.LLk, KL00.LPk⟩) (st := KL00.s_ini) Kb Gb (KL00.exK_e c.more) c0.ini KL00.ini_s (by simp [KL00.errNs]) fun _ _ _ _ _ _ _ _ _ _ _ us hl => match us, hl with | [_, _], _ => ⟨_, rfl, rfl⟩))).ex
    have e1 : some (Value.ref fa) = some (.ref f1) := hmg.symm.trans hm1
    cases e1
    rw [KS.fun_uniq F F3]
    exact F1
theorem PySem.Challenge.cw_keptissaid_k00_relations_made_of_others_holds : PySem.Challenge.rw_keptissaid_k00_relations_made_of_others.Holds := by
  exact KL00.holds fun ns hl hb => KL00.law_v
