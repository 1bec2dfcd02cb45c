import PyProof.Rows.All
import Wide.All
import OpenK.AllK
import Wide.FinOn
import HandS.ForMost
import HandS.Conv
import HandS.FStr
import HandS.IsInst
import HandS.SortOrd
import HandS.Lambda
import HandS.Exc
import HandS.TryOnly
import HandS.ExcOwn
import HandS.WordsExc
import HandS.CallSlots
import HandS.ExcField
import KE.LtSeq
import PyProof.NeKinds
import HandS.TupAny
import HandS.TupLe
import HandS.StrMore
import HandS.WordsDict
import HandS.Codes
import PyProof.StrCaseBound
import HandS.RaiseMore
import HandS.Replace
import HandS.ReplaceLit
import HandS.ReplaceList
import HandS.Small
import HandS.More
import KE.SortKeyHeap
import HandS.SortKw
import HandS.Nested
import HandS.HeadWalk
import HandS.SetFor
import KE.DataCmp
import PySem.Challenge.RW_besidewords_k31_a_question_shown
set_option Elab.async false
set_option linter.all false
set_option maxRecDepth 100000
/-! A second layer over HandS: each construct's reading as a plain function over data; lists, tuples, dicts by value, what is changed is owned. -/
namespace Fu
open PySem L2

/-! ### data -/
inductive D where
  | non | bl (b : Bool) | int (i : Int) | str (s : Str)
  | lst (xs : List D) | rol (xs : List D) | tup (xs : List D) | kup (xs : List D)
  | dK (ks : List Key) (vs : List D) | dT (ks : List (List Key)) (vs : List D)
  | obj (c : Str) (fs : List Str) (vs : List D)

/-- owned data: the cells of it are no one else's; sh: shared, never changed again -/
inductive O where
  | sh (d : D)
  | lst (xs : List O) | tup (xs : List O)
  | dK (ks : List Key) (vs : List O) | dT (ks : List (List Key)) (vs : List O)
  | obj (c : Str) (fs : List Str) (vs : List O)

mutual
def D.flat : D → Bool
  | .non => true | .bl _ => true | .int _ => true | .str _ => true
  | .tup xs => D.flatL xs
  | .kup _ => true
  | .lst _ => false | .rol _ => false | .dK _ _ => false | .dT _ _ => false | .obj _ _ _ => false
def D.flatL : List D → Bool
  | [] => true
  | d :: ds => d.flat && D.flatL ds
end
mutual
def O.data : O → D
  | .sh d => d
  | .lst xs => .lst (O.dataL xs)
  | .tup xs => .tup (O.dataL xs)
  | .dK ks vs => .dK ks (O.dataL vs)
  | .dT ks vs => .dT ks (O.dataL vs)
  | .obj c fs vs => .obj c fs (O.dataL vs)
def O.dataL : List O → List D
  | [] => []
  | o :: os => o.data :: O.dataL os
end
mutual
/-- every shared part is flat -/
def O.pure : O → Bool
  | .sh d => d.flat
  | .lst xs => O.pureL xs
  | .tup xs => O.pureL xs
  | .dK _ vs => O.pureL vs
  | .dT _ vs => O.pureL vs
  | .obj _ _ vs => O.pureL vs
def O.pureL : List O → Bool
  | [] => true
  | o :: os => o.pure && O.pureL os
end
theorem D.flatL_all (ds : List D) : D.flatL ds = ds.all D.flat := by
  induction ds with
  | nil => rfl
  | cons d ds ih => simp [D.flatL, ih]
theorem O.dataL_map (os : List O) : O.dataL os = os.map O.data := by
  induction os with
  | nil => rfl
  | cons o os ih => simp [O.dataL, ih]
theorem O.pureL_all (os : List O) : O.pureL os = os.all O.pure := by
  induction os with
  | nil => rfl
  | cons o os ih => simp [O.pureL, ih]

abbrev Mg := Str → Option Value
/-- a tuple of the written part -/
def KTup (K : PySem.W.Frag) (a : Addr) (vs : List V) : Prop :=
  ∃ (o : Obj) (its : Array Value) (n : Nat), K.lookup a = some o ∧ o.cls = .type "tuple" ∧ o.data = .seq its n ∧ its.size ≤ sizeLine ∧ Vals vs its.toList
/-- a tuple that stands still -/
def TpK (K : PySem.W.Frag) (F : Hp) (a : Addr) (vs : List V) : Prop := F a = some (.tup vs)
theorem TpK.sq {K : PySem.W.Frag} {F : Hp} {a : Addr} {vs : List V} (h : TpK K F a vs) : SqT K F a vs := .inl (.inl h)
theorem KTup.sq {K : PySem.W.Frag} {F : Hp} {a : Addr} {vs : List V} (h : KTup K a vs) : SqT K F a vs := .inr h

mutual
/-- the value stands for the data in the heap -/
inductive Rep (K : PySem.W.Frag) (mg : Mg) (F : Hp) : V → D → Prop
  | non : Rep K mg F .non .non
  | bl (b : Bool) : Rep K mg F (.bl b) (.bl b)
  | int (i : Int) : Rep K mg F (.int i) (.int i)
  | str (x : Str) : Rep K mg F (.str x) (.str x)
  | lst {a : Addr} {vs : List V} {ds : List D} : F a = some (.lst vs) → RepL K mg F vs ds → Rep K mg F (.ref a) (.lst ds)
  | rol {a : Addr} {vs : List V} {ds : List D} : SqL K F a vs → RepL K mg F vs ds → Rep K mg F (.ref a) (.rol ds)
  | tup {a : Addr} {vs : List V} {ds : List D} : TpK K F a vs → RepL K mg F vs ds → Rep K mg F (.ref a) (.tup ds)
  | kup {a : Addr} {vs : List V} {is : List Int} : KTup K a vs → vs = is.map V.int → Rep K mg F (.ref a) (.kup (is.map D.int))
  | dK {a : Addr} {ks : List Key} {vs : List V} {ds : List D} : Rd F a (.dK (ks.zip vs)) → ks.length = vs.length → RepL K mg F vs ds → Rep K mg F (.ref a) (.dK ks ds)
  | dT {a : Addr} {ks : List (List Key)} {vs : List V} {ds : List D} : Rd F a (.dT (ks.zip vs)) → ks.length = vs.length → RepL K mg F vs ds → Rep K mg F (.ref a) (.dT ks ds)
  | obj {a C dx : Addr} {c : Str} {fs : List Str} {vs : List V} {ds : List D} : F a = some (.ins C dx (fs.zip vs)) → mg c = some (.ref C) → fs.length = vs.length → RepL K mg F vs ds → Rep K mg F (.ref a) (.obj c fs ds)
inductive RepL (K : PySem.W.Frag) (mg : Mg) (F : Hp) : List V → List D → Prop
  | nil : RepL K mg F [] []
  | cons {v : V} {vs : List V} {d : D} {ds : List D} : Rep K mg F v d → RepL K mg F vs ds → RepL K mg F (v :: vs) (d :: ds)
end
/-- a code object's table: what it tells are code objects -/
def TabG (H : Hp) (P : Addr) : Prop := ∃ ps : Array Value, H P = some (.tbl ps) ∧ TriplesOk ps.toList ∧ ∀ (pos : Pos) (cv : Value), codeAmong pos ps.toList = some cv → ∃ c q, cv = .ref c ∧ H c = some (LamX.CodeO c q)
/-- all is kept; a table may grow -/
structure Ex (H H' : Hp) : Prop where
  at' : ∀ a o, H a = some o → (∀ ps, o ≠ .tbl ps) → H' a = some o
  tab : ∀ P, TabG H P → TabG H' P
  bk : ∀ a, H' a = none → H a = none
  tb : ∀ a ps, H a = some (.tbl ps) → ∃ ps', H' a = some (.tbl ps')
theorem Ex.at {H H' : Hp} (e : Ex H H') {a : Addr} {o : HO} (h : H a = some o) (n : ∀ ps, o ≠ .tbl ps := by intro ps z; cases z) : H' a = some o := e.at' a o h n
theorem Ex.mut {H H' : Hp} (e : Ex H H') {a : Addr} {u : HO} (h : H a = some u) (m : Mut (some u)) : H' a = some u := e.at' a u h fun ps z => by subst z; exact m
theorem TabG.ext {H H' : Hp} {P : Addr} (t : TabG H P) (e : ∀ a o, H a = some o → H' a = some o) : TabG H' P := by
  obtain ⟨ps, h1, h2, h3⟩ := t
  refine ⟨ps, e _ _ h1, h2, fun pos cv hc => ?_⟩
  obtain ⟨c, q, e1, e2⟩ := h3 pos cv hc
  exact ⟨c, q, e1, e _ _ e2⟩
theorem Ex.of {H H' : Hp} (e : ∀ a o, H a = some o → H' a = some o) : Ex H H' := by
  refine ⟨fun a o h _ => e a o h, fun P t => t.ext e, fun a h => ?_, fun a ps h => ⟨ps, e _ _ h⟩⟩
  cases h1 : H a with
  | none => rfl
  | some o => rw [e a o h1] at h; cases h
theorem Ex.refl (H : Hp) : Ex H H := Ex.of fun _ _ h => h
theorem Ex.trans {H H1 H2 : Hp} (a : Ex H H1) (b : Ex H1 H2) : Ex H H2 := ⟨fun x o h n => b.at' x o (a.at' x o h n) n, fun P t => b.tab P (a.tab P t), fun x h => a.bk x (b.bk x h), fun x ps h => by
  obtain ⟨ps', h'⟩ := a.tb x ps h
  exact b.tb x ps' h'⟩
theorem Ex.new {H : Hp} {p : Addr} {o : HO} (h : H p = none) : Ex H (upd H p o) := Ex.of fun a u e => by
  rw [upd_ne (ne_of_none e h)]
  exact e
theorem Ex.back {H H' : Hp} {p : Addr} (e : Ex H H') (h : H' p = none) : H p = none := e.bk p h
theorem Ex.rd {H H' : Hp} {a : Addr} {u : HO} (e : Ex H H') (h : Rd H a u) (n : ∀ ps, u ≠ .tbl ps := by intro ps z; cases z) : Rd H' a u := by
  rcases h with h | ⟨o, h⟩
  · exact .inl (e.at h n)
  · exact .inr ⟨o, e.at h⟩
theorem Ex.sl {K : PySem.W.Frag} {H H' : Hp} {a : Addr} {xs : List V} (e : Ex H H') (h : SqL K H a xs) : SqL K H' a xs := by
  rcases h with h | h
  · exact .inl (e.rd h)
  · exact .inr h
theorem Ex.tp {K : PySem.W.Frag} {H H' : Hp} {a : Addr} {xs : List V} (e : Ex H H') (h : TpK K H a xs) : TpK K H' a xs := e.at (o := .tup xs) h
section
variable {K : PySem.W.Frag} {mg : Mg} {F F' : Hp}
mutual
theorem Rep.mono (e : Ex F F') : ∀ {v : V} {d : D}, Rep K mg F v d → Rep K mg F' v d
  | _, _, .non => .non
  | _, _, .bl b => .bl b
  | _, _, .int i => .int i
  | _, _, .str x => .str x
  | _, _, .lst h r => .lst (e.at h) (RepL.mono e r)
  | _, _, .rol h r => .rol (e.sl h) (RepL.mono e r)
  | _, _, .tup h r => .tup (e.tp h) (RepL.mono e r)
  | _, _, .kup h q => .kup h q
  | _, _, .dK h l r => .dK (e.rd h) l (RepL.mono e r)
  | _, _, .dT h l r => .dT (e.rd h) l (RepL.mono e r)
  | _, _, .obj h m l r => .obj (e.at h) m l (RepL.mono e r)
theorem RepL.mono (e : Ex F F') : ∀ {vs : List V} {ds : List D}, RepL K mg F vs ds → RepL K mg F' vs ds
  | _, _, .nil => .nil
  | _, _, .cons h r => .cons (Rep.mono e h) (RepL.mono e r)
end
/-- tuples are in F -/
def TupIn (F H : Hp) : Prop := ∀ a vs, H a = some (.tup vs) → F a = some (.tup vs)
theorem TupIn.tp {K : PySem.W.Frag} {F H : Hp} {a : Addr} {vs : List V} (t : TupIn F H) (h : TpK K H a vs) : TpK K F a vs := t a _ h
mutual
theorem Rep.flat {H : Hp} (t : TupIn F H) : ∀ {v : V} {d : D}, Rep K mg H v d → d.flat = true → Rep K mg F v d
  | _, _, .non, _ => .non
  | _, _, .bl b, _ => .bl b
  | _, _, .int i, _ => .int i
  | _, _, .str x, _ => .str x
  | _, _, .lst _ _, h => by simp [D.flat] at h
  | _, _, .rol _ _, h => by simp [D.flat] at h
  | _, _, .kup h z, _ => .kup h z
  | _, _, .tup h r, q => .tup (t.tp h) (RepL.flat t r (by simpa [D.flat] using q))
  | _, _, .dK _ _ _, h => by simp [D.flat] at h
  | _, _, .dT _ _ _, h => by simp [D.flat] at h
  | _, _, .obj _ _ _ _, h => by simp [D.flat] at h
theorem RepL.flat {H : Hp} (t : TupIn F H) : ∀ {vs : List V} {ds : List D}, RepL K mg H vs ds → D.flatL ds = true → RepL K mg F vs ds
  | _, _, .nil, _ => .nil
  | _, _, .cons h r, q => .cons (Rep.flat t h (by simp [D.flatL] at q; exact q.1)) (RepL.flat t r (by simp [D.flatL] at q; exact q.2))
end
theorem RepL.len : ∀ {vs : List V} {ds : List D}, RepL K mg F vs ds → vs.length = ds.length
  | _, _, .nil => rfl
  | _, _, .cons _ r => by simp [RepL.len r]
theorem RepL.get : ∀ {vs : List V} {ds : List D} {i : Nat} {d : D}, RepL K mg F vs ds → ds[i]? = some d → ∃ v, vs[i]? = some v ∧ Rep K mg F v d
  | _, _, _, _, .nil, h => by simp at h
  | _, _, 0, _, .cons h _, e => by simp at e; subst e; exact ⟨_, rfl, h⟩
  | _, _, i + 1, _, .cons _ r, e => RepL.get (i := i) r (by simpa using e)
theorem RepL.get' : ∀ {vs : List V} {ds : List D} {i : Nat} {v : V}, RepL K mg F vs ds → vs[i]? = some v → ∃ d, ds[i]? = some d ∧ Rep K mg F v d
  | _, _, _, _, .nil, h => by simp at h
  | _, _, 0, _, .cons h _, e => by simp at e; subst e; exact ⟨_, rfl, h⟩
  | _, _, i + 1, _, .cons _ r, e => RepL.get' (i := i) r (by simpa using e)
theorem RepL.app : ∀ {vs ws : List V} {ds es : List D}, RepL K mg F vs ds → RepL K mg F ws es → RepL K mg F (vs ++ ws) (ds ++ es)
  | _, _, _, _, .nil, s => s
  | _, _, _, _, .cons h r, s => .cons h (RepL.app r s)
theorem RepL.take : ∀ {vs : List V} {ds : List D} (n : Nat), RepL K mg F vs ds → RepL K mg F (vs.take n) (ds.take n)
  | _, _, 0, _ => .nil
  | _, _, _ + 1, .nil => .nil
  | _, _, n + 1, .cons h r => .cons h (RepL.take n r)
theorem RepL.drop : ∀ {vs : List V} {ds : List D} (n : Nat), RepL K mg F vs ds → RepL K mg F (vs.drop n) (ds.drop n)
  | _, _, 0, r => r
  | _, _, _ + 1, .nil => .nil
  | _, _, n + 1, .cons _ r => RepL.drop n r
theorem RepL.mem : ∀ {vs : List V} {ds : List D} {v : V}, RepL K mg F vs ds → v ∈ vs → ∃ d, d ∈ ds ∧ Rep K mg F v d
  | _, _, _, .nil, h => by simp at h
  | _, _, _, .cons h r, m => by
    rcases List.mem_cons.mp m with e | m
    · subst e; exact ⟨_, List.mem_cons_self, h⟩
    · obtain ⟨d, a, b⟩ := RepL.mem r m
      exact ⟨d, List.mem_cons_of_mem _ a, b⟩

/-- cells of owned data -/
def Dat : HO → Prop
  | .lst _ => True
  | .dK _ => True
  | .dT _ => True
  | .ins _ _ _ => True
  | _ => False
/-! ### what is owned -/
mutual
def Own (K : PySem.W.Frag) (mg : Mg) (F H : Hp) : O → V → List Addr → Prop
  | .sh d, v, fp => fp = [] ∧ Rep K mg F v d
  | .lst os, v, fp => ∃ p vs fq, v = .ref p ∧ H p = some (.lst vs) ∧ fp = p :: fq ∧ OwnL K mg F H os vs fq
  | .tup os, v, fp => ∃ p vs, v = .ref p ∧ TpK K F p vs ∧ OwnL K mg F H os vs fp
  | .dK ks os, v, fp => ∃ p vs fq, v = .ref p ∧ H p = some (.dK (ks.zip vs)) ∧ ks.length = vs.length ∧ fp = p :: fq ∧ OwnL K mg F H os vs fq
  | .dT ks os, v, fp => ∃ p vs fq, v = .ref p ∧ H p = some (.dT (ks.zip vs)) ∧ ks.length = vs.length ∧ fp = p :: fq ∧ OwnL K mg F H os vs fq
  | .obj c fs os, v, fp => ∃ p C dx vs fq, v = .ref p ∧ H p = some (.ins C dx (fs.zip vs)) ∧ mg c = some (.ref C) ∧ fs.length = vs.length ∧ fp = p :: fq ∧ OwnL K mg F H os vs fq
def OwnL (K : PySem.W.Frag) (mg : Mg) (F H : Hp) : List O → List V → List Addr → Prop
  | [], vs, fp => vs = [] ∧ fp = []
  | o :: os, vs, fp => ∃ w ws f1 f2, vs = w :: ws ∧ fp = f1 ++ f2 ∧ Own K mg F H o w f1 ∧ OwnL K mg F H os ws f2
end
mutual
theorem Own.cong {H H' : Hp} (e : Ex F F') : ∀ {o : O} {v : V} {fp : List Addr}, (∀ a ∈ fp, H' a = H a) → Own K mg F H o v fp → Own K mg F' H' o v fp
  | .sh d, v, fp, _, h => by
    obtain ⟨h1, h2⟩ := h
    exact ⟨h1, h2.mono e⟩
  | .lst os, v, fp, k, h => by
    obtain ⟨p, vs, fq, e1, h1, e2, r⟩ := h
    subst e2
    exact ⟨p, vs, fq, e1, (k p List.mem_cons_self).trans h1, rfl, OwnL.cong e (fun a m => k a (List.mem_cons_of_mem _ m)) r⟩
  | .tup os, v, fp, k, h => by
    obtain ⟨p, vs, e1, h1, r⟩ := h
    exact ⟨p, vs, e1, e.tp h1, OwnL.cong e k r⟩
  | .dK ks os, v, fp, k, h => by
    obtain ⟨p, vs, fq, e1, h1, l, e2, r⟩ := h
    subst e2
    exact ⟨p, vs, fq, e1, (k p List.mem_cons_self).trans h1, l, rfl, OwnL.cong e (fun a m => k a (List.mem_cons_of_mem _ m)) r⟩
  | .dT ks os, v, fp, k, h => by
    obtain ⟨p, vs, fq, e1, h1, l, e2, r⟩ := h
    subst e2
    exact ⟨p, vs, fq, e1, (k p List.mem_cons_self).trans h1, l, rfl, OwnL.cong e (fun a m => k a (List.mem_cons_of_mem _ m)) r⟩
  | .obj c fs os, v, fp, k, h => by
    obtain ⟨p, C, dx, vs, fq, e1, h1, m1, l, e2, r⟩ := h
    subst e2
    exact ⟨p, C, dx, vs, fq, e1, (k p List.mem_cons_self).trans h1, m1, l, rfl, OwnL.cong e (fun a m => k a (List.mem_cons_of_mem _ m)) r⟩
theorem OwnL.cong {H H' : Hp} (e : Ex F F') : ∀ {os : List O} {vs : List V} {fp : List Addr}, (∀ a ∈ fp, H' a = H a) → OwnL K mg F H os vs fp → OwnL K mg F' H' os vs fp
  | [], vs, fp, _, h => h
  | o :: os, vs, fp, k, h => by
    obtain ⟨w, ws, f1, f2, e1, e2, h1, h2⟩ := h
    subst e2
    exact ⟨w, ws, f1, f2, e1, rfl, Own.cong e (fun a m => k a (List.mem_append_left _ m)) h1, OwnL.cong e (fun a m => k a (List.mem_append_right _ m)) h2⟩
end
mutual
theorem Own.dom {H : Hp} : ∀ {o : O} {v : V} {fp : List Addr}, Own K mg F H o v fp → ∀ a ∈ fp, ∃ u, H a = some u ∧ Mut (some u)
  | .sh d, v, fp, h => by
    obtain ⟨h1, h2⟩ := h
    subst h1
    intro a m
    cases m
  | .lst os, v, fp, h => by
    obtain ⟨p, vs, fq, e1, h1, e2, r⟩ := h
    subst e2
    intro a m
    rcases List.mem_cons.mp m with e | m
    · subst e; exact ⟨_, h1, trivial⟩
    · exact OwnL.dom r a m
  | .tup os, v, fp, h => by
    obtain ⟨p, vs, e1, h1, r⟩ := h
    exact OwnL.dom r
  | .dK ks os, v, fp, h => by
    obtain ⟨p, vs, fq, e1, h1, l, e2, r⟩ := h
    subst e2
    intro a m
    rcases List.mem_cons.mp m with e | m
    · subst e; exact ⟨_, h1, trivial⟩
    · exact OwnL.dom r a m
  | .dT ks os, v, fp, h => by
    obtain ⟨p, vs, fq, e1, h1, l, e2, r⟩ := h
    subst e2
    intro a m
    rcases List.mem_cons.mp m with e | m
    · subst e; exact ⟨_, h1, trivial⟩
    · exact OwnL.dom r a m
  | .obj c fs os, v, fp, h => by
    obtain ⟨p, C, dx, vs, fq, e1, h1, m1, l, e2, r⟩ := h
    subst e2
    intro a m
    rcases List.mem_cons.mp m with e | m
    · subst e; exact ⟨_, h1, trivial⟩
    · exact OwnL.dom r a m
theorem OwnL.dom {H : Hp} : ∀ {os : List O} {vs : List V} {fp : List Addr}, OwnL K mg F H os vs fp → ∀ a ∈ fp, ∃ u, H a = some u ∧ Mut (some u)
  | [], vs, fp, h => by
    obtain ⟨h1, h2⟩ := h
    subst h2
    intro a m
    cases m
  | o :: os, vs, fp, h => by
    obtain ⟨w, ws, f1, f2, e1, e2, h1, h2⟩ := h
    subst e2
    intro a m
    rcases List.mem_append.mp m with m | m
    · exact Own.dom h1 a m
    · exact OwnL.dom h2 a m
end
mutual
theorem Own.dat {H : Hp} : ∀ {o : O} {v : V} {fp : List Addr}, Own K mg F H o v fp → ∀ a ∈ fp, ∃ u, H a = some u ∧ Dat u
  | .sh d, v, fp, h => by
    obtain ⟨h1, h2⟩ := h
    subst h1
    intro a m
    cases m
  | .lst os, v, fp, h => by
    obtain ⟨p, vs, fq, e1, h1, e2, r⟩ := h
    subst e2
    intro a m
    rcases List.mem_cons.mp m with e | m
    · subst e; exact ⟨_, h1, trivial⟩
    · exact OwnL.dat r a m
  | .tup os, v, fp, h => by
    obtain ⟨p, vs, e1, h1, r⟩ := h
    exact OwnL.dat r
  | .dK ks os, v, fp, h => by
    obtain ⟨p, vs, fq, e1, h1, l, e2, r⟩ := h
    subst e2
    intro a m
    rcases List.mem_cons.mp m with e | m
    · subst e; exact ⟨_, h1, trivial⟩
    · exact OwnL.dat r a m
  | .dT ks os, v, fp, h => by
    obtain ⟨p, vs, fq, e1, h1, l, e2, r⟩ := h
    subst e2
    intro a m
    rcases List.mem_cons.mp m with e | m
    · subst e; exact ⟨_, h1, trivial⟩
    · exact OwnL.dat r a m
  | .obj c fs os, v, fp, h => by
    obtain ⟨p, C, dx, vs, fq, e1, h1, m1, l, e2, r⟩ := h
    subst e2
    intro a m
    rcases List.mem_cons.mp m with e | m
    · subst e; exact ⟨_, h1, trivial⟩
    · exact OwnL.dat r a m
theorem OwnL.dat {H : Hp} : ∀ {os : List O} {vs : List V} {fp : List Addr}, OwnL K mg F H os vs fp → ∀ a ∈ fp, ∃ u, H a = some u ∧ Dat u
  | [], vs, fp, h => by
    obtain ⟨h1, h2⟩ := h
    subst h2
    intro a m
    cases m
  | o :: os, vs, fp, h => by
    obtain ⟨w, ws, f1, f2, e1, e2, h1, h2⟩ := h
    subst e2
    intro a m
    rcases List.mem_append.mp m with m | m
    · exact Own.dat h1 a m
    · exact OwnL.dat h2 a m
end
theorem Ex.wr {F H : Hp} {l : Addr} {o u : HO} (e : Ex F H) (hl : F l = none) (hd : H l = some u) (d : Dat u) : Ex F (upd H l o) := by
  refine ⟨fun a v h n => ?_, fun P t => ?_, fun a h => ?_, fun a ps h => ?_⟩
  · rw [upd_ne (ne_of_none h hl)]; exact e.at' a v h n
  · obtain ⟨ps, h1, h2, h3⟩ := e.tab P t
    have n1 : P ≠ l := fun z => by subst z; rw [hd] at h1; cases h1; exact d
    refine ⟨ps, by rw [upd_ne n1]; exact h1, h2, fun pos cv hc => ?_⟩
    obtain ⟨c, q, e1, e2⟩ := h3 pos cv hc
    have n2 : c ≠ l := fun z => by subst z; rw [hd] at e2; cases e2; exact d
    exact ⟨c, q, e1, by rw [upd_ne n2]; exact e2⟩
  · by_cases q : a = l
    · subst q; exact hl
    · rw [upd_ne q] at h; exact e.bk a h
  · rw [upd_ne (ne_of_none h hl)]; exact e.tb a ps h
theorem Ex.mid {F H F2 : Hp} (e : Ex F H) (hh : ∀ a, F2 a = F a ∨ (F2 a = H a ∧ ∃ u, H a = some u ∧ Dat u)) : Ex F2 H := by
  have old : ∀ {a : Addr} {o : HO}, (¬ Dat o) → F2 a = some o → F a = some o := fun {a o} n h => by
    rcases hh a with q | ⟨q, u, hu, d⟩
    · rw [← q]; exact h
    · rw [q, hu] at h
      cases h
      exact absurd d n
  refine ⟨fun a o h n => ?_, fun P t => ?_, fun a h => ?_, fun a ps h => ?_⟩
  · rcases hh a with q | ⟨q, _⟩
    · rw [q] at h; exact e.at' a o h n
    · rw [q] at h; exact h
  · obtain ⟨ps, h1, h2, h3⟩ := t
    refine e.tab P ⟨ps, old (fun z => z) h1, h2, fun pos cv hc => ?_⟩
    obtain ⟨c, q, e1, e2⟩ := h3 pos cv hc
    exact ⟨c, q, e1, old (fun z => z) e2⟩
  · rcases hh a with q | ⟨q, u, hu, d⟩
    · rw [q]; exact e.bk a h
    · rw [hu] at h; cases h
  · exact e.tb a ps (old (fun z => z) h)
/-! read in the whole heap -/
mutual
theorem Own.rep {H : Hp} (e : Ex F H) : ∀ {o : O} {v : V} {fp : List Addr}, Own K mg F H o v fp → Rep K mg H v o.data
  | .sh d, v, fp, h => by
    rw [O.data]
    exact h.2.mono e
  | .lst os, v, fp, h => by
    obtain ⟨p, vs, fq, e1, h1, e2, r⟩ := h
    subst e1
    rw [O.data]
    exact .lst h1 (OwnL.rep e r)
  | .tup os, v, fp, h => by
    obtain ⟨p, vs, e1, h1, r⟩ := h
    subst e1
    rw [O.data]
    exact .tup (e.tp h1) (OwnL.rep e r)
  | .dK ks os, v, fp, h => by
    obtain ⟨p, vs, fq, e1, h1, l, e2, r⟩ := h
    subst e1
    rw [O.data]
    exact .dK (.inl h1) l (OwnL.rep e r)
  | .dT ks os, v, fp, h => by
    obtain ⟨p, vs, fq, e1, h1, l, e2, r⟩ := h
    subst e1
    rw [O.data]
    exact .dT (.inl h1) l (OwnL.rep e r)
  | .obj c fs os, v, fp, h => by
    obtain ⟨p, C, dx, vs, fq, e1, h1, m1, l, e2, r⟩ := h
    subst e1
    rw [O.data]
    exact .obj h1 m1 l (OwnL.rep e r)
theorem OwnL.rep {H : Hp} (e : Ex F H) : ∀ {os : List O} {vs : List V} {fp : List Addr}, OwnL K mg F H os vs fp → RepL K mg H vs (O.dataL os)
  | [], vs, fp, h => by
    obtain ⟨h1, h2⟩ := h
    subst h1
    rw [O.dataL]
    exact .nil
  | o :: os, vs, fp, h => by
    obtain ⟨w, ws, f1, f2, e1, e2, h1, h2⟩ := h
    subst e1
    rw [O.dataL]
    exact .cons (Own.rep e h1) (OwnL.rep e h2)
end
/-! what is pure needs of F but the tuples -/
mutual
theorem Own.moveF {H : Hp} (e : Ex F H) (t : TupIn F' H) : ∀ {o : O} {v : V} {fp : List Addr}, o.pure = true → Own K mg F H o v fp → Own K mg F' H o v fp
  | .sh d, v, fp, q, h => ⟨h.1, (h.2.mono e).flat t (by simpa [O.pure] using q)⟩
  | .lst os, v, fp, q, h => by
    obtain ⟨p, vs, fq, e1, h1, e2, r⟩ := h
    exact ⟨p, vs, fq, e1, h1, e2, OwnL.moveF e t (by simpa [O.pure] using q) r⟩
  | .tup os, v, fp, q, h => by
    obtain ⟨p, vs, e1, h1, r⟩ := h
    exact ⟨p, vs, e1, t.tp (e.tp h1), OwnL.moveF e t (by simpa [O.pure] using q) r⟩
  | .dK ks os, v, fp, q, h => by
    obtain ⟨p, vs, fq, e1, h1, l, e2, r⟩ := h
    exact ⟨p, vs, fq, e1, h1, l, e2, OwnL.moveF e t (by simpa [O.pure] using q) r⟩
  | .dT ks os, v, fp, q, h => by
    obtain ⟨p, vs, fq, e1, h1, l, e2, r⟩ := h
    exact ⟨p, vs, fq, e1, h1, l, e2, OwnL.moveF e t (by simpa [O.pure] using q) r⟩
  | .obj c fs os, v, fp, q, h => by
    obtain ⟨p, C, dx, vs, fq, e1, h1, m1, l, e2, r⟩ := h
    exact ⟨p, C, dx, vs, fq, e1, h1, m1, l, e2, OwnL.moveF e t (by simpa [O.pure] using q) r⟩
theorem OwnL.moveF {H : Hp} (e : Ex F H) (t : TupIn F' H) : ∀ {os : List O} {vs : List V} {fp : List Addr}, O.pureL os = true → OwnL K mg F H os vs fp → OwnL K mg F' H os vs fp
  | [], vs, fp, _, h => h
  | o :: os, vs, fp, q, h => by
    obtain ⟨w, ws, f1, f2, e1, e2, h1, h2⟩ := h
    have q : o.pure = true ∧ O.pureL os = true := by simpa [O.pureL] using q
    exact ⟨w, ws, f1, f2, e1, e2, Own.moveF e t q.1 h1, OwnL.moveF e t q.2 h2⟩
end
/-! frozen: the cells go over to F -/
mutual
theorem Own.freeze {H : Hp} (e : Ex F F') : ∀ {o : O} {v : V} {fp : List Addr}, (∀ a ∈ fp, F' a = H a) → Own K mg F H o v fp → Rep K mg F' v o.data
  | .sh d, v, fp, k, h => by
    rw [O.data]
    exact h.2.mono e
  | .lst os, v, fp, k, h => by
    obtain ⟨p, vs, fq, e1, h1, e2, r⟩ := h
    subst e1 e2
    rw [O.data]
    exact .lst ((k _ List.mem_cons_self).trans h1) (OwnL.freeze e (fun a m => k a (List.mem_cons_of_mem _ m)) r)
  | .tup os, v, fp, k, h => by
    obtain ⟨p, vs, e1, h1, r⟩ := h
    subst e1
    rw [O.data]
    exact .tup (e.tp h1) (OwnL.freeze e k r)
  | .dK ks os, v, fp, k, h => by
    obtain ⟨p, vs, fq, e1, h1, l, e2, r⟩ := h
    subst e1 e2
    rw [O.data]
    exact .dK (.inl ((k _ List.mem_cons_self).trans h1)) l (OwnL.freeze e (fun a m => k a (List.mem_cons_of_mem _ m)) r)
  | .dT ks os, v, fp, k, h => by
    obtain ⟨p, vs, fq, e1, h1, l, e2, r⟩ := h
    subst e1 e2
    rw [O.data]
    exact .dT (.inl ((k _ List.mem_cons_self).trans h1)) l (OwnL.freeze e (fun a m => k a (List.mem_cons_of_mem _ m)) r)
  | .obj c fs os, v, fp, k, h => by
    obtain ⟨p, C, dx, vs, fq, e1, h1, m1, l, e2, r⟩ := h
    subst e1 e2
    rw [O.data]
    exact .obj ((k _ List.mem_cons_self).trans h1) m1 l (OwnL.freeze e (fun a m => k a (List.mem_cons_of_mem _ m)) r)
theorem OwnL.freeze {H : Hp} (e : Ex F F') : ∀ {os : List O} {vs : List V} {fp : List Addr}, (∀ a ∈ fp, F' a = H a) → OwnL K mg F H os vs fp → RepL K mg F' vs (O.dataL os)
  | [], vs, fp, k, h => by
    obtain ⟨h1, h2⟩ := h
    subst h1
    rw [O.dataL]
    exact .nil
  | o :: os, vs, fp, k, h => by
    obtain ⟨w, ws, f1, f2, e1, e2, h1, h2⟩ := h
    subst e1 e2
    rw [O.dataL]
    exact .cons (Own.freeze e (fun a m => k a (List.mem_append_left _ m)) h1) (OwnL.freeze e (fun a m => k a (List.mem_append_right _ m)) h2)
end
theorem OwnL.len {H : Hp} : ∀ {os : List O} {vs : List V} {fp : List Addr}, OwnL K mg F H os vs fp → vs.length = os.length
  | [], vs, fp, h => by rw [h.1]; rfl
  | o :: os, vs, fp, h => by
    obtain ⟨w, ws, f1, f2, e1, e2, h1, h2⟩ := h
    subst e1
    simp [OwnL.len h2]
theorem OwnL.app {H : Hp} : ∀ {os ps : List O} {vs ws : List V} {fp gp : List Addr}, OwnL K mg F H os vs fp → OwnL K mg F H ps ws gp → OwnL K mg F H (os ++ ps) (vs ++ ws) (fp ++ gp)
  | [], ps, vs, ws, fp, gp, h, q => by
    obtain ⟨h1, h2⟩ := h
    subst h1 h2
    exact q
  | o :: os, ps, vs, ws, fp, gp, h, q => by
    obtain ⟨w, ws', f1, f2, e1, e2, h1, h2⟩ := h
    subst e1 e2
    exact ⟨w, ws' ++ ws, f1, f2 ++ gp, rfl, by rw [List.append_assoc], h1, OwnL.app h2 q⟩
theorem OwnL.shared : ∀ {ds : List D} {vs : List V} {H : Hp}, RepL K mg F vs ds → OwnL K mg F H (ds.map O.sh) vs []
  | [], _, _, h => by cases h; exact ⟨rfl, rfl⟩
  | d :: ds, _, H, h => by
    cases h with
    | cons h r => exact ⟨_, _, [], [], rfl, rfl, ⟨rfl, h⟩, OwnL.shared r⟩
theorem RepL.ints : ∀ {is : List Int}, RepL K mg F (is.map V.int) (is.map D.int)
  | [] => .nil
  | i :: is => .cons (.int i) RepL.ints
/-- a tuple's items -/
def D.tupItems : D → Option (List D)
  | .tup xs => some xs
  | .kup xs => some xs
  | _ => none
theorem Rep.tupAt {v : V} {d : D} {ds : List D} (h : Rep K mg F v d) (e : d.tupItems = some ds) : ∃ a vs, v = .ref a ∧ SqT K F a vs ∧ RepL K mg F vs ds := by
  cases h with
  | tup h r => cases e; exact ⟨_, _, rfl, h.sq, r⟩
  | kup h z => cases e; subst z; exact ⟨_, _, rfl, h.sq, RepL.ints⟩
  | _ => cases e
end
end Fu

namespace Fu
open PySem L2

/-! ### what a reading gives -/
structure Exn where
  c : Str
  fs : List Str
  vs : List D
inductive M (a : Type) where
  | ok (x : a) | ex (e : Exn) | bad
def M.bind {a b : Type} (m : M a) (f : a → M b) : M b := match m with
  | .ok x => f x
  | .ex e => .ex e
  | .bad => .bad
instance : Monad M where
  pure := M.ok
  bind := M.bind
@[simp] theorem M.bind_ok {a b : Type} (x : a) (f : a → M b) : (M.ok x >>= f) = f x := (by rfl)
@[simp] theorem M.bind_ex {a b : Type} (x : Exn) (f : a → M b) : (M.ex x >>= f) = M.ex x := (by rfl)
@[simp] theorem M.bind_bad {a b : Type} (f : a → M b) : (M.bad >>= f) = M.bad := (by rfl)
@[simp] theorem M.pure_ok {a : Type} (x : a) : (pure x : M a) = M.ok x := (by rfl)
theorem M.bind_assoc {a b c : Type} (m : M a) (f : a → M b) (g : b → M c) : ((m >>= f) >>= g) = (m >>= fun x => f x >>= g) := by
  cases m <;> rfl
def chk (b : Bool) : M Unit := if b then .ok () else .bad
@[simp] theorem chk_true : chk true = M.ok () := (by rfl)
def M.of {a : Type} : Option a → M a
  | some x => .ok x
  | none => .bad
@[simp] theorem M.of_some {a : Type} (x : a) : M.of (some x) = M.ok x := (by rfl)

/-- a value at hand: owned by no one else (or shared), or borrowed of a name -/
inductive T where
  | o (x : O) | bo (d : D)
def T.data : T → D
  | .o x => x.data
  | .bo d => d
def T.own : T → M O
  | .o x => .ok x
  | .bo d => if d.flat then .ok (.sh d) else .bad
abbrev En := List (Option T)
abbrev Sn := List (Option O)
def up (env : Sn) : En := env.map (Option.map T.o)
abbrev FE := En → M T
abbrev FT := En → M Bool
abbrev FA := En → M (List T)

section
variable (K : PySem.W.Frag) (mg : Mg)
def RepT (F H : Hp) : T → V → List Addr → Prop
  | .o x, v, fp => Own K mg F H x v fp
  | .bo d, v, fp => fp = [] ∧ Rep K mg H v d
/-- the tables of code objects that are told with K (a mark at its end) are good -/
def markO (Ps : List Addr) : Obj := { cls := .none, data := .seq (Ps.map Value.ref).toArray 0 }
def Marks (P : Addr) : Prop := ∃ (K0 : PySem.W.Frag) (a0 : Addr) (Ps : List Addr), K = K0 ++ [(a0, markO Ps)] ∧ P ∈ Ps
def TbOK (H : Hp) : Prop := ∀ P, Marks K P → TabG H P
def SlotOk (F H : Hp) : Option T → Option V → List Addr → Prop
  | none, _, fp => fp = []
  | some t, sv, fp => ∃ v, sv = some v ∧ RepT K mg F H t v fp
def Slots (F H : Hp) : En → L2.St → List Addr → Prop
  | [], σ, fp => σ = [] ∧ fp = []
  | e :: env, σ, fp => ∃ s τ f1 f2, σ = s :: τ ∧ fp = f1 ++ f2 ∧ SlotOk K mg F H e s f1 ∧ Slots F H env τ f2
structure EnvOK (F H : Hp) (env : En) (σ : L2.St) : Prop where
  fh : Ex F H
  tu : TupIn F H
  tb : TbOK K H
  sl : ∃ fp, fp.Nodup ∧ (∀ a ∈ fp, F a = none) ∧ Slots K mg F H env σ fp
structure Grow (F H F' H' : Hp) : Prop where
  hh : Ex H H'
  ff : ∀ a, H a ≠ none → F' a = F a
  fh : Ex F' H'
  tu : TupIn F' H'
def VPost (F H : Hp) (t : T) (Q : VK) : Prop := ∀ v F' H' fp, Grow F H F' H' → RepT K mg F' H' t v fp → fp.Nodup → (∀ a ∈ fp, H a = none ∧ F' a = none) → Q v H'
def ExcAt (H : Hp) (x : Exn) (cls : Value) (d : Option Addr) : Prop :=
  ∃ C, cls = .ref C ∧ mg x.c = some (.ref C) ∧ (x.fs = [] → d = none) ∧ (x.fs ≠ [] → ∃ dd vs, d = some dd ∧ H dd = some (.xd (x.fs.zip vs)) ∧ x.fs.length = vs.length ∧ RepL K mg H vs x.vs)
def XPost (W : WX) (F : Hp) (x : Exn) (env : En) : Prop := ∀ F' H' σ' cls d, Ex F F' → EnvOK K mg F' H' env σ' → ExcAt K mg H' x cls d → W cls d σ' H'
def RPost (W : WX) (F H : Hp) (env : En) (m : M T) (Q : VK) : Prop := match m with
  | .ok t => VPost K mg F H t Q
  | .ex x => XPost K mg W F x env
  | .bad => False
end
/-- an expression's reading as a function -/
structure RE (X : Cx) (W : WX) (e : Expr) (te : TE) (g : FE) : Prop where
  pe : PE X e te
  sem : ∀ F H env σ, EnvOK X.K X.mg F H env σ → ∀ Q : VK, RPost X.K X.mg W F H env (g env) Q → te σ H Q

section
variable {K : PySem.W.Frag} {mg : Mg} {F F' F'' H H' H'' : Hp}
theorem Grow.refl (e : Ex F H) (t : TupIn F H) : Grow F H F H := ⟨Ex.refl H, fun _ _ => rfl, e, t⟩
theorem Grow.trans (a : Grow F H F' H') (b : Grow F' H' F'' H'') : Grow F H F'' H'' :=
  ⟨a.hh.trans b.hh, fun x hx => (b.ff x fun z => by
    cases q : H x with
    | none => exact hx q
    | some o => rw [a.hh.bk x z] at q; cases q).trans (a.ff x hx), b.fh, b.tu⟩
theorem Grow.exF (e : Ex F H) (g : Grow F H F' H') : Ex F F' := Ex.of fun a o h => (g.ff a (fun z => by rw [e.bk a z] at h; cases h)).trans h
theorem RepT.grow (e : Ex F H) (g : Grow F H F' H') {t : T} {v : V} {fp : List Addr} (h : RepT K mg F H t v fp) : RepT K mg F' H' t v fp := by
  cases t with
  | o x => exact Own.cong (g.exF e) (fun a m => by
      obtain ⟨u, hu, mu⟩ := Own.dom h a m
      rw [g.hh.mut hu mu, hu]) h
  | bo d => exact ⟨h.1, h.2.mono g.hh⟩
theorem RepT.dom {t : T} {v : V} {fp : List Addr} (h : RepT K mg F H t v fp) : ∀ a ∈ fp, ∃ u, H a = some u ∧ Mut (some u) := by
  cases t with
  | o x => exact Own.dom h
  | bo d => intro a m; rw [h.1] at m; cases m
theorem RepT.dat {t : T} {v : V} {fp : List Addr} (h : RepT K mg F H t v fp) : ∀ a ∈ fp, ∃ u, H a = some u ∧ Dat u := by
  cases t with
  | o x => exact Own.dat h
  | bo d => intro a m; rw [h.1] at m; cases m
theorem RepT.rep (e : Ex F H) {t : T} {v : V} {fp : List Addr} (h : RepT K mg F H t v fp) : Rep K mg H v t.data := by
  cases t with
  | o x => exact Own.rep e h
  | bo d => exact h.2
theorem SlotOk.dom {t : Option T} {v : Option V} {fp : List Addr} (h : SlotOk K mg F H t v fp) : ∀ a ∈ fp, ∃ u, H a = some u ∧ Mut (some u) := by
  cases t with
  | none => intro a m; rw [show fp = [] from h] at m; cases m
  | some t => obtain ⟨w, _, h⟩ := h; exact h.dom
theorem Slots.dom : ∀ {env : En} {σ : L2.St} {fp : List Addr}, Slots K mg F H env σ fp → ∀ a ∈ fp, ∃ u, H a = some u ∧ Mut (some u)
  | [], _, _, h => by
    obtain ⟨_, e⟩ := h
    subst e
    intro a m
    cases m
  | e :: env, _, _, h => by
    obtain ⟨s, τ, f1, f2, e1, e2, h1, h2⟩ := h
    subst e2
    intro a m
    rcases List.mem_append.mp m with m | m
    · exact h1.dom a m
    · exact Slots.dom h2 a m
theorem Slots.grow (e : Ex F H) (g : Grow F H F' H') : ∀ {env : En} {σ : L2.St} {fp : List Addr}, Slots K mg F H env σ fp → Slots K mg F' H' env σ fp
  | [], _, _, h => h
  | o :: env, _, _, h => by
    obtain ⟨s, τ, f1, f2, e1, e2, h1, h2⟩ := h
    refine ⟨s, τ, f1, f2, e1, e2, ?_, Slots.grow e g h2⟩
    cases o with
    | none => exact h1
    | some t =>
      obtain ⟨v, a, b⟩ := h1
      exact ⟨v, a, b.grow e g⟩
theorem TbOK.mono (t : TbOK K H) (e : Ex H H') : TbOK K H' := fun P m => e.tab P (t P m)
theorem EnvOK.grow {env : En} {σ : L2.St} (I : EnvOK K mg F H env σ) (g : Grow F H F' H') : EnvOK K mg F' H' env σ := by
  obtain ⟨fp, nd, hf, hs⟩ := I.sl
  refine ⟨g.fh, g.tu, I.tb.mono g.hh, fp, nd, fun a m => ?_, hs.grow I.fh g⟩
  obtain ⟨u, hu, _⟩ := hs.dom a m
  exact (g.ff a (by rw [hu]; intro z; cases z)).trans (hf a m)
theorem Slots.len : ∀ {env : En} {σ : L2.St} {fp : List Addr}, Slots K mg F H env σ fp → σ.length = env.length
  | [], _, _, h => by rw [h.1]; rfl
  | e :: env, _, _, h => by
    obtain ⟨s, τ, f1, f2, e1, e2, h1, h2⟩ := h
    subst e1
    simp [Slots.len h2]
/-- a name's slot: what is owned there is seen as borrowed -/
def seen : T → T
  | .o (.sh d) => .o (.sh d)
  | .o x => .bo x.data
  | .bo d => .bo d
theorem RepT.seen (e : Ex F H) {t : T} {v : V} {fp : List Addr} (h : RepT K mg F H t v fp) : RepT K mg F H (seen t) v [] := by
  cases t with
  | bo d => exact ⟨rfl, h.2⟩
  | o x =>
    cases x with
    | sh d => exact ⟨rfl, h.2⟩
    | lst os => exact ⟨rfl, Own.rep e h⟩
    | tup os => exact ⟨rfl, Own.rep e h⟩
    | dK ks os => exact ⟨rfl, Own.rep e h⟩
    | dT ks os => exact ⟨rfl, Own.rep e h⟩
    | obj c fs os => exact ⟨rfl, Own.rep e h⟩
theorem Slots.get (e : Ex F H) : ∀ {env : En} {σ : L2.St} {fp : List Addr} {i : Nat} {t : T}, Slots K mg F H env σ fp → env[i]? = some (some t) → ∃ v f0 fi f2, σ[i]? = some (some v) ∧ fp = f0 ++ (fi ++ f2) ∧ RepT K mg F H t v fi
  | [], _, _, _, _, _, q => by simp at q
  | o :: env, _, _, 0, t, h, q => by
    obtain ⟨s, τ, f1, f2, e1, e2, h1, h2⟩ := h
    have q' : o = some t := by simpa using q
    subst q'
    obtain ⟨v, a, b⟩ := h1
    subst a e1
    exact ⟨v, [], f1, f2, rfl, e2, b⟩
  | o :: env, _, _, i + 1, t, h, q => by
    obtain ⟨s, τ, f1, f2, e1, e2, h1, h2⟩ := h
    obtain ⟨v, f0, fi, f3, a, b, c⟩ := Slots.get e (i := i) h2 (by simpa using q)
    subst e1 e2 b
    exact ⟨v, f1 ++ f0, fi, f3, by simpa using a, by simp [List.append_assoc], c⟩
end

/-! ### names, constants -/
def eVar (i : Nat) : FE := fun env => match env[i]? with
  | some (some t) => .ok (seen t)
  | _ => .bad
def eC (d : D) : FE := fun _ => .ok (.o (.sh d))
section
variable {X : Cx} {W : WX}
theorem re_var (i : Nat) {x : Str} {pos : Pos} (hN : X.N[i]? = some x := by rfl) (hv : Vis X.env.scope x := by first | exact Or.inl rfl | exact Or.inr (Or.inl rfl) | exact Or.inr (Or.inr rfl)) (hd : (x == ("__debug__" : Str)) = false := by decide)
    (hcd : (x == ("__classdict__" : Str)) = false := by decide) : RE X W (.Name x pos) (tVar i) (eVar i) := by
  refine ⟨pe_var hN hv hd hcd, fun F H env σ I Q q => ?_⟩
  obtain ⟨fp, nd, hf, hs⟩ := I.sl
  unfold eVar at q
  split at q
  · rename_i t e
    obtain ⟨v, f0, fi, f2, a, b, c⟩ := hs.get I.fh e
    exact ⟨v, a, q v F H [] (Grow.refl I.fh I.tu) (c.seen I.fh) List.nodup_nil (fun _ m => by cases m)⟩
  · exact q.elim
theorem re_int {i : Int} {j pos} : RE X W (.Constant (.int i) j pos) (tC (.int i)) (eC (.int i)) :=
  ⟨pe_int, fun F H env σ I Q q => q _ F H [] (Grow.refl I.fh I.tu) ⟨rfl, .int i⟩ List.nodup_nil (fun _ m => by cases m)⟩
theorem re_bl {b : Bool} {j pos} : RE X W (.Constant (.bool b) j pos) (tC (.bl b)) (eC (.bl b)) :=
  ⟨pe_bl, fun F H env σ I Q q => q _ F H [] (Grow.refl I.fh I.tu) ⟨rfl, .bl b⟩ List.nodup_nil (fun _ m => by cases m)⟩
theorem re_non {j pos} : RE X W (.Constant .none j pos) (tC .non) (eC .non) :=
  ⟨pe_non, fun F H env σ I Q q => q _ F H [] (Grow.refl I.fh I.tu) ⟨rfl, .non⟩ List.nodup_nil (fun _ m => by cases m)⟩
theorem re_str {x : Str} {j pos} : RE X W (.Constant (.str x) j pos) (tC (.str x)) (eC (.str x)) :=
  ⟨pe_str, fun F H env σ I Q q => q _ F H [] (Grow.refl I.fh I.tu) ⟨rfl, .str x⟩ List.nodup_nil (fun _ m => by cases m)⟩
/-- a module's constant: a text, a number -/
theorem re_globS {x s : Str} {t : Tok} {pos : Pos} (hg : Gl X x) (hm : X.mg x = some (.str s t)) (hd : (x == ("__debug__" : Str)) = false := by decide) : RE X W (.Name x pos) (tC (.str s)) (eC (.str s)) :=
  ⟨pe_glob hg hm ⟨_, rfl⟩ hd, fun F H env σ I Q q => q _ F H [] (Grow.refl I.fh I.tu) ⟨rfl, .str s⟩ List.nodup_nil (fun _ m => by cases m)⟩
theorem re_globI {x : Str} {i : Int} {t : Tok} {pos : Pos} (hg : Gl X x) (hm : X.mg x = some (.int i t)) (hd : (x == ("__debug__" : Str)) = false := by decide) : RE X W (.Name x pos) (tC (.int i)) (eC (.int i)) :=
  ⟨pe_glob hg hm ⟨_, rfl⟩ hd, fun F H env σ I Q q => q _ F H [] (Grow.refl I.fh I.tu) ⟨rfl, .int i⟩ List.nodup_nil (fun _ m => by cases m)⟩
/-- .. a thing of the written part -/
theorem re_globK {x : Str} {a : Addr} {d : D} {pos : Pos} (hg : Gl X x) (hm : X.mg x = some (.ref a)) (hr : ∀ F, Rep X.K X.mg F (.ref a) d) (hd : (x == ("__debug__" : Str)) = false := by decide) : RE X W (.Name x pos) (tC (.ref a)) (eC d) :=
  ⟨pe_glob hg hm rfl hd, fun F H env σ I Q q => q _ F H [] (Grow.refl I.fh I.tu) ⟨rfl, hr F⟩ List.nodup_nil (fun _ m => by cases m)⟩

/-! ### two in a row -/
/-- the data of a value at hand, still there behind a growth -/
theorem two {ta tb : TE} {ga gb : FE} {ea eb : Expr} (ha : RE X W ea ta ga) (hb : RE X W eb tb gb) {F H : Hp} {env : En} {σ : L2.St} (I : EnvOK X.K X.mg F H env σ) {R : V → V → Hp → Prop}
    (h : match ga env with
      | .ok x => (match gb env with
        | .ok y => ∀ v w F' H' f1 f2, Grow F H F' H' → EnvOK X.K X.mg F' H' env σ → RepT X.K X.mg F' H' x v f1 → RepT X.K X.mg F' H' y w f2 → (f1 ++ f2).Nodup → (∀ a ∈ f1 ++ f2, H a = none ∧ F' a = none) → R v w H'
        | .ex e => XPost X.K X.mg W F e env
        | .bad => False)
      | .ex e => XPost X.K X.mg W F e env
      | .bad => False) : ta σ H fun v H1 => tb σ H1 fun w H2 => R v w H2 := by
  refine ha.sem F H env σ I _ ?_
  cases e1 : ga env with
  | bad => rw [e1] at h; exact h.elim
  | ex x => rw [e1] at h; exact h
  | ok x =>
    rw [e1] at h
    intro v F1 H1 f1 g1 r1 n1 k1
    refine hb.sem F1 H1 env σ (I.grow g1) _ ?_
    cases e2 : gb env with
    | bad => rw [e2] at h; exact h.elim
    | ex y =>
      rw [e2] at h
      intro F' H' σ' cls d ef I' xa
      exact h F' H' σ' cls d ((g1.exF I.fh).trans ef) I' xa
    | ok y =>
      rw [e2] at h
      intro w F2 H2 f2 g2 r2 n2 k2
      refine h v w F2 H2 f1 f2 (g1.trans g2) (I.grow (g1.trans g2)) (r1.grow g1.fh g2) r2 ?_ ?_
      · refine List.nodup_append.mpr ⟨n1, n2, fun a m b m' q => ?_⟩
        subst q
        obtain ⟨u, hu, _⟩ := r1.dom a m
        have := (k2 a m').1
        rw [hu] at this
        cases this
      · intro a m
        rcases List.mem_append.mp m with m | m
        · obtain ⟨u, hu, _⟩ := r1.dom a m
          exact ⟨(k1 a m).1, (g2.ff a (by rw [hu]; intro z; cases z)).trans (k1 a m).2⟩
        · obtain ⟨h1, h2⟩ := k2 a m
          refine ⟨?_, h2⟩
          exact g1.hh.back h1
end
end Fu

namespace Fu
open PySem L2

/-! ### equality and order of data -/
/-- item by item; all must be comparable; as many items -/
def eqL (f : D → D → Option Bool) : List D → List D → Option Bool
  | [], [] => some true
  | [], _ :: _ => some false
  | _ :: _, [] => some false
  | x :: xs, y :: ys => match f x y, eqL f xs ys with
    | some a, some b => some (a && b)
    | _, _ => none
def D.eqb : Nat → D → D → Option Bool
  | _, .non, .non => some true
  | _, .bl a, .bl b => some (a == b)
  | _, .int a, .int b => some (a == b)
  | _, .str a, .str b => some (a == b)
  | _, .non, .str _ => some false
  | _, .str _, .non => some false
  | _, .non, .int _ => some false
  | _, .int _, .non => some false
  | _, .str _, .int _ => some false
  | _, .int _, .str _ => some false
  | n + 1, .lst xs, .lst ys => if xs.length = ys.length then eqL (D.eqb n) xs ys else some false
  | n + 1, .tup xs, .tup ys => eqL (D.eqb n) xs ys
  | n + 1, .tup xs, .kup ys => eqL (D.eqb n) xs ys
  | n + 1, .kup xs, .tup ys => eqL (D.eqb n) xs ys
  | n + 1, .kup xs, .kup ys => eqL (D.eqb n) xs ys
  | _, _, _ => none
/-- the first pair that differs decides by its own order -/
def ltL (f g : D → D → Option Bool) : List D → List D → Option Bool
  | [], [] => some false
  | [], _ :: _ => some true
  | _ :: _, [] => some false
  | x :: xs, y :: ys => match f x y, g x y, ltL f g xs ys with
    | some a, some b, some c => some (if a then c else b)
    | _, _, _ => none
theorem eqb_tup {n : Nat} {d e : D} {ds : List D} {b : Bool} (h1 : d.tupItems = some ds) (h : D.eqb n d e = some b) : ∃ m es, n = m + 1 ∧ e.tupItems = some es ∧ eqL (D.eqb m) ds es = some b := by
  cases n with
  | zero => cases d <;> first | (cases h1; done) | (cases e <;> exact nomatch (show (none : Option Bool) = some b from h))
  | succ n =>
    cases d <;> first | (cases h1; done) | (cases h1; cases e <;> first | (exact nomatch (show (none : Option Bool) = some b from h)) | exact ⟨n, _, rfl, rfl, h⟩)
def D.ltb : Nat → D → D → Option Bool
  | _, .int a, .int b => some (decide (a < b))
  | _, .str a, .str b => some (decide (a.cps.toList < b.cps.toList))
  | n + 1, .lst xs, .lst ys => ltL (D.eqb n) (D.ltb n) xs ys
  | n + 1, .tup xs, .tup ys => ltL (D.eqb n) (D.ltb n) xs ys
  | _, _, _ => none

theorem eqL_len {f : D → D → Option Bool} : ∀ {xs ys : List D}, eqL f xs ys = some true → xs.length = ys.length
  | [], [], _ => rfl
  | [], _ :: _, h => by simp [eqL] at h
  | _ :: _, [], h => by simp [eqL] at h
  | x :: xs, y :: ys, h => by
    unfold eqL at h
    split at h
    · rename_i a b e1 e2
      have h' : (a && b) = true := by simpa using h
      simp only [Bool.and_eq_true] at h'
      rw [h'.2] at e2
      simp [eqL_len e2]
    · cases h
theorem eqL_get {f : D → D → Option Bool} : ∀ {xs ys : List D} {r : Bool}, eqL f xs ys = some r → ∀ (j : Nat) (h1 : j < xs.length) (h2 : j < ys.length), ∃ b, f xs[j] ys[j] = some b
  | [], _, _, _, j, h1, _ => absurd h1 (Nat.not_lt_zero j)
  | _ :: _, [], _, _, j, _, h2 => absurd h2 (Nat.not_lt_zero j)
  | x :: xs, y :: ys, r, h, j, h1, h2 => by
    unfold eqL at h
    split at h
    · rename_i a b e1 e2
      cases j with
      | zero => exact ⟨a, e1⟩
      | succ j => exact eqL_get e2 j (Nat.lt_of_succ_lt_succ h1) (Nat.lt_of_succ_lt_succ h2)
    · cases h
/-- the j-th pair's answer -/
def pairB (f : D → D → Option Bool) (xs ys : List D) (j : Nat) : Bool := (f (xs.getD j .non) (ys.getD j .non)).getD false
theorem pairB_succ {f : D → D → Option Bool} {x y : D} {xs ys : List D} (j : Nat) : pairB f (x :: xs) (y :: ys) (j + 1) = pairB f xs ys j := rfl
theorem pairB_get {f : D → D → Option Bool} {xs ys : List D} {j : Nat} (h1 : j < xs.length) (h2 : j < ys.length) {b : Bool} (h : f xs[j] ys[j] = some b) : pairB f xs ys j = b := by
  unfold pairB
  rw [List.getD_eq_getElem?_getD, List.getD_eq_getElem?_getD, List.getElem?_eq_getElem h1, List.getElem?_eq_getElem h2]
  simp [h]
theorem eqL_all {f : D → D → Option Bool} : ∀ {xs ys : List D} {r : Bool}, eqL f xs ys = some r → ((List.range (min xs.length ys.length)).all (pairB f xs ys) && xs.length == ys.length) = r
  | [], [], r, h => by simp [eqL] at h; subst h; rfl
  | [], _ :: _, r, h => by simp [eqL] at h; subst h; simp
  | _ :: _, [], r, h => by simp [eqL] at h; subst h; simp
  | x :: xs, y :: ys, r, h => by
    unfold eqL at h
    split at h
    · rename_i a b e1 e2
      have ih := eqL_all e2
      have hr : (a && b) = r := by simpa using h
      have e3 : min (x :: xs).length (y :: ys).length = min xs.length ys.length + 1 := by simp only [List.length_cons]; omega
      have e4 : ((x :: xs).length == (y :: ys).length) = (xs.length == ys.length) := by simp
      rw [e3, e4, List.range_succ_eq_map, List.all_cons, List.all_map]
      have e5 : (List.range (min xs.length ys.length)).all ((pairB f (x :: xs) (y :: ys)) ∘ Nat.succ) = (List.range (min xs.length ys.length)).all (pairB f xs ys) := rfl
      rw [e5, Bool.and_assoc, ih, ← hr]
      have e6 : pairB f (x :: xs) (y :: ys) 0 = a := pairB_get (xs := x :: xs) (ys := y :: ys) (by simp) (by simp) e1
      rw [e6]
    · cases h
open SeqAt in
theorem ltL_first {f g : D → D → Option Bool} : ∀ {xs ys : List D} {r : Bool}, ltL f g xs ys = some r → firstLt (pairB f xs ys) (pairB g xs ys) (decide (xs.length < ys.length)) (List.range (min xs.length ys.length)) = r := by
  have key : ∀ (xs ys : List D) (r : Bool), ltL f g xs ys = some r → ∀ (fx fy : List D) (k : Nat), (∀ j, fx.getD (k + j) .non = xs.getD j .non) → (∀ j, fy.getD (k + j) .non = ys.getD j .non) →
      firstLt (pairB f fx fy) (pairB g fx fy) (decide (xs.length < ys.length)) ((List.range (min xs.length ys.length)).map (k + ·)) = r := by
    intro xs
    induction xs with
    | nil =>
      intro ys r h fx fy k h1 h2
      cases ys with
      | nil => simp [ltL] at h; subst h; rfl
      | cons y ys => simp [ltL] at h; subst h; simp [firstLt]
    | cons x xs ih =>
      intro ys r h fx fy k h1 h2
      cases ys with
      | nil => simp [ltL] at h; subst h; simp [firstLt]
      | cons y ys =>
        have e3 : min (x :: xs).length (y :: ys).length = min xs.length ys.length + 1 := by simp only [List.length_cons]; omega
        rw [e3, List.range_succ_eq_map, List.map_cons]
        have p0 : pairB f fx fy (k + 0) = (f x y).getD false := by
          unfold pairB; rw [h1 0, h2 0]; rfl
        have q0 : pairB g fx fy (k + 0) = (g x y).getD false := by
          unfold pairB; rw [h1 0, h2 0]; rfl
        unfold ltL at h
        split at h
        · rename_i a b c e1 e2 e4
          have hb : (if a then c else b) = r := by simpa using h
          cases a with
          | true =>
            rw [firstLt_yes (by rw [p0, e1]; rfl)]
            have := ih ys c e4 fx fy (k + 1) (fun j => by rw [Nat.add_assoc, Nat.add_comm 1 j]; exact h1 (j + 1)) (fun j => by rw [Nat.add_assoc, Nat.add_comm 1 j]; exact h2 (j + 1))
            have e7 : (decide ((x :: xs).length < (y :: ys).length)) = decide (xs.length < ys.length) := by simp
            rw [e7, List.map_map]
            have e8 : ((k + ·) ∘ Nat.succ) = (k + 1 + ·) := by
              funext j
              show k + Nat.succ j = k + 1 + j
              omega
            rw [e8, ← hb]
            exact this
          | false =>
            rw [firstLt_no (by rw [p0, e1]; rfl), q0, e2]
            exact hb
        · cases h
  intro xs ys r h
  have := key xs ys r h xs ys 0 (fun j => by simp) (fun j => by simp)
  simpa using this
theorem ltL_pairs {f g : D → D → Option Bool} : ∀ {xs ys : List D} {r : Bool}, ltL f g xs ys = some r → ∀ (j : Nat) (h1 : j < xs.length) (h2 : j < ys.length), (∃ b, f xs[j] ys[j] = some b) ∧ ∃ b, g xs[j] ys[j] = some b
  | [], _, _, _, j, h1, _ => absurd h1 (Nat.not_lt_zero j)
  | _ :: _, [], _, _, j, _, h2 => absurd h2 (Nat.not_lt_zero j)
  | x :: xs, y :: ys, r, h, j, h1, h2 => by
    unfold ltL at h
    split at h
    · rename_i a b c e1 e2 e3
      cases j with
      | zero => exact ⟨⟨_, e1⟩, _, e2⟩
      | succ j => exact ltL_pairs e3 j (Nat.lt_of_succ_lt_succ h1) (Nat.lt_of_succ_lt_succ h2)
    · cases h

section
variable {K : PySem.W.Frag} {mg : Mg} {F : Hp}
/-- one value stands for like data only -/
theorem eqL_same {n : Nat} (ih : ∀ {v : V} {d e : D} {b : Bool}, Rep K mg F v d → Rep K mg F v e → D.eqb n d e = some b → b = true) :
    ∀ {vs : List V} {ds es : List D} {b : Bool}, RepL K mg F vs ds → RepL K mg F vs es → eqL (D.eqb n) ds es = some b → b = true
  | [], _, _, _, h1, h2, h => by cases h1; cases h2; simpa [eqL] using h.symm
  | v :: vs, _, _, b, h1, h2, h => by
    cases h1 with
    | cons a1 r1 =>
      cases h2 with
      | cons a2 r2 =>
        unfold eqL at h
        split at h
        · rename_i a c e1 e2
          have h' : (a && c) = b := by simpa using h
          rw [← h', ih a1 a2 e1, eqL_same ih r1 r2 e2]
          rfl
        · cases h
theorem RepL.len2 {vs : List V} {ds es : List D} (h1 : RepL K mg F vs ds) (h2 : RepL K mg F vs es) : ds.length = es.length := h1.len.symm.trans h2.len
end
section
variable {X : Cx} {pins : List (Addr × Obj)} {σ : L2.St} {H : Hp} {s : Shared} {mg : Mg}
theorem Inv.lstAt {K : PySem.W.Frag} (I : Inv X pins σ H s) {a : Addr} {vs : List V} (h : H a = some (.lst vs)) : ∃ its : List Value, Vals vs its ∧ s.heap.IsList a its.toArray := by
  obtain ⟨its, r, pl, _⟩ := I.list (xs := vs) (.inl (.inl h))
  exact ⟨its, r, pl.isList⟩
theorem Inv.tpAt (I : Inv X pins σ H s) {a : Addr} {vs : List V} (h : SqT X.K H a vs) : ∃ its : List Value, Vals vs its ∧ s.heap.IsTuple a its.toArray := by
  obtain ⟨its, r, pl, _⟩ := I.tuple h
  exact ⟨its, r, pl⟩
theorem Rep.same : ∀ (n : Nat) {v : V} {d e : D} {b : Bool}, Inv X pins σ H s → Rep X.K mg H v d → Rep X.K mg H v e → D.eqb n d e = some b → b = true := by
  intro n
  have flat : ∀ (n : Nat) {v : V} {d e : D} {b : Bool}, Inv X pins σ H s → Rep X.K mg H v d → Rep X.K mg H v e → (∀ xs, d ≠ .lst xs) → d.tupItems = none → D.eqb n d e = some b → b = true := by
    intro n v d e b I h1 h2 n1 n2 h
    cases h1 <;> cases h2 <;> first | (cases n2; done) | exact absurd rfl (n1 _) | (cases n <;> simp [D.eqb] at h; done) | (simp [D.eqb] at h; first | done | exact h.symm | (subst h; simp; done) | exact h ▸ rfl)
  induction n with
  | zero =>
    intro v d e b I h1 h2 h
    cases c : d.tupItems with
    | some ds => obtain ⟨m, es, z, _⟩ := eqb_tup c h; cases z
    | none =>
      refine flat 0 I h1 h2 (fun xs z => ?_) c h
      subst z; cases e <;> exact nomatch (show (none : Option Bool) = some b from h)
  | succ n ih =>
    intro v d e b I h1 h2 h
    cases c : d.tupItems with
    | some ds =>
      obtain ⟨m, es, z, c2, h⟩ := eqb_tup c h
      cases z
      obtain ⟨a, vs, e1, s1, r1⟩ := h1.tupAt c
      obtain ⟨a', ws, e2, s2, r2⟩ := h2.tupAt c2
      subst e1
      cases e2
      cases I.tuple_inj s1 s2
      exact eqL_same (fun x y z => ih I x y z) r1 r2 h
    | none =>
      by_cases c1 : ∃ xs, d = .lst xs
      · obtain ⟨ds, rfl⟩ := c1
        cases e with
        | lst es =>
          cases h1 with
          | lst a1 r1 =>
          cases h2 with
          | lst a2 r2 =>
            rw [a1] at a2
            cases a2
            rw [D.eqb, if_pos (r1.len2 r2)] at h
            exact eqL_same (fun x y z => ih I x y z) r1 r2 h
        | _ => exact nomatch (show (none : Option Bool) = some b from h)
      · exact flat _ I h1 h2 (fun xs z => c1 ⟨xs, z⟩) c h

theorem list_idx {us : List Value} {j : Nat} (h : j < us.toArray.size) : us.toArray[j] = us[j]'(by simpa using h) := by simp
/-- the items' values by place -/
theorem pair_at {f : D → D → Option Bool} {R : Value → Value → Bool → Prop} (ih : ∀ {v w : V} {x y : Value} {d e : D} {b : Bool}, Rep X.K mg H v d → Rep X.K mg H w e → RelV v x → RelV w y → f d e = some b → R x y b)
    {vs ws : List V} {ds es : List D} {us xs : List Value} (r1 : RepL X.K mg H vs ds) (r2 : RepL X.K mg H ws es) (q1 : Vals vs us) (q2 : Vals ws xs) (hf : ∀ (j : Nat) (h1 : j < ds.length) (h2 : j < es.length), ∃ b, f ds[j] es[j] = some b) :
    ∀ j (h1 : j < us.toArray.size) (h2 : j < xs.toArray.size), R us.toArray[j] xs.toArray[j] (pairB f ds es j) := by
  intro j h1 h2
  have l1 : us.length = ds.length := q1.length.symm.trans r1.len
  have l2 : xs.length = es.length := q2.length.symm.trans r2.len
  have k1 : j < ds.length := by rw [← l1]; simpa using h1
  have k2 : j < es.length := by rw [← l2]; simpa using h2
  obtain ⟨b, hb⟩ := hf j k1 k2
  obtain ⟨v, hv, rv⟩ := r1.get (i := j) (d := ds[j]) (by simp)
  obtain ⟨w, hw, rw'⟩ := r2.get (i := j) (d := es[j]) (by simp)
  obtain ⟨u, hu, ru⟩ := q1.get hv
  obtain ⟨x, hx, rx⟩ := q2.get hw
  have e1 : us.toArray[j] = u := by
    have := (List.getElem?_eq_some_iff.mp hu).2
    simpa using this
  have e2 : xs.toArray[j] = x := by
    have := (List.getElem?_eq_some_iff.mp hx).2
    simpa using this
  rw [e1, e2, pairB_get k1 k2 hb]
  exact ih rv rw' ru rx hb
theorem Rep.eqAt (I : Inv X pins σ H s) : ∀ (n : Nat) {A : Around} {v w : V} {x y : Value} {d e : D} {b : Bool}, Rep X.K mg H v d → Rep X.K mg H w e → RelV v x → RelV w y → A.units + n < cLine → D.eqb n d e = some b → SeqAt.EqAt A s x y b := by
  intro n
  have flat : ∀ {n : Nat} {A : Around} {v w : V} {x y : Value} {d e : D} {b : Bool}, Rep X.K mg H v d → Rep X.K mg H w e → RelV v x → RelV w y → (∀ xs, d ≠ .lst xs) → d.tupItems = none → D.eqb n d e = some b → SeqAt.EqAt A s x y b := by
    intro n A v w x y d e b h1 h2 q1 q2 n1 n2 h
    cases h1 <;> cases h2 <;> (try simp [D.eqb] at h) <;> (try exact absurd rfl (n1 _)) <;> (try (cases n2; done))
    · cases q1; cases q2; subst h; exact SeqAt.EqAt.same _
    · cases q1; obtain ⟨t, rfl⟩ := q2; subst h; exact SeqAt.EqAt.none_int _ _
    · cases q1; obtain ⟨t, rfl⟩ := q2; subst h; exact SeqAt.EqAt.none_str _ _
    · cases q1; cases q2; subst h; exact SeqAt.EqAt.bool_bool _ _
    · obtain ⟨t, rfl⟩ := q1; cases q2; subst h; exact SeqAt.EqAt.int_none _ _
    · obtain ⟨t, rfl⟩ := q1; obtain ⟨t', rfl⟩ := q2; subst h; exact SeqAt.EqAt.int_int _ _ _ _
    · obtain ⟨t, rfl⟩ := q1; obtain ⟨t', rfl⟩ := q2; subst h; exact SeqAt.EqAt.int_str _ _ _ _
    · obtain ⟨t, rfl⟩ := q1; cases q2; subst h; exact SeqAt.EqAt.str_none _ _
    · obtain ⟨t, rfl⟩ := q1; obtain ⟨t', rfl⟩ := q2; subst h; exact SeqAt.EqAt.str_int _ _ _ _
    · obtain ⟨t, rfl⟩ := q1; obtain ⟨t', rfl⟩ := q2; subst h; exact SeqAt.EqAt.str_str _ _ _ _
  induction n with
  | zero =>
    intro A v w x y d e b h1 h2 q1 q2 hu h
    cases c : d.tupItems with
    | some ds => obtain ⟨m, es, z, _⟩ := eqb_tup c h; cases z
    | none =>
      refine flat h1 h2 q1 q2 (fun xs z => ?_) c h
      subst z; cases e <;> exact nomatch (show (none : Option Bool) = some b from h)
  | succ n ih =>
    intro A v w x y d e b h1 h2 q1 q2 hu h
    have hu0 : A.units < cLine := by omega
    have hu1 : A.in1.units + n < cLine := by show A.units + 1 + n < cLine; omega
    cases c : d.tupItems with
    | some ds =>
      have h' := h
      obtain ⟨m, es, z, c2, h⟩ := eqb_tup c h
      cases z
      obtain ⟨a, vs, e1, s1, r1⟩ := h1.tupAt c
      obtain ⟨a', ws, e2, s2, r2⟩ := h2.tupAt c2
      subst e1 e2
      cases q1
      cases q2
      obtain ⟨us, p1, l1⟩ := Inv.tpAt I s1
      obtain ⟨xs, p2, l2⟩ := Inv.tpAt I s2
      have m1 : us.toArray.size = ds.length := by rw [List.size_toArray, ← p1.length, r1.len]
      have m2 : xs.toArray.size = es.length := by rw [List.size_toArray, ← p2.length, r2.len]
      by_cases haa : a = a'
      · subst haa
        have hb : b = true := Rep.same _ I h1 h2 h'
        subst hb
        exact SeqAt.EqAt.same _
      · have hall := eqL_all h
        rw [← m1, ← m2] at hall
        rw [← hall]
        refine SeqAt.EqAt.of_refs haa (SeqAt.RcAt.tuples l1 l2 hu0 ?_)
        exact pair_at (R := fun x y b => SeqAt.EqAt A.in1 s x y b) (fun a b c d e => ih a b c d hu1 e) r1 r2 p1 p2 (eqL_get h)
    | none =>
    by_cases c1 : ∃ xs, d = .lst xs
    · obtain ⟨ds, rfl⟩ := c1
      cases e with
      | lst es =>
        cases h1 with
        | @lst a vs _ a1 r1 =>
        cases h2 with
        | @lst a' ws _ a2 r2 =>
        cases q1
        cases q2
        obtain ⟨us, p1, l1⟩ := Inv.lstAt (K := X.K) I a1
        obtain ⟨xs, p2, l2⟩ := Inv.lstAt (K := X.K) I a2
        have m1 : us.toArray.size = ds.length := by rw [List.size_toArray, ← p1.length, r1.len]
        have m2 : xs.toArray.size = es.length := by rw [List.size_toArray, ← p2.length, r2.len]
        by_cases haa : a = a'
        · subst haa
          have hb : b = true := Rep.same (n + 1) I (.lst a1 r1) (.lst a2 r2) h
          subst hb
          exact SeqAt.EqAt.same _
        · rw [D.eqb] at h
          by_cases hl : ds.length = es.length
          · rw [if_pos hl] at h
            have hall := eqL_all h
            rw [← hl, Nat.min_self, ← m1] at hall
            have hall' : (List.range us.toArray.size).all (pairB (D.eqb n) ds es) = b := by
              rw [← hall]
              simp [m1]
            rw [← hall']
            refine SeqAt.EqAt.of_refs haa (SeqAt.RcAt.lists l1 l2 (by rw [m1, m2, hl]) hu0 ?_)
            exact pair_at (R := fun x y b => SeqAt.EqAt A.in1 s x y b) (fun a b c d e => ih a b c d hu1 e) r1 r2 p1 p2 (eqL_get h)
          · rw [if_neg hl] at h
            cases h
            exact SeqAt.EqAt.of_refs haa (SeqAt.RcAt.lists_lengths l1 l2 (by rw [m1, m2]; simpa using hl) hu0)
      | _ => exact nomatch (show (none : Option Bool) = some b from h)
    · exact flat h1 h2 q1 q2 (fun xs z => c1 ⟨xs, z⟩) c h
theorem Rep.ltAt (I : Inv X pins σ H s) : ∀ (n : Nat) {A : Around} {v w : V} {x y : Value} {d e : D} {b : Bool}, Rep X.K mg H v d → Rep X.K mg H w e → RelV v x → RelV w y → A.units + n < cLine → D.ltb n d e = some b → SeqAt.RcLt A s x y b := by
  intro n
  have flat : ∀ {n : Nat} {A : Around} {v w : V} {x y : Value} {d e : D} {b : Bool}, Rep X.K mg H v d → Rep X.K mg H w e → RelV v x → RelV w y → (∀ xs, d ≠ .lst xs) → (∀ xs, d ≠ .tup xs) → D.ltb n d e = some b → SeqAt.RcLt A s x y b := by
    intro n A v w x y d e b h1 h2 q1 q2 n1 n2 h
    cases h1 <;> cases h2 <;> (try simp [D.ltb] at h) <;> (try exact absurd rfl (n1 _)) <;> (try exact absurd rfl (n2 _))
    · obtain ⟨t, rfl⟩ := q1; obtain ⟨t', rfl⟩ := q2
      intro prog w E Q hq
      refine PyProof.Rows.lt_int ?_
      have e : decide _ = b := h
      rw [e]; exact hq
    · obtain ⟨t, rfl⟩ := q1; obtain ⟨t', rfl⟩ := q2
      intro prog w E Q hq
      refine PySem.P.lt_str ?_
      rw [← h] at hq
      simpa using hq
  induction n with
  | zero =>
    intro A v w x y d e b h1 h2 q1 q2 hu h
    refine flat h1 h2 q1 q2 (fun xs z => ?_) (fun xs z => ?_) h
    · subst z; cases e <;> exact nomatch (show (none : Option Bool) = some b from h)
    · subst z; cases e <;> exact nomatch (show (none : Option Bool) = some b from h)
  | succ n ih =>
    intro A v w x y d e b h1 h2 q1 q2 hu h
    have hu0 : A.units < cLine := by omega
    have hu1 : A.in1.units + n < cLine := by show A.units + 1 + n < cLine; omega
    by_cases c1 : ∃ xs, d = .lst xs
    · obtain ⟨ds, rfl⟩ := c1
      cases e with
      | lst es =>
        cases h1 with
        | @lst a vs _ a1 r1 =>
        cases h2 with
        | @lst a' ws _ a2 r2 =>
        cases q1
        cases q2
        obtain ⟨us, p1, l1⟩ := Inv.lstAt (K := X.K) I a1
        obtain ⟨xs, p2, l2⟩ := Inv.lstAt (K := X.K) I a2
        have m1 : us.toArray.size = ds.length := by rw [List.size_toArray, ← p1.length, r1.len]
        have m2 : xs.toArray.size = es.length := by rw [List.size_toArray, ← p2.length, r2.len]
        rw [D.ltb] at h
        have hall := ltL_first h
        rw [← m1, ← m2] at hall
        rw [← hall]
        refine SeqAt.RcLt.lists l1 l2 hu0 ?_ ?_
        · exact pair_at (R := fun x y b => SeqAt.EqAt A.in1 s x y b) (fun a b c d e => Rep.eqAt I n a b c d hu1 e) r1 r2 p1 p2 (fun j h1 h2 => (ltL_pairs h j h1 h2).1)
        · exact fun j h1 h2 _ => pair_at (R := fun x y b => SeqAt.RcLt A.in1 s x y b) (fun a b c d e => ih a b c d hu1 e) r1 r2 p1 p2 (fun j h1 h2 => (ltL_pairs h j h1 h2).2) j h1 h2
      | _ => simp [D.ltb] at h
    · by_cases c2 : ∃ xs, d = .tup xs
      · obtain ⟨ds, rfl⟩ := c2
        cases e with
        | tup es =>
          cases h1 with
          | @tup a vs _ a1 r1 =>
          cases h2 with
          | @tup a' ws _ a2 r2 =>
          cases q1
          cases q2
          obtain ⟨us, p1, l1⟩ := Inv.tpAt I a1.sq
          obtain ⟨xs, p2, l2⟩ := Inv.tpAt I a2.sq
          have m1 : us.toArray.size = ds.length := by rw [List.size_toArray, ← p1.length, r1.len]
          have m2 : xs.toArray.size = es.length := by rw [List.size_toArray, ← p2.length, r2.len]
          rw [D.ltb] at h
          have hall := ltL_first h
          rw [← m1, ← m2] at hall
          rw [← hall]
          refine SeqAt.RcLt.tuples l1 l2 hu0 ?_ ?_
          · exact pair_at (R := fun x y b => SeqAt.EqAt A.in1 s x y b) (fun a b c d e => Rep.eqAt I n a b c d hu1 e) r1 r2 p1 p2 (fun j h1 h2 => (ltL_pairs h j h1 h2).1)
          · exact fun j h1 h2 _ => pair_at (R := fun x y b => SeqAt.RcLt A.in1 s x y b) (fun a b c d e => ih a b c d hu1 e) r1 r2 p1 p2 (fun j h1 h2 => (ltL_pairs h j h1 h2).2) j h1 h2
        | _ => simp [D.ltb] at h
      · exact flat h1 h2 q1 q2 (fun xs z => c1 ⟨xs, z⟩) (fun xs z => c2 ⟨xs, z⟩) h
end
end Fu

namespace Fu
open PySem L2

/-! ### operators by data -/
def OPost (K : PySem.W.Frag) (mg : Mg) (F H : Hp) (fs : List Addr) (m : Option T) (Q : VK) : Prop := match m with
  | some t => ∀ z F' H' fp, Grow F H F' H' → RepT K mg F' H' t z fp → fp.Nodup → (∀ a ∈ fp, a ∈ fs ∨ (H a = none ∧ F' a = none)) → Q z H'
  | none => False
def OpV (K : PySem.W.Frag) (mg : Mg) (r : R2) (op : T → T → Option T) : Prop := ∀ F H x y v w f1 f2, Ex F H → TupIn F H → RepT K mg F H x v f1 → RepT K mg F H y w f2 → (f1 ++ f2).Nodup → (∀ a ∈ f1 ++ f2, F a = none) →
  ∀ Q, OPost K mg F H (f1 ++ f2) (op x y) Q → r v w H Q
def eOp (op : T → T → Option T) (ga gb : FE) : FE := fun env => do
  let x ← ga env
  let y ← gb env
  M.of (op x y)
def UnV (K : PySem.W.Frag) (mg : Mg) (r : V → Hp → VK → Prop) (op : T → Option T) : Prop := ∀ F H x v f1, Ex F H → TupIn F H → RepT K mg F H x v f1 → f1.Nodup → (∀ a ∈ f1, F a = none) →
  ∀ Q, OPost K mg F H f1 (op x) Q → r v H Q
def eUn (op : T → Option T) (ga : FE) : FE := fun env => do
  let x ← ga env
  M.of (op x)
section
variable {X : Cx} {W : WX}
theorem op_sem {ta tb : TE} {ga gb : FE} {ea eb : Expr} {r : R2} {op : T → T → Option T} (ha : RE X W ea ta ga) (hb : RE X W eb tb gb) (hv : OpV X.K X.mg r op) {F H : Hp} {env : En} {σ : L2.St} (I : EnvOK X.K X.mg F H env σ) (Q : VK)
    (h : RPost X.K X.mg W F H env (eOp op ga gb env) Q) : tOp r ta tb σ H Q := by
  refine two (R := fun v w H2 => r v w H2 Q) ha hb I ?_
  unfold eOp at h
  cases e1 : ga env with
  | bad => rw [e1] at h; exact h.elim
  | ex x => rw [e1] at h; exact h
  | ok x =>
    rw [e1] at h
    show match gb env with | .ok y => _ | .ex e => _ | .bad => _
    simp only [M.bind_ok] at h
    cases e2 : gb env with
    | bad => rw [e2] at h; exact h.elim
    | ex y => rw [e2] at h; exact h
    | ok y =>
      rw [e2] at h
      simp only [M.bind_ok] at h
      intro v w F' H' f1 f2 g I' r1 r2 nd k
      refine hv F' H' x y v w f1 f2 g.fh g.tu r1 r2 nd (fun a m => (k a m).2) Q ?_
      cases e3 : op x y with
      | none => rw [e3] at h; exact h.elim
      | some t =>
        rw [e3] at h
        intro z F'' H'' fp g2 r3 nd3 k3
        refine h z F'' H'' fp (g.trans g2) r3 nd3 fun a m => ?_
        rcases k3 a m with q | ⟨q1, q2⟩
        · obtain ⟨h1, h2⟩ := k a q
          have hd : ∃ u, H' a = some u := by
            rcases List.mem_append.mp q with q | q
            · obtain ⟨u, hu, _⟩ := r1.dom a q; exact ⟨u, hu⟩
            · obtain ⟨u, hu, _⟩ := r2.dom a q; exact ⟨u, hu⟩
          obtain ⟨u, hu⟩ := hd
          exact ⟨h1, (g2.ff a (by rw [hu]; intro z; cases z)).trans h2⟩
        · exact ⟨g.hh.back q1, q2⟩
theorem un_sem {ta : TE} {ga : FE} {ea : Expr} {r : V → Hp → VK → Prop} {op : T → Option T} (ha : RE X W ea ta ga) (hv : UnV X.K X.mg r op) {F H : Hp} {env : En} {σ : L2.St} (I : EnvOK X.K X.mg F H env σ) (Q : VK)
    (h : RPost X.K X.mg W F H env (eUn op ga env) Q) : ta σ H (fun v H1 => r v H1 Q) := by
  refine ha.sem F H env σ I _ ?_
  unfold eUn at h
  cases e1 : ga env with
  | bad => rw [e1] at h; exact h.elim
  | ex x => rw [e1] at h; exact h
  | ok x =>
    rw [e1] at h
    simp only [M.bind_ok] at h
    intro v F' H' f1 g r1 nd k
    refine hv F' H' x v f1 g.fh g.tu r1 nd (fun a m => (k a m).2) Q ?_
    cases e3 : op x with
    | none => rw [e3] at h; exact h.elim
    | some t =>
      rw [e3] at h
      intro z F'' H'' fp g2 r3 nd3 k3
      refine h z F'' H'' fp (g.trans g2) r3 nd3 fun a m => ?_
      rcases k3 a m with q | ⟨q1, q2⟩
      · obtain ⟨h1, h2⟩ := k a q
        obtain ⟨u, hu, _⟩ := r1.dom a q
        exact ⟨h1, (g2.ff a (by rw [hu]; intro z; cases z)).trans h2⟩
      · exact ⟨g.hh.back q1, q2⟩
theorem re_op {ta tb : TE} {ga gb : FE} {ea eb : Expr} {o : Operator} {pos : Pos} {r : R2} {op : T → T → Option T} (ho : OpR X (binaryOp o) r) (hv : OpV X.K X.mg r op) (ha : RE X W ea ta ga) (hb : RE X W eb tb gb) :
    RE X W (.BinOp ea o eb pos) (tOp r ta tb) (eOp op ga gb) := ⟨pe_op ho ha.pe hb.pe, fun F H env σ I Q q => op_sem ha hb hv I Q q⟩
theorem re_cmp {ta tb : TE} {ga gb : FE} {ea eb : Expr} {o : CmpOp} {pos : Pos} {r : R2} {op : T → T → Option T} (ho : OpR X (compareOp o) r) (hv : OpV X.K X.mg r op) (ha : RE X W ea ta ga) (hb : RE X W eb tb gb) (hm : behindInMarks o eb = false) :
    RE X W (.Compare ea [o] [eb] pos) (tOp r ta tb) (eOp op ga gb) := ⟨pe_cmpR ho ha.pe hb.pe hm, fun F H env σ I Q q => op_sem ha hb hv I Q q⟩
theorem re_un {ta : TE} {ga : FE} {ea : Expr} {o : UnaryOp} {pos : Pos} {r : V → Hp → VK → Prop} {op : T → Option T} (ho : UnR X (unaryOp o) r) (hv : UnV X.K X.mg r op) (ha : RE X W ea ta ga) :
    RE X W (.UnaryOp o ea pos) (tUn r ta) (eUn op ga) := ⟨pe_un ho ha.pe, fun F H env σ I Q q => un_sem ha hv I Q q⟩
theorem re_ix {ta tb : TE} {ga gb : FE} {ea eb : Expr} {pos : Pos} {r : R2} {op : T → T → Option T} (ho : IxR X r) (hv : OpV X.K X.mg r op) (ha : RE X W ea ta ga) (hb : RE X W eb tb gb) (hs : PlainIx eb := by exact fun _ _ => rfl) :
    RE X W (.Subscript ea eb pos) (tOp r ta tb) (eOp op ga gb) := ⟨pe_ix ho ha.pe hb.pe hs, fun F H env σ I Q q => op_sem ha hb hv I Q q⟩
end

/-! ### building blocks -/
def sc (d : D) : Option T := some (.o (.sh d))
section
variable {K : PySem.W.Frag} {mg : Mg} {F H : Hp} {fs : List Addr} {Q : VK}
/-- a flat answer, nothing changed -/
theorem OPost.sc {d : D} (e : Ex F H) (t : TupIn F H) (h : OPost K mg F H fs (sc d) Q) {v : V} (r : Rep K mg F v d) : Q v H := h v F H [] (Grow.refl e t) ⟨rfl, r⟩ List.nodup_nil (fun _ m => by cases m)
theorem Grow.lst {p : Addr} {vs : List V} (e : Ex F H) (t : TupIn F H) (hp : H p = none) : Grow F H F (upd H p (.lst vs)) :=
  ⟨Ex.new hp, fun _ _ => rfl, e.trans (Ex.new hp), fun a us h => by
    by_cases q : a = p
    · subst q; rw [upd_same] at h; cases h
    · rw [upd_ne q] at h; exact t a us h⟩
theorem Grow.obj {p : Addr} {o : HO} (ho : ∀ vs, o ≠ .tup vs) (e : Ex F H) (t : TupIn F H) (hp : H p = none) : Grow F H F (upd H p o) :=
  ⟨Ex.new hp, fun _ _ => rfl, e.trans (Ex.new hp), fun a us h => by
    by_cases q : a = p
    · subst q; rw [upd_same] at h; cases h; exact absurd rfl (ho us)
    · rw [upd_ne q] at h; exact t a us h⟩
theorem Ex.none (e : Ex F H) {p : Addr} (hp : H p = Option.none) : F p = Option.none := Ex.back e hp
theorem TabG.down {F : Hp} {p : Addr} {vs : List V} {P : Addr} (t : TabG (upd F p (.tup vs)) P) : TabG F P := by
  obtain ⟨ps, h1, h2, h3⟩ := t
  have n1 : P ≠ p := fun z => by subst z; rw [upd_same] at h1; cases h1
  rw [upd_ne n1] at h1
  refine ⟨ps, h1, h2, fun pos cv hc => ?_⟩
  obtain ⟨c, q, e1, e2⟩ := h3 pos cv hc
  have n2 : c ≠ p := fun z => by subst z; rw [upd_same] at e2; cases e2
  rw [upd_ne n2] at e2
  exact ⟨c, q, e1, e2⟩
theorem Ex.upd2 {p : Addr} {vs : List V} (e : Ex F H) (hp : H p = Option.none) : Ex (upd F p (.tup vs)) (upd H p (.tup vs)) := by
  refine ⟨fun a u h n => ?_, fun P t => ?_, fun a h => ?_, fun a ps h => ?_⟩
  · by_cases q : a = p
    · subst q; rw [upd_same] at h ⊢; exact h
    · rw [upd_ne q] at h ⊢; exact e.at' a u h n
  · exact (e.tab P t.down).ext fun a o h => by rw [upd_ne (ne_of_none h hp)]; exact h
  · by_cases q : a = p
    · subst q; rw [upd_same] at h; cases h
    · rw [upd_ne q] at h ⊢; exact e.bk a h
  · by_cases q : a = p
    · subst q; rw [upd_same] at h; cases h
    · rw [upd_ne q] at h ⊢; exact e.tb a _ h
theorem Grow.tup {p : Addr} {vs : List V} (e : Ex F H) (t : TupIn F H) (hp : H p = none) : Grow F H (upd F p (.tup vs)) (upd H p (.tup vs)) :=
  ⟨Ex.new hp, fun a ha => by
    by_cases q : a = p
    · subst q; exact absurd hp ha
    · exact upd_ne q, e.upd2 hp, fun a us h => by
    by_cases q : a = p
    · subst q; rw [upd_same] at h ⊢; exact h
    · rw [upd_ne q] at h ⊢; exact t a us h⟩
/-- a new list of owned things -/
theorem new_lst {os : List O} {vs : List V} {fq : List Addr} {p : Addr} (e : Ex F H) (t : TupIn F H) (hp : H p = none) (h : OwnL K mg F H os vs fq) (nd : fq.Nodup) :
    Grow F H F (upd H p (.lst vs)) ∧ Own K mg F (upd H p (.lst vs)) (.lst os) (.ref p) (p :: fq) ∧ (p :: fq).Nodup := by
  have np : ∀ a ∈ fq, a ≠ p := fun a m z => by
    obtain ⟨u, hu, _⟩ := h.dom a m
    rw [z, hp] at hu; cases hu
  exact ⟨Grow.lst e t hp, ⟨p, vs, fq, rfl, upd_same, rfl, OwnL.cong (Ex.refl F) (fun a m => upd_ne (np a m)) h⟩, List.nodup_cons.mpr ⟨fun m => np p m rfl, nd⟩⟩
end
def O.isSh : O → Bool
  | .sh _ => true
  | _ => false
/-- a tuple: shared if all of it is -/
def mkTup (os : List O) : O := if os.all O.isSh then .sh (.tup (O.dataL os)) else .tup os
section
variable {K : PySem.W.Frag} {mg : Mg} {F H : Hp}
theorem OwnL.allSh : ∀ {os : List O} {vs : List V} {fq : List Addr}, os.all O.isSh = true → OwnL K mg F H os vs fq → fq = [] ∧ RepL K mg F vs (O.dataL os)
  | [], vs, fq, _, h => by
    obtain ⟨h1, h2⟩ := h
    subst h1 h2
    rw [O.dataL]
    exact ⟨rfl, .nil⟩
  | o :: os, vs, fq, q, h => by
    obtain ⟨w, ws, f1, f2, e1, e2, h1, h2⟩ := h
    have q' : o.isSh = true ∧ os.all O.isSh = true := by simpa [List.all_cons] using q
    obtain ⟨e3, r⟩ := OwnL.allSh q'.2 h2
    cases o with
    | sh d =>
      obtain ⟨e4, r1⟩ := h1
      subst e1 e2 e3 e4
      rw [O.dataL, O.data]
      exact ⟨rfl, .cons r1 r⟩
    | _ => exact absurd q'.1 (by simp [O.isSh])
theorem new_tup {os : List O} {vs : List V} {fq : List Addr} {p : Addr} (e : Ex F H) (t : TupIn F H) (hp : H p = none) (h : OwnL K mg F H os vs fq) :
    Grow F H (upd F p (.tup vs)) (upd H p (.tup vs)) ∧ Own K mg (upd F p (.tup vs)) (upd H p (.tup vs)) (mkTup os) (.ref p) fq ∧ ∀ a ∈ fq, upd F p (.tup vs) a = F a := by
  have np : ∀ a ∈ fq, a ≠ p := fun a m z => by
    obtain ⟨u, hu, _⟩ := h.dom a m
    rw [z, hp] at hu; cases hu
  have g := Grow.tup (vs := vs) e t hp
  have h' : OwnL K mg (upd F p (.tup vs)) (upd H p (.tup vs)) os vs fq := OwnL.cong (Ex.new (e.none hp)) (fun a m => upd_ne (np a m)) h
  refine ⟨g, ?_, fun a m => upd_ne (np a m)⟩
  unfold mkTup
  split
  · rename_i q
    obtain ⟨e3, r⟩ := h'.allSh q
    subst e3
    exact ⟨rfl, .tup upd_same r⟩
  · exact ⟨p, vs, rfl, upd_same, h'⟩
/-- a list's things, to be put elsewhere -/
def T.items : T → Option (List O)
  | .o (.lst os) => some os
  | .o (.sh (.lst ds)) => some (ds.map O.sh)
  | .bo (.lst ds) => if D.flatL ds then some (ds.map O.sh) else none
  | _ => none
theorem T.items_ok {t : T} {v : V} {fp : List Addr} {os : List O} (e : Ex F H) (tu : TupIn F H) (h : RepT K mg F H t v fp) (q : t.items = some os) :
    ∃ p vs fq, v = .ref p ∧ H p = some (.lst vs) ∧ OwnL K mg F H os vs fq ∧ fq.Sublist fp := by
  unfold T.items at q
  split at q
  · rename_i os'
    cases q
    obtain ⟨p, vs, fq, e1, h1, e2, r⟩ := h
    subst e2
    exact ⟨p, vs, fq, e1, h1, r, List.sublist_cons_self _ _⟩
  · rename_i ds
    cases q
    obtain ⟨e1, r⟩ := h
    cases r with
    | lst h1 r => exact ⟨_, _, [], rfl, e.at h1, OwnL.shared r, List.nil_sublist _⟩
  · rename_i ds
    split at q
    · rename_i hf
      cases q
      obtain ⟨e1, r⟩ := h
      cases r with
      | lst h1 r => exact ⟨_, _, [], rfl, h1, OwnL.shared (r.flat tu hf), List.nil_sublist _⟩
    · cases q
  · cases q
theorem RepT.flat {t : T} {v : V} {fp : List Addr} (e : Ex F H) (tu : TupIn F H) (h : RepT K mg F H t v fp) (q : t.data.flat = true) : Rep K mg F v t.data := (h.rep e).flat tu q
end

/-! ### + -/
def tAdd (x y : T) : Option T := match x.data, y.data with
  | .int i, .int j => sc (.int (i + j))
  | .str a, .str b => if a.length + b.length ≤ sizeLine then sc (.str (a ++ b)) else none
  | .lst _, .lst _ => match x.items, y.items with
    | some os, some ps => if os.length + ps.length ≤ sizeLine then some (.o (.lst (os ++ ps))) else none
    | _, _ => none
  | .tup (a :: as), .tup (b :: bs) => if (a :: as).length + (b :: bs).length ≤ sizeLine ∧ D.flatL (a :: as) ∧ D.flatL (b :: bs) then sc (.tup ((a :: as) ++ (b :: bs))) else none
  | _, _ => none
def rAddA (K : PySem.W.Frag) : R2 := fun x y H Q => rI0 (fun i j => .int (i + j)) x y H Q ∨ (∃ i j, x = .str i ∧ y = .str j ∧ i.length + j.length ≤ sizeLine ∧ Q (.str (i ++ j)) H) ∨ rCat x y H Q ∨ rCatT K x y H Q
theorem OpR.or {X : Cx} {f : Value → Value → Sem Value} {r r' : R2} (h : OpR X f r) (h' : OpR X f r') : OpR X f (fun x y H Q => r x y H Q ∨ r' x y H Q) := by
  intro pins s σ H x y v u Q I rx ry q
  rcases q with q | q
  · exact h pins s σ H x y v u Q I rx ry q
  · exact h' pins s σ H x y v u Q I rx ry q
theorem op_addA {X : Cx} : OpR X (binaryOp .Add) (rAddA X.K) := OpR.or op_add (OpR.or op_add_str (OpR.or op_cat op_catT))
section
variable {K : PySem.W.Frag} {mg : Mg}
theorem ov_add : OpV K mg (rAddA K) tAdd := by
  intro F H x y v w f1 f2 e t r1 r2 nd hf Q h
  have q1 := r1.rep e
  have q2 := r2.rep e
  unfold tAdd at h
  split at h
  · rename_i i j e1 e2
    rw [e1] at q1; rw [e2] at q2
    cases q1; cases q2
    exact .inl ⟨i, j, rfl, rfl, h.sc e t (.int _)⟩
  · rename_i a b e1 e2
    rw [e1] at q1; rw [e2] at q2
    cases q1; cases q2
    split at h
    · rename_i hl
      exact .inr (.inl ⟨a, b, rfl, rfl, hl, h.sc e t (.str _)⟩)
    · exact h.elim
  · rename_i a b e1 e2
    split at h
    · rename_i os ps i1 i2
      split at h
      · rename_i hl
        obtain ⟨p, vs, fq, ev, hp, o1, s1⟩ := T.items_ok e t r1 i1
        obtain ⟨p', vs', fq', ev', hp', o2, s2⟩ := T.items_ok e t r2 i2
        have l1 := o1.len
        have l2 := o2.len
        refine .inr (.inr (.inl ⟨p, p', vs, vs', ev, ev', hp, hp', by omega, fun n hn => ?_⟩))
        obtain ⟨g, o3, nd3⟩ := new_lst e t hn (o1.app o2) (nd.sublist (s1.append s2))
        refine h _ F _ _ g o3 nd3 fun a m => ?_
        rcases List.mem_cons.mp m with z | m
        · subst z; exact .inr ⟨hn, e.none hn⟩
        · exact .inl ((s1.append s2).subset m)
      · exact h.elim
    · exact h.elim
  · rename_i a as b bs e1 e2
    split at h
    · rename_i hl
      rw [e1] at q1; rw [e2] at q2
      have k1 := q1.flat t (by rw [D.flat]; exact hl.2.1)
      have k2 := q2.flat t (by rw [D.flat]; exact hl.2.2)
      cases k1 with
      | tup a1 l1 =>
        cases k2 with
        | tup a2 l2 =>
          have n1 := l1.len
          have n2 := l2.len
          refine .inr (.inr (.inr ⟨_, _, _, _, rfl, rfl, (e.tp a1).sq, (e.tp a2).sq, fun z => ?_, by rw [n1, n2]; exact hl.1, fun z => ?_, fun z n hn => ?_⟩))
          · rw [z] at n1; simp at n1
          · rw [z] at n2; simp at n2
          · refine h _ (upd F n (.tup _)) _ [] (Grow.tup e t hn) ⟨rfl, .tup upd_same ?_⟩ List.nodup_nil (fun _ m => by cases m)
            exact (l1.app l2).mono (Ex.new (e.none hn))
    · exact h.elim
  · exact h.elim
end
section
variable {X : Cx} {W : WX}
theorem re_add {ta tb : TE} {ga gb : FE} {ea eb : Expr} {pos : Pos} (ha : RE X W ea ta ga) (hb : RE X W eb tb gb) : RE X W (.BinOp ea .Add eb pos) (tOp (rAddA X.K) ta tb) (eOp tAdd ga gb) := re_op op_addA ov_add ha hb
end

/-! ### whole numbers -/
def tInt2 (f : Int → Int → Option D) (x y : T) : Option T := match x.data, y.data with
  | .int i, .int j => (f i j).bind sc
  | _, _ => none
theorem tInt2_ok {K : PySem.W.Frag} {mg : Mg} {F H : Hp} {x y : T} {v w : V} {f1 f2 : List Addr} {f : Int → Int → Option D} {Q : VK} {fs : List Addr} (e : Ex F H) (t : TupIn F H) (r1 : RepT K mg F H x v f1) (r2 : RepT K mg F H y w f2) (h : OPost K mg F H fs (tInt2 f x y) Q) :
    ∃ i j d, v = .int i ∧ w = .int j ∧ f i j = some d ∧ OPost K mg F H fs (sc d) Q := by
  have q1 := r1.rep e
  have q2 := r2.rep e
  unfold tInt2 at h
  split at h
  · rename_i i j e1 e2
    rw [e1] at q1; rw [e2] at q2
    cases q1; cases q2
    cases e3 : f i j with
    | none => rw [e3] at h; exact h.elim
    | some d => rw [e3] at h; exact ⟨i, j, d, rfl, rfl, e3, h⟩
  · exact h.elim
def tSub : T → T → Option T := tInt2 fun i j => some (.int (i - j))
def tMul : T → T → Option T := tInt2 fun i j => if (-(2 ^ 64) < i ∧ i < 2 ^ 64) ∨ (-(2 ^ 64) < j ∧ j < 2 ^ 64) then some (.int (i * j)) else none
def tMod : T → T → Option T := tInt2 fun i j => if 0 < j then some (.int (i % j)) else none
def tDiv : T → T → Option T := tInt2 fun i j => if 0 < j ∧ j < 1073741824 then some (.int (i / j)) else none
def tPow : T → T → Option T := tInt2 fun i j => if 0 ≤ j ∧ j ≤ 1000000 ∧ i.natAbs < 2 ^ 64 then some (.int (i ^ j.toNat)) else none
section
variable {X : Cx} {W : WX} {ta tb : TE} {ga gb : FE} {ea eb : Expr} {pos : Pos}
theorem re_sub (ha : RE X W ea ta ga) (hb : RE X W eb tb gb) : RE X W (.BinOp ea .Sub eb pos) (tOp (rI0 fun i j => .int (i - j)) ta tb) (eOp tSub ga gb) :=
  re_op op_sub (fun F H x y v w f1 f2 e t r1 r2 nd hf Q h => by
    obtain ⟨i, j, d, rfl, rfl, e3, h⟩ := tInt2_ok e t r1 r2 h
    cases e3
    exact ⟨i, j, rfl, rfl, h.sc e t (.int _)⟩) ha hb
theorem re_mul (ha : RE X W ea ta ga) (hb : RE X W eb tb gb) : RE X W (.BinOp ea .Mult eb pos) (tOp (rI CMul fun i j => .int (i * j)) ta tb) (eOp tMul ga gb) :=
  re_op op_mul (fun F H x y v w f1 f2 e t r1 r2 nd hf Q h => by
    obtain ⟨i, j, d, rfl, rfl, e3, h⟩ := tInt2_ok e t r1 r2 h
    split at e3
    · rename_i hc
      cases e3
      exact ⟨i, j, rfl, rfl, hc, h.sc e t (.int _)⟩
    · cases e3) ha hb
theorem re_mod (ha : RE X W ea ta ga) (hb : RE X W eb tb gb) : RE X W (.BinOp ea .Mod eb pos) (tOp (rI (fun _ j => 0 < j) fun i j => .int (i % j)) ta tb) (eOp tMod ga gb) :=
  re_op op_mod (fun F H x y v w f1 f2 e t r1 r2 nd hf Q h => by
    obtain ⟨i, j, d, rfl, rfl, e3, h⟩ := tInt2_ok e t r1 r2 h
    split at e3
    · rename_i hc
      cases e3
      exact ⟨i, j, rfl, rfl, hc, h.sc e t (.int _)⟩
    · cases e3) ha hb
theorem re_div (ha : RE X W ea ta ga) (hb : RE X W eb tb gb) : RE X W (.BinOp ea .FloorDiv eb pos) (tOp (rI CDiv fun i j => .int (i / j)) ta tb) (eOp tDiv ga gb) :=
  re_op op_fdiv (fun F H x y v w f1 f2 e t r1 r2 nd hf Q h => by
    obtain ⟨i, j, d, rfl, rfl, e3, h⟩ := tInt2_ok e t r1 r2 h
    split at e3
    · rename_i hc
      cases e3
      exact ⟨i, j, rfl, rfl, hc, h.sc e t (.int _)⟩
    · cases e3) ha hb
theorem re_pow (ha : RE X W ea ta ga) (hb : RE X W eb tb gb) : RE X W (.BinOp ea .Pow eb pos) (tOp (rI CPow fun i j => .int (i ^ j.toNat)) ta tb) (eOp tPow ga gb) :=
  re_op op_pow (fun F H x y v w f1 f2 e t r1 r2 nd hf Q h => by
    obtain ⟨i, j, d, rfl, rfl, e3, h⟩ := tInt2_ok e t r1 r2 h
    split at e3
    · rename_i hc
      cases e3
      exact ⟨i, j, rfl, rfl, hc, h.sc e t (.int _)⟩
    · cases e3) ha hb
def tNeg (x : T) : Option T := match x.data with
  | .int i => sc (.int (-i))
  | _ => none
theorem re_neg (ha : RE X W ea ta ga) : RE X W (.UnaryOp .USub ea pos) (tUn (rU fun i => .int (-i)) ta) (eUn tNeg ga) :=
  re_un un_neg (fun F H x v f1 e t r1 nd hf Q h => by
    have q1 := r1.rep e
    unfold tNeg at h
    split at h
    · rename_i i e1
      rw [e1] at q1
      cases q1
      exact ⟨i, rfl, h.sc e t (.int _)⟩
    · exact h.elim) ha
end
end Fu

namespace Fu
open PySem L2

/-! ### == and != -/
theorem beqd {a : Type} [BEq a] [LawfulBEq a] [DecidableEq a] (x y : a) : (x == y) = decide (x = y) := by
  by_cases h : x = y
  · subst h; simp
  · simp [h]
abbrev deep : Nat := 100
def rEqF (K : PySem.W.Frag) (mg : Mg) : R2 := fun x y H Q => ∃ d e b, Rep K mg H x d ∧ Rep K mg H y e ∧ D.eqb (deep + 1) d e = some b ∧ Q (.bl b) H
def rNeF (K : PySem.W.Frag) (mg : Mg) : R2 := fun x y H Q => ∃ d e b, Rep K mg H x d ∧ Rep K mg H y e ∧ D.eqb (deep + 1) d e = some b ∧ Q (.bl (!b)) H
section
variable {X : Cx} {mg : Mg}
theorem eqb_scal {K : PySem.W.Frag} {F : Hp} {n : Nat} {v w : V} {d e : D} {b : Bool} (h1 : Rep K mg F v d) (h2 : Rep K mg F w e) (n1 : ∀ xs, d ≠ .lst xs) (n2 : d.tupItems = none) (h : D.eqb n d e = some b) : scal v w = true ∧ b = decide (v = w) := by
  cases h1 <;> cases h2 <;> first
    | exact absurd rfl (n1 _)
    | (cases n2; done)
    | (cases n <;> exact nomatch (show (none : Option Bool) = some b from h))
    | (refine ⟨rfl, ?_⟩; simp [D.eqb] at h; first | done | (rw [← h]; simp; done) | (subst h; simp; done) | (subst h; symm; simp; done))
    | (refine ⟨rfl, ?_⟩; have h' := h; simp only [D.eqb, Option.some.injEq] at h'; rw [← h']; refine (beqd _ _).trans ?_; simp; done)
theorem op_eqF (hu : X.A.units + 150 < cLine) : OpR X (compareOp .Eq) (rEqF X.K mg) := by
  intro pins s σ H x y v u Q I rx ry h
  obtain ⟨d, e, b, h1, h2, h, q⟩ := h
  have hu0 : X.A.units < cLine := by omega
  have hu1 : X.A.in1.units + deep < cLine := by show X.A.units + 1 + 100 < cLine; omega
  cases c : d.tupItems with
  | some ds =>
    obtain ⟨m, es, z, c2, h⟩ := eqb_tup c h
    cases z
    obtain ⟨a, vs, e1, s1, r1⟩ := h1.tupAt c
    obtain ⟨a', ws, e2, s2, r2⟩ := h2.tupAt c2
    subst e1 e2
    cases rx
    cases ry
    obtain ⟨us, p1, l1⟩ := Inv.tpAt I s1
    obtain ⟨xs, p2, l2⟩ := Inv.tpAt I s2
    have m1 : us.toArray.size = ds.length := by rw [List.size_toArray, ← p1.length, r1.len]
    have m2 : xs.toArray.size = es.length := by rw [List.size_toArray, ← p2.length, r2.len]
    have hall := eqL_all h
    rw [← m1, ← m2] at hall
    refine SeqAt.eq_tupleAt (e := pairB (D.eqb deep) ds es) l1 l2 hu0 ?_ ?_
    · exact pair_at (R := fun x y b => SeqAt.EqAt X.A.in1 s x y b) (fun a b c d e => Rep.eqAt I deep a b c d hu1 e) r1 r2 p1 p2 (eqL_get h)
    · rw [hall]
      exact ⟨.bl b, H, I, rfl, q⟩
  | none =>
  by_cases c1 : ∃ xs, d = .lst xs
  · obtain ⟨ds, rfl⟩ := c1
    cases e with
    | lst es =>
      cases h1 with
      | @lst a vs _ a1 r1 =>
      cases h2 with
      | @lst a' ws _ a2 r2 =>
      cases rx
      cases ry
      obtain ⟨us, p1, l1⟩ := Inv.lstAt (K := X.K) I a1
      obtain ⟨xs, p2, l2⟩ := Inv.lstAt (K := X.K) I a2
      have m1 : us.toArray.size = ds.length := by rw [List.size_toArray, ← p1.length, r1.len]
      have m2 : xs.toArray.size = es.length := by rw [List.size_toArray, ← p2.length, r2.len]
      rw [D.eqb] at h
      by_cases hl : ds.length = es.length
      · rw [if_pos hl] at h
        have hall := eqL_all h
        rw [← hl, Nat.min_self, ← m1] at hall
        have hall' : (List.range us.toArray.size).all (pairB (D.eqb deep) ds es) = b := by
          rw [← hall]
          simp [m1]
        refine SeqAt.eq_listAt (e := pairB (D.eqb deep) ds es) l1 l2 (by rw [m1, m2, hl]) hu0 ?_ ?_
        · exact pair_at (R := fun x y b => SeqAt.EqAt X.A.in1 s x y b) (fun a b c d e => Rep.eqAt I deep a b c d hu1 e) r1 r2 p1 p2 (eqL_get h)
        · rw [hall']
          exact ⟨.bl b, H, I, rfl, q⟩
      · rw [if_neg hl] at h
        cases h
        exact SeqAt.eq_list_lengthsAt l1 l2 (by rw [m1, m2]; simpa using hl) hu0 ⟨.bl false, H, I, rfl, q⟩
    | _ => exact nomatch (show (none : Option Bool) = some b from h)
  · obtain ⟨k1, k2⟩ := eqb_scal h1 h2 (fun xs z => c1 ⟨xs, z⟩) c h
    exact op_eq pins s σ H x y v u Q I rx ry ⟨k1, by rw [← k2]; exact q⟩
theorem op_neF (hu : X.A.units + 150 < cLine) : OpR X (compareOp .NotEq) (rNeF X.K mg) := by
  intro pins s σ H x y v u Q I rx ry h
  obtain ⟨d, e, b, h1, h2, h, q⟩ := h
  have hu0 : X.A.units < cLine := by omega
  have hu1 : X.A.in1.units + deep < cLine := by show X.A.units + 1 + 100 < cLine; omega
  cases c : d.tupItems with
  | some ds =>
    obtain ⟨m, es, z, c2, h⟩ := eqb_tup c h
    cases z
    obtain ⟨a, vs, e1, s1, r1⟩ := h1.tupAt c
    obtain ⟨a', ws, e2, s2, r2⟩ := h2.tupAt c2
    subst e1 e2
    cases rx
    cases ry
    obtain ⟨us, p1, l1⟩ := Inv.tpAt I s1
    obtain ⟨xs, p2, l2⟩ := Inv.tpAt I s2
    have m1 : us.toArray.size = ds.length := by rw [List.size_toArray, ← p1.length, r1.len]
    have m2 : xs.toArray.size = es.length := by rw [List.size_toArray, ← p2.length, r2.len]
    have hall := eqL_all h
    rw [← m1, ← m2] at hall
    refine SeqAt.RcNeAt.tuples (e := pairB (D.eqb deep) ds es) l1 l2 hu0 ?_ _ _ _ _ ?_
    · exact pair_at (R := fun x y b => SeqAt.EqAt X.A.in1 s x y b) (fun a b c d e => Rep.eqAt I deep a b c d hu1 e) r1 r2 p1 p2 (eqL_get h)
    · rw [hall]
      exact ⟨.bl (!b), H, I, rfl, q⟩
  | none =>
  by_cases c1 : ∃ xs, d = .lst xs
  · obtain ⟨ds, rfl⟩ := c1
    cases e with
    | lst es =>
      cases h1 with
      | @lst a vs _ a1 r1 =>
      cases h2 with
      | @lst a' ws _ a2 r2 =>
      cases rx
      cases ry
      obtain ⟨us, p1, l1⟩ := Inv.lstAt (K := X.K) I a1
      obtain ⟨xs, p2, l2⟩ := Inv.lstAt (K := X.K) I a2
      have m1 : us.toArray.size = ds.length := by rw [List.size_toArray, ← p1.length, r1.len]
      have m2 : xs.toArray.size = es.length := by rw [List.size_toArray, ← p2.length, r2.len]
      rw [D.eqb] at h
      by_cases hl : ds.length = es.length
      · rw [if_pos hl] at h
        have hall := eqL_all h
        rw [← hl, Nat.min_self, ← m1] at hall
        have hall' : (List.range us.toArray.size).all (pairB (D.eqb deep) ds es) = b := by
          rw [← hall]
          simp [m1]
        refine SeqAt.RcNeAt.lists (e := pairB (D.eqb deep) ds es) l1 l2 (by rw [m1, m2, hl]) hu0 ?_ _ _ _ _ ?_
        · exact pair_at (R := fun x y b => SeqAt.EqAt X.A.in1 s x y b) (fun a b c d e => Rep.eqAt I deep a b c d hu1 e) r1 r2 p1 p2 (eqL_get h)
        · rw [hall']
          exact ⟨.bl (!b), H, I, rfl, q⟩
      · rw [if_neg hl] at h
        cases h
        exact SeqAt.RcNeAt.lists_lengths l1 l2 (by rw [m1, m2]; simpa using hl) hu0 _ _ _ _ ⟨.bl true, H, I, rfl, q⟩
    | _ => exact nomatch (show (none : Option Bool) = some b from h)
  · obtain ⟨k1, k2⟩ := eqb_scal h1 h2 (fun xs z => c1 ⟨xs, z⟩) c h
    exact op_ne pins s σ H x y v u Q I rx ry ⟨k1, by rw [← k2]; exact q⟩
end
def tEq (x y : T) : Option T := (D.eqb (deep + 1) x.data y.data).bind fun b => sc (.bl b)
def tNe (x y : T) : Option T := (D.eqb (deep + 1) x.data y.data).bind fun b => sc (.bl (!b))
section
variable {K : PySem.W.Frag} {mg : Mg}
theorem ov_eq : OpV K mg (rEqF K mg) tEq := by
  intro F H x y v w f1 f2 e t r1 r2 nd hf Q h
  unfold tEq at h
  cases c : D.eqb (deep + 1) x.data y.data with
  | none => rw [c] at h; exact h.elim
  | some b => rw [c] at h; exact ⟨_, _, b, r1.rep e, r2.rep e, c, OPost.sc (d := .bl b) e t h (.bl b)⟩
theorem ov_ne : OpV K mg (rNeF K mg) tNe := by
  intro F H x y v w f1 f2 e t r1 r2 nd hf Q h
  unfold tNe at h
  cases c : D.eqb (deep + 1) x.data y.data with
  | none => rw [c] at h; exact h.elim
  | some b => rw [c] at h; exact ⟨_, _, b, r1.rep e, r2.rep e, c, OPost.sc (d := .bl (!b)) e t h (.bl (!b))⟩
end

/-! ### order -/
def rLtF (K : PySem.W.Frag) (mg : Mg) : R2 := fun x y H Q => ∃ d e b, Rep K mg H x d ∧ Rep K mg H y e ∧ D.ltb deep d e = some b ∧ Q (.bl b) H
theorem op_ltF {X : Cx} {mg : Mg} (hu : X.A.units + 150 < cLine) : OpR X (compareOp .Lt) (rLtF X.K mg) := by
  intro pins s σ H x y v u Q I rx ry h
  obtain ⟨d, e, b, h1, h2, h, q⟩ := h
  exact Rep.ltAt I deep (A := X.A) h1 h2 rx ry (by show X.A.units + 100 < cLine; omega) h _ _ _ _ ⟨.bl b, H, I, rfl, q⟩
def tLt (x y : T) : Option T := (D.ltb deep x.data y.data).bind fun b => sc (.bl b)
theorem ov_lt {K : PySem.W.Frag} {mg : Mg} : OpV K mg (rLtF K mg) tLt := by
  intro F H x y v w f1 f2 e t r1 r2 nd hf Q h
  unfold tLt at h
  cases c : D.ltb deep x.data y.data with
  | none => rw [c] at h; exact h.elim
  | some b => rw [c] at h; exact ⟨_, _, b, r1.rep e, r2.rep e, c, OPost.sc (d := .bl b) e t h (.bl b)⟩
/-- of numbers, of texts -/
def tOrd (f : Int → Int → Bool) (g : List Nat → List Nat → Bool) (x y : T) : Option T := match x.data, y.data with
  | .int i, .int j => sc (.bl (f i j))
  | .str a, .str b => sc (.bl (g a.cps.toList b.cps.toList))
  | _, _ => none
def rOrd (f : Int → Int → Bool) (g : List Nat → List Nat → Bool) : R2 := fun x y H Q => rI0 (fun i j => .bl (f i j)) x y H Q ∨ ∃ i j, x = .str i ∧ y = .str j ∧ Q (.bl (g i.cps.toList j.cps.toList)) H
theorem ov_ord {K : PySem.W.Frag} {mg : Mg} {f : Int → Int → Bool} {g : List Nat → List Nat → Bool} : OpV K mg (rOrd f g) (tOrd f g) := by
  intro F H x y v w f1 f2 e t r1 r2 nd hf Q h
  have q1 := r1.rep e
  have q2 := r2.rep e
  unfold tOrd at h
  split at h
  · rename_i i j e1 e2
    rw [e1] at q1; rw [e2] at q2
    cases q1; cases q2
    exact .inl ⟨i, j, rfl, rfl, OPost.sc (d := .bl _) e t h (.bl _)⟩
  · rename_i a b e1 e2
    rw [e1] at q1; rw [e2] at q2
    cases q1; cases q2
    exact .inr ⟨a, b, rfl, rfl, OPost.sc (d := .bl _) e t h (.bl _)⟩
  · exact h.elim
abbrev leI : Int → Int → Bool := fun i j => decide (i ≤ j)
abbrev gtI : Int → Int → Bool := fun i j => decide (j < i)
abbrev geI : Int → Int → Bool := fun i j => decide (j ≤ i)
abbrev leS : List Nat → List Nat → Bool := fun a b => !decide (b < a)
abbrev gtS : List Nat → List Nat → Bool := fun a b => decide (b < a)
abbrev geS : List Nat → List Nat → Bool := fun a b => !decide (a < b)
theorem op_leF {X : Cx} : OpR X (compareOp .LtE) (rOrd leI leS) := OpR.or op_le op_le_str
theorem op_gtF {X : Cx} : OpR X (compareOp .Gt) (rOrd gtI gtS) := OpR.or op_gt op_gt_str
theorem op_geF {X : Cx} : OpR X (compareOp .GtE) (rOrd geI geS) := OpR.or op_ge op_ge_str

/-! ### is None, is True -/
def D.isNon : D → Bool
  | .non => true
  | _ => false
theorem Rep.isNon {K : PySem.W.Frag} {mg : Mg} {F : Hp} {v : V} {d : D} (h : Rep K mg F v d) : decide (v = .non) = d.isNon := by
  cases h <;> simp [D.isNon]
/-- against None, or of two truths -/
def tIs (neg : Bool) (x y : T) : Option T := match y.data, x.data with
  | .non, d => sc (.bl (xor neg d.isNon))
  | .bl b, .bl a => sc (.bl (xor neg (a == b)))
  | _, _ => none
def rIs (neg : Bool) : R2 := fun x y H Q => (y = .non ∧ Q (.bl (xor neg (decide (x = .non)))) H) ∨ ∃ a b, x = .bl a ∧ y = .bl b ∧ Q (.bl (xor neg (decide (a = b)))) H
theorem op_isF {X : Cx} : OpR X (compareOp .Is) (rIs false) := by
  intro pins s σ H x y v u Q I rx ry h
  rcases h with ⟨h1, h2⟩ | ⟨a, b, h1, h2, h3⟩
  · exact op_isN pins s σ H x y v u Q I rx ry ⟨h1, by simpa using h2⟩
  · exact op_is_bl pins s σ H x y v u Q I rx ry ⟨a, b, h1, h2, by simpa using h3⟩
theorem op_isnotF {X : Cx} : OpR X (compareOp .IsNot) (rIs true) := by
  intro pins s σ H x y v u Q I rx ry h
  rcases h with ⟨h1, h2⟩ | ⟨a, b, h1, h2, h3⟩
  · exact op_notN pins s σ H x y v u Q I rx ry ⟨h1, by simpa using h2⟩
  · exact op_isnot_bl pins s σ H x y v u Q I rx ry ⟨a, b, h1, h2, by simpa using h3⟩
theorem ov_is {K : PySem.W.Frag} {mg : Mg} {neg : Bool} : OpV K mg (rIs neg) (tIs neg) := by
  intro F H x y v w f1 f2 e t r1 r2 nd hf Q h
  have q1 := r1.rep e
  have q2 := r2.rep e
  unfold tIs at h
  split at h
  · rename_i d e1
    rw [e1] at q2
    cases q2
    refine .inl ⟨rfl, ?_⟩
    rw [q1.isNon]
    exact OPost.sc (d := .bl _) e t h (.bl _)
  · rename_i b a e1 e2
    rw [e2] at q1; rw [e1] at q2
    cases q1; cases q2
    refine .inr ⟨a, b, rfl, rfl, ?_⟩
    have e3 : decide (a = b) = (a == b) := by cases a <;> cases b <;> rfl
    rw [e3]
    exact OPost.sc (d := .bl _) e t h (.bl _)
  · exact h.elim

/-! ### in -/
/-- x among ds -/
def inD (x : D) : List D → Option Bool
  | [] => some false
  | d :: ds => match D.eqb deep d x, inD x ds with
    | some a, some b => some (a || b)
    | _, _ => none
def D.key : D → Option Key
  | .int i => some (.inl i)
  | .str s => some (.inr s)
  | _ => none
def D.keys : List D → Option (List Key)
  | [] => some []
  | d :: ds => match d.key, D.keys ds with
    | some k, some ks => some (k :: ks)
    | _, _ => none
def look {κ β : Type} [DecidableEq κ] (ks : List κ) (vs : List β) (k : κ) : Option β := ((ks.zip vs).find? fun p => decide (p.1 = k)).map (·.2)
def D.seq : D → Option (List D)
  | .lst xs => some xs
  | .rol xs => some xs
  | .tup xs => some xs
  | .kup xs => some xs
  | _ => none
def dIn (x y : D) : Option Bool := match y with
  | .str z => (match x with
    | .str a => (match a.cps.toList with
      | [c] => some (decide (c ∈ z.cps.toList))
      | _ => none)
    | _ => none)
  | .dK ks vs => x.key.map fun k => (look ks vs k).isSome
  | .dT ks vs => (match x with
    | .tup xs => (D.keys xs).map fun k => (look ks vs k).isSome
    | _ => none)
  | _ => (match y.seq with
    | some ds => inD x ds
    | none => none)
def rInF (K : PySem.W.Frag) (mg : Mg) (neg : Bool) : R2 := fun x y H Q => ∃ d e b, Rep K mg H x d ∧ Rep K mg H y e ∧ dIn d e = some b ∧ Q (.bl (xor neg b)) H
section
variable {K : PySem.W.Frag} {mg : Mg} {F : Hp}
theorem Rep.key {v : V} {d : D} {k : Key} (h : Rep K mg F v d) (e : d.key = some k) : v = kV k := by
  cases h <;> cases e <;> rfl
theorem RepL.keys : ∀ {vs : List V} {ds : List D} {k : List Key}, RepL K mg F vs ds → D.keys ds = some k → vs = k.map kV
  | _, _, _, .nil, e => by cases e; rfl
  | _, _, k, .cons (d := d) (ds := ds) h r, e => by
    rw [D.keys] at e
    cases c1 : d.key with
    | none => rw [c1] at e; cases e
    | some a =>
      cases c2 : D.keys ds with
      | none => rw [c1, c2] at e; cases e
      | some b =>
        rw [c1, c2] at e
        cases e
        rw [h.key c1, RepL.keys r c2]
        rfl
theorem look_rep {κ : Type} [DecidableEq κ] {k : κ} : ∀ {ks : List κ} {vs : List V} {ds : List D}, ks.length = vs.length → RepL K mg F vs ds →
    match look ks ds k with
    | some d => ∃ v, valV (ks.zip vs) k = some v ∧ Rep K mg F v d
    | none => valV (ks.zip vs) k = none
  | [], _, _, _, _ => by simp [look, valV]
  | a :: ks, [], [], l, .nil => by simp at l
  | a :: ks, v :: vs, d :: ds, l, .cons h r => by
    have ih := look_rep (k := k) (ks := ks) (by simpa using l) r
    by_cases c : a = k
    · have e1 : look (a :: ks) (d :: ds) k = some d := by simp [look, List.find?_cons, c]
      rw [e1]
      exact ⟨v, by simp [valV, List.find?_cons, c], h⟩
    · have e1 : look (a :: ks) (d :: ds) k = look ks ds k := by simp [look, List.find?_cons, c]
      have e2 : valV ((a :: ks).zip (v :: vs)) k = valV (ks.zip vs) k := by simp [valV, List.find?_cons, c]
      rw [e1, e2]
      exact ih
end
section
variable {X : Cx} {mg : Mg}
theorem inD_all {s : Shared} {A : Around} {x : Value} {n : Nat} {σ : L2.St} {pins : List (Addr × Obj)} {H : Hp} {xv : V} {xd : D} (I : Inv X pins σ H s) (hu : A.units + deep < cLine) (hx : Rep X.K mg H xv xd) (rx : RelV xv x) :
    ∀ {vs : List V} {ds : List D} {us : List Value} {b : Bool}, RepL X.K mg H vs ds → Vals vs us → inD xd ds = some b →
      ∃ bs : List Bool, bs.length = us.length ∧ bs.any id = b ∧ ∀ (j : Nat) (h1 : j < us.length) (h2 : j < bs.length), SeqAt.EqAt A s us[j] x bs[j]
  | _, _, _, b, .nil, .nil, h => by
    cases h
    exact ⟨[], rfl, rfl, fun j h1 _ => absurd h1 (Nat.not_lt_zero j)⟩
  | _, _, _, b, .cons (d := d) (ds := ds) h r, .cons p ps, e => by
    rw [inD] at e
    cases c1 : D.eqb deep d xd with
    | none => rw [c1] at e; cases e
    | some a =>
      cases c2 : inD xd ds with
      | none => rw [c1, c2] at e; cases e
      | some c =>
        rw [c1, c2] at e
        cases e
        obtain ⟨bs, k1, k2, k3⟩ := inD_all (n := n) I hu hx rx r ps c2
        refine ⟨a :: bs, by simp [k1], by simp [← k2], fun j h1 h2 => ?_⟩
        cases j with
        | zero => exact Rep.eqAt I deep h hx p rx hu c1
        | succ j => exact k3 j (Nat.lt_of_succ_lt_succ h1) (Nat.lt_of_succ_lt_succ h2)
theorem any_of {A : Around} {s : Shared} {x : Value} {us : List Value} {bs : List Bool} (hl : bs.length = us.length) (h : ∀ (j : Nat) (h1 : j < us.length) (h2 : j < bs.length), SeqAt.EqAt A s us[j] x bs[j]) :
    ∃ e : Value → Bool, (∀ y, y ∈ us.toArray → SeqAt.EqAt A s y x (e y)) ∧ us.toArray.any e = bs.any id := by
  classical
  refine ⟨fun y => decide (∃ j : Nat, us[j]? = some y ∧ bs[j]? = some true), fun y hy => ?_, ?_⟩
  · have hy' : y ∈ us := by simpa using hy
    by_cases c : ∃ j : Nat, us[j]? = some y ∧ bs[j]? = some true
    · show SeqAt.EqAt A s y x (decide (∃ j : Nat, us[j]? = some y ∧ bs[j]? = some true))
      rw [decide_eq_true c]
      obtain ⟨j, a, b⟩ := c
      obtain ⟨h1, e1⟩ := List.getElem?_eq_some_iff.mp a
      obtain ⟨h2, e2⟩ := List.getElem?_eq_some_iff.mp b
      have := h j h1 h2
      rw [e1, e2] at this
      exact this
    · show SeqAt.EqAt A s y x (decide (∃ j : Nat, us[j]? = some y ∧ bs[j]? = some true))
      rw [decide_eq_false c]
      obtain ⟨j, h1, e1⟩ := List.getElem_of_mem hy'
      have h2 : j < bs.length := by omega
      have e2 : bs[j] = false := by
        cases q : bs[j] with
        | false => rfl
        | true => exact absurd ⟨j, by rw [List.getElem?_eq_getElem h1, e1], by rw [List.getElem?_eq_getElem h2, q]⟩ c
      have := h j h1 h2
      rw [e1, e2] at this
      exact this
  · rw [show us.toArray.any (fun y => decide (∃ j : Nat, us[j]? = some y ∧ bs[j]? = some true)) = us.any (fun y => decide (∃ j : Nat, us[j]? = some y ∧ bs[j]? = some true)) by simp]
    cases q : bs.any id with
    | false =>
      rw [List.any_eq_false] at q ⊢
      intro y hy
      simp only [decide_eq_true_eq]
      rintro ⟨j, a, b⟩
      exact q true (List.mem_of_getElem? b) rfl
    | true =>
      rw [List.any_eq_true] at q ⊢
      obtain ⟨b, hb, e⟩ := q
      have e : b = true := e
      subst e
      obtain ⟨j, h2, e2⟩ := List.getElem_of_mem hb
      have h1 : j < us.length := by omega
      exact ⟨us[j], List.getElem_mem h1, by simp only [decide_eq_true_eq]; exact ⟨j, List.getElem?_eq_getElem h1, by rw [List.getElem?_eq_getElem h2, e2]⟩⟩
theorem dget_of {H : Hp} {x y : V} {d e : D} {b : Bool} (h1 : Rep X.K mg H x d) (h2 : Rep X.K mg H y e) (h : dIn d e = some b) (hd : (∃ ks vs, e = .dK ks vs) ∨ ∃ ks vs, e = .dT ks vs) : ∃ a o, y = .ref a ∧ DGet H a x o ∧ o.isSome = b := by
  rcases hd with ⟨ks, ds, rfl⟩ | ⟨ks, ds, rfl⟩
  · cases h2 with
    | @dK a _ vs _ hr hl r =>
      unfold dIn at h
      cases c : d.key with
      | none => rw [c] at h; cases h
      | some k =>
        rw [c] at h
        have e1 := h1.key c
        subst e1
        refine ⟨a, _, rfl, .inl ⟨_, k, hr, rfl, rfl⟩, ?_⟩
        have := look_rep (k := k) hl r
        have hb : (look ks ds k).isSome = b := by simpa using h
        cases c2 : look ks ds k with
        | none => rw [c2] at this hb; rw [this]; exact hb
        | some z => rw [c2] at this hb; obtain ⟨v, q, _⟩ := this; rw [q]; exact hb
  · cases h2 with
    | @dT a _ vs _ hr hl r =>
      cases d with
      | tup xs =>
        cases h1 with
        | @tup a' ws _ t1 r1 =>
        have h : (D.keys xs).map (fun k => (look ks ds k).isSome) = some b := h
        cases c : D.keys xs with
        | none => rw [c] at h; cases h
        | some k =>
          rw [c] at h
          have e1 := r1.keys c
          subst e1
          refine ⟨a, _, rfl, .inr ⟨_, k, a', hr, rfl, t1, rfl⟩, ?_⟩
          have := look_rep (k := k) hl r
          have hb : (look ks ds k).isSome = b := by simpa using h
          cases c2 : look ks ds k with
          | none => rw [c2] at this hb; rw [this]; exact hb
          | some z => rw [c2] at this hb; obtain ⟨v, q, _⟩ := this; rw [q]; exact hb
      | _ => cases h
theorem Rep.seqAt {K : PySem.W.Frag} {F : Hp} {v : V} {d : D} {ds : List D} (h : Rep K mg F v d) (e : d.seq = some ds) : ∃ a vs, v = .ref a ∧ (SqL K F a vs ∨ SqT K F a vs) ∧ RepL K mg F vs ds := by
  cases h with
  | lst h r => cases e; exact ⟨_, _, rfl, .inl (.inl (.inl h)), r⟩
  | rol h r => cases e; exact ⟨_, _, rfl, .inl h, r⟩
  | tup h r => cases e; exact ⟨_, _, rfl, .inr h.sq, r⟩
  | kup h z => cases e; subst z; exact ⟨_, _, rfl, .inr h.sq, RepL.ints⟩
  | _ => cases e
/-- the kinds of in -/
theorem dIn_kinds {x y : D} {b : Bool} (h : dIn x y = some b) : (∃ a c z, x = .str a ∧ y = .str z ∧ a.cps.toList = [c] ∧ b = decide (c ∈ z.cps.toList)) ∨ ((∃ ks vs, y = .dK ks vs) ∨ ∃ ks vs, y = .dT ks vs) ∨ ∃ ds, y.seq = some ds ∧ inD x ds = some b := by
  unfold dIn at h
  split at h
  · rename_i z
    split at h
    · rename_i a
      split at h
      · rename_i c e1
        cases h
        exact .inl ⟨a, c, z, rfl, rfl, e1, rfl⟩
      · cases h
    · cases h
  · exact .inr (.inl (.inl ⟨_, _, rfl⟩))
  · exact .inr (.inl (.inr ⟨_, _, rfl⟩))
  · split at h
    · rename_i ds e1
      exact .inr (.inr ⟨ds, e1, h⟩)
    · cases h
theorem one_sign {a : Str} {c : Nat} (h : a.cps.toList = [c]) : a = ⟨#[c]⟩ := Str.ext' (by rw [← Array.toList_inj]; exact h)
theorem op_inF (hu : X.A.units + 150 < cLine) : OpR X (compareOp .In) (rInF X.K mg false) := by
  intro pins s σ H x y v u Q I rx ry h
  obtain ⟨d, e, b, h1, h2, h, q⟩ := h
  have q : Q (.bl b) H := by simpa using q
  rcases dIn_kinds h with ⟨a, c, z, rfl, rfl, e1, rfl⟩ | hd | ⟨ds, e1, e2⟩
  · cases h1
    cases h2
    rw [one_sign e1] at rx
    exact op_in_sign pins s σ H _ _ v u Q I rx ry ⟨c, z, rfl, rfl, q⟩
  · obtain ⟨a, o, rfl, g, e3⟩ := dget_of h1 h2 h hd
    cases ry
    exact d_in (by omega) I g rx fun s3 I3 => ⟨.bl o.isSome, H, I3, rfl, by rw [e3]; exact q⟩
  · obtain ⟨a, vs, rfl, sq, r⟩ := h2.seqAt e1
    cases ry
    have hu1 : X.A.in1.units + deep < cLine := by show X.A.units + 1 + 100 < cLine; omega
    rcases sq with sq | sq
    · obtain ⟨its, p, pl, _⟩ := I.list sq
      obtain ⟨bs, k1, k2, k3⟩ := inD_all (n := 0) I hu1 h1 rx r p e2
      obtain ⟨f, f1, f2⟩ := any_of k1 k3
      refine SeqAt.in_listAt f pl.isList f1 ⟨.bl _, H, I, rfl, ?_⟩
      rw [f2, k2]
      exact q
    · obtain ⟨its, p, pl, _⟩ := I.tuple sq
      obtain ⟨bs, k1, k2, k3⟩ := inD_all (n := 0) I hu1 h1 rx r p e2
      obtain ⟨f, f1, f2⟩ := any_of k1 k3
      refine SeqAt.in_tupleAt f pl f1 ⟨.bl _, H, I, rfl, ?_⟩
      rw [f2, k2]
      exact q
theorem op_notInF (hu : X.A.units + 150 < cLine) : OpR X (compareOp .NotIn) (rInF X.K mg true) := by
  intro pins s σ H x y v u Q I rx ry h
  obtain ⟨d, e, b, h1, h2, h, q⟩ := h
  have q : Q (.bl (!b)) H := by simpa using q
  rcases dIn_kinds h with ⟨a, c, z, rfl, rfl, e1, rfl⟩ | hd | ⟨ds, e1, e2⟩
  · cases h1
    cases h2
    rw [one_sign e1] at rx
    exact op_notIn_sign pins s σ H _ _ v u Q I rx ry ⟨c, z, rfl, rfl, q⟩
  · obtain ⟨a, o, rfl, g, e3⟩ := dget_of h1 h2 h hd
    cases ry
    exact d_notIn (by omega) I g rx fun s3 I3 => ⟨.bl (!o.isSome), H, I3, rfl, by rw [e3]; exact q⟩
  · obtain ⟨a, vs, rfl, sq, r⟩ := h2.seqAt e1
    cases ry
    have hu1 : X.A.in1.units + deep < cLine := by show X.A.units + 1 + 100 < cLine; omega
    rcases sq with sq | sq
    · obtain ⟨its, p, pl, _⟩ := I.list sq
      obtain ⟨bs, k1, k2, k3⟩ := inD_all (n := 0) I hu1 h1 rx r p e2
      obtain ⟨f, f1, f2⟩ := any_of k1 k3
      refine SeqAt.notIn_listAt f pl.isList f1 ⟨.bl _, H, I, rfl, ?_⟩
      rw [f2, k2]
      exact q
    · obtain ⟨its, p, pl, _⟩ := I.tuple sq
      obtain ⟨bs, k1, k2, k3⟩ := inD_all (n := 0) I hu1 h1 rx r p e2
      obtain ⟨f, f1, f2⟩ := any_of k1 k3
      refine SeqAt.notIn_tupleAt f pl f1 ⟨.bl _, H, I, rfl, ?_⟩
      rw [f2, k2]
      exact q
end
def tIn (neg : Bool) (x y : T) : Option T := (dIn x.data y.data).bind fun b => sc (.bl (xor neg b))
theorem ov_in {K : PySem.W.Frag} {mg : Mg} {neg : Bool} : OpV K mg (rInF K mg neg) (tIn neg) := by
  intro F H x y v w f1 f2 e t r1 r2 nd hf Q h
  unfold tIn at h
  cases c : dIn x.data y.data with
  | none => rw [c] at h; exact h.elim
  | some b => rw [c] at h; exact ⟨_, _, b, r1.rep e, r2.rep e, c, OPost.sc (d := .bl _) e t h (.bl _)⟩
end Fu

namespace Fu
open PySem L2 PyProof.Rows

/-! ### tests -/
section
variable (K : PySem.W.Frag) (mg : Mg)
def TPost (W : WX) (F H : Hp) (env : En) (m : M Bool) (Q : Bool → Hp → Prop) : Prop := match m with
  | .ok b => ∀ F' H', Grow F H F' H' → Q b H'
  | .ex x => XPost K mg W F x env
  | .bad => False
end
structure RT (X : Cx) (W : WX) (e : Expr) (tt : TT) (g : FT) : Prop where
  pe : PT X e tt
  sem : ∀ F H env σ, EnvOK X.K X.mg F H env σ → ∀ Q : Bool → Hp → Prop, TPost X.K X.mg W F H env (g env) Q → tt σ H Q
structure RW (X : Cx) (W : WX) (e : Expr) (tt : TT) (g : FT) : Prop where
  pe : PW X e tt
  sem : ∀ F H env σ, EnvOK X.K X.mg F H env σ → ∀ Q : Bool → Hp → Prop, TPost X.K X.mg W F H env (g env) Q → tt σ H Q
theorem RW.rt {X : Cx} {W : WX} {e : Expr} {tt : TT} {g : FT} (h : RW X W e tt g) : RT X W e tt g := ⟨h.pe.pt, h.sem⟩
def D.asB : D → M Bool
  | .bl b => .ok b
  | _ => .bad
/-- a truth's value -/
def asB (g : FE) : FT := fun env => do
  let t ← g env
  t.data.asB
theorem XPost.from {K : PySem.W.Frag} {mg : Mg} {W : WX} {F F' : Hp} {x : Exn} {env : En} (e : Ex F F') (h : XPost K mg W F x env) : XPost K mg W F' x env := fun F2 H2 σ2 cls d e2 => h F2 H2 σ2 cls d (e.trans e2)
theorem asB_post {K : PySem.W.Frag} {mg : Mg} {W : WX} {F H : Hp} {env : En} {g : FE} {Q : Bool → Hp → Prop} (h : TPost K mg W F H env (asB g env) Q) : RPost K mg W F H env (g env) (fun x H1 => ∃ c, x = .bl c ∧ Q c H1) := by
  unfold asB at h
  cases e : g env with
  | bad => rw [e] at h; exact h.elim
  | ex x => rw [e] at h; exact h
  | ok t =>
    rw [e] at h
    simp only [M.bind_ok] at h
    intro v F' H' fp gr r _ _
    have q := r.rep gr.fh
    cases c : t.data with
    | bl b =>
      rw [c] at h q
      cases q
      exact ⟨b, rfl, h F' H' gr⟩
    | _ => rw [c] at h; exact h.elim
section
variable {X : Cx} {W : WX}
theorem rt_cmp {ta tb : TE} {ga gb : FE} {ea eb : Expr} {o : CmpOp} {pos : Pos} {r : R2} {op : T → T → Option T} (ho : OpR X (compareOp o) r) (hv : OpV X.K X.mg r op) (ha : RE X W ea ta ga) (hb : RE X W eb tb gb) (hm : behindInMarks o eb = false) :
    RT X W (.Compare ea [o] [eb] pos) (tTest (tOp r ta tb)) (asB (eOp op ga gb)) :=
  ⟨pt_cmpR ho ha.pe hb.pe hm, fun F H env σ I Q q => op_sem ha hb hv I _ (asB_post q)⟩
theorem rt_val {e : Expr} {te : TE} {g : FE} (h : RE X W e te g) (he : ∀ whole, isTrue e X.env whole = (do let v ← whole; standAt e.pos; holding [v] (truthy v)) := by intro _; rfl) : RT X W e (tB te) (asB g) :=
  ⟨pt_val h.pe he, fun F H env σ I Q q => h.sem F H env σ I _ (asB_post q)⟩
def tNotG (g : FT) : FT := fun env => do
  let b ← g env
  return !b
def tAndG (g h : FT) : FT := fun env => do
  let b ← g env
  if b then h env else return false
def tOrG (g h : FT) : FT := fun env => do
  let b ← g env
  if b then return true else h env
variable {a b : Expr} {rest : List Expr} {pos : Pos} {tA tB' : TT} {ga gb : FT}
theorem rt_not (ha : RT X W a tA ga) : RT X W (.UnaryOp .Not a pos) (tNot tA) (tNotG ga) := by
  refine ⟨pt_not ha.pe, fun F H env σ I Q q => ha.sem F H env σ I _ ?_⟩
  unfold tNotG at q
  cases e : ga env with
  | bad => rw [e] at q; exact q.elim
  | ex x => rw [e] at q; exact q
  | ok b => rw [e] at q; exact q
theorem rw_and1 (ha : RT X W a tA ga) : RW X W (.BoolOp .And [a] pos) tA ga := ⟨pw_and1 ha.pe, ha.sem⟩
theorem rw_or1 (ha : RT X W a tA ga) : RW X W (.BoolOp .Or [a] pos) tA ga := ⟨pw_or1 ha.pe, ha.sem⟩
theorem rw_and (ha : RT X W a tA ga) (hb : RW X W (.BoolOp .And (b :: rest) pos) tB' gb) : RW X W (.BoolOp .And (a :: b :: rest) pos) (tAnd tA tB') (tAndG ga gb) := by
  refine ⟨pw_and ha.pe hb.pe, fun F H env σ I Q q => ha.sem F H env σ I _ ?_⟩
  unfold tAndG at q
  cases e : ga env with
  | bad => rw [e] at q; exact q.elim
  | ex x => rw [e] at q; exact q
  | ok c =>
    rw [e] at q
    simp only [M.bind_ok] at q
    intro F' H' gr
    cases c with
    | false => exact q F' H' gr
    | true =>
      show tB' σ H' Q
      refine hb.sem F' H' env σ (I.grow gr) Q ?_
      simp only [if_true] at q
      cases e2 : gb env with
      | bad => rw [e2] at q; exact q.elim
      | ex x => rw [e2] at q; exact XPost.from (gr.exF I.fh) q
      | ok c => rw [e2] at q; exact fun F2 H2 g2 => q F2 H2 (gr.trans g2)
theorem rw_or (ha : RT X W a tA ga) (hb : RW X W (.BoolOp .Or (b :: rest) pos) tB' gb) : RW X W (.BoolOp .Or (a :: b :: rest) pos) (tOr tA tB') (tOrG ga gb) := by
  refine ⟨pw_or ha.pe hb.pe, fun F H env σ I Q q => ha.sem F H env σ I _ ?_⟩
  unfold tOrG at q
  cases e : ga env with
  | bad => rw [e] at q; exact q.elim
  | ex x => rw [e] at q; exact q
  | ok c =>
    rw [e] at q
    simp only [M.bind_ok] at q
    intro F' H' gr
    cases c with
    | true => exact q F' H' gr
    | false =>
      show tB' σ H' Q
      refine hb.sem F' H' env σ (I.grow gr) Q ?_
      simp only [Bool.false_eq_true, if_false] at q
      cases e2 : gb env with
      | bad => rw [e2] at q; exact q.elim
      | ex x => rw [e2] at q; exact XPost.from (gr.exF I.fh) q
      | ok c => rw [e2] at q; exact fun F2 H2 g2 => q F2 H2 (gr.trans g2)
/-! .. as values -/
def eAnd (g h : FE) : FE := fun env => do
  let t ← g env
  let b ← t.data.asB
  if b then h env else return .o (.sh (.bl false))
def eOr (g h : FE) : FE := fun env => do
  let t ← g env
  let b ← t.data.asB
  if b then return .o (.sh (.bl true)) else h env
def eNot (g : FE) : FE := fun env => do
  let t ← g env
  let b ← t.data.asB
  return .o (.sh (.bl (!b)))
theorem RPost.later {K : PySem.W.Frag} {mg : Mg} {W : WX} {F H F' H' : Hp} {env : En} {m : M T} {Q : VK} (e : Ex F H) (g : Grow F H F' H') (h : RPost K mg W F H env m Q) : RPost K mg W F' H' env m Q := by
  cases m with
  | bad => exact h
  | ex x => exact XPost.from (g.exF e) h
  | ok t => exact fun v F2 H2 fp g2 r nd k => h v F2 H2 fp (g.trans g2) r nd fun a m => ⟨g.hh.back (k a m).1, (k a m).2⟩
theorem VPost.sc {K : PySem.W.Frag} {mg : Mg} {F H F' H' : Hp} {d : D} {v : V} {Q : VK} (h : VPost K mg F H (.o (.sh d)) Q) (g : Grow F H F' H') (r : Rep K mg F' v d) : Q v H' := h v F' H' [] g ⟨rfl, r⟩ List.nodup_nil (fun _ m => by cases m)
variable {ta tb : TE} {fa fb : FE}
theorem re_one {op} (ha : RE X W a ta fa) : RE X W (.BoolOp op [a] pos) ta fa := ⟨pe_one ha.pe, ha.sem⟩
theorem re_and (ha : RE X W a ta fa) (hb : RE X W (.BoolOp .And (b :: rest) pos) tb fb) : RE X W (.BoolOp .And (a :: b :: rest) pos) (tAndV ta tb) (eAnd fa fb) := by
  refine ⟨pe_and ha.pe hb.pe, fun F H env σ I Q q => ha.sem F H env σ I _ ?_⟩
  unfold eAnd at q
  cases e : fa env with
  | bad => rw [e] at q; exact q.elim
  | ex x => rw [e] at q; exact q
  | ok t =>
    rw [e] at q
    simp only [M.bind_ok] at q
    intro v F' H' fp gr r _ _
    have k := r.rep gr.fh
    cases c : t.data with
    | bl z =>
      rw [c] at q k
      cases k
      refine ⟨z, rfl, ?_⟩
      simp only [D.asB, M.bind_ok] at q
      cases z with
      | true =>
        show tb σ H' Q
        exact hb.sem F' H' env σ (I.grow gr) Q (RPost.later I.fh gr (by simpa using q))
      | false =>
        show Q (.bl false) H'
        exact VPost.sc (show RPost X.K X.mg W F H env (.ok (.o (.sh (.bl _)))) Q from by simpa using q) gr (.bl false)
    | _ => rw [c] at q; exact q.elim
theorem re_or (ha : RE X W a ta fa) (hb : RE X W (.BoolOp .Or (b :: rest) pos) tb fb) : RE X W (.BoolOp .Or (a :: b :: rest) pos) (tOrV ta tb) (eOr fa fb) := by
  refine ⟨pe_or ha.pe hb.pe, fun F H env σ I Q q => ha.sem F H env σ I _ ?_⟩
  unfold eOr at q
  cases e : fa env with
  | bad => rw [e] at q; exact q.elim
  | ex x => rw [e] at q; exact q
  | ok t =>
    rw [e] at q
    simp only [M.bind_ok] at q
    intro v F' H' fp gr r _ _
    have k := r.rep gr.fh
    cases c : t.data with
    | bl z =>
      rw [c] at q k
      cases k
      refine ⟨z, rfl, ?_⟩
      simp only [D.asB, M.bind_ok] at q
      cases z with
      | false =>
        show tb σ H' Q
        exact hb.sem F' H' env σ (I.grow gr) Q (RPost.later I.fh gr (by simpa using q))
      | true =>
        show Q (.bl true) H'
        exact VPost.sc (show RPost X.K X.mg W F H env (.ok (.o (.sh (.bl _)))) Q from by simpa using q) gr (.bl true)
    | _ => rw [c] at q; exact q.elim
theorem re_not (ha : RE X W a ta fa) : RE X W (.UnaryOp .Not a pos) (tNotV ta) (eNot fa) := by
  refine ⟨pe_not ha.pe, fun F H env σ I Q q => ha.sem F H env σ I _ ?_⟩
  unfold eNot at q
  cases e : fa env with
  | bad => rw [e] at q; exact q.elim
  | ex x => rw [e] at q; exact q
  | ok t =>
    rw [e] at q
    simp only [M.bind_ok] at q
    intro v F' H' fp gr r _ _
    have k := r.rep gr.fh
    cases c : t.data with
    | bl z =>
      rw [c] at q k
      cases k
      exact ⟨z, rfl, VPost.sc (show RPost X.K X.mg W F H env (.ok (.o (.sh (.bl _)))) Q from by simpa [D.asB] using q) gr (.bl (!z))⟩
    | _ => rw [c] at q; exact q.elim
def eIf (c : FT) (g h : FE) : FE := fun env => do
  let b ← c env
  if b then g env else h env
theorem re_if {c : Expr} {gc : FT} (hc : RT X W c tA gc) (ha : RE X W a ta fa) (hb : RE X W b tb fb) : RE X W (.IfExp c a b pos) (tIf tA ta tb) (eIf gc fa fb) := by
  refine ⟨pe_ifExp hc.pe ha.pe hb.pe, fun F H env σ I Q q => hc.sem F H env σ I _ ?_⟩
  unfold eIf at q
  cases e : gc env with
  | bad => rw [e] at q; exact q.elim
  | ex x => rw [e] at q; exact q
  | ok z =>
    rw [e] at q
    simp only [M.bind_ok] at q
    intro F' H' gr
    cases z with
    | true =>
      show ta σ H' Q
      exact ha.sem F' H' env σ (I.grow gr) Q (RPost.later I.fh gr (by simpa using q))
    | false =>
      show tb σ H' Q
      exact hb.sem F' H' env σ (I.grow gr) Q (RPost.later I.fh gr (by simpa using q))
end

/-! ### an item -/
section
variable {K : PySem.W.Frag} {mg : Mg} {F H : Hp}
theorem RepL.atI {vs : List V} {ds : List D} {i : Int} {d : D} (h : RepL K mg F vs ds) (e : L2.atI ds i = some d) : ∃ v, L2.atI vs i = some v ∧ Rep K mg F v d := by
  unfold L2.atI at e ⊢
  rw [h.len]
  cases c : ixN ds.length i with
  | none => rw [c] at e; cases e
  | some j =>
    rw [c] at e
    exact h.get e
theorem OwnL.get : ∀ {os : List O} {vs : List V} {fq : List Addr} {i : Nat} {o : O}, OwnL K mg F H os vs fq → os[i]? = some o → ∃ v f0 fi f2, vs[i]? = some v ∧ fq = f0 ++ (fi ++ f2) ∧ Own K mg F H o v fi
  | [], _, _, _, _, _, q => by simp at q
  | o :: os, _, _, 0, t, h, q => by
    obtain ⟨w, ws, f1, f2, e1, e2, h1, h2⟩ := h
    have q' : o = t := by simpa using q
    subst q' e1
    exact ⟨w, [], f1, f2, rfl, e2, h1⟩
  | o :: os, _, _, i + 1, t, h, q => by
    obtain ⟨w, ws, f1, f2, e1, e2, h1, h2⟩ := h
    obtain ⟨v, f0, fi, f3, a, b, c⟩ := OwnL.get (i := i) h2 (by simpa using q)
    subst e1 e2 b
    exact ⟨v, f1 ++ f0, fi, f3, by simpa using a, by simp [List.append_assoc], c⟩
theorem OwnL.atI {os : List O} {vs : List V} {fq : List Addr} {i : Int} {o : O} (h : OwnL K mg F H os vs fq) (e : L2.atI os i = some o) : ∃ v f0 fi f2, L2.atI vs i = some v ∧ fq = f0 ++ (fi ++ f2) ∧ Own K mg F H o v fi := by
  unfold L2.atI at e ⊢
  rw [h.len]
  cases c : ixN os.length i with
  | none => rw [c] at e; cases e
  | some j =>
    rw [c] at e
    exact h.get e
end
def D.at (d k : D) : Option D := match d with
  | .str z => (match k with
    | .int i => if z.length ≤ sizeLine then (atI z.cps.toList i).map (fun c => .str ⟨#[c]⟩) else none
    | _ => none)
  | .dK ks vs => k.key.bind (look ks vs)
  | .dT ks vs => (match k with
    | .tup xs => (D.keys xs).bind (look ks vs)
    | _ => none)
  | d => (match d.seq, k with
    | some xs, .int i => atI xs i
    | _, _ => none)
def tIx (x y : T) : Option T := match x with
  | .o (.sh d) => (d.at y.data).map fun e => .o (.sh e)
  | .bo d => (d.at y.data).map .bo
  | .o (.lst os) => (match y.data with
    | .int i => (atI os i).map .o
    | _ => none)
  | .o (.tup os) => (match y.data with
    | .int i => (atI os i).map .o
    | _ => none)
  | _ => none
def rIxD (K : PySem.W.Frag) : R2 := fun x y H Q => ∃ a v, x = .ref a ∧ DGet H a y (some v) ∧ Q v H
def rIxF (K : PySem.W.Frag) : R2 := fun x y H Q => rIx K x y H Q ∨ rIxD K x y H Q
theorem ix_dict {X : Cx} (hu : X.A.units + 1 < cLine) : IxR X (rIxD X.K) := by
  intro value slice pins s σ H x y v u Q I rx ry h hs
  obtain ⟨a, w, rfl, g, q⟩ := h
  cases rx
  exact tail_any (dict_typeIs I g) PySem.F.slot_dict_getitem.lookup (d_getItem hu I g ry fun w' s3 I3 rw' => ⟨w, H, I3, rw', q⟩) hs
theorem ix_F {X : Cx} (hu : X.A.units + 1 < cLine) : IxR X (rIxF X.K) := ix_seq.or (ix_dict hu)
section
variable {K : PySem.W.Frag} {mg : Mg} {F G H : Hp}
theorem D.at_seq {d k e : D} (h : d.at k = some e) : (∃ z i c, d = .str z ∧ k = .int i ∧ z.length ≤ sizeLine ∧ L2.atI z.cps.toList i = some c ∧ e = .str ⟨#[c]⟩) ∨
    (∃ ks vs c, d = .dK ks vs ∧ k.key = some c ∧ look ks vs c = some e) ∨ (∃ ks vs xs c, d = .dT ks vs ∧ k = .tup xs ∧ D.keys xs = some c ∧ look ks vs c = some e) ∨ ∃ xs i, d.seq = some xs ∧ k = .int i ∧ L2.atI xs i = some e := by
  unfold D.at at h
  split at h
  · rename_i z
    split at h
    · rename_i i
      split at h
      · rename_i hz
        cases c : L2.atI z.cps.toList i with
        | none => rw [c] at h; cases h
        | some c' =>
          rw [c] at h
          cases h
          exact .inl ⟨z, i, c', rfl, rfl, hz, c, rfl⟩
      · cases h
    · cases h
  · rename_i ks vs
    cases c : k.key with
    | none => rw [c] at h; cases h
    | some c' => rw [c] at h; exact .inr (.inl ⟨ks, vs, c', rfl, rfl, h⟩)
  · rename_i ks vs
    split at h
    · rename_i xs
      cases c : D.keys xs with
      | none => rw [c] at h; cases h
      | some c' => rw [c] at h; exact .inr (.inr (.inl ⟨ks, vs, xs, c', rfl, rfl, c, h⟩))
    · cases h
  · split at h
    · rename_i xs i e1
      exact .inr (.inr (.inr ⟨xs, i, e1, rfl, h⟩))
    · cases h
/-- the item stands for its data; what is read is it -/
theorem at_rep {v w : V} {d k e : D} (h1 : Rep K mg G v d) (eg : Ex G H) (h2 : Rep K mg H w k) (h : d.at k = some e) : ∃ u, Rep K mg G u e ∧ ∀ Q : VK, Q u H → rIxF K v w H Q := by
  rcases D.at_seq h with ⟨z, i, c, rfl, rfl, hz, hc, rfl⟩ | ⟨ks, ds, c, rfl, hc, hl⟩ | ⟨ks, ds, xs, c, rfl, rfl, hc, hl⟩ | ⟨xs, i, hs, rfl, hi⟩
  · cases h1
    cases h2
    exact ⟨_, .str _, fun Q q => .inl (.inr (.inr ⟨z, i, c, rfl, rfl, hz, hc, q⟩))⟩
  · cases h1 with
    | @dK a _ vs _ hr l r =>
      have e1 := h2.key hc
      subst e1
      have lr := look_rep (k := c) l r
      rw [hl] at lr
      obtain ⟨u, q1, q2⟩ := lr
      exact ⟨u, q2, fun Q q => .inr ⟨a, u, rfl, .inl ⟨_, c, eg.rd hr, rfl, q1.symm⟩, q⟩⟩
  · cases h1 with
    | @dT a _ vs _ hr l r =>
      cases h2 with
      | @tup a' ws _ t1 r1 =>
        have e1 := r1.keys hc
        subst e1
        have lr := look_rep (k := c) l r
        rw [hl] at lr
        obtain ⟨u, q1, q2⟩ := lr
        exact ⟨u, q2, fun Q q => .inr ⟨a, u, rfl, .inr ⟨_, c, a', eg.rd hr, rfl, t1, q1.symm⟩, q⟩⟩
  · cases h2
    obtain ⟨a, vs, rfl, sq, r⟩ := h1.seqAt hs
    obtain ⟨u, q1, q2⟩ := r.atI hi
    refine ⟨u, q2, fun Q q => .inl ?_⟩
    rcases sq with sq | sq
    · exact .inl ⟨a, vs, i, u, rfl, rfl, eg.sl sq, q1, q⟩
    · refine .inr (.inl ⟨a, vs, i, u, rfl, rfl, ?_, q1, q⟩)
      rcases sq with sq | sq
      · exact .inl (eg.rd sq)
      · exact .inr sq
theorem ov_ix : OpV K mg (rIxF K) tIx := by
  intro F H x y v w f1 f2 e t r1 r2 nd hf Q h
  have q2 := r2.rep e
  unfold tIx at h
  split at h
  · rename_i d
    cases c : d.at y.data with
    | none => rw [c] at h; exact h.elim
    | some z =>
      rw [c] at h
      obtain ⟨u, k1, k2⟩ := at_rep r1.2 e q2 c
      exact k2 Q (OPost.sc e t h k1)
  · rename_i d
    cases c : d.at y.data with
    | none => rw [c] at h; exact h.elim
    | some z =>
      rw [c] at h
      obtain ⟨u, k1, k2⟩ := at_rep r1.2 (Ex.refl H) q2 c
      exact k2 Q (h u F H [] (Grow.refl e t) ⟨rfl, k1⟩ List.nodup_nil (fun _ m => by cases m))
  · rename_i os
    split at h
    · rename_i i e1
      rw [e1] at q2
      cases q2
      cases c : L2.atI os i with
      | none => rw [c] at h; exact h.elim
      | some o =>
        rw [c] at h
        obtain ⟨p, vs, fq, ev, hp, ef, r⟩ := r1
        obtain ⟨u, f0, fi, f3, k1, k2, k3⟩ := r.atI c
        subst ev ef k2
        have hsub : fi.Sublist (p :: (f0 ++ (fi ++ f3)) ++ f2) := by
          refine List.Sublist.trans ?_ (List.sublist_append_left _ _)
          exact List.Sublist.cons _ ((List.sublist_append_left fi f3).trans (List.sublist_append_right f0 _))
        exact .inl (.inl ⟨p, vs, i, u, rfl, rfl, .inl (.inl hp), k1, h u F H fi (Grow.refl e t) k3 (nd.sublist hsub) (fun a m => .inl (hsub.subset m))⟩)
    · exact h.elim
  · rename_i os
    split at h
    · rename_i i e1
      rw [e1] at q2
      cases q2
      cases c : L2.atI os i with
      | none => rw [c] at h; exact h.elim
      | some o =>
        rw [c] at h
        obtain ⟨p, vs, ev, hp, r⟩ := r1
        obtain ⟨u, f0, fi, f3, k1, k2, k3⟩ := r.atI c
        subst ev k2
        have hsub : fi.Sublist ((f0 ++ (fi ++ f3)) ++ f2) := by
          refine List.Sublist.trans ?_ (List.sublist_append_left _ _)
          exact (List.sublist_append_left fi f3).trans (List.sublist_append_right f0 _)
        exact .inl (.inr (.inl ⟨p, vs, i, u, rfl, rfl, (e.tp hp).sq, k1, h u F H fi (Grow.refl e t) k3 (nd.sublist hsub) (fun a m => .inl (hsub.subset m))⟩))
    · exact h.elim
  · exact h.elim
end
section
variable {X : Cx} {W : WX}
theorem re_at {ta tb : TE} {ga gb : FE} {ea eb : Expr} {pos : Pos} (hu : X.A.units + 150 < cLine) (ha : RE X W ea ta ga) (hb : RE X W eb tb gb) (hs : PlainIx eb := by exact fun _ _ => rfl) :
    RE X W (.Subscript ea eb pos) (tOp (rIxF X.K) ta tb) (eOp tIx ga gb) := re_ix (ix_F (by omega)) ov_ix ha hb hs
end
end Fu

namespace Fu
open PySem L2 PyProof.Rows

/-! ### arguments -/
section
variable (K : PySem.W.Frag) (mg : Mg)
def RepTs (F H : Hp) : List T → List V → List Addr → Prop
  | [], vs, fp => vs = [] ∧ fp = []
  | t :: ts, vs, fp => ∃ w ws f1 f2, vs = w :: ws ∧ fp = f1 ++ f2 ∧ RepT K mg F H t w f1 ∧ RepTs F H ts ws f2
def APost (W : WX) (F H : Hp) (env : En) (m : M (List T)) (Q : List V → Hp → Prop) : Prop := match m with
  | .ok ts => ∀ vs F' H' fp, Grow F H F' H' → RepTs K mg F' H' ts vs fp → fp.Nodup → (∀ a ∈ fp, H a = none ∧ F' a = none) → Q vs H'
  | .ex x => XPost K mg W F x env
  | .bad => False
end
structure RA (X : Cx) (W : WX) (es : List Expr) (ta : TA) (g : FA) : Prop where
  pe : PA X es ta
  sem : ∀ F H env σ, EnvOK X.K X.mg F H env σ → ∀ Q : List V → Hp → Prop, APost X.K X.mg W F H env (g env) Q → ta σ H Q
def aNil : FA := fun _ => .ok []
def aCons (g : FE) (h : FA) : FA := fun env => do
  let t ← g env
  let ts ← h env
  return t :: ts
section
variable {K : PySem.W.Frag} {mg : Mg} {F H F' H' : Hp}
theorem RepTs.dom : ∀ {ts : List T} {vs : List V} {fp : List Addr}, RepTs K mg F H ts vs fp → ∀ a ∈ fp, ∃ u, H a = some u ∧ Mut (some u)
  | [], vs, fp, h => by
    rw [h.2]; intro a m; cases m
  | t :: ts, vs, fp, h => by
    obtain ⟨w, ws, f1, f2, e1, e2, h1, h2⟩ := h
    subst e2
    intro a m
    rcases List.mem_append.mp m with m | m
    · exact h1.dom a m
    · exact RepTs.dom h2 a m
theorem RepTs.rep (e : Ex F H) : ∀ {ts : List T} {vs : List V} {fp : List Addr}, RepTs K mg F H ts vs fp → RepL K mg H vs (ts.map T.data)
  | [], vs, fp, h => by rw [h.1]; exact .nil
  | t :: ts, vs, fp, h => by
    obtain ⟨w, ws, f1, f2, e1, e2, h1, h2⟩ := h
    subst e1
    exact .cons (h1.rep e) (RepTs.rep e h2)
/-- the things at hand, to be put into a container -/
def ownAll : List T → Option (List O)
  | [] => some []
  | t :: ts => match t, ownAll ts with
    | .o x, some os => some (x :: os)
    | .bo d, some os => if d.flat then some (.sh d :: os) else none
    | _, none => none
theorem ownAll_ok (e : Ex F H) (tu : TupIn F H) : ∀ {ts : List T} {vs : List V} {fp : List Addr} {os : List O}, RepTs K mg F H ts vs fp → ownAll ts = some os → OwnL K mg F H os vs fp
  | [], vs, fp, os, h, q => by
    cases q
    exact h
  | t :: ts, vs, fp, os, h, q => by
    obtain ⟨w, ws, f1, f2, e1, e2, h1, h2⟩ := h
    unfold ownAll at q
    split at q
    · rename_i x os' _ q2
      cases q
      exact ⟨w, ws, f1, f2, e1, e2, h1, ownAll_ok e tu h2 q2⟩
    · rename_i d os' _ q2
      split at q
      · rename_i hf
        cases q
        obtain ⟨e3, r⟩ := h1
        subst e3
        exact ⟨w, ws, [], f2, e1, e2, ⟨rfl, r.flat tu hf⟩, ownAll_ok e tu h2 q2⟩
      · cases q
    · cases q
end
section
variable {X : Cx} {W : WX} {e : Expr} {es : List Expr} {te : TE} {ta : TA} {g : FE} {h : FA} {pos : Pos}
theorem ra_nil : RA X W [] tNil aNil := ⟨pa_nil, fun F H env σ I Q q => q [] F H [] (Grow.refl I.fh I.tu) ⟨rfl, rfl⟩ List.nodup_nil (fun _ m => by cases m)⟩
theorem ra_cons (ha : RE X W e te g) (hr : RA X W es ta h) (hs : starEach (e :: es) X.env = (false, eval e X.env) :: starEach es X.env := by rfl) : RA X W (e :: es) (tCons te ta) (aCons g h) := by
  refine ⟨pa_cons ha.pe hr.pe hs, fun F H env σ I Q q => ha.sem F H env σ I _ ?_⟩
  unfold aCons at q
  cases e1 : g env with
  | bad => rw [e1] at q; exact q.elim
  | ex x => rw [e1] at q; exact q
  | ok x =>
    rw [e1] at q
    simp only [M.bind_ok] at q
    intro v F1 H1 f1 g1 r1 n1 k1
    refine hr.sem F1 H1 env σ (I.grow g1) _ ?_
    cases e2 : h env with
    | bad => rw [e2] at q; exact q.elim
    | ex y => rw [e2] at q; exact XPost.from (g1.exF I.fh) q
    | ok ts =>
      rw [e2] at q
      intro ws F2 H2 f2 g2 r2 n2 k2
      refine q (v :: ws) F2 H2 (f1 ++ f2) (g1.trans g2) ⟨v, ws, f1, f2, rfl, rfl, r1.grow g1.fh g2, r2⟩ ?_ ?_
      · refine List.nodup_append.mpr ⟨n1, n2, fun a m b m' z => ?_⟩
        subst z
        obtain ⟨u, hu, _⟩ := r1.dom a m
        have := (k2 a m').1
        rw [hu] at this
        cases this
      · intro a m
        rcases List.mem_append.mp m with m | m
        · obtain ⟨u, hu, _⟩ := r1.dom a m
          exact ⟨(k1 a m).1, (g2.ff a (by rw [hu]; intro z; cases z)).trans (k1 a m).2⟩
        · exact ⟨g1.hh.back (k2 a m).1, (k2 a m).2⟩
/-- what is made of arguments -/
def eArgs (op : List T → Option T) (g : FA) : FE := fun env => do
  let ts ← g env
  M.of (op ts)
def CallV (K : PySem.W.Frag) (mg : Mg) (r : List V → Hp → VK → Prop) (op : List T → Option T) : Prop := ∀ F H ts vs fp, Ex F H → TupIn F H → RepTs K mg F H ts vs fp → fp.Nodup → (∀ a ∈ fp, F a = none) →
  ∀ Q, OPost K mg F H fp (op ts) Q → r vs H Q
theorem args_sem {r : List V → Hp → VK → Prop} {op : List T → Option T} (ha : RA X W es ta h) (hv : CallV X.K X.mg r op) {F H : Hp} {env : En} {σ : L2.St} (I : EnvOK X.K X.mg F H env σ) (Q : VK)
    (q : RPost X.K X.mg W F H env (eArgs op h env) Q) : ta σ H (fun vs H1 => r vs H1 Q) := by
  refine ha.sem F H env σ I _ ?_
  unfold eArgs at q
  cases e1 : h env with
  | bad => rw [e1] at q; exact q.elim
  | ex x => rw [e1] at q; exact q
  | ok ts =>
    rw [e1] at q
    simp only [M.bind_ok] at q
    intro vs F' H' fp gr r1 nd k
    refine hv F' H' ts vs fp gr.fh gr.tu r1 nd (fun a m => (k a m).2) Q ?_
    cases e3 : op ts with
    | none => rw [e3] at q; exact q.elim
    | some t =>
      rw [e3] at q
      intro z F'' H'' fq g2 r3 nd3 k3
      refine q z F'' H'' fq (gr.trans g2) r3 nd3 fun a m => ?_
      rcases k3 a m with z | ⟨q1, q2⟩
      · obtain ⟨h1, h2⟩ := k a z
        obtain ⟨u, hu, _⟩ := r1.dom a z
        exact ⟨h1, (g2.ff a (by rw [hu]; intro z; cases z)).trans h2⟩
      · exact ⟨gr.hh.back q1, q2⟩
/-! displays -/
def dLst (ts : List T) : Option T := (ownAll ts).bind fun os => if os.length ≤ sizeLine then some (.o (.lst os)) else none
def dTup (ts : List T) : Option T := (ownAll ts).bind fun os => if os.length ≤ sizeLine then some (.o (mkTup os)) else none
theorem re_lst (ha : RA X W es ta h) : RE X W (.List es pos) (tLst ta) (eArgs dLst h) := by
  refine ⟨pe_lst ha.pe, fun F H env σ I Q q => ?_⟩
  refine args_sem (r := fun xs H1 Q => xs.length ≤ sizeLine ∧ ∀ p, H1 p = none → Q (.ref p) (upd H1 p (.lst xs))) ha ?_ I Q q
  intro F H ts vs fp e t r nd hf Q q
  unfold dLst at q
  cases c : ownAll ts with
  | none => rw [c] at q; exact q.elim
  | some os =>
    rw [c] at q
    simp only [Option.bind_some] at q
    split at q
    · rename_i hl
      have o1 := ownAll_ok e t r c
      refine ⟨by rw [o1.len]; exact hl, fun p hp => ?_⟩
      obtain ⟨g, o3, nd3⟩ := new_lst e t hp o1 nd
      refine q _ F _ _ g o3 nd3 fun a m => ?_
      rcases List.mem_cons.mp m with z | m
      · subst z; exact .inr ⟨hp, e.none hp⟩
      · exact .inl m
    · exact q.elim
theorem re_tup {x1} (ha : RA X W es ta h) : RE X W (.Tuple es x1 pos) (tTup ta) (eArgs dTup h) := by
  refine ⟨pe_tup ha.pe, fun F H env σ I Q q => ?_⟩
  refine args_sem (r := fun xs H1 Q => xs.length ≤ sizeLine ∧ ∀ p, H1 p = none → Q (.ref p) (upd H1 p (.tup xs))) ha ?_ I Q q
  intro F H ts vs fp e t r nd hf Q q
  unfold dTup at q
  cases c : ownAll ts with
  | none => rw [c] at q; exact q.elim
  | some os =>
    rw [c] at q
    simp only [Option.bind_some] at q
    split at q
    · rename_i hl
      have o1 := ownAll_ok e t r c
      refine ⟨by rw [o1.len]; exact hl, fun p hp => ?_⟩
      obtain ⟨g, o3, k3⟩ := new_tup e t hp o1
      exact q _ _ _ _ g o3 nd fun a m => .inl m
    · exact q.elim
/-! built-in functions -/
theorem re_callB {id : String} {x : Str} {p pos : Pos} {r : List V → Hp → VK → Prop} {op : List T → Option T} (hc : CallR X (.builtin id) r) (hv : CallV X.K X.mg r op) (hg : Gl X x) (hm : X.mg x = none) (hb : bootBuiltins x = some (.builtin id)) (ha : RA X W (e :: es) ta h) (hn : x ≠ "__name__" := by decide) (hdb : (x == ("__debug__" : Str)) = false := by decide)
    (he : starEach (e :: es) X.env = (false, eval e X.env) :: starEach es X.env := by rfl) (hpl : (backTo pos (starEach es X.env)).any (·.1) = false := by rfl) : RE X W (.Call (.Name x p) (e :: es) [] pos) (tCB r ta) (eArgs op h) :=
  ⟨pe_callB hc hg hm hb ha.pe hn hdb he hpl, fun F H env σ I Q q => args_sem ha hv I Q q⟩
theorem re_callTy {T : String} {x : Str} {p pos : Pos} {r : List V → Hp → VK → Prop} {op : List Fu.T → Option Fu.T} (hc : CallR X (.type T) r) (hv : CallV X.K X.mg r op) (hg : Gl X x) (hm : X.mg x = none) (hb : bootBuiltins x = some (.type T)) (ha : RA X W (e :: es) ta h) (hn : x ≠ "__name__" := by decide) (hdb : (x == ("__debug__" : Str)) = false := by decide)
    (he : starEach (e :: es) X.env = (false, eval e X.env) :: starEach es X.env := by rfl) (hpl : (backTo pos (starEach es X.env)).any (·.1) = false := by rfl) : RE X W (.Call (.Name x p) (e :: es) [] pos) (tCB r ta) (eArgs op h) :=
  ⟨pe_callTy hc hg hm hb ha.pe hn hdb he hpl, fun F H env σ I Q q => args_sem ha hv I Q q⟩
end

/-! ### slices -/
def cutL {a : Type} (xs : List a) (lo hi : Option Int) : List a := (xs.drop (HT.sIx xs.length 0 lo)).take (HT.sIx xs.length xs.length hi - HT.sIx xs.length 0 lo)
def tSlice (x : T) (lo hi : Option Int) : Option T := match x with
  | .o (.lst os) => some (.o (.lst (cutL os lo hi)))
  | .o (.sh (.lst ds)) => some (.o (.lst ((cutL ds lo hi).map .sh)))
  | .o (.sh (.rol ds)) => some (.o (.lst ((cutL ds lo hi).map .sh)))
  | .bo (.lst ds) => if D.flatL ds then some (.o (.lst ((cutL ds lo hi).map .sh))) else none
  | x => (match x.data with
    | .str z => if z.length ≤ sizeLine then sc (.str (cutS z lo hi)) else none
    | .tup ds => if D.flatL ds then sc (.tup (cutL ds lo hi)) else none
    | _ => none)
abbrev FO := En → M (Option Int)
def OIPost (K : PySem.W.Frag) (mg : Mg) (W : WX) (F H : Hp) (env : En) (m : M (Option Int)) (Q : Option Int → Hp → Prop) : Prop := match m with
  | .ok o => ∀ F' H', Grow F H F' H' → Q o H'
  | .ex x => XPost K mg W F x env
  | .bad => False
structure RO (X : Cx) (W : WX) (e : Option Expr) (t : TO) (g : FO) : Prop where
  pe : PO X e t
  sem : ∀ F H env σ, EnvOK X.K X.mg F H env σ → ∀ Q : Option Int → Hp → Prop, OIPost X.K X.mg W F H env (g env) Q → t σ H Q
def oNone : FO := fun _ => .ok none
def oSome (g : FE) : FO := fun env => do
  let t ← g env
  match t.data with
  | .int i => .ok (some i)
  | _ => .bad
def eSl (g : FE) (lo hi : FO) : FE := fun env => do
  let x ← g env
  let l ← lo env
  let h ← hi env
  M.of (tSlice x l h)
section
variable {K : PySem.W.Frag} {mg : Mg} {F H : Hp}
theorem RepL.cut {vs : List V} {ds : List D} (h : RepL K mg F vs ds) (lo hi : Option Int) : RepL K mg F (cutV vs lo hi) (cutL ds lo hi) := by
  unfold cutV cutL
  rw [h.len]
  exact (h.drop _).take _
theorem OwnL.drop : ∀ (n : Nat) {os : List O} {vs : List V} {fq : List Addr}, OwnL K mg F H os vs fq → ∃ fr, OwnL K mg F H (os.drop n) (vs.drop n) fr ∧ fr.Sublist fq
  | 0, os, vs, fq, h => ⟨fq, by simpa using h, List.Sublist.refl _⟩
  | n + 1, [], vs, fq, h => by
    obtain ⟨e1, e2⟩ := h
    subst e1 e2
    exact ⟨[], ⟨rfl, rfl⟩, List.Sublist.refl _⟩
  | n + 1, o :: os, vs, fq, h => by
    obtain ⟨w, ws, f1, f2, e1, e2, h1, h2⟩ := h
    subst e1 e2
    obtain ⟨fr, k1, k2⟩ := OwnL.drop n h2
    exact ⟨fr, k1, k2.trans (List.sublist_append_right _ _)⟩
theorem OwnL.take : ∀ (n : Nat) {os : List O} {vs : List V} {fq : List Addr}, OwnL K mg F H os vs fq → ∃ fr, OwnL K mg F H (os.take n) (vs.take n) fr ∧ fr.Sublist fq
  | 0, os, vs, fq, h => ⟨[], by simp [OwnL], List.nil_sublist _⟩
  | n + 1, [], vs, fq, h => by
    obtain ⟨e1, e2⟩ := h
    subst e1 e2
    exact ⟨[], ⟨rfl, rfl⟩, List.Sublist.refl _⟩
  | n + 1, o :: os, vs, fq, h => by
    obtain ⟨w, ws, f1, f2, e1, e2, h1, h2⟩ := h
    subst e1 e2
    obtain ⟨fr, k1, k2⟩ := OwnL.take n h2
    exact ⟨f1 ++ fr, ⟨w, _, f1, fr, rfl, rfl, h1, k1⟩, List.Sublist.append (List.Sublist.refl _) k2⟩
theorem OwnL.cut {os : List O} {vs : List V} {fq : List Addr} (h : OwnL K mg F H os vs fq) (lo hi : Option Int) : ∃ fr, OwnL K mg F H (cutL os lo hi) (cutV vs lo hi) fr ∧ fr.Sublist fq := by
  unfold cutV cutL
  rw [h.len]
  obtain ⟨f1, k1, s1⟩ := h.drop (HT.sIx os.length 0 lo)
  obtain ⟨f2, k2, s2⟩ := k1.take (HT.sIx os.length os.length hi - HT.sIx os.length 0 lo)
  exact ⟨f2, k2, s2.trans s1⟩
def rSlF (K : PySem.W.Frag) : V → Option Int → Option Int → Hp → VK → Prop := fun x lo hi H Q => rSlL K x lo hi H Q ∨ rSlS x lo hi H Q ∨ rSlA K x lo hi H Q
theorem sl_ok {x : T} {v : V} {fp : List Addr} {lo hi : Option Int} {t : T} (e : Ex F H) (tu : TupIn F H) (r : RepT K mg F H x v fp) (nd : fp.Nodup) (q : tSlice x lo hi = some t) {Q : VK} (h : OPost K mg F H fp (some t) Q) : rSlF K v lo hi H Q := by
  have put : ∀ {os : List O} {a : Addr} {vs : List V} {fq : List Addr}, SqL K H a vs → OwnL K mg F H os (cutV vs lo hi) fq → fq.Nodup → (∀ b ∈ fq, b ∈ fp) → OPost K mg F H fp (some (.o (.lst os))) Q → rSlL K (.ref a) lo hi H Q := by
    intro os a vs fq sq o1 nd1 sub h
    refine ⟨a, vs, rfl, sq, fun p hp => ?_⟩
    obtain ⟨g, o3, nd3⟩ := new_lst e tu hp o1 nd1
    refine h _ F _ _ g o3 nd3 fun b m => ?_
    rcases List.mem_cons.mp m with z | m
    · subst z; exact .inr ⟨hp, e.none hp⟩
    · exact .inl (sub b m)
  have rest : ∀ {x : T} {v : V} {fp : List Addr}, RepT K mg F H x v fp → (match x.data with
      | .str z => if z.length ≤ sizeLine then sc (.str (cutS z lo hi)) else none
      | .tup ds => if D.flatL ds then sc (.tup (cutL ds lo hi)) else none
      | _ => none) = some t → OPost K mg F H fp (some t) Q → rSlF K v lo hi H Q := by
    intro x v fp r q h
    have rr := r.rep e
    split at q
    · rename_i z e1
      rw [e1] at rr
      cases rr
      split at q
      · rename_i hz
        cases q
        exact .inr (.inl ⟨z, rfl, hz, OPost.sc (d := .str _) e tu h (.str _)⟩)
      · cases q
    · rename_i ds e1
      rw [e1] at rr
      split at q
      · rename_i hf
        cases q
        have rf := rr.flat tu (by rw [D.flat]; exact hf)
        cases rf with
        | @tup a vs _ h1 r1 =>
          refine .inr (.inr ⟨a, vs, rfl, (e.tp h1).sq, fun hw => ?_, fun _ p hp => ?_⟩)
          · refine OPost.sc (d := .tup _) e tu h ?_
            have hds : cutL ds lo hi = ds := by
              unfold cutL
              rw [← r1.len, hw.1, hw.2]
              simp [r1.len]
            rw [hds]
            exact .tup h1 r1
          · exact h _ (upd F p (.tup _)) _ [] (Grow.tup e tu hp) ⟨rfl, .tup upd_same ((r1.cut lo hi).mono (Ex.new (e.none hp)))⟩ List.nodup_nil (fun _ m => by cases m)
      · cases q
    · cases q
  unfold tSlice at q
  split at q
  · rename_i os
    cases q
    obtain ⟨p, vs, fq, ev, hp, ef, o1⟩ := r
    subst ev ef
    obtain ⟨fr, k1, k2⟩ := o1.cut lo hi
    exact .inl (put (.inl (.inl hp)) k1 ((List.nodup_cons.mp nd).2.sublist k2) (fun b m => List.mem_cons_of_mem _ (k2.subset m)) h)
  · rename_i ds
    cases q
    obtain ⟨ef, r1⟩ := r
    cases r1 with
    | @lst a vs _ h1 r1 => exact .inl (put (.inl (.inl (e.at h1))) (OwnL.shared (r1.cut lo hi)) List.nodup_nil (fun b m => by cases m) h)
  · rename_i ds
    cases q
    obtain ⟨ef, r1⟩ := r
    cases r1 with
    | @rol a vs _ h1 r1 => exact .inl (put (e.sl h1) (OwnL.shared (r1.cut lo hi)) List.nodup_nil (fun b m => by cases m) h)
  · rename_i ds
    split at q
    · rename_i hf
      cases q
      obtain ⟨ef, r1⟩ := r
      cases r1 with
      | @lst a vs _ h1 r1 => exact .inl (put (.inl (.inl h1)) (OwnL.shared ((r1.flat tu hf).cut lo hi)) List.nodup_nil (fun b m => by cases m) h)
    · cases q
  · exact rest r q h
end
section
variable {X : Cx} {W : WX} {e : Expr} {lo hi : Option Expr} {te : TE} {tl th : TO} {g : FE} {gl gh : FO} {p2 pos : Pos}
theorem ro_none : RO X W none tNoPart oNone := ⟨po_none, fun F H env σ I Q q => q F H (Grow.refl I.fh I.tu)⟩
theorem ro_some {e : Expr} (h : RE X W e te g) : RO X W (some e) (tPart te) (oSome g) := by
  refine ⟨po_some h.pe, fun F H env σ I Q q => h.sem F H env σ I _ ?_⟩
  unfold oSome at q
  cases e1 : g env with
  | bad => rw [e1] at q; exact q.elim
  | ex x => rw [e1] at q; exact q
  | ok t =>
    rw [e1] at q
    simp only [M.bind_ok] at q
    intro v F' H' fp gr r _ _
    have k := r.rep gr.fh
    cases c : t.data with
    | int i =>
      rw [c] at q k
      cases k
      exact ⟨i, rfl, q F' H' gr⟩
    | _ => rw [c] at q; exact q.elim
theorem OIPost.later {K : PySem.W.Frag} {mg : Mg} {F H F' H' : Hp} {env : En} {m : M (Option Int)} {Q : Option Int → Hp → Prop} (e : Ex F H) (g : Grow F H F' H') (h : OIPost K mg W F H env m Q) : OIPost K mg W F' H' env m Q := by
  cases m with
  | bad => exact h
  | ex x => exact XPost.from (g.exF e) h
  | ok t => exact fun F2 H2 g2 => h F2 H2 (g.trans g2)
theorem sl_F : SlR X (rSlF X.K) := SlR.or sl_list (SlR.or sl_str sl_tupA)
theorem re_slice (he : RE X W e te g) (hl : RO X W lo tl gl) (hh : RO X W hi th gh) : RE X W (.Subscript e (.Slice lo hi none p2) pos) (tSl (rSlF X.K) te tl th) (eSl g gl gh) := by
  refine ⟨pe_slice sl_F he.pe hl.pe hh.pe, fun F H env σ I Q q => he.sem F H env σ I _ ?_⟩
  unfold eSl at q
  cases e1 : g env with
  | bad => rw [e1] at q; exact q.elim
  | ex x => rw [e1] at q; exact q
  | ok x =>
    rw [e1] at q
    simp only [M.bind_ok] at q
    intro v F1 H1 f1 g1 r1 n1 k1
    refine hl.sem F1 H1 env σ (I.grow g1) _ ?_
    cases e2 : gl env with
    | bad => rw [e2] at q; exact q.elim
    | ex y => rw [e2] at q; exact XPost.from (g1.exF I.fh) q
    | ok l =>
      rw [e2] at q
      simp only [M.bind_ok] at q
      intro F2 H2 g2
      refine hh.sem F2 H2 env σ (I.grow (g1.trans g2)) _ ?_
      cases e3 : gh env with
      | bad => rw [e3] at q; exact q.elim
      | ex y => rw [e3] at q; exact XPost.from ((g1.trans g2).exF I.fh) q
      | ok u =>
        rw [e3] at q
        simp only [M.bind_ok] at q
        intro F3 H3 g3
        have g23 := g2.trans g3
        cases e4 : tSlice x l u with
        | none => rw [e4] at q; exact q.elim
        | some t =>
          rw [e4] at q
          refine sl_ok g3.fh g3.tu (r1.grow g1.fh g23) n1 e4 ?_
          intro z F'' H'' fq g4 r3 nd3 k3
          refine q z F'' H'' fq ((g1.trans g23).trans g4) r3 nd3 fun a m => ?_
          rcases k3 a m with z | ⟨q1, q2⟩
          · obtain ⟨h1, h2⟩ := k1 a z
            obtain ⟨w, hw, _⟩ := r1.dom a z
            exact ⟨h1, ((g23.trans g4).ff a (by rw [hw]; intro z; cases z)).trans h2⟩
          · exact ⟨(g1.trans g23).hh.back q1, q2⟩
end
end Fu

namespace Fu
open PySem L2 PyProof.Rows

/-! ### statements -/
inductive Out where
  | nx (env : Sn) | rt (x : O) | bk (env : Sn) | ct (env : Sn) | ex (e : Exn) (env : Sn)
abbrev FS := Sn → Option Out
def onE {a : Type} (m : M a) (env : Sn) (f : a → Option Out) : Option Out := match m with
  | .ok x => f x
  | .ex e => some (.ex e env)
  | .bad => none
@[simp] theorem onE_ok {a : Type} (x : a) (env : Sn) (f : a → Option Out) : onE (M.ok x) env f = f x := (by rfl)
@[simp] theorem onE_ex {a : Type} (x : Exn) (env : Sn) (f : a → Option Out) : onE (M.ex x) env f = some (.ex x env) := (by rfl)
@[simp] theorem onE_bad {a : Type} (env : Sn) (f : a → Option Out) : onE M.bad env f = none := (by rfl)
def RtOk (K : PySem.W.Frag) (mg : Mg) (F : Hp) (x : O) (Q : VK) : Prop := ∀ v F' H' fp, Ex F F' → Ex F' H' → TupIn F' H' → Own K mg F' H' x v fp → fp.Nodup → (∀ a ∈ fp, F' a = none) → Q v H'
def SPost (K : PySem.W.Frag) (mg : Mg) (W : WX) (F : Hp) (o : Option Out) (D : Ends) : Prop := match o with
  | some (.nx env) => ∀ F' H' σ', Ex F F' → EnvOK K mg F' H' (up env) σ' → D.nx σ' H'
  | some (.bk env) => ∀ F' H' σ', Ex F F' → EnvOK K mg F' H' (up env) σ' → D.bk σ' H'
  | some (.ct env) => ∀ F' H' σ', Ex F F' → EnvOK K mg F' H' (up env) σ' → D.ct σ' H'
  | some (.rt x) => RtOk K mg F x D.rt
  | some (.ex x env) => XPost K mg W F x (up env)
  | none => False
structure RS (X : Cx) (W : WX) (st : Stmt) (ts : TS) (g : FS) : Prop where
  ps : PS X st ts
  sem : ∀ F H env σ D, EnvOK X.K X.mg F H (up env) σ → SPost X.K X.mg W F (g env) D → ts D σ H
structure RB (X : Cx) (W : WX) (st : List Stmt) (ts : TS) (g : FS) : Prop where
  ps : PSs X st ts
  sem : ∀ F H env σ D, EnvOK X.K X.mg F H (up env) σ → SPost X.K X.mg W F (g env) D → ts D σ H
section
variable {K : PySem.W.Frag} {mg : Mg} {W : WX} {F F' H H' : Hp}
theorem SPost.from {o : Option Out} {D : Ends} (e : Ex F F') (h : SPost K mg W F o D) : SPost K mg W F' o D := by
  cases o with
  | none => exact h
  | some o => cases o with
    | nx env => exact fun F2 H2 σ2 e2 => h F2 H2 σ2 (e.trans e2)
    | bk env => exact fun F2 H2 σ2 e2 => h F2 H2 σ2 (e.trans e2)
    | ct env => exact fun F2 H2 σ2 e2 => h F2 H2 σ2 (e.trans e2)
    | rt x => exact fun v F2 H2 fp e2 => h v F2 H2 fp (e.trans e2)
    | ex x env => exact XPost.from e h
end
def skipS : FS := fun env => some (.nx env)
def seqS (g h : FS) : FS := fun env => match g env with
  | some (.nx env') => h env'
  | o => o
section
variable {X : Cx} {W : WX} {st : Stmt} {rest : List Stmt} {t u : TS} {g h : FS} {pos : Pos}
theorem rb_nil : RB X W [] tNext skipS := ⟨pss_nil, fun F H env σ D I q => q F H σ (Ex.refl F) I⟩
theorem rb_one (a : RS X W st t g) : RB X W [st] t g := ⟨pss_one a.ps, a.sem⟩
theorem rb_cons (a : RS X W st t g) (b : RB X W rest u h) : RB X W (st :: rest) (tSeq t u) (seqS g h) := by
  refine ⟨pss_cons a.ps b.ps, fun F H env σ D I q => a.sem F H env σ { D with nx := u D } I ?_⟩
  unfold seqS at q
  cases e : g env with
  | none => rw [e] at q; exact q
  | some o =>
    rw [e] at q
    cases o with
    | nx env' => exact fun F2 H2 σ2 e2 I2 => b.sem F2 H2 env' σ2 D I2 (SPost.from e2 q)
    | bk env' => exact q
    | ct env' => exact q
    | rt x => exact q
    | ex x env' => exact q
def passS : FS := skipS
def ifS (c : FT) (g h : FS) : FS := fun env => onE (c (up env)) env fun b => if b then g env else h env
theorem rs_if {c : Expr} {a b : List Stmt} {tc : TT} {gc : FT} (hc : RT X W c tc gc) (ha : RB X W a t g) (hb : RB X W b u h) : RS X W (.If c a b pos) (tIfS tc t u) (ifS gc g h) := by
  refine ⟨ps_if hc.pe ha.ps hb.ps, fun F H env σ D I q => hc.sem F H (up env) σ I _ ?_⟩
  unfold ifS at q
  cases e : gc (up env) with
  | bad => rw [e] at q; exact q.elim
  | ex x => rw [e] at q; exact q
  | ok z =>
    rw [e] at q
    simp only [onE_ok] at q
    intro F' H' gr
    cases z with
    | true =>
      show t D σ H'
      exact ha.sem F' H' env σ D (I.grow gr) (SPost.from (gr.exF I.fh) (by simpa using q))
    | false =>
      show u D σ H'
      exact hb.sem F' H' env σ D (I.grow gr) (SPost.from (gr.exF I.fh) (by simpa using q))
def exprS (e : FE) : FS := fun env => onE (e (up env)) env fun _ => some (.nx env)
theorem rs_expr {e : Expr} {te : TE} {ge : FE} (he : RE X W e te ge) (hs : swapsWith e none pos.line X.env = pure false := by rfl) : RS X W (.Expr e pos) (tDrop te) (exprS ge) := by
  refine ⟨ps_expr he.pe hs, fun F H env σ D I q => he.sem F H (up env) σ I _ ?_⟩
  unfold exprS at q
  cases e : ge (up env) with
  | bad => rw [e] at q; exact q.elim
  | ex x => rw [e] at q; exact q
  | ok z =>
    rw [e] at q
    intro v F' H' fp gr _ _ _
    exact q F' H' σ (gr.exF I.fh) (I.grow gr)
def T.give : T → Option Out
  | .o x => some (.rt x)
  | .bo d => if d.flat then some (.rt (.sh d)) else none
def retS (e : FE) : FS := fun env => onE (e (up env)) env T.give
theorem rs_ret {e : Expr} {te : TE} {ge : FE} (he : RE X W e te ge) : RS X W (.Return (some e) pos) (tRet te) (retS ge) := by
  refine ⟨ps_ret he.pe, fun F H env σ D I q => he.sem F H (up env) σ I _ ?_⟩
  unfold retS at q
  cases e : ge (up env) with
  | bad => rw [e] at q; exact q.elim
  | ex x => rw [e] at q; exact q
  | ok z =>
    rw [e] at q
    simp only [onE_ok] at q
    intro v F' H' fp gr r nd k
    cases z with
    | o x =>
      exact q v F' H' fp (gr.exF I.fh) gr.fh gr.tu r nd fun a m => (k a m).2
    | bo d =>
      have q : SPost X.K X.mg W F (if d.flat then some (.rt (.sh d)) else none) D := q
      split at q
      · rename_i hf
        exact q v F' H' [] (gr.exF I.fh) gr.fh gr.tu ⟨rfl, r.2.flat gr.tu hf⟩ List.nodup_nil (fun _ m => by cases m)
      · exact q.elim
theorem rs_retN : RS X W (.Return none pos) tRetN (fun _ => some (.rt (.sh .non))) :=
  ⟨ps_retN, fun F H env σ D I q => q .non F H [] (Ex.refl F) I.fh I.tu ⟨rfl, .non⟩ List.nodup_nil (fun _ m => by cases m)⟩
/-- a name is given back: what is owned there goes with it -/
def retMv (i : Nat) : FS := fun env => match env[i]? with
  | some (some x) => some (.rt x)
  | _ => none
theorem up_get {env : Sn} {i : Nat} {x : O} (h : env[i]? = some (some x)) : (up env)[i]? = some (some (.o x)) := by
  unfold up
  rw [List.getElem?_map, h]
  rfl
theorem rs_retMv (i : Nat) {x : Str} {p : Pos} (hN : X.N[i]? = some x := by rfl) (hv : Vis X.env.scope x := by first | exact Or.inl rfl | exact Or.inr (Or.inl rfl) | exact Or.inr (Or.inr rfl)) (hd : (x == ("__debug__" : Str)) = false := by decide)
    (hcd : (x == ("__classdict__" : Str)) = false := by decide) : RS X W (.Return (some (.Name x p)) pos) (tRet (tVar i)) (retMv i) := by
  refine ⟨ps_ret (pe_var hN hv hd hcd), fun F H env σ D I q => ?_⟩
  unfold retMv at q
  split at q
  · rename_i o e
    obtain ⟨fp, nd, hf, hs⟩ := I.sl
    obtain ⟨v, f0, fi, f2, a, b, c⟩ := hs.get I.fh (up_get e)
    refine ⟨v, a, ?_⟩
    subst b
    have sub : fi.Sublist (f0 ++ (fi ++ f2)) := (List.sublist_append_left fi f2).trans (List.sublist_append_right f0 _)
    exact q v F H fi (Ex.refl F) I.fh I.tu c (nd.sublist sub) fun a m => hf a (sub.subset m)
  · exact q.elim
end

/-! ### stores -/
section
variable {K : PySem.W.Frag} {mg : Mg} {F F' H H' : Hp}
/-- .. with more that is owned beside -/
structure EnvF (K : PySem.W.Frag) (mg : Mg) (F H : Hp) (env : En) (σ : L2.St) (fx : List Addr) : Prop where
  fh : Ex F H
  tu : TupIn F H
  tb : TbOK K H
  sl : ∃ fp, (fp ++ fx).Nodup ∧ (∀ a ∈ fp ++ fx, F a = none) ∧ Slots K mg F H env σ fp
theorem EnvF.ok {env : En} {σ : L2.St} (h : EnvF K mg F H env σ []) : EnvOK K mg F H env σ := by
  obtain ⟨fp, a, b, c⟩ := h.sl
  exact ⟨h.fh, h.tu, h.tb, fp, by simpa using a, by simpa using b, c⟩
theorem EnvOK.with {env : En} {σ : L2.St} {fx : List Addr} (I : EnvOK K mg F H env σ) (g : Grow F H F' H') (nd : fx.Nodup) (k : ∀ a ∈ fx, H a = none ∧ F' a = none) : EnvF K mg F' H' env σ fx := by
  obtain ⟨fp, n0, hf, hs⟩ := I.sl
  refine ⟨g.fh, g.tu, I.tb.mono g.hh, fp, List.nodup_append.mpr ⟨n0, nd, fun a m b m' z => ?_⟩, fun a m => ?_, hs.grow I.fh g⟩
  · subst z
    obtain ⟨u, hu, _⟩ := hs.dom a m
    rw [(k a m').1] at hu; cases hu
  · rcases List.mem_append.mp m with m | m
    · obtain ⟨u, hu, _⟩ := hs.dom a m
      exact (g.ff a (by rw [hu]; intro z; cases z)).trans (hf a m)
    · exact (k a m).2
theorem Slots.set : ∀ {env : En} {σ : L2.St} {fp : List Addr} (i : Nat) {t : T} {v : V} {fx : List Addr}, Slots K mg F H env σ fp → RepT K mg F H t v fx → (fp ++ fx).Nodup → ∃ fq, Slots K mg F H (env.set i (some t)) (σ.set i (some v)) fq ∧ fq.Nodup ∧ (∀ a ∈ fq, a ∈ fp ++ fx)
  | [], σ, fp, i, t, v, fx, h, r, nd => by
    obtain ⟨e1, e2⟩ := h
    subst e1 e2
    exact ⟨[], ⟨rfl, rfl⟩, List.nodup_nil, fun a m => by cases m⟩
  | e :: env, σ, fp, 0, t, v, fx, h, r, nd => by
    obtain ⟨s, τ, f1, f2, e1, e2, h1, h2⟩ := h
    subst e1 e2
    refine ⟨fx ++ f2, ⟨_, _, fx, f2, rfl, rfl, ⟨v, rfl, r⟩, h2⟩, ?_, fun a m => ?_⟩
    · have n1 := List.nodup_append.mp nd
      have n2 := List.nodup_append.mp n1.1
      refine List.nodup_append.mpr ⟨n1.2.1, n2.2.1, fun a m b m' z => ?_⟩
      subst z
      exact n1.2.2 a (List.mem_append_right _ m') a m rfl
    · rcases List.mem_append.mp m with m | m
      · exact List.mem_append_right _ m
      · exact List.mem_append_left _ (List.mem_append_right _ m)
  | e :: env, σ, fp, i + 1, t, v, fx, h, r, nd => by
    obtain ⟨s, τ, f1, f2, e1, e2, h1, h2⟩ := h
    subst e1 e2
    have n0 : (f1 ++ (f2 ++ fx)).Nodup := by rw [← List.append_assoc]; exact nd
    have n1 := List.nodup_append.mp n0
    obtain ⟨fq, k1, k2, k3⟩ := Slots.set i h2 r n1.2.1
    refine ⟨f1 ++ fq, ⟨_, _, f1, fq, rfl, rfl, h1, k1⟩, List.nodup_append.mpr ⟨n1.1, k2, fun a m b m' z => ?_⟩, fun a m => ?_⟩
    · subst z
      exact n1.2.2 a m a (k3 a m') rfl
    · rcases List.mem_append.mp m with m | m
      · exact List.mem_append_left _ (List.mem_append_left _ m)
      · rcases List.mem_append.mp (k3 a m) with m | m
        · exact List.mem_append_left _ (List.mem_append_right _ m)
        · exact List.mem_append_right _ m
theorem EnvF.set {env : En} {σ : L2.St} {f1 f2 : List Addr} (I : EnvF K mg F H env σ (f1 ++ f2)) (i : Nat) {t : T} {v : V} (r : RepT K mg F H t v f1) : EnvF K mg F H (env.set i (some t)) (σ.set i (some v)) f2 := by
  obtain ⟨fp, nd, hf, hs⟩ := I.sl
  have n0 : ((fp ++ f1) ++ f2).Nodup := by rw [List.append_assoc]; exact nd
  have n1 := List.nodup_append.mp n0
  obtain ⟨fq, k1, k2, k3⟩ := hs.set i r n1.1
  refine ⟨I.fh, I.tu, I.tb, fq, List.nodup_append.mpr ⟨k2, n1.2.1, fun a m b m' z => ?_⟩, fun a m => ?_, k1⟩
  · subst z
    exact n1.2.2 a (k3 a m) a m' rfl
  · refine hf a ?_
    rw [← List.append_assoc]
    rcases List.mem_append.mp m with m | m
    · exact List.mem_append_left _ (k3 a m)
    · exact List.mem_append_right _ m
theorem up_set {env : Sn} {i : Nat} {x : O} : up (env.set i (some x)) = (up env).set i (some (.o x)) := by
  unfold up
  rw [List.map_set]
  rfl
end
def T.keep : T → Option O
  | .o x => some x
  | .bo d => if d.flat then some (.sh d) else none
theorem T.keep_ok {K : PySem.W.Frag} {mg : Mg} {F H : Hp} {t : T} {v : V} {fp : List Addr} {x : O} (tu : TupIn F H) (r : RepT K mg F H t v fp) (h : t.keep = some x) : Own K mg F H x v fp := by
  cases t with
  | o y => cases h; exact r
  | bo d =>
    have h : (if d.flat then some (.sh d) else none) = some x := h
    split at h
    · rename_i hf
      cases h
      obtain ⟨e, q⟩ := r
      subst e
      exact ⟨rfl, q.flat tu hf⟩
    · cases h
/-! targets -/
abbrev FG := O → Sn → Option Sn
structure RG (X : Cx) (tg : Expr) (gt : TG) (b : FG) : Prop where
  pg : PG X tg gt
  sem : ∀ F H env σ x v f1 f2 Q env', EnvF X.K X.mg F H (up env) σ (f1 ++ f2) → Own X.K X.mg F H x v f1 → b x env = some env' → (∀ σ', EnvF X.K X.mg F H (up env') σ' f2 → Q σ' H) → gt v σ H Q
structure RGs (X : Cx) (tg : List Expr) (gt : TGs) (b : List O → Sn → Option Sn) : Prop where
  pg : PGs X tg gt
  sem : ∀ F H env σ xs vs f1 f2 Q env', EnvF X.K X.mg F H (up env) σ (f1 ++ f2) → OwnL X.K X.mg F H xs vs f1 → b xs env = some env' → (∀ σ', EnvF X.K X.mg F H (up env') σ' f2 → Q σ' H) → gt vs σ H Q
def bName (i : Nat) : FG := fun x env => some (env.set i (some x))
def bNil : List O → Sn → Option Sn := fun xs env => match xs with
  | [] => some env
  | _ => none
def bCons (b : FG) (bs : List O → Sn → Option Sn) : List O → Sn → Option Sn := fun xs env => match xs with
  | x :: xs => (b x env).bind (bs xs)
  | [] => none
def O.parts : O → Option (List O)
  | .tup os => some os
  | .sh d => d.tupItems.map (·.map .sh)
  | _ => none
def bTup (n : Nat) (bs : List O → Sn → Option Sn) : FG := fun x env => match x.parts with
  | some os => if os.length = n then bs os env else none
  | none => none
section
variable {X : Cx} {pos : Pos}
theorem rg_name (i : Nat) {x : Str} (hN : X.N.Nodup) (hi : X.N[i]? = some x := by rfl) (hx : Loc X.env.scope x := by first | exact Or.inl rfl | exact Or.inr rfl) (hf : X.fn x = true ∨ X.env.scope.names.lookup x = some .local := by first | exact .inl rfl | exact .inr rfl) : RG X (.Name x pos) (gName i) (bName i) :=
  ⟨pg_name hN hi hx hf, fun F H env σ x v f1 f2 Q env' I r h k => by
    cases h
    refine k _ ?_
    rw [up_set]
    exact I.set i r⟩
theorem rgs_nil : RGs X [] gNil bNil := ⟨pgs_nil, fun F H env σ xs vs f1 f2 Q env' I r h k => by
  cases xs with
  | nil =>
    cases h
    obtain ⟨e1, e2⟩ := r
    subst e1 e2
    exact ⟨rfl, k σ I⟩
  | cons x xs => cases h⟩
theorem rgs_cons {e : Expr} {es : List Expr} {t : TG} {u : TGs} {b : FG} {bs : List O → Sn → Option Sn} (h1 : RG X e t b) (h2 : RGs X es u bs)
    (hs : (assignEach (e :: es) X.env).map (·.2) = assign e X.env :: (assignEach es X.env).map (·.2) := by rfl) : RGs X (e :: es) (gCons t u) (bCons b bs) := by
  refine ⟨pgs_cons h1.pg h2.pg hs, fun F H env σ xs vs f1 f2 Q env' I r h k => ?_⟩
  cases xs with
  | nil => cases h
  | cons x xs =>
    obtain ⟨w, ws, g1, g2, e1, e2, r1, r2⟩ := r
    subst e1 e2
    refine ⟨w, ws, rfl, ?_⟩
    have h : (b x env).bind (bs xs) = some env' := h
    cases c : b x env with
    | none => rw [c] at h; cases h
    | some env1 =>
      rw [c] at h
      have h : bs xs env1 = some env' := h
      exact h1.sem F H env σ x w g1 (g2 ++ f2) _ env1 (by rw [← List.append_assoc]; exact I) r1 c fun σ1 I1 => h2.sem F H env1 σ1 xs ws g2 f2 _ env' I1 r2 h k
theorem Own.parts {K : PySem.W.Frag} {mg : Mg} {F H : Hp} {x : O} {v : V} {fp : List Addr} {os : List O} (e : Ex F H) (r : Own K mg F H x v fp) (h : x.parts = some os) : ∃ a vs, v = .ref a ∧ SqT K H a vs ∧ OwnL K mg F H os vs fp := by
  cases x with
  | tup os' =>
    cases h
    obtain ⟨p, vs, e1, h1, r⟩ := r
    exact ⟨p, vs, e1, (e.tp h1).sq, r⟩
  | sh d =>
    have h : d.tupItems.map (·.map O.sh) = some os := h
    obtain ⟨e1, r⟩ := r
    subst e1
    cases c : d.tupItems with
    | none => rw [c] at h; cases h
    | some ds =>
      rw [c] at h
      cases h
      obtain ⟨a, vs, e2, sq, r⟩ := r.tupAt c
      exact ⟨a, vs, e2, (by rcases sq with sq | sq; exact .inl (e.rd sq); exact .inr sq), OwnL.shared r⟩
  | _ => cases h
theorem rg_tup {es : List Expr} {k : Nat} {t : TGs} {n : Nat} {bs : List O → Sn → Option Sn} (hc : X.calm = true) (h : RGs X es t bs)
    (hn : (assignEach es X.env).length = n := by rfl) (hst : (assignEach es X.env).findIdx? (·.1) = none := by rfl) : RG X (.Tuple es k pos) (gTup X.K n t) (bTup n bs) := by
  refine ⟨pg_tup hc h.pg hn hst, fun F H env σ x v f1 f2 Q env' I r q k => ?_⟩
  unfold bTup at q
  split at q
  · rename_i os e1
    split at q
    · rename_i hl
      obtain ⟨a, vs, e2, sq, r⟩ := Own.parts I.fh r e1
      exact ⟨a, vs, e2, sq, r.len.trans hl, h.sem F H env σ os vs f1 f2 Q env' I r q k⟩
    · cases q
  · cases q
end
def asgS (b : FG) (e : FE) : FS := fun env => onE (e (up env)) env fun t => (t.keep.bind fun x => b x env).map .nx
theorem asg_sem {X : Cx} {W : WX} {te : TE} {ge : FE} {gt : TG} {b : FG} {tg : Expr} (he : ∀ F H env σ, EnvOK X.K X.mg F H env σ → ∀ Q : VK, RPost X.K X.mg W F H env (ge env) Q → te σ H Q) (hg : RG X tg gt b) :
    ∀ F H env σ D, EnvOK X.K X.mg F H (up env) σ → SPost X.K X.mg W F (asgS b ge env) D → tAsg te gt D σ H := by
  intro F H env σ D I q
  refine he F H (up env) σ I _ ?_
  unfold asgS at q
  cases e : ge (up env) with
  | bad => rw [e] at q; exact q.elim
  | ex x => rw [e] at q; exact q
  | ok z =>
    rw [e] at q
    simp only [onE_ok] at q
    intro v F' H' fp gr r nd k
    cases c : z.keep with
    | none => rw [c] at q; exact q.elim
    | some x =>
      rw [c] at q
      simp only [Option.bind_some] at q
      cases c2 : b x env with
      | none => rw [c2] at q; exact q.elim
      | some env' =>
        rw [c2] at q
        have I1 : EnvF X.K X.mg F' H' (up env) σ (fp ++ []) := by rw [List.append_nil]; exact I.with gr nd k
        exact hg.sem F' H' env σ x v fp [] _ env' I1 (T.keep_ok gr.tu r c) c2 fun σ' I2 => q F' H' σ' (gr.exF I.fh) I2.ok
section
variable {X : Cx} {W : WX} {pos : Pos}
/-- x = e -/
theorem rs_set (i : Nat) {x : Str} {e : Expr} {te : TE} {ge : FE} {pos' : Pos} (hN : X.N.Nodup) (he : RE X W e te ge) (hi : X.N[i]? = some x := by rfl) (hx : Loc X.env.scope x := by first | exact Or.inl rfl | exact Or.inr rfl)
    (hs : swapsWith e (some (.Name x pos')) pos.line X.env = pure false := by rfl) (hf : X.fn x = true ∨ X.env.scope.names.lookup x = some .local := by first | exact .inl rfl | exact .inr rfl) :
    RS X W (.Assign [.Name x pos'] e pos) (tAsg te (gName i)) (asgS (bName i) ge) := ⟨ps_set hN hi hx he.pe hs hf, asg_sem he.sem (rg_name (pos := pos') i hN hi hx hf)⟩
/-- a, b = e -/
theorem rs_unpack {tg e : Expr} {te : TE} {ge : FE} {gt : TG} {b : FG} (he : RE X W e te ge) (hg : RG X tg gt b) (hs : swapsWithSole [tg] e pos.line X.env = pure false := by rfl) (hw : swappedStores [tg] e X.env = pure none := by rfl)
    (h1 : (assignEach [tg] X.env).map (·.2) = [assign tg X.env] := by rfl) : RS X W (.Assign [tg] e pos) (tAsg te gt) (asgS b ge) := ⟨ps_asg he.pe hg.pg hs hw h1, asg_sem he.sem hg⟩
end

/-! ### a def -/
def MPost (K : PySem.W.Frag) (mg : Mg) (H : Hp) (m : M O) (Q : VK) (E : XK) : Prop := match m with
  | .ok x => ∀ v H' fp, Ex H H' → Own K mg H' H' x v fp → x.pure = true → fp.Nodup → (∀ a ∈ fp, H a = none) → Q v H'
  | .ex x => ∀ H' cls d, Ex H H' → ExcAt K mg H' x cls d → E cls d H'
  | .bad => False
def spF (K : PySem.W.Frag) (mg : Mg) (n : Nat) (m : List D → M O) : Sp := fun vs H Q E => ∃ ds, RepL K mg H vs ds ∧ ds.length = n ∧ MPost K mg H (m ds) Q E ∧ TbOK K H
/-- a body as a function of its arguments -/
def finish : Option Out → M O
  | some (.rt x) => if x.pure then .ok x else .bad
  | some (.nx _) => .ok (.sh .non)
  | some (.ex x _) => .ex x
  | _ => .bad
def start (n : Nat) (ds : List D) : Sn := ds.map (fun d => some (.sh d)) ++ List.replicate (n - ds.length) none
def run (n : Nat) (g : FS) (ds : List D) : M O := finish (g (start n ds))
theorem TupIn.refl (H : Hp) : TupIn H H := fun _ _ h => h
theorem slots_start {K : PySem.W.Frag} {mg : Mg} {H : Hp} {n : Nat} : ∀ {ds : List D} {vs : List V}, RepL K mg H vs ds → Slots K mg H H (ds.map (fun d => some (.o (.sh d))) ++ List.replicate n none) (vs.map some ++ List.replicate n none) []
  | [], _, h => by
    cases h
    induction n with
    | zero => exact ⟨rfl, rfl⟩
    | succ n ih => exact ⟨none, _, [], [], rfl, rfl, rfl, ih⟩
  | d :: ds, _, h => by
    cases h with
    | cons h r => exact ⟨_, _, [], [], rfl, rfl, ⟨_, rfl, rfl, h⟩, slots_start r⟩
theorem envOK_start {K : PySem.W.Frag} {mg : Mg} {H : Hp} {N : List Str} {ds : List D} {vs : List V} (h : RepL K mg H vs ds) (tb : TbOK K H) : EnvOK K mg H H (up (start N.length ds)) (L2.start N vs) := by
  refine ⟨Ex.refl H, TupIn.refl H, tb, [], List.nodup_nil, fun a m => (by cases m), ?_⟩
  have e : up (start N.length ds) = ds.map (fun d => some (.o (.sh d))) ++ List.replicate (N.length - ds.length) none := by
    unfold up start
    rw [List.map_append, List.map_map, List.map_replicate]
    rfl
  rw [e]
  unfold L2.start
  rw [h.len]
  exact slots_start h
section
variable {P : Program} {w : World} {K : PySem.W.Frag} {mg : Mg} {base : Heap}
/-- THE RULE for a def -/
theorem fn_F {x qual : Str} {st : Stmt} {f : Addr} {fd : FuncData} {N ps : List Str} {k n np : Nat} {g : FS} (hn : N.length = n) (hnp : ps.length = np) (F : Fun K x qual st f fd) (S : FnScope N ps (defScope st))
    (hb : ∀ (cdv : Value) (A : Around) (outer : List Env) (s : Shared) (H : Hp) (E : XK), Room k (A.deeper (envOfC qual (defScope st) s.heap.objs.size f cdv)) →
      ∃ ts, RB (cxOf (L2.CX P w) P w K mg base N qual (defScope st) f cdv A outer s H E) (fun cls d _ H => E cls d H) (defBody st) ts g) :
    FnOk P w K mg base (L2.CX P w) (k + 1) f fd ps (spF K mg np (run n g)) := by
  subst hn hnp
  refine F.okX S (fun vs H Q E h => ?_) (fun cdv A outer s H vs Q E hr h => ?_)
  · obtain ⟨ds, h1, h2, _⟩ := h
    rw [h1.len, h2]
  · obtain ⟨ds, h1, h2, h3, h4⟩ := h
    obtain ⟨ts, hb⟩ := hb cdv A outer s H E hr
    refine ⟨ts, hb.ps, hb.sem H H (start N.length ds) _ _ (envOK_start h1 h4) ?_⟩
    unfold run at h3
    cases e : g (start N.length ds) with
    | none => rw [e] at h3; exact h3.elim
    | some o =>
      rw [e] at h3
      cases o with
      | nx env => exact fun F' H' σ' e1 I => h3 .non H' [] (e1.trans I.fh) ⟨rfl, .non⟩ rfl List.nodup_nil (fun _ m => by cases m)
      | bk env => exact h3.elim
      | ct env => exact h3.elim
      | rt x =>
        intro v F' H' fp e1 e2 t r nd hf
        have h3 : MPost K mg H (if x.pure then .ok x else .bad) Q E := h3
        split at h3
        · rename_i hp
          exact h3 v H' fp (e1.trans e2) (Own.moveF e2 (TupIn.refl H') hp r) hp nd fun a m => e1.back (hf a m)
        · exact h3.elim
      | ex x env => exact fun F' H' σ' cls d e1 I xa => h3 H' cls d (e1.trans I.fh) xa
/-- a promise for fewer arguments, or another name for its function -/
theorem FnOk.spec {CX : CXT} {k : Nat} {f : Addr} {fd : FuncData} {ps : List Str} {n : Nat} {m m' : List D → M O} (F : FnOk P w K mg base CX k f fd ps (spF K mg n m)) (h : ∀ ds, ds.length = n → m' ds = m ds ∨ m' ds = .bad) :
    FnOk P w K mg base CX k f fd ps (spF K mg n m') := F.imp fun vs H Q E q => by
  obtain ⟨ds, h1, h2, h3, h4⟩ := q
  refine ⟨ds, h1, h2, ?_, h4⟩
  rcases h ds h2 with e | e
  · rw [← e]; exact h3
  · rw [e] at h3; exact h3.elim
end
/-! ### calls -/
/-- the tuples that came join F -/
def grown (F H H' : Hp) : Hp := fun a => match H a with
  | some _ => F a
  | none => match H' a with
    | some (.tup vs) => some (.tup vs)
    | _ => none
theorem grown_some {F H H' : Hp} (e : Ex F H) {a : Addr} {o : HO} (n : ∀ vs, o ≠ .tup vs) (q : grown F H H' a = some o) : F a = some o := by
  unfold grown at q
  cases c : H a with
  | some u => rw [c] at q; exact q
  | none =>
    simp only [c] at q
    cases c2 : H' a with
    | none => simp only [c2] at q; cases q
    | some z =>
      cases z with
      | tup vs => simp only [c2] at q; cases q; exact absurd rfl (n vs)
      | _ => simp only [c2] at q; cases q
theorem Grow.after {F H H' : Hp} (e : Ex F H) (t : TupIn F H) (h : Ex H H') : Grow F H (grown F H H') H' := by
  refine ⟨h, fun a ha => ?_, ⟨fun a o q n => ?_, fun P tb => ?_, fun a q => ?_, fun a ps q => ?_⟩, fun a vs q => ?_⟩
  · unfold grown
    cases c : H a with
    | none => exact absurd c ha
    | some o => rfl
  · unfold grown at q
    cases c : H a with
    | some u =>
      rw [c] at q
      exact h.at' a o (e.at' a o q n) n
    | none =>
      simp only [c] at q
      cases c2 : H' a with
      | none => simp only [c2] at q; cases q
      | some z =>
        cases z with
        | tup vs => simp only [c2] at q; exact q
        | _ => simp only [c2] at q; cases q
  · obtain ⟨ps, h1, h2, h3⟩ := tb
    refine h.tab P (e.tab P ⟨ps, grown_some e (by intro vs z; cases z) h1, h2, fun pos cv hc => ?_⟩)
    obtain ⟨c, q, e1, e2⟩ := h3 pos cv hc
    exact ⟨c, q, e1, grown_some e (by intro vs z; cases z) e2⟩
  · unfold grown
    rw [h.bk a q]
    simp only [q]
  · have := grown_some e (by intro vs z; cases z) q
    obtain ⟨ps', h'⟩ := e.tb a ps this
    exact h.tb a ps' h'
  · unfold grown
    cases c : H a with
    | some u =>
      have q2 : u = .tup vs := by
        by_cases hu : ∃ ps, u = .tbl ps
        · obtain ⟨ps, rfl⟩ := hu
          obtain ⟨ps', h'⟩ := h.tb a ps c
          rw [q] at h'
          cases h'
        · have := h.at' a u c fun ps z => hu ⟨ps, z⟩
          rw [q] at this
          cases this
          rfl
      subst q2
      exact t a vs c
    | none => simp only [q]
theorem grown_none {F H H' : Hp} {a : Addr} (h : H a = none) (h' : ∀ vs, H' a ≠ some (.tup vs)) : grown F H H' a = none := by
  unfold grown
  rw [h]
  cases c : H' a with
  | none => rfl
  | some o => cases o with
    | tup vs => exact absurd c (h' vs)
    | _ => rfl
def eCall (m : List D → M O) (g : FA) : FE := fun env => do
  let ts ← g env
  let x ← m (ts.map T.data)
  return .o x
theorem call_sem {X : Cx} {W : WX} {es : List Expr} {ta : TA} {g : FA} {n : Nat} {m : List D → M O} (ha : RA X W es ta g) (hl : es.length = n) (hn : ∀ env ts, g env = .ok ts → ts.length = n) {F H : Hp} {env : En} {σ : L2.St} (I : EnvOK X.K X.mg F H env σ) (Q : VK)
    (q : RPost X.K X.mg W F H env (eCall m g env) Q) : ta σ H (fun vs H1 => spF X.K X.mg n m vs H1 Q (WE W σ)) := by
  refine ha.sem F H env σ I _ ?_
  unfold eCall at q
  cases e1 : g env with
  | bad => rw [e1] at q; exact q.elim
  | ex x => rw [e1] at q; exact q
  | ok ts =>
    rw [e1] at q
    simp only [M.bind_ok] at q
    intro vs F1 H1 fp g1 r1 n1 k1
    have I1 := I.grow g1
    refine ⟨ts.map T.data, r1.rep g1.fh, by rw [List.length_map]; exact hn env ts e1, ?_, I1.tb⟩
    cases e2 : m (ts.map T.data) with
    | bad => rw [e2] at q; exact q.elim
    | ex x =>
      rw [e2] at q
      intro H' cls d e3 xa
      have g2 := Grow.after g1.fh g1.tu e3
      exact q _ H' σ cls d ((g1.trans g2).exF I.fh) (I1.grow g2) xa
    | ok x =>
      rw [e2] at q
      intro v H' fq e3 r hp nd k
      have g2 := Grow.after g1.fh g1.tu e3
      have hd : ∀ a ∈ fq, H1 a = none ∧ grown F1 H1 H' a = none := fun a m => by
        refine ⟨k a m, grown_none (k a m) fun vs z => ?_⟩
        obtain ⟨u, hu, mu⟩ := Own.dom r a m
        rw [z] at hu
        cases hu
        exact mu
      exact q v _ H' fq (g1.trans g2) (Own.moveF (Ex.refl H') g2.tu hp r) nd fun a m => ⟨g1.hh.back (hd a m).1, (hd a m).2⟩
theorem aCons_len {g : FE} {h : FA} {n : Nat} (hh : ∀ env ts, h env = .ok ts → ts.length = n) : ∀ env ts, aCons g h env = .ok ts → ts.length = n + 1 := by
  intro env ts q
  unfold aCons at q
  cases e1 : g env with
  | bad => rw [e1] at q; cases q
  | ex x => rw [e1] at q; cases q
  | ok t =>
    rw [e1] at q
    simp only [M.bind_ok] at q
    cases e2 : h env with
    | bad => rw [e2] at q; cases q
    | ex x => rw [e2] at q; cases q
    | ok us =>
      rw [e2] at q
      cases q
      simp [hh env us e2]
theorem aNil_len : ∀ env ts, aNil env = .ok ts → ts.length = 0 := fun env ts q => by cases q; rfl
section
variable {X : Cx} {W : WX} {e : Expr} {es : List Expr} {ta : TA} {g : FA} {p pos : Pos} {x : Str} {f : Addr} {fd : FuncData} {ps : List Str} {k n : Nat} {m : List D → M O}
/-- f(a, b, ..), all arguments written -/
theorem re_call (tk : Takes X W) (G : FnOk X.prog X.w X.K X.mg X.base (L2.CX X.prog X.w) k f fd ps (spF X.K X.mg n m)) (hr : Room k X.A) (hg : Gl X x) (hm : X.mg x = some (.ref f)) (hk : PySem.W.keepIn X.K (.ref f) = true) (hb : Binds X.K fd ps [])
    (ha : RA X W (e :: es) ta g) (hl : (e :: es).length = n) (hn : ∀ env ts, g env = .ok ts → ts.length = n) (hdb : (x == ("__debug__" : Str)) = false := by decide) (he : starEach (e :: es) X.env = (false, eval e X.env) :: starEach es X.env := by rfl) (hpl : (backTo pos (starEach es X.env)).any (·.1) = false := by rfl) :
    RE X W (.Call (.Name x p) (e :: es) [] pos) (tCallS (spF X.K X.mg n m) (WE W) ta) (eCall m g) :=
  ⟨pe_callS G hr hg hm hk hb (passAt tk) ha.pe hdb he hpl, fun F H env σ I Q q => call_sem ha hl hn I Q q⟩
end
end Fu

namespace Fu
open PySem L2 PyProof.Rows

/-! ### what is walked -/
theorem PI.or {X : Cx} {tg e : Expr} {w1 w2 : TI} (h1 : PI X tg e w1) (h2 : PI X tg e w2) : PI X tg e (fun σ H R => w1 σ H R ∨ w2 σ H R) := ⟨fun pins s σ H R I q => by
  rcases q with q | q
  · exact h1.run pins s σ H R I q
  · exact h2.run pins s σ H R I q⟩
/-- what is at hand is shared from now on -/
theorem VPost.share {K : PySem.W.Frag} {mg : Mg} {F H : Hp} {x : O} {Q : VK} (h : VPost K mg F H (.o (.sh x.data)) Q) : VPost K mg F H (.o x) Q := by
  intro v F' H' fp g r nd k
  have e1 : ∀ a ∈ fp, F' a = none := fun a m => (k a m).2
  let F2 : Hp := fun a => if a ∈ fp then H' a else F' a
  have c1 : ∀ a ∈ fp, F2 a = H' a := fun a m => if_pos m
  have c2 : ∀ a, a ∉ fp → F2 a = F' a := fun a m => if_neg m
  have ex : Ex F' F2 := Ex.of fun a o q => by
    by_cases m : a ∈ fp
    · rw [e1 a m] at q; cases q
    · rw [c2 a m]; exact q
  have g2 : Grow F H F2 H' := by
    refine ⟨g.hh, fun a ha => ?_, g.fh.mid fun a => ?_, fun a vs q => ?_⟩
    · rw [c2 a fun m => ha (k a m).1]
      exact g.ff a ha
    · by_cases m : a ∈ fp
      · exact .inr ⟨c1 a m, RepT.dat r a m⟩
      · exact .inl (c2 a m)
    · by_cases m : a ∈ fp
      · rw [c1 a m]; exact q
      · rw [c2 a m]; exact g.tu a vs q
  exact h v F2 H' [] g2 ⟨rfl, Own.freeze ex c1 r⟩ List.nodup_nil (fun _ m => by cases m)
def D.iter : D → Option (List D)
  | .str z => some (z.cps.toList.map fun c => .str ⟨#[c]⟩)
  | d => d.seq
def T.iter : T → Option (List D)
  | .o x => x.data.iter
  | .bo d => if d.flat then d.iter else none
def T.iterC : T → Option (List T)
  | .bo (.lst ds) => some (ds.map .bo)
  | t => t.iter.map fun ds => ds.map fun d => .o (.sh d)
/-- the walk yields these, while F stands -/
def IterS (K : PySem.W.Frag) (mg : Mg) (J : It) (F : Hp) (ds : List D) : Prop := ∀ i F2 H2, Ex F F2 → Ex F2 H2 → (i < ds.length → J.go i H2) ∧ (i = ds.length → J.stop i H2) ∧ ∀ x H3, J.yld i H2 x H3 → H3 = H2 ∧ ∀ d, ds[i]? = some d → Rep K mg F x d
def IterC (K : PySem.W.Frag) (mg : Mg) (J : It) (F H : Hp) (ts : List T) : Prop := ∀ i F2 H2, Ex F F2 → Ex H H2 → Ex F2 H2 → (i < ts.length → J.go i H2) ∧ (i = ts.length → J.stop i H2) ∧ ∀ x H3, J.yld i H2 x H3 → H3 = H2 ∧ ∀ t, ts[i]? = some t → RepT K mg F2 H2 t x []
theorem IterS.c {K : PySem.W.Frag} {mg : Mg} {J : It} {F H : Hp} {ds : List D} (h : IterS K mg J F ds) : IterC K mg J F H (ds.map fun d => .o (.sh d)) := by
  intro i F2 H2 e1 e2 e3
  obtain ⟨a, b, c⟩ := h i F2 H2 e1 e3
  rw [List.length_map]
  refine ⟨a, b, fun x H3 y => ?_⟩
  obtain ⟨c1, c2⟩ := c x H3 y
  refine ⟨c1, fun t q => ?_⟩
  rw [List.getElem?_map] at q
  cases e : ds[i]? with
  | none => rw [e] at q; cases q
  | some d =>
    rw [e] at q
    cases q
    exact ⟨rfl, (c2 d e).mono e1⟩
section
variable (K : PySem.W.Frag) (mg : Mg)
def IPost (W : WX) (F H : Hp) (env : En) (m : M (List D)) (R : It → Hp → Prop) : Prop := match m with
  | .ok ds => ∀ J F' H', Grow F H F' H' → IterS K mg J F' ds → R J H'
  | .ex x => XPost K mg W F x env
  | .bad => False
def ICPost (W : WX) (F H : Hp) (env : En) (m : M (List T)) (R : It → Hp → Prop) : Prop := match m with
  | .ok ts => ∀ J F' H', Grow F H F' H' → IterC K mg J F' H' ts → R J H'
  | .ex x => XPost K mg W F x env
  | .bad => False
end
structure RI (X : Cx) (W : WX) (tg e : Expr) (wi : TI) (g : En → M (List D)) : Prop where
  pi : PI X tg e wi
  sem : ∀ F H env σ, EnvOK X.K X.mg F H env σ → ∀ R, IPost X.K X.mg W F H env (g env) R → wi σ H R
structure RIC (X : Cx) (W : WX) (tg e : Expr) (wi : TI) (g : En → M (List T)) : Prop where
  pi : PI X tg e wi
  sem : ∀ F H env σ, EnvOK X.K X.mg F H env σ → ∀ R, ICPost X.K X.mg W F H env (g env) R → wi σ H R
def itS (g : FE) : En → M (List D) := fun env => do
  let t ← g env
  M.of t.iter
def itC (g : FE) : En → M (List T) := fun env => do
  let t ← g env
  M.of t.iterC
def iSeqF (K : PySem.W.Frag) (te : TE) : TI := fun σ H R => iList K te σ H R ∨ iTup K te σ H R ∨ iStr te σ H R
section
variable {K : PySem.W.Frag} {mg : Mg} {F H : Hp}
theorem iterS_list {a : Addr} {vs : List V} {ds : List D} (sq : SqL K F a vs) (r : RepL K mg F vs ds) : IterS K mg (Itl K a) F ds := by
  intro i F2 H2 e1 e2
  have sq2 := (e1.trans e2).sl sq
  have l := r.len
  refine ⟨fun h => ⟨vs, vs[i], sq2, by simp⟩, fun h => ⟨vs, sq2, by omega⟩, fun x H3 y => ?_⟩
  obtain ⟨c1, c2⟩ := y
  refine ⟨c1, fun d hd => ?_⟩
  obtain ⟨v, q1, q2⟩ := r.get hd
  have := c2 vs sq2
  rw [q1] at this
  cases this
  exact q2
theorem iterC_bo {a : Addr} {vs : List V} {ds : List D} (sq : SqL K H a vs) (r : RepL K mg H vs ds) : IterC K mg (Itl K a) F H (ds.map .bo) := by
  intro i F2 H2 e1 e2 e3
  have sq2 := e2.sl sq
  have l := r.len
  rw [List.length_map]
  refine ⟨fun h => ⟨vs, vs[i], sq2, by simp⟩, fun h => ⟨vs, sq2, by omega⟩, fun x H3 y => ?_⟩
  obtain ⟨c1, c2⟩ := y
  refine ⟨c1, fun t q => ?_⟩
  rw [List.getElem?_map] at q
  cases e : ds[i]? with
  | none => rw [e] at q; cases q
  | some d =>
    rw [e] at q
    cases q
    obtain ⟨v, q1, q2⟩ := r.get e
    have := c2 vs sq2
    rw [q1] at this
    cases this
    exact ⟨rfl, q2.mono e2⟩
theorem SqT.mono {a : Addr} {vs : List V} {H' : Hp} (e : Ex H H') (h : SqT K H a vs) : SqT K H' a vs := by
  rcases h with h | h
  · exact .inl (e.rd h)
  · exact .inr h
theorem iterS_tup {a : Addr} {vs : List V} {ds : List D} (sq : SqT K F a vs) (r : RepL K mg F vs ds) : IterS K mg (Itt K a) F ds := by
  intro i F2 H2 e1 e2
  have sq2 := SqT.mono (e1.trans e2) sq
  have l := r.len
  refine ⟨fun h => ⟨vs, vs[i], sq2, by simp⟩, fun h => ⟨vs, sq2, by omega⟩, fun x H3 y => ?_⟩
  obtain ⟨c1, c2⟩ := y
  refine ⟨c1, fun d hd => ?_⟩
  obtain ⟨v, q1, q2⟩ := r.get hd
  have := c2 vs sq2
  rw [q1] at this
  cases this
  exact q2
theorem iterS_str {z : Str} : IterS K mg (Its z) F (z.cps.toList.map fun c => .str ⟨#[c]⟩) := by
  intro i F2 H2 e1 e2
  rw [List.length_map, Array.length_toList]
  refine ⟨fun h => h, fun h => Nat.le_of_eq h.symm, fun x H3 y => ?_⟩
  obtain ⟨c1, c, c2, c3⟩ := y
  refine ⟨c1, fun d hd => ?_⟩
  rw [List.getElem?_map, Array.getElem?_toList, c2] at hd
  cases hd
  subst c3
  exact .str _
theorem iterS_rng {lo : Int} {n : Nat} : IterS K mg (Itr lo n) F ((List.range n).map fun k => .int (lo + (k : Nat))) := by
  intro i F2 H2 e1 e2
  rw [List.length_map, List.length_range]
  refine ⟨fun h => h, fun h => Nat.le_of_eq h.symm, fun x H3 y => ?_⟩
  obtain ⟨c1, c2⟩ := y
  refine ⟨c1, fun d hd => ?_⟩
  rw [List.getElem?_map] at hd
  cases c : (List.range n)[i]? with
  | none => rw [c] at hd; cases hd
  | some k =>
    rw [c] at hd
    cases hd
    have : k = i := by
      obtain ⟨h1, h2⟩ := List.getElem?_eq_some_iff.mp c
      simpa using h2.symm
    subst this c2
    exact .int _
end
theorem D.iter_kinds {d : D} {ds : List D} (h : d.iter = some ds) : (∃ z, d = .str z ∧ ds = z.cps.toList.map fun c => .str ⟨#[c]⟩) ∨ d.seq = some ds := by
  unfold D.iter at h
  split at h
  · rename_i z
    cases h
    exact .inl ⟨z, rfl, rfl⟩
  · exact .inr h
section
variable {X : Cx} {W : WX} {tg e : Expr} {te : TE} {ge : FE}
theorem pi_seqF (he : PE X e te) : PI X tg e (iSeqF X.K te) := PI.or (pi_list he) (PI.or (pi_tup he) (pi_str he))
/-- from a post of the walked thing -/
theorem seqF_sem {F H : Hp} {env : En} {σ : L2.St} {t : T} {R : It → Hp → Prop} (hte : ∀ Q : VK, VPost X.K X.mg F H t Q → te σ H Q) {ds : List D} (hi : t.iter = some ds)
    (h : ∀ J F' H', Grow F H F' H' → IterS X.K X.mg J F' ds → R J H') : iSeqF X.K te σ H R := by
  have key : ∀ d : D, d.iter = some ds → ∀ (hte : ∀ Q : VK, (∀ v F' H', Grow F H F' H' → Rep X.K X.mg F' v d → Q v H') → te σ H Q), iSeqF X.K te σ H R := by
    intro d hd hte
    rcases D.iter_kinds hd with ⟨z, rfl, rfl⟩ | hs
    · refine .inr (.inr (hte _ fun v F' H' g r => ?_))
      cases r
      exact ⟨z, rfl, h _ F' H' g iterS_str⟩
    · cases d with
      | lst xs =>
        cases hs
        refine .inl (hte _ fun v F' H' g r => ?_)
        cases r with
        | lst h1 r => exact ⟨_, rfl, ⟨_, .inl (.inl (g.fh.at h1))⟩, h _ F' H' g (iterS_list (.inl (.inl h1)) r)⟩
      | rol xs =>
        cases hs
        refine .inl (hte _ fun v F' H' g r => ?_)
        cases r with
        | rol h1 r => exact ⟨_, rfl, ⟨_, g.fh.sl h1⟩, h _ F' H' g (iterS_list h1 r)⟩
      | tup xs =>
        cases hs
        refine .inr (.inl (hte _ fun v F' H' g r => ?_))
        cases r with
        | tup h1 r => exact ⟨_, rfl, ⟨_, SqT.mono g.fh h1.sq⟩, h _ F' H' g (iterS_tup h1.sq r)⟩
      | kup xs =>
        cases hs
        refine .inr (.inl (hte _ fun v F' H' g r => ?_))
        cases r with
        | kup h1 z => subst z; exact ⟨_, rfl, ⟨_, h1.sq⟩, h _ F' H' g (iterS_tup h1.sq RepL.ints)⟩
      | _ => cases hs
  cases t with
  | o x =>
    refine key x.data hi fun Q q => hte Q (VPost.share fun v F' H' fp g r _ _ => q v F' H' g r.2)
  | bo d =>
    have hi : (if d.flat then d.iter else none) = some ds := hi
    split at hi
    · rename_i hf
      exact key d hi fun Q q => hte Q fun v F' H' fp g r _ _ => q v F' H' g (r.2.flat g.tu hf)
    · cases hi
theorem ri_seq (he : RE X W e te ge) : RI X W tg e (iSeqF X.K te) (itS ge) := by
  refine ⟨pi_seqF he.pe, fun F H env σ I R q => ?_⟩
  unfold itS at q
  have hs := he.sem F H env σ I
  cases c : ge env with
  | bad => rw [c] at q; exact q.elim
  | ex x =>
    rw [c] at q hs
    exact .inl (hs _ q)
  | ok t =>
    rw [c] at q hs
    simp only [M.bind_ok] at q
    cases c2 : t.iter with
    | none => rw [c2] at q; exact q.elim
    | some ds =>
      rw [c2] at q
      exact seqF_sem (env := env) (t := t) (fun Q z => hs Q z) c2 q
theorem ric_seq (he : RE X W e te ge) : RIC X W tg e (iSeqF X.K te) (itC ge) := by
  refine ⟨pi_seqF he.pe, fun F H env σ I R q => ?_⟩
  unfold itC at q
  have hs := he.sem F H env σ I
  cases c : ge env with
  | bad => rw [c] at q; exact q.elim
  | ex x =>
    rw [c] at q hs
    exact .inl (hs _ q)
  | ok t =>
    rw [c] at q hs
    simp only [M.bind_ok] at q
    have rest : ∀ ts, (t.iter.map fun ds => ds.map fun d => T.o (.sh d)) = some ts → ICPost X.K X.mg W F H env (.ok ts) R → iSeqF X.K te σ H R := by
      intro ts e1 q
      cases c2 : t.iter with
      | none => rw [c2] at e1; cases e1
      | some ds =>
        rw [c2] at e1
        cases e1
        exact seqF_sem (env := env) (t := t) (fun Q z => hs Q z) c2 fun J F' H' g i => q J F' H' g i.c
    cases c3 : t.iterC with
    | none => rw [c3] at q; exact q.elim
    | some ts =>
      rw [c3] at q
      cases t with
      | o x => exact rest ts c3 q
      | bo d =>
        cases d with
        | lst ds =>
          cases c3
          refine .inl (hs _ fun v F' H' fp g r _ _ => ?_)
          obtain ⟨_, r⟩ := r
          cases r with
          | lst h1 r => exact ⟨_, rfl, ⟨_, .inl (.inl h1)⟩, q _ F' H' g (iterC_bo (.inl (.inl h1)) r)⟩
        | _ => exact rest ts c3 q
/-! ranges -/
def itR1 (g : FA) : En → M (List D) := fun env => do
  let ts ← g env
  match ts.map T.data with
  | [.int n] => if -(2 ^ 62) ≤ n ∧ n < 2 ^ 62 then .ok ((List.range n.toNat).map fun k => .int ((k : Nat) : Int)) else .bad
  | _ => .bad
def itR2 (g : FA) : En → M (List D) := fun env => do
  let ts ← g env
  match ts.map T.data with
  | [.int m, .int n] => if -(2 ^ 62) ≤ m ∧ m < 2 ^ 62 ∧ -(2 ^ 62) ≤ n ∧ n < 2 ^ 62 then .ok ((List.range (n - m).toNat).map fun k => .int (m + ((k : Nat) : Int))) else .bad
  | _ => .bad
def mSh (m : M (List D)) : M (List T) := do
  let ds ← m
  return ds.map fun d => .o (.sh d)
theorem RI.c {wi : TI} {g : En → M (List D)} (h : RI X W tg e wi g) : RIC X W tg e wi (fun env => mSh (g env)) := by
  refine ⟨h.pi, fun F H env σ I R q => h.sem F H env σ I R ?_⟩
  unfold mSh at q
  cases c : g env with
  | bad => rw [c] at q; exact q.elim
  | ex x => rw [c] at q; exact q
  | ok ds => rw [c] at q; exact fun J F' H' gr i => q J F' H' gr i.c
variable {a b : Expr} {ta : TA} {ga : FA} {p pos : Pos}
theorem ri_range1 (hg : Gl X "range") (hm : X.mg "range" = none) (ha : RA X W [a] ta ga) (hs : starEach [a] X.env = [(false, eval a X.env)] := by rfl) : RI X W tg (.Call (.Name "range" p) [a] [] pos) (iRng1 ta) (itR1 ga) := by
  refine ⟨pi_range1 hg hm ha.pe hs, fun F H env σ I R q => ha.sem F H env σ I _ ?_⟩
  unfold itR1 at q
  cases c : ga env with
  | bad => rw [c] at q; exact q.elim
  | ex x => rw [c] at q; exact q
  | ok ts =>
    rw [c] at q
    simp only [M.bind_ok] at q
    intro vs F' H' fp g r _ _
    have rr := r.rep g.fh
    split at q
    · rename_i n e1
      rw [e1] at rr
      split at q
      · rename_i hb
        cases rr with
        | cons h1 h2 =>
          cases h2
          cases h1
          have i := iterS_rng (K := X.K) (mg := X.mg) (F := F') (lo := 0) (n := n.toNat)
          simp only [Int.zero_add] at i
          exact ⟨n, rfl, hb.1, hb.2, q _ F' H' g i⟩
      · exact q.elim
    · exact q.elim
theorem ri_range2 (hg : Gl X "range") (hm : X.mg "range" = none) (ha : RA X W [a, b] ta ga) (hs : starEach [a, b] X.env = [(false, eval a X.env), (false, eval b X.env)] := by rfl) (hs2 : starEach [b] X.env = [(false, eval b X.env)] := by rfl) : RI X W tg (.Call (.Name "range" p) [a, b] [] pos) (iRng2 ta) (itR2 ga) := by
  refine ⟨pi_range2 hg hm ha.pe hs hs2, fun F H env σ I R q => ha.sem F H env σ I _ ?_⟩
  unfold itR2 at q
  cases c : ga env with
  | bad => rw [c] at q; exact q.elim
  | ex x => rw [c] at q; exact q
  | ok ts =>
    rw [c] at q
    simp only [M.bind_ok] at q
    intro vs F' H' fp g r _ _
    have rr := r.rep g.fh
    split at q
    · rename_i m n e1
      rw [e1] at rr
      split at q
      · rename_i hb
        cases rr with
        | cons h1 h2 =>
          cases h2 with
          | cons h2 h3 =>
            cases h3
            cases h1
            cases h2
            exact ⟨m, n, rfl, hb, q _ F' H' g iterS_rng⟩
      · exact q.elim
    · exact q.elim
end

/-! ### for -/
def loopS (b : FG) (body : FS) : List D → Sn → Option Out
  | [], env => some (.nx env)
  | d :: ds, env => match b (.sh d) env with
    | none => none
    | some env1 => match body env1 with
      | some (.nx env2) => loopS b body ds env2
      | some (.ct env2) => loopS b body ds env2
      | some (.bk env2) => some (.nx env2)
      | o => o
def forS (it : En → M (List D)) (b : FG) (body : FS) : FS := fun env => onE (it (up env)) env fun ds => loopS b body ds env
theorem EnvOK.f {K : PySem.W.Frag} {mg : Mg} {F H : Hp} {env : En} {σ : L2.St} (I : EnvOK K mg F H env σ) : EnvF K mg F H env σ [] := by
  obtain ⟨fp, a, b, c⟩ := I.sl
  exact ⟨I.fh, I.tu, I.tb, fp, by simpa using a, by simpa using b, c⟩
section
variable {X : Cx} {W : WX} {tg e : Expr} {wi : TI} {gt : TG} {b : FG} {it : En → M (List D)} {body : List Stmt} {tb : TS} {gb : FS} {pos : Pos}
theorem rs_for (hp : PassesOwn (model X.prog X.w) X.A X.env X.xe) (hc : X.calm = true) (hi : RI X W tg e wi it) (hg : RG X tg gt b) (hb : RB X W body tb gb) (hs : ∀ x, foldedSetIterable e X.env x = pure x := by intro _; rfl) :
    RS X W (.For tg e body [] pos) (tFor wi gt tb) (forS it b gb) := by
  refine ⟨ps_for hp hc hi.pi hg.pg hb.ps hs, fun F H env σ D I q => hi.sem F H (up env) σ I _ ?_⟩
  unfold forS at q
  cases c : it (up env) with
  | bad => rw [c] at q; exact q.elim
  | ex x => rw [c] at q; exact q
  | ok ds =>
    rw [c] at q
    simp only [onE_ok] at q
    intro J F1 H1 g1 i1
    have q := SPost.from (g1.exF I.fh) q
    have I1 := I.grow g1
    let Pv : Nat → L2.St → Hp → Prop := fun i σ H => ∃ F' env', Ex F1 F' ∧ EnvOK X.K X.mg F' H (up env') σ ∧ loopS b gb (ds.drop i) env' = loopS b gb ds env
    refine ⟨fun i m σ H => m = ds.length - i ∧ i ≤ ds.length ∧ Pv i σ H, ⟨ds.length, by simp, Nat.zero_le _, F1, env, Ex.refl F1, I1, by simp⟩, ?_⟩
    rintro i m σ' H' ⟨rfl, hl, F', env', e1, I', hr⟩
    obtain ⟨j1, j2, j3⟩ := i1 i F' H' e1 I'.fh
    by_cases hlt : i < ds.length
    · refine .inr ⟨j1 hlt, Pv (i + 1), fun σ2 H2 p => ⟨ds.length - (i + 1), by omega, rfl, hlt, p⟩, fun x H3 y => ?_⟩
      obtain ⟨e3, k⟩ := j3 x H3 y
      subst e3
      have hd : ds[i]? = some ds[i] := by simp
      have rx := (k ds[i] hd).mono e1
      rw [List.drop_eq_getElem_cons hlt] at hr
      rw [loopS] at hr
      cases c2 : b (.sh ds[i]) env' with
      | none => rw [c2] at hr; simp only at hr; rw [← hr] at q; exact q.elim
      | some env1 =>
        rw [c2] at hr
        simp only at hr
        refine hg.sem F' H3 env' σ' (.sh ds[i]) x [] [] _ env1 (I'.f) ⟨rfl, rx⟩ c2 fun σ2 I2 => ?_
        refine hb.sem F' H3 env1 σ2 _ I2.ok ?_
        cases c3 : gb env1 with
        | none => rw [c3] at hr; simp only at hr; rw [← hr] at q; exact q.elim
        | some o =>
          rw [c3] at hr
          cases o with
          | nx env2 => exact fun F2 H2 σ3 e4 I3 => ⟨F2, env2, e1.trans e4, I3, hr⟩
          | ct env2 => exact fun F2 H2 σ3 e4 I3 => ⟨F2, env2, e1.trans e4, I3, hr⟩
          | bk env2 =>
            simp only at hr
            rw [← hr] at q
            exact fun F2 H2 σ3 e4 I3 => q F2 H2 σ3 (e1.trans e4) I3
          | rt x =>
            simp only at hr
            rw [← hr] at q
            exact fun v F2 H2 fp e4 => q v F2 H2 fp (e1.trans e4)
          | ex x env2 =>
            simp only at hr
            rw [← hr] at q
            exact XPost.from e1 q
    · have hi' : i = ds.length := by omega
      subst hi'
      rw [List.drop_length] at hr
      rw [← hr] at q
      exact .inl ⟨j2 rfl, q F' H' σ' e1 I'⟩
end

/-! ### while -/
def wloop (c : FT) (body : FS) : Nat → Sn → Option Out
  | 0, _ => none
  | n + 1, env => onE (c (up env)) env fun k => if k then (match body env with
      | some (.nx env2) => wloop c body n env2
      | some (.ct env2) => wloop c body n env2
      | some (.bk env2) => some (.nx env2)
      | o => o) else some (.nx env)
open Classical in
noncomputable def whileS (c : FT) (body : FS) : FS := fun env => if h : ∃ n, wloop c body n env ≠ none then wloop c body h.choose env else none
theorem wloop_more {c : FT} {body : FS} : ∀ {n : Nat} {env : Sn} {o : Out}, wloop c body n env = some o → wloop c body (n + 1) env = some o
  | 0, env, o, h => by cases h
  | n + 1, env, o, h => by
    rw [wloop] at h ⊢
    cases e : c (up env) with
    | bad => rw [e] at h; cases h
    | ex x => rw [e] at h; exact h
    | ok k =>
      rw [e] at h
      simp only [onE_ok] at h ⊢
      cases k with
      | false => exact h
      | true =>
        simp only [if_true] at h ⊢
        cases e2 : body env with
        | none => rw [e2] at h; cases h
        | some u =>
          rw [e2] at h
          cases u with
          | nx env2 => exact wloop_more h
          | ct env2 => exact wloop_more h
          | bk env2 => exact h
          | rt x => exact h
          | ex x env2 => exact h
theorem wloop_le {c : FT} {body : FS} {n m : Nat} {env : Sn} {o : Out} (h : wloop c body n env = some o) (hl : n ≤ m) : wloop c body m env = some o := by
  induction hl with
  | refl => exact h
  | step _ ih => exact wloop_more ih
theorem whileS_of {c : FT} {body : FS} {n : Nat} {env : Sn} {o : Out} (h : wloop c body n env = some o) : whileS c body env = some o := by
  have hx : ∃ n, wloop c body n env ≠ none := ⟨n, by rw [h]; intro z; cases z⟩
  unfold whileS
  rw [dif_pos hx]
  cases e : wloop c body hx.choose env with
  | none => exact absurd e hx.choose_spec
  | some u =>
    have h1 := wloop_le e (Nat.le_max_left hx.choose n)
    have h2 := wloop_le h (Nat.le_max_right hx.choose n)
    rw [h1] at h2
    exact h2
theorem whileS_ex {c : FT} {body : FS} {env : Sn} {o : Out} (h : whileS c body env = some o) : ∃ n, wloop c body n env = some o := by
  unfold whileS at h
  split at h
  · rename_i hx
    exact ⟨_, h⟩
  · cases h
section
variable {X : Cx} {W : WX} {e : Expr} {tc : TT} {gc : FT} {body : List Stmt} {tb : TS} {gb : FS} {pos : Pos}
theorem rs_while (hp : PassesOwn (model X.prog X.w) X.A X.env X.xe) (hc : RT X W e tc gc) (hb : RB X W body tb gb) : RS X W (.While e body [] pos) (tWhile tc tb) (whileS gc gb) := by
  refine ⟨ps_while hp hc.pe hb.ps, fun F H env σ D I q => ?_⟩
  cases e1 : whileS gc gb env with
  | none => rw [e1] at q; exact q.elim
  | some o =>
    rw [e1] at q
    obtain ⟨n, hn⟩ := whileS_ex e1
    refine ⟨fun m σ H => ∃ F' env', Ex F F' ∧ EnvOK X.K X.mg F' H (up env') σ ∧ wloop gc gb m env' = some o, ⟨n, F, env, Ex.refl F, I, hn⟩, ?_⟩
    rintro m σ1 H1 ⟨F1, env1, x1, I1, h1⟩
    cases m with
    | zero => cases h1
    | succ m =>
      rw [wloop] at h1
      refine hc.sem F1 H1 (up env1) σ1 I1 _ ?_
      cases e2 : gc (up env1) with
      | bad => rw [e2] at h1; cases h1
      | ex x =>
        rw [e2] at h1
        cases h1
        exact XPost.from x1 q
      | ok k =>
        rw [e2] at h1
        simp only [onE_ok] at h1
        intro F2 H2 g2
        have I2 := I1.grow g2
        have x2 := x1.trans (g2.exF I1.fh)
        cases k with
        | false =>
          simp only [Bool.false_eq_true, if_false] at h1
          cases h1
          exact q F2 H2 σ1 x2 I2
        | true =>
          simp only [if_true] at h1
          rw [if_pos rfl]
          refine ⟨fun σ' H' => ∃ F' env', Ex F F' ∧ EnvOK X.K X.mg F' H' (up env') σ' ∧ wloop gc gb m env' = some o, fun σ' H' p => ⟨m, Nat.lt_succ_self m, p⟩, ?_⟩
          refine hb.sem F2 H2 env1 σ1 _ I2 ?_
          cases e3 : gb env1 with
          | none => rw [e3] at h1; cases h1
          | some u =>
            rw [e3] at h1
            cases u with
            | nx env2 => exact fun F3 H3 σ3 x3 I3 => ⟨F3, env2, x2.trans x3, I3, h1⟩
            | ct env2 => exact fun F3 H3 σ3 x3 I3 => ⟨F3, env2, x2.trans x3, I3, h1⟩
            | bk env2 =>
              cases h1
              exact fun F3 H3 σ3 x3 I3 => q F3 H3 σ3 (x2.trans x3) I3
            | rt x =>
              cases h1
              exact fun v F3 H3 fp x3 => q v F3 H3 fp (x2.trans x3)
            | ex x env2 =>
              cases h1
              exact XPost.from x2 q
def brkS : FS := fun env => some (.bk env)
def cntS : FS := fun env => some (.ct env)
theorem rs_break : RS X W (.Break pos) tBreak brkS := ⟨ps_break, fun F H env σ D I q => q F H σ (Ex.refl F) I⟩
theorem rs_continue : RS X W (.Continue pos) tCont cntS := ⟨ps_continue, fun F H env σ D I q => q F H σ (Ex.refl F) I⟩
theorem rs_pass : RS X W (.Pass pos) tNext skipS := ⟨ps_pass, fun F H env σ D I q => q F H σ (Ex.refl F) I⟩
end
end Fu

namespace Fu
open PySem L2 PyProof.Rows

/-! ### comprehensions -/
abbrev W0 : WX := fun _ _ _ _ => False
def wipeE (env : En) : List Nat → En
  | [] => env
  | v :: vs => (wipeE env vs).set v none
def Keeps (is : List Nat) (σ σ' : L2.St) : Prop := σ'.length = σ.length ∧ ∀ j, j ∉ is → σ'[j]? = σ[j]?
theorem wipe_get (σ : L2.St) (j : Nat) : ∀ vs : List Nat, (wipe σ vs)[j]? = if j ∈ vs ∧ j < σ.length then some none else σ[j]?
  | [] => by simp [wipe]
  | v :: vs => by
    unfold wipe
    rw [List.getElem?_set, wipe_get σ j vs, wipe_length]
    by_cases h : v = j
    · subst h
      by_cases hl : v < σ.length
      · simp [hl]
      · simp [hl]
    · have h' : ¬ j = v := fun z => h z.symm
      simp only [h, if_false, List.mem_cons, h', false_or]
theorem wipe_keeps {σ σ2 : L2.St} {is vs : List Nat} (k : Keeps is (wipe σ vs) σ2) (h : ∀ i ∈ is, i ∈ vs) : wipe σ2 vs = wipe σ vs := by
  obtain ⟨k1, k2⟩ := k
  rw [wipe_length] at k1
  apply List.ext_getElem?
  intro j
  rw [wipe_get, wipe_get, k1]
  by_cases c : j ∈ vs ∧ j < σ.length
  · rw [if_pos c, if_pos c]
  · rw [if_neg c, if_neg c]
    by_cases m : j ∈ is
    · have hv := h j m
      have hl : ¬ j < σ.length := fun z => c ⟨hv, z⟩
      rw [List.getElem?_eq_none (by omega), List.getElem?_eq_none (by omega)]
    · rw [k2 j m, wipe_get, if_neg c]
theorem Keeps.refl (is : List Nat) (σ : L2.St) : Keeps is σ σ := ⟨rfl, fun _ _ => rfl⟩
theorem Keeps.set (i : Nat) (σ : L2.St) (x : Option V) : Keeps [i] σ (σ.set i x) := ⟨List.length_set, fun j h => by
  rw [List.getElem?_set_ne]
  intro z
  exact h (by simp [z])⟩
theorem Keeps.trans {is js : List Nat} {σ σ1 σ2 : L2.St} (a : Keeps is σ σ1) (b : Keeps js σ1 σ2) : Keeps (is ++ js) σ σ2 := ⟨b.1.trans a.1, fun j h => by
  rw [List.mem_append, not_or] at h
  rw [b.2 j h.2, a.2 j h.1]⟩
section
variable {K : PySem.W.Frag} {mg : Mg} {F H : Hp}
theorem Slots.clear : ∀ {env : En} {σ : L2.St} {fp : List Addr} (i : Nat), Slots K mg F H env σ fp → fp.Nodup → ∃ fq, Slots K mg F H (env.set i none) (σ.set i none) fq ∧ fq.Nodup ∧ (∀ a ∈ fq, a ∈ fp)
  | [], σ, fp, i, h, nd => by
    obtain ⟨e1, e2⟩ := h
    subst e1 e2
    exact ⟨[], ⟨rfl, rfl⟩, List.nodup_nil, fun a m => by cases m⟩
  | e :: env, σ, fp, 0, h, nd => by
    obtain ⟨s, τ, f1, f2, e1, e2, h1, h2⟩ := h
    subst e1 e2
    exact ⟨f2, ⟨_, _, [], f2, rfl, rfl, rfl, h2⟩, (List.nodup_append.mp nd).2.1, fun a m => List.mem_append_right _ m⟩
  | e :: env, σ, fp, i + 1, h, nd => by
    obtain ⟨s, τ, f1, f2, e1, e2, h1, h2⟩ := h
    subst e1 e2
    have n1 := List.nodup_append.mp nd
    obtain ⟨fq, k1, k2, k3⟩ := Slots.clear i h2 n1.2.1
    refine ⟨f1 ++ fq, ⟨_, _, f1, fq, rfl, rfl, h1, k1⟩, List.nodup_append.mpr ⟨n1.1, k2, fun a m b m' z => ?_⟩, fun a m => ?_⟩
    · subst z
      exact n1.2.2 a m a (k3 a m') rfl
    · rcases List.mem_append.mp m with m | m
      · exact List.mem_append_left _ m
      · exact List.mem_append_right _ (k3 a m)
theorem EnvOK.clear {env : En} {σ : L2.St} (I : EnvOK K mg F H env σ) (i : Nat) : EnvOK K mg F H (env.set i none) (σ.set i none) := by
  obtain ⟨fp, nd, hf, hs⟩ := I.sl
  obtain ⟨fq, k1, k2, k3⟩ := hs.clear i nd
  exact ⟨I.fh, I.tu, I.tb, fq, k2, fun a m => hf a (k3 a m), k1⟩
theorem EnvOK.wipe {env : En} {σ : L2.St} (I : EnvOK K mg F H env σ) : ∀ vs : List Nat, EnvOK K mg F H (wipeE env vs) (wipe σ vs)
  | [] => I
  | v :: vs => (EnvOK.wipe I vs).clear v
theorem EnvOK.put {env : En} {σ : L2.St} (I : EnvOK K mg F H env σ) (i : Nat) {t : T} {v : V} (r : RepT K mg F H t v []) : EnvOK K mg F H (env.set i (some t)) (σ.set i (some v)) := (EnvF.set (f1 := []) (f2 := []) (by simpa using I.f) i r).ok
end
/-! targets of comprehensions -/
abbrev FGc := T → En → Option En
structure RGc (X : Cx) (tg : Expr) (gt : TG) (b : FGc) (is : List Nat) : Prop where
  pg : PG X tg gt
  sem : ∀ F H env σ t v Q env', EnvOK X.K X.mg F H env σ → RepT X.K X.mg F H t v [] → b t env = some env' → (∀ σ', EnvOK X.K X.mg F H env' σ' → Keeps is σ σ' → Q σ' H) → gt v σ H Q
structure RGcs (X : Cx) (tg : List Expr) (gt : TGs) (b : List T → En → Option En) (is : List Nat) : Prop where
  pg : PGs X tg gt
  sem : ∀ F H env σ ts vs Q env', EnvOK X.K X.mg F H env σ → RepTs X.K X.mg F H ts vs [] → b ts env = some env' → (∀ σ', EnvOK X.K X.mg F H env' σ' → Keeps is σ σ' → Q σ' H) → gt vs σ H Q
def cName (i : Nat) : FGc := fun t env => some (env.set i (some t))
def cNil : List T → En → Option En := fun ts env => match ts with
  | [] => some env
  | _ => none
def cCons (b : FGc) (bs : List T → En → Option En) : List T → En → Option En := fun ts env => match ts with
  | t :: ts => (b t env).bind (bs ts)
  | [] => none
def T.parts : T → Option (List T)
  | .o (.sh d) => d.tupItems.map (·.map fun d => .o (.sh d))
  | .bo d => d.tupItems.map (·.map .bo)
  | _ => none
def cTup (n : Nat) (bs : List T → En → Option En) : FGc := fun t env => match t.parts with
  | some ts => if ts.length = n then bs ts env else none
  | none => none
section
variable {X : Cx} {pos : Pos}
theorem rgc_name (i : Nat) {x : Str} (hN : X.N.Nodup) (hi : X.N[i]? = some x := by rfl) (hx : Loc X.env.scope x := by first | exact Or.inl rfl | exact Or.inr rfl) (hf : X.fn x = true ∨ X.env.scope.names.lookup x = some .local := by first | exact .inl rfl | exact .inr rfl) : RGc X (.Name x pos) (gName i) (cName i) [i] :=
  ⟨pg_name hN hi hx hf, fun F H env σ t v Q env' I r h k => by
    cases h
    exact k _ (I.put i r) (Keeps.set i σ _)⟩
theorem rgcs_nil : RGcs X [] gNil cNil [] := ⟨pgs_nil, fun F H env σ ts vs Q env' I r h k => by
  cases ts with
  | nil =>
    cases h
    exact ⟨r.1, k σ I (Keeps.refl _ _)⟩
  | cons x xs => cases h⟩
theorem rgcs_cons {e : Expr} {es : List Expr} {t : TG} {u : TGs} {b : FGc} {bs : List T → En → Option En} {is js : List Nat} (h1 : RGc X e t b is) (h2 : RGcs X es u bs js)
    (hs : (assignEach (e :: es) X.env).map (·.2) = assign e X.env :: (assignEach es X.env).map (·.2) := by rfl) : RGcs X (e :: es) (gCons t u) (cCons b bs) (is ++ js) := by
  refine ⟨pgs_cons h1.pg h2.pg hs, fun F H env σ ts vs Q env' I r h k => ?_⟩
  cases ts with
  | nil => cases h
  | cons x xs =>
    obtain ⟨w, ws, g1, g2, e1, e2, r1, r2⟩ := r
    obtain ⟨e3, e4⟩ := List.append_eq_nil_iff.mp e2.symm
    subst e1 e3 e4
    refine ⟨w, ws, rfl, ?_⟩
    have h : (b x env).bind (bs xs) = some env' := h
    cases c : b x env with
    | none => rw [c] at h; cases h
    | some env1 =>
      rw [c] at h
      have h : bs xs env1 = some env' := h
      exact h1.sem F H env σ x w _ env1 I r1 c fun σ1 I1 k1 => h2.sem F H env1 σ1 xs ws _ env' I1 r2 h fun σ2 I2 k2 => k σ2 I2 (k1.trans k2)
theorem RepL.ts {K : PySem.W.Frag} {mg : Mg} {F H : Hp} : ∀ {ds : List D} {vs : List V}, RepL K mg F vs ds → RepTs K mg F H (ds.map fun d => .o (.sh d)) vs []
  | [], _, h => by cases h; exact ⟨rfl, rfl⟩
  | d :: ds, _, h => by
    cases h with
    | cons h r => exact ⟨_, _, [], [], rfl, rfl, ⟨rfl, h⟩, RepL.ts r⟩
theorem RepL.bs {K : PySem.W.Frag} {mg : Mg} {F H : Hp} : ∀ {ds : List D} {vs : List V}, RepL K mg H vs ds → RepTs K mg F H (ds.map .bo) vs []
  | [], _, h => by cases h; exact ⟨rfl, rfl⟩
  | d :: ds, _, h => by
    cases h with
    | cons h r => exact ⟨_, _, [], [], rfl, rfl, ⟨rfl, h⟩, RepL.bs r⟩
theorem RepTs.len {K : PySem.W.Frag} {mg : Mg} {F H : Hp} : ∀ {ts : List T} {vs : List V} {fp : List Addr}, RepTs K mg F H ts vs fp → vs.length = ts.length
  | [], _, _, h => by rw [h.1]; rfl
  | t :: ts, _, _, h => by
    obtain ⟨w, ws, f1, f2, e1, e2, h1, h2⟩ := h
    subst e1
    simp [RepTs.len h2]
theorem RepT.parts {K : PySem.W.Frag} {mg : Mg} {F H : Hp} {t : T} {v : V} {ts : List T} (e : Ex F H) (r : RepT K mg F H t v []) (h : t.parts = some ts) : ∃ a vs, v = .ref a ∧ SqT K H a vs ∧ RepTs K mg F H ts vs [] := by
  cases t with
  | bo d =>
    have h : d.tupItems.map (·.map T.bo) = some ts := h
    cases c : d.tupItems with
    | none => rw [c] at h; cases h
    | some ds =>
      rw [c] at h
      cases h
      obtain ⟨a, vs, e2, sq, r⟩ := r.2.tupAt c
      exact ⟨a, vs, e2, sq, RepL.bs r⟩
  | o x =>
    cases x with
    | sh d =>
      have h : d.tupItems.map (·.map fun d => T.o (.sh d)) = some ts := h
      cases c : d.tupItems with
      | none => rw [c] at h; cases h
      | some ds =>
        rw [c] at h
        cases h
        obtain ⟨a, vs, e2, sq, r⟩ := r.2.tupAt c
        exact ⟨a, vs, e2, SqT.mono e sq, RepL.ts r⟩
    | _ => cases h
theorem rgc_tup {es : List Expr} {k : Nat} {t : TGs} {n : Nat} {bs : List T → En → Option En} {is : List Nat} (hc : X.calm = true) (h : RGcs X es t bs is)
    (hn : (assignEach es X.env).length = n := by rfl) (hst : (assignEach es X.env).findIdx? (·.1) = none := by rfl) : RGc X (.Tuple es k pos) (gTup X.K n t) (cTup n bs) is := by
  refine ⟨pg_tup hc h.pg hn hst, fun F H env σ x v Q env' I r q k => ?_⟩
  unfold cTup at q
  split at q
  · rename_i ts e1
    split at q
    · rename_i hl
      obtain ⟨a, vs, e2, sq, r⟩ := RepT.parts I.fh r e1
      exact ⟨a, vs, e2, sq, r.len.trans hl, h.sem F H env σ ts vs Q env' I r q k⟩
    · cases q
  · cases q
end
/-! tests of comprehensions -/
structure RTs (X : Cx) (W : WX) (es : List Expr) (tt : TT) (g : FT) : Prop where
  pe : PTs X es tt
  sem : ∀ F H env σ, EnvOK X.K X.mg F H env σ → ∀ Q : Bool → Hp → Prop, TPost X.K X.mg W F H env (g env) Q → tt σ H Q
def yesT : FT := fun _ => .ok true
section
variable {X : Cx} {W : WX}
theorem rts_nil : RTs X W [] tYes yesT := ⟨pts_nil, fun F H env σ I Q q => q F H (Grow.refl I.fh I.tu)⟩
theorem rts_one {e : Expr} {tt : TT} {g : FT} (h : RT X W e tt g) : RTs X W [e] tt g := ⟨pts_one h.pe, h.sem⟩
end
def compL (b : FGc) (c : FT) (e : FE) (env : En) : List T → Option (List O)
  | [] => some []
  | t :: ts => match b t env with
    | none => none
    | some env1 => match c env1 with
      | .ok true => (match e env1 with
        | .ok y => (match y.keep, compL b c e env ts with
          | some x, some xs => some (x :: xs)
          | _, _ => none)
        | _ => none)
      | .ok false => compL b c e env ts
      | _ => none
def eComp (it : En → M (List T)) (vs : List Nat) (b : FGc) (c : FT) (e : FE) : FE := fun env => do
  let ts ← it env
  let os ← M.of (compL b c e (wipeE env vs) ts)
  if os.length ≤ sizeLine then .ok (.o (.lst os)) else .bad
section
variable {X : Cx} {W : WX} {wi : TI} {it : En → M (List T)} {gt : TG} {b : FGc} {is vs : List Nat} {tt : TT} {c : FT} {te : TE} {ge : FE}
theorem compL_len {env : En} : ∀ {ts : List T} {os : List O}, compL b c ge env ts = some os → os.length ≤ ts.length
  | [], os, h => by cases h; exact Nat.le_refl _
  | t :: ts, os, h => by
    rw [compL] at h
    split at h
    · cases h
    · split at h
      · split at h
        · split at h
          · rename_i x xs _ h2
            cases h
            have := compL_len h2
            simp only [List.length_cons]; omega
          · cases h
        · cases h
      · have := compL_len h
        simp only [List.length_cons]; omega
      · cases h
theorem comp_sem {K : PySem.W.Frag} {mg : Mg} (hi : ∀ F H env σ, EnvOK K mg F H env σ → ∀ R, ICPost K mg W F H env (it env) R → wi σ H R)
    (hg : ∀ F H env σ t v Q env', EnvOK K mg F H env σ → RepT K mg F H t v [] → b t env = some env' → (∀ σ', EnvOK K mg F H env' σ' → Keeps is σ σ' → Q σ' H) → gt v σ H Q)
    (ht : ∀ F H env σ, EnvOK K mg F H env σ → ∀ Q : Bool → Hp → Prop, TPost K mg W0 F H env (c env) Q → tt σ H Q)
    (he : ∀ F H env σ, EnvOK K mg F H env σ → ∀ Q : VK, RPost K mg W0 F H env (ge env) Q → te σ H Q) (hv : ∀ i ∈ is, i ∈ vs)
    {F H : Hp} {env : En} {σ : L2.St} (I : EnvOK K mg F H env σ) (Q : VK) (q : RPost K mg W F H env (eComp it vs b c ge env) Q) : tLc wi gt tt te vs σ H Q := by
  refine hi F H env σ I _ ?_
  unfold eComp at q
  cases e1 : it env with
  | bad => rw [e1] at q; exact q.elim
  | ex x => rw [e1] at q; exact q
  | ok ts =>
    rw [e1] at q
    simp only [M.bind_ok] at q
    cases e2 : compL b c ge (wipeE env vs) ts with
    | none => rw [e2] at q; exact q.elim
    | some fin =>
      rw [e2] at q
      simp only [M.of_some, M.bind_ok] at q
      split at q
      case isFalse => exact q.elim
      rename_i hsz
      intro J F1 H1 g1 i1 Dp hD
      have I1 := (I.grow g1).wipe vs
      -- what holds at a turn
      let Pv : Nat → Hp → Prop := fun i H' => ∃ F' acc av fq rest, Grow F1 H1 F' H' ∧ H' Dp = some (.lst av) ∧ OwnL K mg F' H' acc av fq ∧ fq.Nodup ∧ (∀ a ∈ fq, H1 a = none ∧ F' a = none ∧ a ≠ Dp) ∧ F' Dp = none ∧
        compL b c ge (wipeE env vs) (ts.drop i) = some rest ∧ acc ++ rest = fin
      refine ⟨fun i m H' => m = ts.length - i ∧ i ≤ ts.length ∧ Pv i H', ⟨ts.length, by simp, Nat.zero_le _, F1, [], [], [], fin, ?_, upd_same, ⟨rfl, rfl⟩, List.nodup_nil, fun a m => (by cases m), g1.fh.none hD, by simpa using e2, rfl⟩, ?_⟩
      · exact Grow.lst g1.fh g1.tu hD
      rintro i m H' ⟨rfl, hl, F', acc, av, fq, rest, gr, hd, ow, nd, fr, fd, hc, hf⟩
      have I' : EnvOK K mg F' H' (wipeE env vs) (wipe σ vs) := I1.grow gr
      obtain ⟨j1, j2, j3⟩ := i1 i F' H' (gr.exF g1.fh) gr.hh gr.fh
      by_cases hlt : i < ts.length
      · refine .inr ⟨j1 hlt, Pv (i + 1), fun H2 p => ⟨ts.length - (i + 1), by omega, rfl, hlt, p⟩, fun x H3 y => ?_⟩
        obtain ⟨e3, k⟩ := j3 x H3 y
        subst e3
        have rx := k ts[i] (by simp)
        rw [List.drop_eq_getElem_cons hlt, compL] at hc
        cases c1 : b ts[i] (wipeE env vs) with
        | none => rw [c1] at hc; cases hc
        | some env1 =>
          rw [c1] at hc
          simp only at hc
          refine hg F' H3 (wipeE env vs) (wipe σ vs) ts[i] x _ env1 I' rx c1 fun σ2 I2 kp => ⟨wipe_keeps kp hv, ?_⟩
          refine ht F' H3 env1 σ2 I2 _ ?_
          cases c2 : c env1 with
          | bad => rw [c2] at hc; cases hc
          | ex z => rw [c2] at hc; cases hc
          | ok z =>
            rw [c2] at hc
            intro F4 H4 g4
            have gr4 := gr.trans g4
            have keepD : H4 Dp = some (.lst av) := g4.hh.at hd
            have ow4 : OwnL K mg F4 H4 acc av fq := OwnL.cong (g4.exF gr.fh) (fun a m => by
              obtain ⟨u, hu, mu⟩ := ow.dom a m
              rw [hu, g4.hh.mut hu mu]) ow
            have fr4 : ∀ a ∈ fq, H1 a = none ∧ F4 a = none ∧ a ≠ Dp := fun a m => by
              obtain ⟨u, hu, _⟩ := ow.dom a m
              exact ⟨(fr a m).1, (g4.ff a (by rw [hu]; intro z; cases z)).trans (fr a m).2.1, (fr a m).2.2⟩
            have fd4 : F4 Dp = none := (g4.ff Dp (by rw [hd]; intro z; cases z)).trans fd
            cases z with
            | false =>
              simp only [Bool.false_eq_true, if_false] at hc ⊢
              exact ⟨F4, acc, av, fq, rest, gr4, keepD, ow4, nd, fr4, fd4, hc, hf⟩
            | true =>
              simp only [if_true] at hc ⊢
              refine he F4 H4 env1 σ2 (I2.grow g4) _ ?_
              cases c3 : ge env1 with
              | bad => rw [c3] at hc; cases hc
              | ex y => rw [c3] at hc; cases hc
              | ok y =>
                rw [c3] at hc
                simp only at hc
                split at hc
                · rename_i xo xs k1 k2
                  cases hc
                  intro v F5 H5 fp g5 r5 nd5 kf
                  have rO := T.keep_ok g5.tu r5 k1
                  have keepD5 : H5 Dp = some (.lst av) := g5.hh.at keepD
                  have hDp4 : H4 Dp ≠ none := by rw [keepD]; intro z; cases z
                  have npD : ∀ a ∈ fp, a ≠ Dp := fun a m z => hDp4 (z ▸ (kf a m).1)
                  have gr5 := gr4.trans g5
                  have ow5 : OwnL K mg F5 H5 acc av fq := OwnL.cong (g5.exF gr4.fh) (fun a m => by
                    obtain ⟨u, hu, mu⟩ := ow4.dom a m
                    rw [hu, g5.hh.mut hu mu]) ow4
                  have fd5 : F5 Dp = none := (g5.ff Dp hDp4).trans fd4
                  have lacc : av.length = acc.length := ow5.len
                  have hlen : av.length < sizeLine := by
                    have : (acc ++ (xo :: xs)).length ≤ sizeLine := by rw [hf]; exact hsz
                    rw [List.length_append, List.length_cons] at this
                    omega
                  refine ⟨av, keepD5, hlen, ?_⟩
                  have cg : ∀ a, a ≠ Dp → upd H5 Dp (.lst (av ++ [v])) a = H5 a := fun a h => upd_ne h
                  refine ⟨F5, acc ++ [xo], av ++ [v], fq ++ (fp ++ []), xs, ⟨gr5.hh.wr hD keepD5 trivial, gr5.ff, gr5.fh.wr fd5 keepD5 trivial, fun a us h => ?_⟩, upd_same, ?_, ?_, ?_, fd5, ?_, ?_⟩
                  · by_cases hne : a = Dp
                    · rw [hne, upd_same] at h; cases h
                    · rw [cg a hne] at h
                      exact gr5.tu a us h
                  · have a1 := OwnL.cong (Ex.refl F5) (fun a m => cg a (fr4 a m).2.2) ow5
                    have a2 : OwnL K mg F5 (upd H5 Dp (.lst (av ++ [v]))) [xo] [v] (fp ++ []) := ⟨v, [], fp, [], rfl, rfl, Own.cong (Ex.refl F5) (fun a m => cg a (npD a m)) rO, rfl, rfl⟩
                    exact a1.app a2
                  · rw [List.append_nil]
                    refine List.nodup_append.mpr ⟨nd, nd5, fun a m b m' z => ?_⟩
                    subst z
                    obtain ⟨u, hu, _⟩ := ow4.dom a m
                    have := (kf a m').1
                    rw [hu] at this; cases this
                  · rw [List.append_nil]
                    intro a m
                    rcases List.mem_append.mp m with m | m
                    · obtain ⟨u, hu, _⟩ := ow4.dom a m
                      exact ⟨(fr4 a m).1, (g5.ff a (by rw [hu]; intro z; cases z)).trans (fr4 a m).2.1, (fr4 a m).2.2⟩
                    · exact ⟨gr4.hh.back (kf a m).1, (kf a m).2, npD a m⟩
                  · exact k2
                  · rw [← hf, List.append_assoc]
                    rfl
                · cases hc
      · have hi' : i = ts.length := by omega
        subst hi'
        rw [List.drop_length] at hc
        cases hc
        rw [List.append_nil] at hf
        subst hf
        refine .inl ⟨j2 rfl, ?_⟩
        have ge1 : Grow F H F' H' := g1.trans gr
        refine q (.ref Dp) F' H' (Dp :: fq) ge1 ⟨Dp, av, fq, rfl, hd, rfl, ow⟩ (List.nodup_cons.mpr ⟨fun m => (fr Dp m).2.2 rfl, nd⟩) fun a m => ?_
        rcases List.mem_cons.mp m with z | m
        · subst z; exact ⟨g1.hh.back hD, fd⟩
        · exact ⟨g1.hh.back (fr a m).1, (fr a m).2.1⟩
end
section
abbrev Blkd (α : Type) := Shared → Hp → Addr → List (Str × Addr) → List Addr → α
variable {X : Cx} {W : WX} {wi : TI} {it : En → M (List T)} {gt : Blkd TG} {b : FGc} {is : List Nat} {tt : Blkd TT} {c : FT} {te : Blkd TE} {ge : FE} {elt tg iter : Expr} {ifs : List Expr} {scope : Scope} {own : List (Str × Nat)} {pos : Pos}
theorem re_comp (hc : X.calm = true) (hN : X.N.Nodup) (hi : RIC X W tg iter wi it) (ok : BlkOk X.N X.env.scope scope own)
    (hg : ∀ (s : Shared) (H : Hp) (C : Addr) (cl : List (Str × Addr)) (fp : List Addr), RGc (X.blk s H scope (compEnvC scope cl C X.env) fp) tg (gt s H C cl fp) b is)
    (ht : ∀ (s : Shared) (H : Hp) (C : Addr) (cl : List (Str × Addr)) (fp : List Addr), RTs (X.blk s H scope (compEnvC scope cl C X.env) fp) W0 ifs (tt s H C cl fp) c)
    (he : ∀ (s : Shared) (H : Hp) (C : Addr) (cl : List (Str × Addr)) (fp : List Addr), RE (X.blk s H scope (compEnvC scope cl C X.env) fp) W0 elt (te s H C cl fp) ge) (hv : ∀ i ∈ is, i ∈ own.map (·.2))
    (h1 : ∀ s H C cl fp, gt s H C cl fp = gt X.s_0 X.H_0 0 [] [] := by intros; rfl) (h2 : ∀ s H C cl fp, tt s H C cl fp = tt X.s_0 X.H_0 0 [] [] := by intros; rfl) (h3 : ∀ s H C cl fp, te s H C cl fp = te X.s_0 X.H_0 0 [] [] := by intros; rfl)
    (hs : ∀ x, foldedSetIterable iter X.env x = pure x := by intro _; rfl) :
    RE X W (.ListComp elt [⟨tg, iter, ifs, 0⟩] scope pos) (tLc wi (gt X.s_0 X.H_0 0 [] []) (tt X.s_0 X.H_0 0 [] []) (te X.s_0 X.H_0 0 [] []) (own.map (·.2))) (eComp it (own.map (·.2)) b c ge) :=
  ⟨pe_lc hc hN hi.pi ok (fun s H C cl fp => h1 s H C cl fp ▸ (hg s H C cl fp).pg) (fun s H C cl fp => h2 s H C cl fp ▸ (ht s H C cl fp).pe) (fun s H C cl fp => h3 s H C cl fp ▸ (he s H C cl fp).pe) hs, fun F H env σ I Q q =>
    comp_sem (K := X.K) (mg := X.mg) hi.sem (hg X.s_0 X.H_0 0 [] []).sem (ht X.s_0 X.H_0 0 [] []).sem (he X.s_0 X.H_0 0 [] []).sem hv I Q q⟩
/-- x = [.. for ..] on one line -/
theorem rs_setComp (i : Nat) {y : Str} {py spos : Pos} (hc : X.calm = true) (hN : X.N.Nodup) (hsw : swapsWith (.ListComp elt [⟨tg, iter, ifs, 0⟩] scope pos) (some (.Name y py)) spos.line X.env = pure true) (hi : RIC X W tg iter wi it) (ok : BlkOk X.N X.env.scope scope own)
    (hg : ∀ (s : Shared) (H : Hp) (C : Addr) (cl : List (Str × Addr)) (fp : List Addr), RGc (X.blk s H scope (compEnvC scope cl C X.env) fp) tg (gt s H C cl fp) b is)
    (ht : ∀ (s : Shared) (H : Hp) (C : Addr) (cl : List (Str × Addr)) (fp : List Addr), RTs (X.blk s H scope (compEnvC scope cl C X.env) fp) W0 ifs (tt s H C cl fp) c)
    (he : ∀ (s : Shared) (H : Hp) (C : Addr) (cl : List (Str × Addr)) (fp : List Addr), RE (X.blk s H scope (compEnvC scope cl C X.env) fp) W0 elt (te s H C cl fp) ge) (hv : ∀ i ∈ is, i ∈ own.map (·.2)) (hy : X.N[i]? = some y := by rfl) (hyl : X.env.scope.names.lookup y = some .local := by rfl)
    (h1 : ∀ s H C cl fp, gt s H C cl fp = gt X.s_0 X.H_0 0 [] [] := by intros; rfl) (h2 : ∀ s H C cl fp, tt s H C cl fp = tt X.s_0 X.H_0 0 [] [] := by intros; rfl) (h3 : ∀ s H C cl fp, te s H C cl fp = te X.s_0 X.H_0 0 [] [] := by intros; rfl)
    (hs : ∀ x, foldedSetIterable iter X.env x = pure x := by intro _; rfl) :
    RS X W (.Assign [.Name y py] (.ListComp elt [⟨tg, iter, ifs, 0⟩] scope pos) spos) (tAsg (tLc wi (gt X.s_0 X.H_0 0 [] []) (tt X.s_0 X.H_0 0 [] []) (te X.s_0 X.H_0 0 [] []) (own.map (·.2))) (gName i)) (asgS (bName i) (eComp it (own.map (·.2)) b c ge)) :=
  ⟨ps_setLc hc hN hy hyl hsw hi.pi ok (fun s H C cl fp => h1 s H C cl fp ▸ (hg s H C cl fp).pg) (fun s H C cl fp => h2 s H C cl fp ▸ (ht s H C cl fp).pe) (fun s H C cl fp => h3 s H C cl fp ▸ (he s H C cl fp).pe) hs,
    asg_sem (fun F H env σ I Q q => comp_sem (K := X.K) (mg := X.mg) hi.sem (hg X.s_0 X.H_0 0 [] []).sem (ht X.s_0 X.H_0 0 [] []).sem (he X.s_0 X.H_0 0 [] []).sem hv I Q q) (rg_name (pos := py) i hN hy (.inl hyl) (.inr hyl))⟩
end
end Fu

namespace Fu
open PySem L2 PyProof.Rows

/-! ### built-in functions -/
section
variable {K : PySem.W.Frag} {mg : Mg} {F H : Hp}
/-- a function of one thing's data, by a rule of the heap -/
theorem callV1 {r : List V → Hp → VK → Prop} {op : D → Option D} (h : ∀ v d z, Rep K mg H v d → op d = some z → Ex F H → TupIn F H → ∃ u, Rep K mg F u z ∧ ∀ Q : VK, Q u H → r [v] H Q) :
    ∀ ts vs fp, Ex F H → TupIn F H → RepTs K mg F H ts vs fp → ∀ Q, OPost K mg F H fp (match ts with | [t] => (op t.data).bind sc | _ => none) Q → r vs H Q := by
  intro ts vs fp e t rr Q q
  split at q
  · rename_i x
    obtain ⟨w, ws, f1, f2, e1, e2, h1, h2⟩ := rr
    obtain ⟨h3, h4⟩ := h2
    subst e1 h3
    cases c : op x.data with
    | none => rw [c] at q; exact q.elim
    | some z =>
      rw [c] at q
      obtain ⟨u, k1, k2⟩ := h w x.data z (h1.rep e) c e t
      exact k2 Q (OPost.sc e t q k1)
  · exact q.elim
end
def op1 (op : D → Option D) (ts : List T) : Option T := match ts with
  | [t] => (op t.data).bind sc
  | _ => none
def D.len : D → Option D
  | .str z => if z.length ≤ sizeLine then some (.int z.length) else none
  | .dK ks _ => some (.int ks.length)
  | .dT ks _ => some (.int ks.length)
  | d => d.seq.map fun xs => .int xs.length
def rLenF (K : PySem.W.Frag) : List V → Hp → VK → Prop := fun xs H Q => (∃ x n, xs = [x] ∧ LenV K x H n ∧ Q (.int n) H) ∨ (∃ a kvs, xs = [V.ref a] ∧ Rd H a (.dK kvs) ∧ Q (.int kvs.length) H) ∨ ∃ a kvs, xs = [V.ref a] ∧ Rd H a (.dT kvs) ∧ Q (.int kvs.length) H
theorem meets_len_tab {prog : Program} {w : World} (d : Addr) (hd : (d == sysModules) = false) :
    MeetsIn prog w (Builtin.«dict.__len__» ⟨[.ref d], []⟩) (fun _ R s => ∃ o es ep, s.heap.get? d = some o ∧ o.data = .dict es ep ∧ R (.ok (.ret (.int es.size s.toks))) { s with toks := s.toks + 1 }) :=
  .of_wp fun A R s ⟨o, es, ep, ho, hdat, h⟩ => by
    show wpAny _ _ (dictSize d >>= _) _ _ s
    unfold dictSize
    refine wpAny_bind (wpAny_bind (wpAny_dictEntries ho hdat (wpAny_pure ?_)))
    show wpAny _ _ (Builtin.Dict.pendingCount d >>= _) _ _ s
    refine wpAny_bind (wpAny_pendingCount_other hd ?_)
    refine wpAny_ret_mkInt ?_
    rw [Nat.add_zero]; exact h
theorem len_tab {prog : Program} {w : World} {A : Around} {E : Value → Shared → Prop} {s : Shared} {d : Addr} {o : Obj} {es : Array DictEntry} {ep : Nat} {Q : Value → Shared → Prop} (hd : (d == sysModules) = false) (ht : s.TypeIs (.ref d) "dict") (ho : s.heap.get? d = some o) (hdat : o.data = .dict es ep) (hfit : (es.size : Int) < 2 ^ 63)
    (h : Q (.int es.size (s.toks + 1)) { s with toks := s.toks + 1 + 1 }) : wpAny (model prog w) A (call (.builtin "len") [.ref d]) Q E s := by
  refine Calls.call_function_entry kind_len plain_len entry_len (args_len1 _) ?_
  unfold Builtin.«len»
  refine wpAny_bind (m := oneArg "len" _) (wpAny_pure ?_)
  refine wpAny_bind (m := callSpecial? (.ref d) (Str.ofString "__len__")) (wpAny_callSpecial?_slot (name := Str.ofString "__len__") ht PySem.F.slot_dict_len
    (call_meetsIn PySem.F.slot_dict_len ht PySem.F.entry_dict_len (PySem.F.args_dict_len_1 _) (meets_len_tab d hd) ⟨o, es, ep, ho, hdat, ?_⟩))
  show wpAny _ _ _ _ _ { s with toks := s.toks + 1 }
  refine wpAny_bind (wpAny_holding (wpAny_pure ?_))
  refine wpAny_bind (wpAny_letGo ?_)
  show wpAny _ _ (if ((es.size : Nat) : Int) < 0 then _ else _) _ _ _
  rw [if_neg (by omega)]
  show wpAny _ _ (if ((es.size : Nat) : Int) ≥ 2 ^ 63 then _ else _) _ _ _
  rw [if_neg (by omega)]
  exact wpAny_bind (wpAny_mkInt (wpAny_pure ⟨_, rfl, h⟩))
theorem CallR.or {X : Cx} {f : Value} {r r' : List V → Hp → VK → Prop} (h : CallR X f r) (h' : CallR X f r') : CallR X f (fun xs H Q => r xs H Q ∨ r' xs H Q) := by
  intro pins s σ H xs us Q I rx q
  rcases q with q | q
  · exact h pins s σ H xs us Q I rx q
  · exact h' pins s σ H xs us Q I rx q
theorem call_lenF {X : Cx} : CallR X (.builtin "len") (rLenF X.K) := CallR.or call_len (CallR.or (by
  intro pins s σ H xs us Q I r h
  obtain ⟨a, kvs, rfl, ha, q⟩ := h
  obtain ⟨u, rfl, ru⟩ := vals1 r
  cases ru
  exact d_len I ha fun t s' I' => ⟨.int kvs.length, H, I', ⟨t, rfl⟩, q⟩) (by
  intro pins s σ H xs us Q I r h
  obtain ⟨a, kvs, rfl, ha, q⟩ := h
  obtain ⟨u, rfl, ru⟩ := vals1 r
  cases ru
  obtain ⟨z, hd, ys, rel, hm⟩ := dt_rd I.hok ha
  have ht := hm.typeIs
  obtain ⟨o, es, ep, h1, h2, h3, h4, h5⟩ := hm
  have hl : es.size = kvs.length := by
    have := PySem.size_of_entries h4
    rw [this]
    exact (Paired.length rel).symm
  refine len_tab (s := s) hd ht h1 h3 (by rw [hl]; rw [sizeLine_eq] at z; omega) ?_
  rw [hl]
  exact ⟨.int kvs.length, H, I.tok _, ⟨_, rfl⟩, q⟩))
theorem cv_len {K : PySem.W.Frag} {mg : Mg} : CallV K mg (rLenF K) (op1 D.len) := by
  intro F H ts vs fp e t rr nd hf Q q
  refine callV1 (op := D.len) (fun v d z r c e t => ?_) ts vs fp e t rr Q q
  unfold D.len at c
  split at c
  · rename_i y
    split at c
    · rename_i hy
      cases c
      cases r
      exact ⟨_, .int _, fun Q q => .inl ⟨_, y.length, rfl, ⟨hy, rfl⟩, q⟩⟩
    · cases c
  · rename_i ks ds
    cases c
    cases r with
    | @dK a _ vs _ hr l r =>
      refine ⟨_, .int _, fun Q q => .inr (.inl ⟨a, _, rfl, hr, ?_⟩)⟩
      have : (ks.zip vs).length = ks.length := by rw [List.length_zip]; omega
      rw [this]
      exact q
  · rename_i ks ds
    cases c
    cases r with
    | @dT a _ vs _ hr l r =>
      refine ⟨_, .int _, fun Q q => .inr (.inr ⟨a, _, rfl, hr, ?_⟩)⟩
      have : (ks.zip vs).length = ks.length := by rw [List.length_zip]; omega
      rw [this]
      exact q
  · cases c2 : d.seq with
    | none => rw [c2] at c; cases c
    | some xs =>
      rw [c2] at c
      cases c
      obtain ⟨a, vs, rfl, sq, r⟩ := r.seqAt c2
      refine ⟨_, .int _, fun Q q => .inl ⟨.ref a, xs.length, rfl, ?_, q⟩⟩
      rcases sq with sq | sq
      · exact .inl ⟨vs, sq, r.len.symm⟩
      · exact .inr ⟨vs, sq, r.len.symm⟩
section
variable {X : Cx} {W : WX} {a b : Expr} {ta : TA} {ga : FA} {p pos : Pos} {te : TE} {ge : FE}
theorem re_len (hg : Gl X "len") (hm : X.mg "len" = none) (ha : RA X W [a] ta ga) (he : starEach [a] X.env = (false, eval a X.env) :: starEach [] X.env := by rfl) (hpl : (backTo pos (starEach [] X.env)).any (·.1) = false := by rfl) :
    RE X W (.Call (.Name "len" p) [a] [] pos) (tCB (rLenF X.K) ta) (eArgs (op1 D.len) ga) := re_callB call_lenF cv_len hg hm PySem.boot_len ha (by decide) (by decide) he hpl
/-! isinstance of a built-in class -/
def D.ty : D → Option String
  | .non => some "NoneType" | .bl _ => some "bool" | .int _ => some "int" | .str _ => some "str"
  | .lst _ => some "list" | .rol _ => some "list" | .tup _ => some "tuple" | .kup _ => some "tuple" | .dK _ _ => some "dict" | .dT _ _ => none | .obj _ _ _ => none
def isaB (d n : String) : Bool := d == n || (d == "bool" && n == "int")
def eIsa (n : String) (g : FE) : FE := fun env => do
  let t ← g env
  let d ← M.of t.data.ty
  .ok (.o (.sh (.bl (isaB d n))))
def IsaN (n : String) : Prop := ∀ d : D, ∀ y, d.ty = some y → kitB y n = some (isaB y n)
theorem isa_all {n : String} (h : (["NoneType", "bool", "int", "str", "list", "tuple", "dict"].all fun y => kitB y n == some (isaB y n)) = true) : IsaN n := by
  intro d y hy
  have hm : y ∈ ["NoneType", "bool", "int", "str", "list", "tuple", "dict"] := by
    cases d <;> cases hy <;> decide
  have := (List.all_eq_true.mp h) y hm
  simpa using this
theorem isa_bool : IsaN "bool" := isa_all (by decide +kernel)
theorem isa_int : IsaN "int" := isa_all (by decide +kernel)
theorem isa_str : IsaN "str" := isa_all (by decide +kernel)
theorem isa_list : IsaN "list" := isa_all (by decide +kernel)
theorem isa_tuple : IsaN "tuple" := isa_all (by decide +kernel)
theorem Rep.ty {K : PySem.W.Frag} {mg : Mg} {H : Hp} {v : V} {d : D} {y : String} (r : Rep K mg H v d) (h : d.ty = some y) : TyX K H v (.type y) := by
  cases r with
  | non => cases h; exact .base .non
  | bl b => cases h; exact .base (.bl b)
  | int b => cases h; exact .base (.int b)
  | str b => cases h; exact .base (.str b)
  | lst h1 r => cases h; exact .base (.lst h1)
  | rol h1 r =>
    cases h
    rcases h1 with (h1 | ⟨o, h1⟩) | ⟨o, its, n, h1, h2, _⟩
    · exact .base (.lst h1)
    · exact .base (.frz h1)
    · exact .kList h1 h2
  | tup h1 r => cases h; exact .base (.tup h1)
  | kup h1 z => cases h; obtain ⟨o, its, n, h1, h2, _⟩ := h1; exact .kTuple h1 h2
  | dK h1 l r =>
    cases h
    rcases h1 with h1 | ⟨o, h1⟩
    · exact .base (.dK h1)
    · exact .fDict h1
  | dT h1 l r => cases h
  | obj h1 _ _ _ => cases h
theorem re_isi {n : String} {q : Pos} (hn : IsaN n) (hi : Gl X "isinstance") (mi : X.mg "isinstance" = none) (hg : Gl X (Str.ofString n)) (hm : X.mg (Str.ofString n) = none) (hb : bootBuiltins (Str.ofString n) = some (.type n)) (ha : RE X W a te ge) (h1 : (Str.ofString n) ≠ "__name__" := by decide) (h2 : ((Str.ofString n) == ("__debug__" : Str)) = false := by decide)
    (he : starEach [a, .Name (Str.ofString n) q] X.env = (false, eval a X.env) :: starEach [.Name (Str.ofString n) q] X.env := by rfl) (he2 : starEach [.Name (Str.ofString n) q] X.env = (false, eval (.Name (Str.ofString n) q) X.env) :: starEach [] X.env := by rfl) (hpl : (backTo pos (starEach [.Name (Str.ofString n) q] X.env)).any (·.1) = false := by rfl) :
    RE X W (.Call (.Name "isinstance" p) [a, .Name (Str.ofString n) q] [] pos) (tCB (rIsi X.K) (tCons te (tCons (tC (.ty n)) tNil))) (eIsa n ge) := by
  refine ⟨pe_callB call_isi hi mi PyProof.Rows.boot_isinstance (pa_cons ha.pe (pa_cons (pe_bltn hg hm hb rfl h1 h2) pa_nil he2) he) (by decide) (by decide) he hpl, fun F H env σ I Q q => ha.sem F H env σ I _ ?_⟩
  unfold eIsa at q
  cases e1 : ge env with
  | bad => rw [e1] at q; exact q.elim
  | ex x => rw [e1] at q; exact q
  | ok t =>
    rw [e1] at q
    simp only [M.bind_ok] at q
    cases e2 : t.data.ty with
    | none => rw [e2] at q; exact q.elim
    | some y =>
      rw [e2] at q
      simp only [M.of_some, M.bind_ok] at q
      intro v F' H' fp g r _ _
      exact ⟨v, .ty n, .type y, .type n, _, rfl, .ty n, (r.rep g.fh).ty e2, kit_ty (hn _ _ e2), VPost.sc q g (.bl _)⟩
end

/-! ### methods of texts -/
def eStr0 (op : Str → Option D) (g : FE) : FE := fun env => do
  let t ← g env
  match t.data with
  | .str a => (match op a with
    | some d => .ok (.o (.sh d))
    | none => .bad)
  | _ => .bad
section
variable {X : Cx} {W : WX} {o e : Expr} {to te : TE} {go ge : FE} {id : String} {name : Str} {apos pos : Pos} {r : V → List V → Hp → VK → Prop}
theorem re_sm0 {op : Str → Option D} (slot : Slot "str" name id) (ty : typeOf (.builtin id) = pure (.type "method_descriptor")) (rule : MtR X id r)
    (hv : ∀ (a : Str) (d : D), op a = some d → ∃ u, (∀ F, Rep X.K X.mg F u d) ∧ ∀ (H : Hp) (Q : VK), Q u H → r (.str a) [] H Q) (ho : RE X W o to go)
    (hbase : attributeBase o name X.env (eval o X.env) = eval o X.env := by rfl) (hline : (apos.endLine == pos.line) = true := by rfl) : RE X W (.Call (.Attribute o name apos) [] [] pos) (tM0 r to) (eStr0 op go) := by
  refine ⟨pe_m0 slot ty rule ho.pe hbase hline, fun F H env σ I Q q => ho.sem F H env σ I _ ?_⟩
  unfold eStr0 at q
  cases e1 : go env with
  | bad => rw [e1] at q; exact q.elim
  | ex x => rw [e1] at q; exact q
  | ok t =>
    rw [e1] at q
    simp only [M.bind_ok] at q
    intro v F' H' fp g rr _ _
    have k := rr.rep g.fh
    split at q
    · rename_i a e2
      rw [e2] at k
      cases k
      split at q
      · rename_i d e3
        obtain ⟨u, k1, k2⟩ := hv a d e3
        exact ⟨⟨a, rfl⟩, k2 H' Q (VPost.sc q g (k1 F'))⟩
      · exact q.elim
    · exact q.elim
/-- with one argument -/
def eStr1 (op : Str → T → Option T) (g h : FE) : FE := fun env => do
  let t ← g env
  match t.data with
  | .str a => do
    let u ← h env
    M.of (op a u)
  | _ => .bad
def StrV (K : PySem.W.Frag) (mg : Mg) (r : V → List V → Hp → VK → Prop) (op : Str → T → Option T) : Prop := ∀ F H a y w f2, Ex F H → TupIn F H → RepT K mg F H y w f2 → f2.Nodup → (∀ a ∈ f2, F a = none) →
  ∀ Q, OPost K mg F H f2 (op a y) Q → r (.str a) [w] H Q
theorem re_sm1 {op : Str → T → Option T} (slot : Slot "str" name id) (ty : typeOf (.builtin id) = pure (.type "method_descriptor")) (rule : MtR X id r) (hv : StrV X.K X.mg r op) (ho : RE X W o to go) (he : RE X W e te ge)
    (hs : starEach [e] X.env = [(false, eval e X.env)] := by rfl) (hbase : attributeBase o name X.env (eval o X.env) = eval o X.env := by rfl) (hline : (apos.endLine == pos.line) = true := by rfl) : RE X W (.Call (.Attribute o name apos) [e] [] pos) (tM1 r to te) (eStr1 op go ge) := by
  refine ⟨pe_m1 slot ty rule ho.pe he.pe hs hbase hline, fun F H env σ I Q q => ho.sem F H env σ I _ ?_⟩
  unfold eStr1 at q
  cases e1 : go env with
  | bad => rw [e1] at q; exact q.elim
  | ex x => rw [e1] at q; exact q
  | ok t =>
    rw [e1] at q
    simp only [M.bind_ok] at q
    intro v F' H' fp g rr _ _
    have k := rr.rep g.fh
    split at q
    · rename_i a e2
      rw [e2] at k
      cases k
      refine ⟨⟨a, rfl⟩, he.sem F' H' env σ (I.grow g) _ ?_⟩
      cases e3 : ge env with
      | bad => rw [e3] at q; exact q.elim
      | ex x => rw [e3] at q; exact XPost.from (g.exF I.fh) q
      | ok u =>
        rw [e3] at q
        simp only [M.bind_ok] at q
        intro w F2 H2 f2 g2 r2 n2 k2
        refine hv F2 H2 a u w f2 g2.fh g2.tu r2 n2 (fun a m => (k2 a m).2) Q ?_
        cases e4 : op a u with
        | none => rw [e4] at q; exact q.elim
        | some t =>
          rw [e4] at q
          intro z F'' H'' fq g3 r3 nd3 k3
          refine q z F'' H'' fq ((g.trans g2).trans g3) r3 nd3 fun b m => ?_
          rcases k3 b m with z | ⟨q1, q2⟩
          · obtain ⟨h1, h2⟩ := k2 b z
            obtain ⟨u, hu, _⟩ := r2.dom b z
            exact ⟨g.hh.back h1, (g3.ff b (by rw [hu]; intro z; cases z)).trans h2⟩
          · exact ⟨(g.trans g2).hh.back q1, q2⟩
    · exact q.elim
def sLower (a : Str) : Option D := if a.length ≤ 5592405 then some (.str (Txt.lower a)) else none
def sUpper (a : Str) : Option D := if a.length ≤ 5592405 then some (.str (Txt.upper a)) else none
theorem re_lower (ho : RE X W o to go) (hbase : attributeBase o "lower" X.env (eval o X.env) = eval o X.env := by rfl) (hline : (apos.endLine == pos.line) = true := by rfl) : RE X W (.Call (.Attribute o "lower" apos) [] [] pos) (tM0 (fun x xs H Q => ∃ a, x = .str a ∧ xs = [] ∧ a.length ≤ 5592405 ∧ Q (.str (Txt.lower a)) H) to) (eStr0 sLower go) :=
  re_sm0 F.slot_str_lower F.type_str_lower mt_lower (fun a d h => by
    unfold sLower at h
    split at h
    · rename_i hl
      cases h
      exact ⟨_, fun F => .str _, fun H Q q => ⟨a, rfl, rfl, hl, q⟩⟩
    · cases h) ho hbase hline
theorem re_upper (ho : RE X W o to go) (hbase : attributeBase o "upper" X.env (eval o X.env) = eval o X.env := by rfl) (hline : (apos.endLine == pos.line) = true := by rfl) : RE X W (.Call (.Attribute o "upper" apos) [] [] pos) (tM0 (fun x xs H Q => ∃ a, x = .str a ∧ xs = [] ∧ a.length ≤ 5592405 ∧ Q (.str (Txt.upper a)) H) to) (eStr0 sUpper go) :=
  re_sm0 F.slot_str_upper F.type_str_upper mt_upper (fun a d h => by
    unfold sUpper at h
    split at h
    · rename_i hl
      cases h
      exact ⟨_, fun F => .str _, fun H Q q => ⟨a, rfl, rfl, hl, q⟩⟩
    · cases h) ho hbase hline
/-- two texts, a flat answer -/
def sStr (op : Str → Str → Option D) (a : Str) (t : T) : Option T := match t.data with
  | .str b => (op a b).bind sc
  | _ => none
theorem strV2 {K : PySem.W.Frag} {mg : Mg} {op : Str → Str → Option D} (hv : ∀ (a b : Str) (d : D), op a b = some d → ∃ u, (∀ F, Rep K mg F u d) ∧ ∀ (H : Hp) (Q : VK), Q u H → r (.str a) [.str b] H Q) : StrV K mg r (sStr op) := by
  intro F H a y w f2 e t rr nd hf Q q
  have k := rr.rep e
  unfold sStr at q
  split at q
  · rename_i b e2
    rw [e2] at k
    cases k
    cases c : op a b with
    | none => rw [c] at q; exact q.elim
    | some d =>
      rw [c] at q
      obtain ⟨u, k1, k2⟩ := hv a b d c
      exact k2 H Q (OPost.sc e t q (k1 F))
  · exact q.elim
theorem re_startswith (ho : RE X W o to go) (he : RE X W e te ge) (hs : starEach [e] X.env = [(false, eval e X.env)] := by rfl) (hbase : attributeBase o "startswith" X.env (eval o X.env) = eval o X.env := by rfl) (hline : (apos.endLine == pos.line) = true := by rfl) :
    RE X W (.Call (.Attribute o "startswith" apos) [e] [] pos) (tM1 (fun x xs H Q => ∃ a b, x = .str a ∧ xs = [.str b] ∧ Q (.bl (Txt.startswith a b)) H) to te) (eStr1 (sStr fun a b => some (.bl (Txt.startswith a b))) go ge) :=
  re_sm1 F.slot_str_startswith F.type_str_startswith mt_startswith (strV2 fun a b d h => by cases h; exact ⟨_, fun F => .bl _, fun H Q q => ⟨a, b, rfl, rfl, q⟩⟩) ho he hs hbase hline
theorem re_endswith (ho : RE X W o to go) (he : RE X W e te ge) (hs : starEach [e] X.env = [(false, eval e X.env)] := by rfl) (hbase : attributeBase o "endswith" X.env (eval o X.env) = eval o X.env := by rfl) (hline : (apos.endLine == pos.line) = true := by rfl) :
    RE X W (.Call (.Attribute o "endswith" apos) [e] [] pos) (tM1 (fun x xs H Q => ∃ a b, x = .str a ∧ xs = [.str b] ∧ Q (.bl (Txt.endswith a b)) H) to te) (eStr1 (sStr fun a b => some (.bl (Txt.endswith a b))) go ge) :=
  re_sm1 F.slot_str_endswith F.type_str_endswith mt_endswith (strV2 fun a b d h => by cases h; exact ⟨_, fun F => .bl _, fun H Q q => ⟨a, b, rfl, rfl, q⟩⟩) ho he hs hbase hline
def sStripC (a b : Str) : Option D := if a.length ≤ sizeLine then some (.str (Txt.stripChars a b)) else none
theorem re_stripC (ho : RE X W o to go) (he : RE X W e te ge) (hs : starEach [e] X.env = [(false, eval e X.env)] := by rfl) (hbase : attributeBase o "strip" X.env (eval o X.env) = eval o X.env := by rfl) (hline : (apos.endLine == pos.line) = true := by rfl) :
    RE X W (.Call (.Attribute o "strip" apos) [e] [] pos) (tM1 (fun x xs H Q => ∃ a b, x = .str a ∧ xs = [.str b] ∧ a.length ≤ sizeLine ∧ Q (.str (Txt.stripChars a b)) H) to te) (eStr1 (sStr sStripC) go ge) :=
  re_sm1 F.slot_str_strip F.type_str_strip mt_stripChars (strV2 fun a b d h => by
    unfold sStripC at h
    split at h
    · rename_i hl
      cases h
      exact ⟨_, fun F => .str _, fun H Q q => ⟨a, b, rfl, rfl, hl, q⟩⟩
    · cases h) ho he hs hbase hline
def sRstripC (a b : Str) : Option D := if a.length ≤ sizeLine then some (.str (Txt.rstripChars a b)) else none
theorem re_rstripC (ho : RE X W o to go) (he : RE X W e te ge) (hs : starEach [e] X.env = [(false, eval e X.env)] := by rfl) (hbase : attributeBase o "rstrip" X.env (eval o X.env) = eval o X.env := by rfl) (hline : (apos.endLine == pos.line) = true := by rfl) :
    RE X W (.Call (.Attribute o "rstrip" apos) [e] [] pos) (tM1 (fun x xs H Q => ∃ a b, x = .str a ∧ xs = [.str b] ∧ a.length ≤ sizeLine ∧ Q (.str (Txt.rstripChars a b)) H) to te) (eStr1 (sStr sRstripC) go ge) :=
  re_sm1 F.slot_str_rstrip F.type_str_rstrip mt_rstripChars (strV2 fun a b d h => by
    unfold sRstripC at h
    split at h
    · rename_i hl
      cases h
      exact ⟨_, fun F => .str _, fun H Q q => ⟨a, b, rfl, rfl, hl, q⟩⟩
    · cases h) ho he hs hbase hline
/-! split, partition, join -/
def sSplit (a : Str) (t : T) : Option T := match t.data with
  | .str b => if (b.length == 0) = false ∧ a.length + 2 ≤ sizeLine then some (.o (.lst ((Txt.split a b).map fun s => .sh (.str s)))) else none
  | _ => none
theorem ownL_strs {K : PySem.W.Frag} {mg : Mg} {F H : Hp} : ∀ ss : List Str, OwnL K mg F H (ss.map fun s => .sh (.str s)) (ss.map V.str) []
  | [] => ⟨rfl, rfl⟩
  | s :: ss => ⟨_, _, [], [], rfl, rfl, ⟨rfl, .str s⟩, ownL_strs ss⟩
theorem re_split (ho : RE X W o to go) (he : RE X W e te ge) (hs : starEach [e] X.env = [(false, eval e X.env)] := by rfl) (hbase : attributeBase o "split" X.env (eval o X.env) = eval o X.env := by rfl) (hline : (apos.endLine == pos.line) = true := by rfl) :
    RE X W (.Call (.Attribute o "split" apos) [e] [] pos) (tM1 (fun x xs H Q => ∃ a b, x = .str a ∧ xs = [.str b] ∧ (b.length == 0) = false ∧ a.length + 2 ≤ sizeLine ∧ rNewStrs (Txt.split a b) H Q) to te) (eStr1 sSplit go ge) :=
  re_sm1 F.slot_str_split F.type_str_split mt_split (fun F H a y w f2 e t rr nd hf Q q => by
    have k := rr.rep e
    unfold sSplit at q
    split at q
    · rename_i b e2
      rw [e2] at k
      cases k
      split at q
      · rename_i hl
        refine ⟨a, b, rfl, rfl, hl.1, hl.2, fun p hp => ?_⟩
        obtain ⟨g, o3, nd3⟩ := new_lst (K := X.K) (mg := X.mg) e t hp (ownL_strs (Txt.split a b)) List.nodup_nil
        refine q _ F _ _ g o3 nd3 fun c m => ?_
        rcases List.mem_cons.mp m with z | m
        · subst z; exact .inr ⟨hp, e.none hp⟩
        · cases m
      · exact q.elim
    · exact q.elim) ho he hs hbase hline
def sPartition (a : Str) (t : T) : Option T := match t.data with
  | .str b => if (b.length == 0) = false ∧ a.length ≤ sizeLine then sc (.tup [.str (Txt.partition a b).1, .str (Txt.partition a b).2.1, .str (Txt.partition a b).2.2]) else none
  | _ => none
theorem re_partition (ho : RE X W o to go) (he : RE X W e te ge) (hs : starEach [e] X.env = [(false, eval e X.env)] := by rfl) (hbase : attributeBase o "partition" X.env (eval o X.env) = eval o X.env := by rfl) (hline : (apos.endLine == pos.line) = true := by rfl) :
    RE X W (.Call (.Attribute o "partition" apos) [e] [] pos) (tM1 (fun x xs H Q => ∃ a b, x = .str a ∧ xs = [.str b] ∧ (b.length == 0) = false ∧ a.length ≤ sizeLine ∧
      ∀ p, H p = none → Q (.ref p) (upd H p (.tup [.str (Txt.partition a b).1, .str (Txt.partition a b).2.1, .str (Txt.partition a b).2.2]))) to te) (eStr1 sPartition go ge) :=
  re_sm1 F.slot_str_partition F.type_str_partition mt_partition (fun F H a y w f2 e t rr nd hf Q q => by
    have k := rr.rep e
    unfold sPartition at q
    split at q
    · rename_i b e2
      rw [e2] at k
      cases k
      split at q
      · rename_i hl
        refine ⟨a, b, rfl, rfl, hl.1, hl.2, fun p hp => ?_⟩
        exact q _ (upd F p (.tup _)) _ [] (Grow.tup e t hp) ⟨rfl, .tup upd_same (.cons (.str _) (.cons (.str _) (.cons (.str _) .nil)))⟩ List.nodup_nil (fun _ m => by cases m)
      · exact q.elim
    · exact q.elim) ho he hs hbase hline
def D.strs : List D → Option (List Str)
  | [] => some []
  | .str s :: ds => (D.strs ds).map (s :: ·)
  | _ => none
theorem RepL.strs {K : PySem.W.Frag} {mg : Mg} {F : Hp} : ∀ {ds : List D} {vs : List V} {ss : List Str}, RepL K mg F vs ds → D.strs ds = some ss → vs = ss.map V.str
  | [], _, _, h, e => by cases h; cases e; rfl
  | d :: ds, _, ss, h, e => by
    cases h with
    | cons h r =>
      cases h with
      | str s =>
        have e : (D.strs ds).map (s :: ·) = some ss := e
        cases c : D.strs ds with
        | none => rw [c] at e; cases e
        | some ts =>
          rw [c] at e
          cases e
          rw [RepL.strs r c]
          rfl
      | _ => cases e
def sJoin (a : Str) (t : T) : Option T := match t.data.seq with
  | some ds => (match D.strs ds with
    | some ys => if (ys.map (·.length)).sum + ys.length * a.length ≤ 16777216 then sc (.str (Txt.join a ys)) else none
    | none => none)
  | none => none
theorem re_join (ho : RE X W o to go) (he : RE X W e te ge) (hs : starEach [e] X.env = [(false, eval e X.env)] := by rfl) (hbase : attributeBase o "join" X.env (eval o X.env) = eval o X.env := by rfl) (hline : (apos.endLine == pos.line) = true := by rfl) :
    RE X W (.Call (.Attribute o "join" apos) [e] [] pos) (tM1 (fun x xs H Q => ∃ a p, ∃ ys : List Str, x = .str a ∧ xs = [.ref p] ∧ (SqL X.K H p (ys.map V.str) ∨ SqT X.K H p (ys.map V.str)) ∧
      (ys.map (·.length)).sum + ys.length * a.length ≤ 16777216 ∧ Q (.str (Txt.join a ys)) H) to te) (eStr1 sJoin go ge) :=
  re_sm1 F.slot_str_join F.type_str_join mt_join (fun F H a y w f2 e t rr nd hf Q q => by
    have k := rr.rep e
    unfold sJoin at q
    split at q
    · rename_i ds e2
      split at q
      · rename_i ys e3
        split at q
        · rename_i hl
          obtain ⟨p, vs, rfl, sq, r⟩ := k.seqAt e2
          have ev := r.strs e3
          subst ev
          exact ⟨a, p, ys, rfl, rfl, sq, hl, OPost.sc (d := .str _) e t q (.str _)⟩
        · exact q.elim
      · exact q.elim
    · exact q.elim) ho he hs hbase hline
end
end Fu

namespace Fu
open PySem L2 PyProof.Rows
/-- law's: a list of at most 63 ints is handed in, True comes out -/
def spLaw (K : PySem.W.Frag) : Sp := fun vs H Q _ => ∃ (a : Addr) (ns : List Int), vs = [.ref a] ∧ SqL K H a (ns.map V.int) ∧ ns.length ≤ 63 ∧ (∀ H', Q (.bl true) H') ∧ TbOK K H
theorem law_imp {K : PySem.W.Frag} {mg : Mg} {m : List D → M O} (h : ∀ ns : List Int, ns.length ≤ 63 → m [.rol (ns.map D.int)] = .ok (.sh (.bl true))) (vs : List V) (H : Hp) (Q : VK) (E : XK) (q : spLaw K vs H Q E) : spF K mg 1 m vs H Q E := by
  obtain ⟨a, ns, rfl, hS, hl, k, tb⟩ := q
  refine ⟨[.rol (ns.map D.int)], .cons (.rol hS RepL.ints) .nil, rfl, ?_, tb⟩
  rw [h ns hl]
  intro v H' fp _ r _ _ _
  obtain ⟨_, r⟩ := r
  cases r
  exact k H'
end Fu

namespace Fu
open PySem L2 PyProof.Rows
/-! ### reckoning with the functions -/
@[simp] theorem up_nil : up [] = [] := (by rfl)
@[simp] theorem up_cons (x : Option O) (env : Sn) : up (x :: env) = x.map T.o :: up env := (by rfl)
@[simp] theorem data_o (x : O) : (T.o x).data = x.data := (by rfl)
@[simp] theorem data_bo (d : D) : (T.bo d).data = d := (by rfl)
@[simp] theorem odata_sh (d : D) : (O.sh d).data = d := by rw [O.data]
@[simp] theorem odata_lst (os : List O) : (O.lst os).data = .lst (O.dataL os) := by rw [O.data]
@[simp] theorem odata_tup (os : List O) : (O.tup os).data = .tup (O.dataL os) := by rw [O.data]
@[simp] theorem odata_dK (ks : List Key) (os : List O) : (O.dK ks os).data = .dK ks (O.dataL os) := by rw [O.data]
@[simp] theorem odata_dT (ks : List (List Key)) (os : List O) : (O.dT ks os).data = .dT ks (O.dataL os) := by rw [O.data]
@[simp] theorem odataL_nil : O.dataL [] = [] := by rw [O.dataL]
@[simp] theorem odataL_cons (o : O) (os : List O) : O.dataL (o :: os) = o.data :: O.dataL os := by rw [O.dataL]
theorem odataL_map (os : List O) : O.dataL os = os.map O.data := by
  induction os with
  | nil => simp
  | cons o os ih => simp [ih]
@[simp] theorem odataL_sh (ds : List D) : O.dataL (ds.map .sh) = ds := by
  rw [odataL_map, List.map_map]
  exact (List.map_congr_left (fun d _ => odata_sh d)).trans (List.map_id ds)
@[simp] theorem odataL_map_sh {α : Type} (f : α → D) (xs : List α) : O.dataL (xs.map fun x => .sh (f x)) = xs.map f := by
  have := odataL_sh (xs.map f)
  rw [List.map_map] at this
  exact this
@[simp] theorem flat_non : D.flat .non = true := by rw [D.flat] <;> (intros; intro h; cases h)
@[simp] theorem flat_bl (b : Bool) : D.flat (.bl b) = true := by rw [D.flat] <;> (intros; intro h; cases h)
@[simp] theorem flat_int (b : Int) : D.flat (.int b) = true := by rw [D.flat] <;> (intros; intro h; cases h)
@[simp] theorem flat_str (b : Str) : D.flat (.str b) = true := by rw [D.flat] <;> (intros; intro h; cases h)
@[simp] theorem seen_sh (d : D) : seen (.o (.sh d)) = .o (.sh d) := (by rfl)
@[simp] theorem seen_lst (os : List O) : seen (.o (.lst os)) = .bo (.lst (O.dataL os)) := by simp [seen]
@[simp] theorem seen_tup (os : List O) : seen (.o (.tup os)) = .bo (.tup (O.dataL os)) := by simp [seen]
@[simp] theorem seen_dK (ks : List Key) (os : List O) : seen (.o (.dK ks os)) = .bo (.dK ks (O.dataL os)) := by simp [seen]
@[simp] theorem seen_dT (ks : List (List Key)) (os : List O) : seen (.o (.dT ks os)) = .bo (.dT ks (O.dataL os)) := by simp [seen]
@[simp] theorem seen_bo (d : D) : seen (.bo d) = .bo d := (by rfl)
@[simp] theorem eVar_eq (i : Nat) (env : En) : eVar i env = (match env[i]? with
  | some (some t) => .ok (seen t)
  | _ => .bad) := (by rfl)
@[simp] theorem eC_eq (d : D) (env : En) : eC d env = .ok (.o (.sh d)) := (by rfl)
@[simp] theorem eOp_eq (op : T → T → Option T) (ga gb : FE) (env : En) : eOp op ga gb env = (ga env >>= fun x => gb env >>= fun y => M.of (op x y)) := (by rfl)
@[simp] theorem eUn_eq (op : T → Option T) (ga : FE) (env : En) : eUn op ga env = (ga env >>= fun x => M.of (op x)) := (by rfl)
@[simp] theorem eArgs_eq (op : List T → Option T) (g : FA) (env : En) : eArgs op g env = (g env >>= fun x => M.of (op x)) := (by rfl)
@[simp] theorem aNil_eq (env : En) : aNil env = .ok [] := (by rfl)
@[simp] theorem aCons_eq (g : FE) (h : FA) (env : En) : aCons g h env = (g env >>= fun t => h env >>= fun ts => .ok (t :: ts)) := (by rfl)
@[simp] theorem eCall_eq (m : List D → M O) (g : FA) (env : En) : eCall m g env = (g env >>= fun ts => m (ts.map T.data) >>= fun x => .ok (.o x)) := (by rfl)
@[simp] theorem asB_eq (g : FE) (env : En) : asB g env = (g env >>= fun t => t.data.asB) := (by rfl)
@[simp] theorem dasB_bl (b : Bool) : (D.bl b).asB = .ok b := (by rfl)
@[simp] theorem tNotG_eq (g : FT) (env : En) : tNotG g env = (g env >>= fun b => .ok (!b)) := (by rfl)
@[simp] theorem tAndG_eq (g h : FT) (env : En) : tAndG g h env = (g env >>= fun b => if b then h env else .ok false) := (by rfl)
@[simp] theorem tOrG_eq (g h : FT) (env : En) : tOrG g h env = (g env >>= fun b => if b then .ok true else h env) := (by rfl)
@[simp] theorem eAnd_eq (g h : FE) (env : En) : eAnd g h env = (g env >>= fun t => t.data.asB >>= fun b => if b then h env else .ok (.o (.sh (.bl false)))) := (by rfl)
@[simp] theorem eOr_eq (g h : FE) (env : En) : eOr g h env = (g env >>= fun t => t.data.asB >>= fun b => if b then .ok (.o (.sh (.bl true))) else h env) := (by rfl)
@[simp] theorem eNot_eq (g : FE) (env : En) : eNot g env = (g env >>= fun t => t.data.asB >>= fun b => .ok (.o (.sh (.bl (!b))))) := (by rfl)
@[simp] theorem eIf_eq (c : FT) (g h : FE) (env : En) : eIf c g h env = (c env >>= fun b => if b then g env else h env) := (by rfl)
@[simp] theorem oNone_eq (env : En) : oNone env = .ok none := (by rfl)
@[simp] theorem oSome_eq (g : FE) (env : En) : oSome g env = (g env >>= fun t => match t.data with
  | .int i => .ok (some i)
  | _ => .bad) := (by rfl)
@[simp] theorem eSl_eq (g : FE) (lo hi : FO) (env : En) : eSl g lo hi env = (g env >>= fun x => lo env >>= fun l => hi env >>= fun h => M.of (tSlice x l h)) := (by rfl)
@[simp] theorem eStr0_eq (op : Str → Option D) (g : FE) (env : En) : eStr0 op g env = (g env >>= fun t => match t.data with
  | .str a => (match op a with
    | some d => .ok (.o (.sh d))
    | none => .bad)
  | _ => .bad) := (by rfl)
@[simp] theorem eIsa_eq (n : String) (g : FE) (env : En) : eIsa n g env = (g env >>= fun t => M.of t.data.ty >>= fun d => .ok (.o (.sh (.bl (isaB d n))))) := (by rfl)
@[simp] theorem op1_eq (op : D → Option D) (t : T) : op1 op [t] = (op t.data).bind sc := (by rfl)
@[simp] theorem sc_eq (d : D) : sc d = some (.o (.sh d)) := (by rfl)
@[simp] theorem len_str (z : Str) : D.len (.str z) = if z.length ≤ sizeLine then some (.int z.length) else none := (by rfl)
@[simp] theorem len_lst (z : List D) : D.len (.lst z) = some (.int z.length) := (by rfl)
@[simp] theorem len_rol (z : List D) : D.len (.rol z) = some (.int z.length) := (by rfl)
@[simp] theorem len_tup (z : List D) : D.len (.tup z) = some (.int z.length) := (by rfl)
@[simp] theorem len_dK (k : List Key) (z : List D) : D.len (.dK k z) = some (.int k.length) := (by rfl)
@[simp] theorem len_dT (k : List (List Key)) (z : List D) : D.len (.dT k z) = some (.int k.length) := (by rfl)
@[simp] theorem ty_non : D.ty .non = some "NoneType" := (by rfl)
@[simp] theorem ty_bl (b : Bool) : D.ty (.bl b) = some "bool" := (by rfl)
@[simp] theorem ty_int (b : Int) : D.ty (.int b) = some "int" := (by rfl)
@[simp] theorem ty_str (b : Str) : D.ty (.str b) = some "str" := (by rfl)
@[simp] theorem ty_lst (b : List D) : D.ty (.lst b) = some "list" := (by rfl)
@[simp] theorem ty_tup (b : List D) : D.ty (.tup b) = some "tuple" := (by rfl)
@[simp] theorem seq_lst (xs : List D) : D.seq (.lst xs) = some xs := (by rfl)
@[simp] theorem seq_rol (xs : List D) : D.seq (.rol xs) = some xs := (by rfl)
@[simp] theorem seq_tup (xs : List D) : D.seq (.tup xs) = some xs := (by rfl)
@[simp] theorem tAdd_eq (x y : T) : tAdd x y = (match x.data, y.data with
  | .int i, .int j => sc (.int (i + j))
  | .str a, .str b => if a.length + b.length ≤ sizeLine then sc (.str (a ++ b)) else none
  | .lst _, .lst _ => match x.items, y.items with
    | some os, some ps => if os.length + ps.length ≤ sizeLine then some (.o (.lst (os ++ ps))) else none
    | _, _ => none
  | .tup (a :: as), .tup (b :: bs) => if (a :: as).length + (b :: bs).length ≤ sizeLine ∧ D.flatL (a :: as) ∧ D.flatL (b :: bs) then sc (.tup ((a :: as) ++ (b :: bs))) else none
  | _, _ => none) := (by rfl)
@[simp] theorem tSub_eq (x y : T) : tSub x y = (match x.data, y.data with
  | .int i, .int j => some (.o (.sh (.int (i - j))))
  | _, _ => none) := (by rfl)
@[simp] theorem tMul_eq (x y : T) : tMul x y = (match x.data, y.data with
  | .int i, .int j => if (-(2 ^ 64) < i ∧ i < 2 ^ 64) ∨ (-(2 ^ 64) < j ∧ j < 2 ^ 64) then some (.o (.sh (.int (i * j)))) else none
  | _, _ => none) := by
  unfold tMul tInt2
  generalize x.data = d
  generalize y.data = e
  cases d <;> cases e <;> first | rfl | (simp only []; split <;> rfl)
@[simp] theorem tMod_eq (x y : T) : tMod x y = (match x.data, y.data with
  | .int i, .int j => if 0 < j then some (.o (.sh (.int (i % j)))) else none
  | _, _ => none) := by
  unfold tMod tInt2
  generalize x.data = d
  generalize y.data = e
  cases d <;> cases e <;> first | rfl | (simp only []; split <;> rfl)
@[simp] theorem tDiv_eq (x y : T) : tDiv x y = (match x.data, y.data with
  | .int i, .int j => if 0 < j ∧ j < 1073741824 then some (.o (.sh (.int (i / j)))) else none
  | _, _ => none) := by
  unfold tDiv tInt2
  generalize x.data = d
  generalize y.data = e
  cases d <;> cases e <;> first | rfl | (simp only []; split <;> rfl)
@[simp] theorem eqb_str (n : Nat) (a b : Str) : D.eqb n (.str a) (.str b) = some (a == b) := by cases n <;> rfl
@[simp] theorem eqb_int (n : Nat) (a b : Int) : D.eqb n (.int a) (.int b) = some (a == b) := by cases n <;> rfl
@[simp] theorem eqb_bl (n : Nat) (a b : Bool) : D.eqb n (.bl a) (.bl b) = some (a == b) := by cases n <;> rfl
@[simp] theorem eqb_non (n : Nat) : D.eqb n .non .non = some true := by cases n <;> rfl
@[simp] theorem eqb_nonstr (n : Nat) (a : Str) : D.eqb n .non (.str a) = some false := by cases n <;> rfl
@[simp] theorem eqb_strnon (n : Nat) (a : Str) : D.eqb n (.str a) .non = some false := by cases n <;> rfl
@[simp] theorem eqb_nonint (n : Nat) (a : Int) : D.eqb n .non (.int a) = some false := by cases n <;> rfl
@[simp] theorem eqb_intnon (n : Nat) (a : Int) : D.eqb n (.int a) .non = some false := by cases n <;> rfl
@[simp] theorem eqb_intstr (n : Nat) (a : Int) (b : Str) : D.eqb n (.int a) (.str b) = some false := by cases n <;> rfl
@[simp] theorem eqb_strint (n : Nat) (a : Int) (b : Str) : D.eqb n (.str b) (.int a) = some false := by cases n <;> rfl
@[simp] theorem tEq_eq (x y : T) : tEq x y = (D.eqb 101 x.data y.data).bind fun b => some (.o (.sh (.bl b))) := (by rfl)
@[simp] theorem tNe_eq (x y : T) : tNe x y = (D.eqb 101 x.data y.data).bind fun b => some (.o (.sh (.bl (!b)))) := (by rfl)
@[simp] theorem ltb_int (n : Nat) (a b : Int) : D.ltb n (.int a) (.int b) = some (decide (a < b)) := by cases n <;> rfl
@[simp] theorem ltb_str (n : Nat) (a b : Str) : D.ltb n (.str a) (.str b) = some (decide (a.cps.toList < b.cps.toList)) := by cases n <;> rfl
@[simp] theorem tLt_eq (x y : T) : tLt x y = (D.ltb 100 x.data y.data).bind fun b => some (.o (.sh (.bl b))) := (by rfl)
@[simp] theorem tOrd_eq (f : Int → Int → Bool) (g : List Nat → List Nat → Bool) (x y : T) : tOrd f g x y = (match x.data, y.data with
  | .int i, .int j => sc (.bl (f i j))
  | .str a, .str b => sc (.bl (g a.cps.toList b.cps.toList))
  | _, _ => none) := (by rfl)
@[simp] theorem tIs_non (neg : Bool) (x : T) (y : T) (h : y.data = .non) : tIs neg x y = some (.o (.sh (.bl (xor neg x.data.isNon)))) := by
  unfold tIs
  rw [h]
  rfl
@[simp] theorem isNon_non : D.isNon .non = true := (by rfl)
@[simp] theorem isNon_int (i : Int) : D.isNon (.int i) = false := (by rfl)
@[simp] theorem isNon_str (i : Str) : D.isNon (.str i) = false := (by rfl)
@[simp] theorem isNon_lst (i : List D) : D.isNon (.lst i) = false := (by rfl)
@[simp] theorem isNon_tup (i : List D) : D.isNon (.tup i) = false := (by rfl)
@[simp] theorem tIn_eq (neg : Bool) (x y : T) : tIn neg x y = (dIn x.data y.data).bind fun b => some (.o (.sh (.bl (xor neg b)))) := (by rfl)
@[simp] theorem dIn_chr (c : Nat) (z : Str) : dIn (.str ⟨#[c]⟩) (.str z) = some (decide (c ∈ z.cps)) := by
  show some (decide (c ∈ z.cps.toList)) = _
  simp
@[simp] theorem tIx_sh (d : D) (y : T) : tIx (.o (.sh d)) y = (d.at y.data).map fun e => .o (.sh e) := (by rfl)
@[simp] theorem tIx_bo (d : D) (y : T) : tIx (.bo d) y = (d.at y.data).map .bo := (by rfl)
@[simp] theorem tIx_lst (os : List O) (y : T) : tIx (.o (.lst os)) y = (match y.data with
  | .int i => (atI os i).map .o
  | _ => none) := (by rfl)
@[simp] theorem tIx_tup (os : List O) (y : T) : tIx (.o (.tup os)) y = (match y.data with
  | .int i => (atI os i).map .o
  | _ => none) := (by rfl)
@[simp] theorem at_str (z : Str) (i : Int) : (D.str z).at (.int i) = if z.length ≤ sizeLine then (atI z.cps.toList i).map (fun c => .str ⟨#[c]⟩) else none := (by rfl)
@[simp] theorem at_lst (z : List D) (i : Int) : (D.lst z).at (.int i) = atI z i := (by rfl)
@[simp] theorem at_rol (z : List D) (i : Int) : (D.rol z).at (.int i) = atI z i := (by rfl)
@[simp] theorem at_tup (z : List D) (i : Int) : (D.tup z).at (.int i) = atI z i := (by rfl)
@[simp] theorem at_kup (z : List D) (i : Int) : (D.kup z).at (.int i) = atI z i := (by rfl)
@[simp] theorem tSlice_o (os : List O) (lo hi : Option Int) : tSlice (.o (.lst os)) lo hi = some (.o (.lst (cutL os lo hi))) := (by rfl)
@[simp] theorem tSlice_sl (ds : List D) (lo hi : Option Int) : tSlice (.o (.sh (.lst ds))) lo hi = some (.o (.lst ((cutL ds lo hi).map .sh))) := (by rfl)
@[simp] theorem tSlice_sr (ds : List D) (lo hi : Option Int) : tSlice (.o (.sh (.rol ds))) lo hi = some (.o (.lst ((cutL ds lo hi).map .sh))) := (by rfl)
@[simp] theorem tSlice_bo (ds : List D) (lo hi : Option Int) : tSlice (.bo (.lst ds)) lo hi = if D.flatL ds then some (.o (.lst ((cutL ds lo hi).map .sh))) else none := (by rfl)
@[simp] theorem tSlice_str (z : Str) (lo hi : Option Int) : tSlice (.o (.sh (.str z))) lo hi = if z.length ≤ sizeLine then some (.o (.sh (.str (cutS z lo hi)))) else none := by
  show (match (T.o (.sh (.str z))).data with
    | .str z => if z.length ≤ sizeLine then sc (.str (cutS z lo hi)) else none
    | .tup ds => if D.flatL ds then sc (.tup (cutL ds lo hi)) else none
    | _ => none) = _
  simp
@[simp] theorem iter_sh (d : D) : (T.o (.sh d)).iter = d.iter := by simp [T.iter]
@[simp] theorem iter_olst (os : List O) : (T.o (.lst os)).iter = some (O.dataL os) := by simp [T.iter, D.iter]
@[simp] theorem diter_str (z : Str) : D.iter (.str z) = some (z.cps.toList.map fun c => .str ⟨#[c]⟩) := (by rfl)
@[simp] theorem diter_lst (z : List D) : D.iter (.lst z) = some z := (by rfl)
@[simp] theorem diter_rol (z : List D) : D.iter (.rol z) = some z := (by rfl)
@[simp] theorem diter_tup (z : List D) : D.iter (.tup z) = some z := (by rfl)
@[simp] theorem iterC_sh (d : D) : (T.o (.sh d)).iterC = d.iter.map fun ds => ds.map fun d => .o (.sh d) := by
  show (T.o (.sh d)).iter.map _ = _
  simp
@[simp] theorem iterC_olst (os : List O) : (T.o (.lst os)).iterC = some ((O.dataL os).map fun d => .o (.sh d)) := by
  show (T.o (.lst os)).iter.map _ = _
  simp
@[simp] theorem iterC_bol (ds : List D) : (T.bo (.lst ds)).iterC = some (ds.map .bo) := (by rfl)
@[simp] theorem itS_eq (g : FE) (env : En) : itS g env = (g env >>= fun t => M.of t.iter) := (by rfl)
@[simp] theorem itC_eq (g : FE) (env : En) : itC g env = (g env >>= fun t => M.of t.iterC) := (by rfl)
@[simp] theorem ownAll_nil : ownAll [] = some [] := (by rfl)
@[simp] theorem ownAll_o (x : O) (ts : List T) : ownAll (.o x :: ts) = (ownAll ts).map (x :: ·) := by
  cases h : ownAll ts <;> simp [ownAll, h]
@[simp] theorem ownAll_bo (d : D) (ts : List T) : ownAll (.bo d :: ts) = (ownAll ts).bind fun os => if d.flat then some (.sh d :: os) else none := by
  cases h : ownAll ts <;> simp [ownAll, h]
@[simp] theorem dLst_eq (ts : List T) : dLst ts = (ownAll ts).bind fun os => if os.length ≤ sizeLine then some (.o (.lst os)) else none := (by rfl)
@[simp] theorem dTup_eq (ts : List T) : dTup ts = (ownAll ts).bind fun os => if os.length ≤ sizeLine then some (.o (mkTup os)) else none := (by rfl)

/-! statements -/
def thenS (o : Option Out) (h : FS) : Option Out := match o with
  | some (.nx env) => h env
  | o => o
@[simp] theorem then_nx (env : Sn) (h : FS) : thenS (some (.nx env)) h = h env := (by rfl)
@[simp] theorem then_rt (x : O) (h : FS) : thenS (some (.rt x)) h = some (.rt x) := (by rfl)
@[simp] theorem then_bk (x : Sn) (h : FS) : thenS (some (.bk x)) h = some (.bk x) := (by rfl)
@[simp] theorem then_ct (x : Sn) (h : FS) : thenS (some (.ct x)) h = some (.ct x) := (by rfl)
@[simp] theorem then_ex (x : Exn) (e : Sn) (h : FS) : thenS (some (.ex x e)) h = some (.ex x e) := (by rfl)
@[simp] theorem then_none (h : FS) : thenS none h = none := (by rfl)
@[simp] theorem then_ite (c : Prop) [Decidable c] (a b : Option Out) (h : FS) : thenS (if c then a else b) h = if c then thenS a h else thenS b h := by split <;> rfl
@[simp] theorem seqS_eq (g h : FS) (env : Sn) : seqS g h env = thenS (g env) h := by
  unfold seqS thenS
  rfl
@[simp] theorem skipS_eq (env : Sn) : skipS env = some (.nx env) := (by rfl)
@[simp] theorem passS_eq (env : Sn) : passS env = some (.nx env) := (by rfl)
@[simp] theorem brkS_eq (env : Sn) : brkS env = some (.bk env) := (by rfl)
@[simp] theorem cntS_eq (env : Sn) : cntS env = some (.ct env) := (by rfl)
@[simp] theorem ifS_eq (c : FT) (g h : FS) (env : Sn) : ifS c g h env = onE (c (up env)) env fun b => if b then g env else h env := (by rfl)
@[simp] theorem exprS_eq (e : FE) (env : Sn) : exprS e env = onE (e (up env)) env fun _ => some (.nx env) := (by rfl)
@[simp] theorem retS_eq (e : FE) (env : Sn) : retS e env = onE (e (up env)) env T.give := (by rfl)
@[simp] theorem give_o (x : O) : (T.o x).give = some (.rt x) := (by rfl)
@[simp] theorem give_bo (d : D) : (T.bo d).give = if d.flat then some (.rt (.sh d)) else none := (by rfl)
@[simp] theorem keep_o (x : O) : (T.o x).keep = some x := (by rfl)
@[simp] theorem keep_bo (d : D) : (T.bo d).keep = if d.flat then some (.sh d) else none := (by rfl)
@[simp] theorem bName_eq (i : Nat) (x : O) (env : Sn) : bName i x env = some (env.set i (some x)) := (by rfl)
@[simp] theorem asgS_eq (b : FG) (e : FE) (env : Sn) : asgS b e env = onE (e (up env)) env fun t => (t.keep.bind fun x => b x env).map .nx := (by rfl)
@[simp] theorem retMv_eq (i : Nat) (env : Sn) : retMv i env = (match env[i]? with
  | some (some x) => some (.rt x)
  | _ => none) := (by rfl)
@[simp] theorem forS_eq (it : En → M (List D)) (b : FG) (body : FS) (env : Sn) : forS it b body env = onE (it (up env)) env fun ds => loopS b body ds env := (by rfl)
@[simp] theorem onE_ite {a : Type} (c : Prop) [Decidable c] (x y : M a) (env : Sn) (f : a → Option Out) : onE (if c then x else y) env f = if c then onE x env f else onE y env f := by split <;> rfl
@[simp] theorem pure_sh (d : D) : (O.sh d).pure = d.flat := by rw [O.pure]
@[simp] theorem finish_rt (x : O) : finish (some (.rt x)) = if x.pure then .ok x else .bad := (by rfl)
@[simp] theorem finish_nx (e : Sn) : finish (some (.nx e)) = .ok (.sh .non) := (by rfl)
@[simp] theorem finish_ex (x : Exn) (e : Sn) : finish (some (.ex x e)) = .ex x := (by rfl)
@[simp] theorem finish_ite (c : Prop) [Decidable c] (a b : Option Out) : finish (if c then a else b) = if c then finish a else finish b := by split <;> rfl
@[simp] theorem run_eq (n : Nat) (g : FS) (ds : List D) : run n g ds = finish (g (ds.map (fun d => some (.sh d)) ++ List.replicate (n - ds.length) none)) := (by rfl)
@[simp] theorem bind_ite {a b : Type} (c : Prop) [Decidable c] (x y : M a) (f : a → M b) : ((if c then x else y) >>= f) = if c then x >>= f else y >>= f := by split <;> rfl
/-- a loop by an invariant over what is left -/
theorem loop_inv {b : FG} {body : FS} (J : List D → Sn → Prop) (R : O → Prop) (hs : ∀ d ds env, J (d :: ds) env → ∃ env1, b (.sh d) env = some env1 ∧ ((∃ e2, (body env1 = some (.nx e2) ∨ body env1 = some (.ct e2)) ∧ J ds e2) ∨ ∃ x, body env1 = some (.rt x) ∧ R x)) :
    ∀ ds env, J ds env → (∃ e2, loopS b body ds env = some (.nx e2) ∧ J [] e2) ∨ ∃ x, loopS b body ds env = some (.rt x) ∧ R x
  | [], env, h => .inl ⟨env, rfl, h⟩
  | d :: ds, env, h => by
    obtain ⟨e1, h1, h2⟩ := hs d ds env h
    rw [loopS, h1]
    rcases h2 with ⟨e2, h2 | h2, h3⟩ | ⟨x, h2, h3⟩
    · simp only [h2]
      exact loop_inv J R hs ds e2 h3
    · simp only [h2]
      exact loop_inv J R hs ds e2 h3
    · simp only [h2]
      exact .inr ⟨x, rfl, h3⟩
/-! texts -/
open SX (S)
theorem lit (s : String) : Str.ofString s = S (s.toList.map Char.toNat) := Str.ofString_eq_toList s
theorem upper_len (a : Str) : (Txt.upper a).length ≤ 3 * a.length := PySem.StrLaws.placedRaw_le3 _ _ fun _ c => PySem.StrLaws.upperOf_le3 c
theorem lower_len (a : Str) : (Txt.lower a).length ≤ 3 * a.length := PySem.StrLaws.placedRaw_le3 _ _ fun i _ => PySem.StrLaws.lowerAt_le3 a.cps i
theorem app_len (a b : Str) : (a ++ b).length = a.length + b.length := by
  show (a.cps ++ b.cps).size = _
  simp [Str.length]
theorem chr_len (c : Nat) : (⟨#[c]⟩ : Str).length = 1 := rfl
theorem cutS_len (z : Str) (lo hi : Option Int) : (cutS z lo hi).length ≤ z.length := by
  show ((z.cps.toList.drop _).take _).toArray.size ≤ _
  simp [Str.length]
  omega
@[simp] theorem eStr1_eq (op : Str → T → Option T) (g h : FE) (env : En) : eStr1 op g h env = (g env >>= fun t => match t.data with
  | .str a => h env >>= fun u => M.of (op a u)
  | _ => .bad) := (by rfl)
@[simp] theorem eComp_eq (it : En → M (List T)) (vs : List Nat) (b : FGc) (c : FT) (e : FE) (env : En) : eComp it vs b c e env = (it env >>= fun ts => M.of (compL b c e (wipeE env vs) ts) >>= fun os => if os.length ≤ sizeLine then .ok (.o (.lst os)) else .bad) := (by rfl)
@[simp] theorem wipe_nil (env : En) : wipeE env [] = env := (by rfl)
@[simp] theorem wipe_cons (env : En) (v : Nat) (vs : List Nat) : wipeE env (v :: vs) = (wipeE env vs).set v none := (by rfl)
theorem atI_mod {α : Type} (xs : List α) (n : Nat) (h : xs.length = n) (h0 : 0 < n) (i : Int) : ∃ c, atI xs (i % (n : Int)) = some c ∧ c ∈ xs := by
  have h1 : 0 ≤ i % (n : Int) := Int.emod_nonneg _ (by omega)
  have h2 : i % (n : Int) < n := Int.emod_lt_of_pos _ (by omega)
  obtain ⟨j, hj⟩ := Int.eq_ofNat_of_zero_le h1
  rw [hj] at h2 ⊢
  have h3 : j < xs.length := by omega
  exact ⟨xs[j], atI_nat (by simp), by simp⟩
theorem strs_map {α : Type} (f : α → Str) : ∀ xs : List α, D.strs (xs.map fun x => .str (f x)) = some (xs.map f)
  | [] => rfl
  | x :: xs => by
    show (D.strs (xs.map fun x => .str (f x))).map (f x :: ·) = _
    rw [strs_map f xs]
    rfl
theorem joinL_nil_chr : ∀ cs : List Nat, TL.joinL [] (cs.map fun c => [c]) = cs
  | [] => rfl
  | [_] => rfl
  | c :: d :: cs => by
    show [c] ++ ([] ++ TL.joinL [] ((d :: cs).map fun c => [c])) = _
    rw [joinL_nil_chr (d :: cs)]
    rfl
theorem join_chr (cs : List Nat) : Txt.join (Str.ofString "") (cs.map fun c => ⟨#[c]⟩) = S cs := by
  have e : Str.ofString "" = S [] := by decide +kernel
  have e2 : (cs.map fun c => (⟨#[c]⟩ : Str)) = (cs.map fun c => [c]).map S := by rw [List.map_map]; rfl
  rw [e, e2, SX.join_S, joinL_nil_chr]
theorem sum_ones : ∀ cs : List Nat, (cs.map ((fun x : Str => x.length) ∘ fun c => ⟨#[c]⟩)).sum = cs.length
  | [] => rfl
  | c :: cs => by
    have := sum_ones cs
    rw [List.map_cons, List.sum_cons, this, List.length_cons]
    show 1 + _ = _
    omega
theorem sJoin_chr {t : T} {cs : List Nat} (h : t.data.seq = some (cs.map fun c => .str ⟨#[c]⟩)) (hl : cs.length ≤ 16777216) : sJoin (Str.ofString "") t = some (.o (.sh (.str (S cs)))) := by
  unfold sJoin
  rw [h]
  simp only [strs_map]
  rw [if_pos, join_chr]
  · rfl
  · have e : (Str.ofString "").length = 0 := by decide +kernel
    have e2 : ((cs.map fun c => (⟨#[c]⟩ : Str)).map (·.length)).sum = cs.length := by
      rw [List.map_map]
      exact sum_ones cs
    rw [e, e2]; omega
end Fu

namespace Fu
open PySem L2 PyProof.Rows
/-! ### places: a name's own thing, or a part of it -/
def O.kids : O → List O
  | .lst os => os
  | .tup os => os
  | .dK _ os => os
  | .dT _ os => os
  | .obj _ _ os => os
  | .sh _ => []
def O.withKids (o : O) (ks : List O) : O := match o with
  | .lst _ => .lst ks
  | .tup _ => .tup ks
  | .dK a _ => .dK a ks
  | .dT a _ => .dT a ks
  | .obj a b _ => .obj a b ks
  | .sh d => .sh d
def O.walk : O → List Nat → Option O
  | o, [] => some o
  | o, j :: st => (o.kids[j]?).bind fun y => y.walk st
def O.put (o : O) (st : List Nat) (y : O) : O := match st with
  | [] => y
  | j :: st => match o.kids[j]? with
    | some k => o.withKids (o.kids.set j (k.put st y))
    | none => o
abbrev Pl := Nat × List Nat
def getPl (env : Sn) (p : Pl) : Option O := match env[p.1]? with
  | some (some x) => x.walk p.2
  | _ => none
def putPl (env : Sn) (p : Pl) (y : O) : Sn := match env[p.1]? with
  | some (some x) => env.set p.1 (some (x.put p.2 y))
  | _ => env
section
variable {K : PySem.W.Frag} {mg : Mg} {F F' H H' : Hp}
theorem OwnL.focus : ∀ {os : List O} {vs : List V} {fp : List Addr} {j : Nat} {y : O}, OwnL K mg F H os vs fp → os[j]? = some y → ∃ w fy f1 f2, vs[j]? = some w ∧ Own K mg F H y w fy ∧ fp = f1 ++ (fy ++ f2) ∧
    ∀ F' H' y' fy', Ex F F' → (∀ a ∈ f1 ++ f2, H' a = H a) → Own K mg F' H' y' w fy' → OwnL K mg F' H' (os.set j y') vs (f1 ++ (fy' ++ f2))
  | [], _, _, _, _, _, e => by simp at e
  | o :: os, _, _, 0, y, h, e => by
    obtain ⟨w, ws, f1, f2, e1, e2, h1, h2⟩ := h
    have e : o = y := by simpa using e
    subst e e1 e2
    exact ⟨w, f1, [], f2, rfl, h1, rfl, fun F' H' y' fy' eF k r => ⟨w, ws, fy', f2, rfl, rfl, r, OwnL.cong eF (fun a m => k a m) h2⟩⟩
  | o :: os, _, _, j + 1, y, h, e => by
    obtain ⟨w, ws, f1, f2, e1, e2, h1, h2⟩ := h
    obtain ⟨u, fy, g1, g2, a, b, c, d⟩ := OwnL.focus (j := j) h2 (by simpa using e)
    subst e1 e2 c
    refine ⟨u, fy, f1 ++ g1, g2, by simpa using a, b, by simp [List.append_assoc], fun F' H' y' fy' eF k r => ⟨w, ws, f1, g1 ++ (fy' ++ g2), rfl, by simp [List.append_assoc], OwnL.cong' eF (fun a m => k a (List.mem_append_left _ (List.mem_append_left _ m))) h1, ?_⟩⟩
    exact d F' H' y' fy' eF (fun a m => k a (by
      rcases List.mem_append.mp m with m | m
      · exact List.mem_append_left _ (List.mem_append_right _ m)
      · exact List.mem_append_right _ m)) r
where OwnL.cong' {F' H' : Hp} (e : Ex F F') {o : O} {v : V} {fp : List Addr} (k : ∀ a ∈ fp, H' a = H a) (h : Own K mg F H o v fp) : Own K mg F' H' o v fp := Own.cong e k h
/-- where the children stand in the heap -/
def KidsIn (K : PySem.W.Frag) (mg : Mg) (F H : Hp) : O → V → List V → Prop
  | .lst _, v, vs => ∃ p, v = .ref p ∧ H p = some (.lst vs)
  | .tup _, v, vs => ∃ p, v = .ref p ∧ TpK K F p vs
  | .dK ks _, v, vs => ∃ p, v = .ref p ∧ H p = some (.dK (ks.zip vs)) ∧ ks.length = vs.length
  | .dT ks _, v, vs => ∃ p, v = .ref p ∧ H p = some (.dT (ks.zip vs)) ∧ ks.length = vs.length
  | .obj c fs _, v, vs => ∃ p C dx, v = .ref p ∧ H p = some (.ins C dx (fs.zip vs)) ∧ mg c = some (.ref C) ∧ fs.length = vs.length
  | .sh _, _, _ => False
theorem Own.kid : ∀ {o : O} {v : V} {fp : List Addr} {j : Nat} {y : O}, Own K mg F H o v fp → o.kids[j]? = some y → ∃ (vs : List V) (w : V) (fy f1 f2 : List Addr), KidsIn K mg F H o v vs ∧ vs.length = o.kids.length ∧ vs[j]? = some w ∧ Own K mg F H y w fy ∧ fp = f1 ++ (fy ++ f2) ∧
    ∀ F' H' y' fy', Ex F F' → (∀ a ∈ f1 ++ f2, H' a = H a) → Own K mg F' H' y' w fy' → Own K mg F' H' (o.withKids (o.kids.set j y')) v (f1 ++ (fy' ++ f2))
  | .sh d, _, _, _, _, _, e => by simp [O.kids] at e
  | .lst os, _, _, j, y, h, e => by
    obtain ⟨p, vs, fq, e1, h1, e2, r⟩ := h
    obtain ⟨w, fy, f1, f2, a, b, c, d⟩ := r.focus e
    subst c e2
    exact ⟨vs, w, fy, p :: f1, f2, ⟨p, e1, h1⟩, r.len, a, b, rfl, fun F' H' y' fy' eF k r => ⟨p, vs, _, e1, (k p (by simp)).trans h1, rfl, d F' H' y' fy' eF (fun a m => k a (by simp at m ⊢; exact .inr m)) r⟩⟩
  | .tup os, _, _, j, y, h, e => by
    obtain ⟨p, vs, e1, h1, r⟩ := h
    obtain ⟨w, fy, f1, f2, a, b, c, d⟩ := r.focus e
    subst c
    exact ⟨vs, w, fy, f1, f2, ⟨p, e1, h1⟩, r.len, a, b, rfl, fun F' H' y' fy' eF k r => ⟨p, vs, e1, eF.tp h1, d F' H' y' fy' eF k r⟩⟩
  | .dK ks os, _, _, j, y, h, e => by
    obtain ⟨p, vs, fq, e1, h1, l, e2, r⟩ := h
    obtain ⟨w, fy, f1, f2, a, b, c, d⟩ := r.focus e
    subst c e2
    exact ⟨vs, w, fy, p :: f1, f2, ⟨p, e1, h1, l⟩, r.len, a, b, rfl, fun F' H' y' fy' eF k r => ⟨p, vs, _, e1, (k p (by simp)).trans h1, l, rfl, d F' H' y' fy' eF (fun a m => k a (by simp at m ⊢; exact .inr m)) r⟩⟩
  | .dT ks os, _, _, j, y, h, e => by
    obtain ⟨p, vs, fq, e1, h1, l, e2, r⟩ := h
    obtain ⟨w, fy, f1, f2, a, b, c, d⟩ := r.focus e
    subst c e2
    exact ⟨vs, w, fy, p :: f1, f2, ⟨p, e1, h1, l⟩, r.len, a, b, rfl, fun F' H' y' fy' eF k r => ⟨p, vs, _, e1, (k p (by simp)).trans h1, l, rfl, d F' H' y' fy' eF (fun a m => k a (by simp at m ⊢; exact .inr m)) r⟩⟩
  | .obj cn fs os, _, _, j, y, h, e => by
    obtain ⟨p, C, dx, vs, fq, e1, h1, m1, l, e2, r⟩ := h
    obtain ⟨w, fy, f1, f2, a, b, c, d⟩ := r.focus e
    subst c e2
    exact ⟨vs, w, fy, p :: f1, f2, ⟨p, C, dx, e1, h1, m1, l⟩, r.len, a, b, rfl, fun F' H' y' fy' eF k r => ⟨p, C, dx, vs, _, e1, (k p (by simp)).trans h1, m1, l, rfl, d F' H' y' fy' eF (fun a m => k a (by simp at m ⊢; exact .inr m)) r⟩⟩
theorem Slots.focus : ∀ {env : Sn} {σ : L2.St} {fp : List Addr} {i : Nat} {y : O}, Slots K mg F H (up env) σ fp → env[i]? = some (some y) → ∃ v fy f1 f2, σ[i]? = some (some v) ∧ Own K mg F H y v fy ∧ fp = f1 ++ (fy ++ f2) ∧
    ∀ F' H' y' fy', Ex F F' → (∀ a ∈ f1 ++ f2, H' a = H a) → Own K mg F' H' y' v fy' → Slots K mg F' H' (up (env.set i (some y'))) σ (f1 ++ (fy' ++ f2))
  | [], _, _, _, _, _, e => by simp at e
  | o :: env, _, _, 0, y, h, e => by
    obtain ⟨s, τ, f1, f2, e1, e2, h1, h2⟩ := h
    have e : o = some y := by simpa using e
    subst e e1 e2
    obtain ⟨v, a, b⟩ := h1
    exact ⟨v, f1, [], f2, by simpa using a, b, rfl, fun F' H' y' fy' eF k r => ⟨s, τ, fy', f2, rfl, rfl, ⟨v, a, r⟩, Slots.cong eF k h2⟩⟩
  | o :: env, _, _, i + 1, y, h, e => by
    obtain ⟨s, τ, f1, f2, e1, e2, h1, h2⟩ := h
    obtain ⟨v, fy, g1, g2, a, b, c, d⟩ := Slots.focus (i := i) h2 (by simpa using e)
    subst e1 e2 c
    refine ⟨v, fy, f1 ++ g1, g2, by simpa using a, b, by simp [List.append_assoc], fun F' H' y' fy' eF k r => ⟨s, τ, f1, g1 ++ (fy' ++ g2), rfl, by simp [List.append_assoc], ?_, ?_⟩⟩
    · cases o with
      | none => exact h1
      | some t =>
        obtain ⟨v1, a1, b1⟩ := h1
        exact ⟨v1, a1, Own.cong eF (fun a m => k a (List.mem_append_left _ (List.mem_append_left _ m))) b1⟩
    · exact d F' H' y' fy' eF (fun a m => k a (by
        rcases List.mem_append.mp m with m | m
        · exact List.mem_append_left _ (List.mem_append_right _ m)
        · exact List.mem_append_right _ m)) r
where Slots.cong {F' H' : Hp} (eF : Ex F F') : ∀ {env : Sn} {σ : L2.St} {fp : List Addr}, (∀ a ∈ fp, H' a = H a) → Slots K mg F H (up env) σ fp → Slots K mg F' H' (up env) σ fp
  | [], _, _, _, h => h
  | o :: env, _, _, k, h => by
    obtain ⟨s, τ, f1, f2, e1, e2, h1, h2⟩ := h
    subst e2
    refine ⟨s, τ, f1, f2, e1, rfl, ?_, Slots.cong eF (fun a m => k a (List.mem_append_right _ m)) h2⟩
    cases o with
    | none => exact h1
    | some t =>
      obtain ⟨v1, a1, b1⟩ := h1
      exact ⟨v1, a1, Own.cong eF (fun a m => k a (List.mem_append_left _ m)) b1⟩
/-- the place's thing, and how the rest goes on when it is changed -/
def Hole (K : PySem.W.Frag) (mg : Mg) (F H : Hp) (env : Sn) (σ : L2.St) (fp : List Addr) (p : Pl) (y : O) (v : V) : Prop :=
  ∃ fy f1 f2, fp = f1 ++ (fy ++ f2) ∧ Own K mg F H y v fy ∧ (∀ a ∈ fp, ∃ u, H a = some u ∧ Mut (some u)) ∧
    ∀ F' H' y' fy', Ex F F' → (∀ a ∈ f1 ++ f2, H' a = H a) → Own K mg F' H' y' v fy' → Slots K mg F' H' (up (putPl env p y')) σ (f1 ++ (fy' ++ f2))
theorem Hole.root {env : Sn} {σ : L2.St} {fp : List Addr} {i : Nat} {y : O} (hs : Slots K mg F H (up env) σ fp) (h : env[i]? = some (some y)) : ∃ v, σ[i]? = some (some v) ∧ Hole K mg F H env σ fp (i, []) y v := by
  obtain ⟨v, fy, f1, f2, a, b, c, d⟩ := hs.focus h
  have dm := hs.dom
  subst c
  refine ⟨v, a, fy, f1, f2, rfl, b, fun a m => ?_, fun F' H' y' fy' eF k r => ?_⟩
  · exact dm a m
  · have : putPl env (i, []) y' = env.set i (some y') := by
      show (match env[i]? with
        | some (some x) => env.set i (some (x.put [] y'))
        | _ => env) = _
      rw [h]
      show env.set i (some (y.put [] y')) = _
      rw [O.put]
    rw [this]
    exact d F' H' y' fy' eF k r
theorem walk_snoc : ∀ (st : List Nat) (x y z : O) (j : Nat), x.walk st = some y → y.kids[j]? = some z → x.walk (st ++ [j]) = some z
  | [], x, y, z, j, h, e => by
    have h : some x = some y := h
    cases h
    show (x.kids[j]?).bind (fun y => y.walk []) = _
    rw [e]
    rfl
  | i :: st, x, y, z, j, h, e => by
    have h : (x.kids[i]?).bind (fun y => y.walk st) = some y := h
    show (x.kids[i]?).bind (fun y => y.walk (st ++ [j])) = some z
    cases c : x.kids[i]? with
    | none => rw [c] at h; cases h
    | some k =>
      rw [c] at h
      exact walk_snoc st k y z j h e
theorem put_snoc : ∀ (st : List Nat) (x y z w : O) (j : Nat), x.walk st = some y → y.kids[j]? = some z → x.put (st ++ [j]) w = x.put st (y.withKids (y.kids.set j w))
  | [], x, y, z, w, j, h, e => by
    have h : some x = some y := h
    cases h
    show x.put [j] w = x.put [] _
    rw [O.put, O.put, e]
    simp only []
    rw [O.put]
  | i :: st, x, y, z, w, j, h, e => by
    have h : (x.kids[i]?).bind (fun y => y.walk st) = some y := h
    show x.put (i :: (st ++ [j])) w = _
    rw [O.put, O.put]
    cases c : x.kids[i]? with
    | none => simp [c] at h
    | some k =>
      rw [c] at h
      simp only []
      rw [put_snoc st k y z w j h e]
theorem getPl_kid {env : Sn} {p : Pl} {y z : O} {j : Nat} (h : getPl env p = some y) (e : y.kids[j]? = some z) : getPl env (p.1, p.2 ++ [j]) = some z := by
  unfold getPl at h ⊢
  split at h
  · rename_i x c
    simp only [c]
    exact walk_snoc _ _ _ _ _ h e
  · cases h
theorem putPl_kid {env : Sn} {p : Pl} {y z w : O} {j : Nat} (h : getPl env p = some y) (e : y.kids[j]? = some z) : putPl env (p.1, p.2 ++ [j]) w = putPl env p (y.withKids (y.kids.set j w)) := by
  unfold getPl at h
  unfold putPl
  split at h
  · rename_i x c
    simp only [c]
    rw [put_snoc _ _ _ _ _ _ h e]
  · cases h
theorem Hole.kid {env : Sn} {σ : L2.St} {fp : List Addr} {p : Pl} {y z : O} {v : V} {j : Nat} (h : Hole K mg F H env σ fp p y v) (hg : getPl env p = some y) (e : y.kids[j]? = some z) : ∃ (vs : List V) (w : V), KidsIn K mg F H y v vs ∧ vs.length = y.kids.length ∧ vs[j]? = some w ∧ Hole K mg F H env σ fp (p.1, p.2 ++ [j]) z w := by
  obtain ⟨fy, f1, f2, ef, a, c, d⟩ := h
  obtain ⟨vs, w, fz, g1, g2, q0, q1, q1', q2, q3, q4⟩ := a.kid e
  subst q3
  refine ⟨vs, w, q0, q1, q1', fz, f1 ++ g1, g2 ++ f2, by rw [ef]; simp [List.append_assoc], q2, c, fun F' H' y' fy' eF k r => ?_⟩
  rw [putPl_kid hg e]
  have := d F' H' _ _ eF (fun x m => k x (by
      rcases List.mem_append.mp m with m | m
      · exact List.mem_append_left _ (List.mem_append_left _ m)
      · exact List.mem_append_right _ (List.mem_append_right _ m))) (q4 F' H' y' fy' eF (fun x m => k x (by
      rcases List.mem_append.mp m with m | m
      · exact List.mem_append_left _ (List.mem_append_right _ m)
      · exact List.mem_append_right _ (List.mem_append_left _ m))) r)
  simpa [List.append_assoc] using this
theorem Hole.grow {env : Sn} {σ : L2.St} {fp : List Addr} {p : Pl} {y : O} {v : V} (e : Ex F H) (g : Grow F H F' H') (h : Hole K mg F H env σ fp p y v) : Hole K mg F' H' env σ fp p y v := by
  obtain ⟨fy, f1, f2, ef, a, c, d⟩ := h
  have eF := g.exF e
  have back : ∀ x ∈ fp, H' x = H x := fun x m => by
    obtain ⟨u, hu, mu⟩ := c x m
    rw [g.hh.mut hu mu, hu]
  refine ⟨fy, f1, f2, ef, a.cong eF fun x m => back x (by rw [ef]; simp [m]), fun x m => ?_, fun F2 H2 y' fy' e2 k r => d F2 H2 y' fy' (eF.trans e2) (fun x m => (k x m).trans (back x (by
    rw [ef]
    rcases List.mem_append.mp m with m | m <;> simp [m]))) r⟩
  obtain ⟨u, hu, mu⟩ := c x m
  exact ⟨u, g.hh.mut hu mu, mu⟩
end
/-! ### reading of places -/
abbrev FP := Sn → M Pl
section
variable (K : PySem.W.Frag) (mg : Mg)
def PPost (W : WX) (F H : Hp) (env : Sn) (σ : L2.St) (fp : List Addr) (m : M Pl) (Q : VK) : Prop := match m with
  | .ok p => ∀ v y F' H', Grow F H F' H' → getPl env p = some y → Hole K mg F' H' env σ fp p y v → Q v H'
  | .ex x => XPost K mg W F x (up env)
  | .bad => False
end
structure RP (X : Cx) (W : WX) (e : Expr) (te : TE) (p : FP) : Prop where
  pe : PE X e te
  ok : ∀ env pl, p env = .ok pl → ∃ y, getPl env pl = some y
  sem : ∀ F H env σ fp, EnvOK X.K X.mg F H (up env) σ → Slots X.K X.mg F H (up env) σ fp → ∀ Q : VK, PPost X.K X.mg W F H env σ fp (p env) Q → te σ H Q
def pVar (i : Nat) : FP := fun env => match env[i]? with
  | some (some _) => .ok (i, [])
  | _ => .bad
def kIdx {κ : Type} [DecidableEq κ] : List κ → κ → Option Nat
  | [], _ => none
  | a :: ks, k => if a = k then some 0 else (kIdx ks k).map (· + 1)
theorem kIdx_val {κ : Type} [DecidableEq κ] : ∀ {ks : List κ} {vs : List V} {k : κ} {j : Nat} {w : V}, ks.length = vs.length → kIdx ks k = some j → vs[j]? = some w → valV (ks.zip vs) k = some w
  | [], _, _, _, _, _, h, _ => by cases h
  | a :: ks, [], _, _, _, l, _, _ => by simp at l
  | a :: ks, v :: vs, k, j, w, l, h, e => by
    rw [List.zip_cons_cons]
    by_cases c : a = k
    · rw [kIdx, if_pos c] at h
      cases h
      rw [valV_pos c]
      simpa using e
    · rw [kIdx, if_neg c] at h
      rw [valV_neg c]
      cases d : kIdx ks k with
      | none => rw [d] at h; cases h
      | some i =>
        rw [d] at h
        cases h
        exact kIdx_val (by simpa using l) d (by simpa using e)
/-- which child -/
def O.at (o : O) (d : D) : Option Nat := match o, d with
  | .lst os, .int i => (ixN os.length i)
  | .tup os, .int i => (ixN os.length i)
  | .dK ks os, k => k.key.bind fun c => kIdx ks c
  | _, _ => none
def pAt (p : FP) (g : FE) : FP := fun env => do
  let pl ← p env
  let t ← g (up env)
  let j ← M.of ((getPl env pl).bind fun o => (o.at t.data).bind fun j => if j < o.kids.length then some j else none)
  .ok (pl.1, pl.2 ++ [j])
section
variable {X : Cx} {W : WX} {pos : Pos}
theorem rp_var (i : Nat) {x : Str} (hN : X.N[i]? = some x := by rfl) (hv : Vis X.env.scope x := by first | exact Or.inl rfl | exact Or.inr (Or.inl rfl) | exact Or.inr (Or.inr rfl)) (hd : (x == ("__debug__" : Str)) = false := by decide)
    (hcd : (x == ("__classdict__" : Str)) = false := by decide) : RP X W (.Name x pos) (tVar i) (pVar i) := by
  refine ⟨pe_var hN hv hd hcd, fun env pl h => ?_, fun F H env σ fp I hs Q q => ?_⟩
  · unfold pVar at h
    split at h
    · rename_i y e
      cases h
      refine ⟨y, ?_⟩
      unfold getPl
      rw [e]
      rfl
    · cases h
  · unfold pVar at q
    split at q
    · rename_i y e
      obtain ⟨v, a, b⟩ := Hole.root hs e
      refine ⟨v, a, q v y F H (Grow.refl I.fh I.tu) ?_ b⟩
      unfold getPl
      rw [e]
      rfl
    · exact q.elim
theorem rp_at {ea eb : Expr} {ta tb : TE} {p : FP} {g : FE} (hu : X.A.units + 150 < cLine) (ha : RP X W ea ta p) (hb : RE X W eb tb g) (hs : PlainIx eb := by exact fun _ _ => rfl) :
    RP X W (.Subscript ea eb pos) (tOp (rIxF X.K) ta tb) (pAt p g) := by
  refine ⟨pe_ix (ix_F (by omega)) ha.pe hb.pe hs, fun env pl h => ?_, fun F H env σ f0 I hs Q q => ha.sem F H env σ f0 I hs _ ?_⟩
  · unfold pAt at h
    cases e1 : p env with
    | bad => rw [e1] at h; cases h
    | ex x => rw [e1] at h; cases h
    | ok pl0 =>
      rw [e1] at h
      simp only [M.bind_ok] at h
      cases e2 : g (up env) with
      | bad => rw [e2] at h; cases h
      | ex x => rw [e2] at h; cases h
      | ok t =>
        rw [e2] at h
        simp only [M.bind_ok] at h
        obtain ⟨y, hy⟩ := ha.ok env pl0 e1
        rw [hy] at h
        simp only [Option.bind_some] at h
        cases e3 : y.at t.data with
        | none => rw [e3] at h; cases h
        | some j =>
          rw [e3] at h
          simp only [Option.bind_some] at h
          by_cases hj : j < y.kids.length
          · rw [if_pos hj] at h
            cases h
            exact ⟨y.kids[j], getPl_kid hy (by simp)⟩
          · rw [if_neg hj] at h; cases h
  · unfold pAt at q
    cases e1 : p env with
    | bad => rw [e1] at q; exact q.elim
    | ex x => rw [e1] at q; exact q
    | ok pl0 =>
      rw [e1] at q
      simp only [M.bind_ok] at q
      intro v y F1 H1 g1 hy ho
      refine hb.sem F1 H1 (up env) σ (I.grow g1) _ ?_
      cases e2 : g (up env) with
      | bad => rw [e2] at q; exact q.elim
      | ex x => rw [e2] at q; exact XPost.from (g1.exF I.fh) q
      | ok t =>
        rw [e2] at q
        simp only [M.bind_ok, hy, Option.bind_some] at q
        intro w F2 H2 fp g2 r nd k
        have ho2 := ho.grow g1.fh g2
        cases e3 : y.at t.data with
        | none => rw [e3] at q; exact q.elim
        | some j =>
          rw [e3] at q
          simp only [Option.bind_some] at q
          by_cases hj : j < y.kids.length
          · rw [if_pos hj] at q
            obtain ⟨vs, z, a1, a2, a3, a4⟩ := ho2.kid hy (j := j) (z := y.kids[j]) (by simp)
            have q := q z _ F2 H2 (g1.trans g2) (getPl_kid hy (by simp)) a4
            have rw' := r.rep g2.fh
            cases y with
            | lst os =>
              obtain ⟨l, rfl, h2⟩ := a1
              cases e4 : t.data with
              | int i =>
                rw [e4] at e3 rw'
                cases rw'
                have e3 : ixN os.length i = some j := e3
                refine .inl (.inl ⟨l, vs, i, z, rfl, rfl, SqL.of h2, ?_, q⟩)
                unfold atI
                rw [show vs.length = os.length from a2, e3]
                exact a3
              | _ => rw [e4] at e3; cases e3
            | tup os =>
              obtain ⟨l, rfl, h2⟩ := a1
              cases e4 : t.data with
              | int i =>
                rw [e4] at e3 rw'
                cases rw'
                have e3 : ixN os.length i = some j := e3
                refine .inl (.inr (.inl ⟨l, vs, i, z, rfl, rfl, (g2.fh.tp h2).sq, ?_, q⟩))
                unfold atI
                rw [show vs.length = os.length from a2, e3]
                exact a3
              | _ => rw [e4] at e3; cases e3
            | dK ks os =>
              obtain ⟨l, rfl, h2, h3⟩ := a1
              have e3 : (t.data.key.bind fun c => kIdx ks c) = some j := e3
              cases e5 : t.data.key with
              | none => rw [e5] at e3; cases e3
              | some c =>
                rw [e5] at e3
                have e6 := rw'.key e5
                subst e6
                exact .inr ⟨l, z, rfl, .inl ⟨_, c, .inl h2, rfl, (kIdx_val h3 e3 a3).symm⟩, q⟩
            | sh d => exact a1.elim
            | _ => cases e3
          · rw [if_neg hj] at q; exact q.elim
end
end Fu

namespace Fu
open PySem L2 PyProof.Rows
/-! ### changes in place -/
section
variable {K : PySem.W.Frag} {mg : Mg} {F F' H H' : Hp}
theorem mem_mid {a : Addr} {f1 fy f2 : List Addr} : a ∈ f1 ++ (fy ++ f2) ↔ a ∈ fy ∨ a ∈ f1 ++ f2 := by
  simp only [List.mem_append]
  constructor
  · rintro (h | h | h)
    · exact .inr (.inl h)
    · exact .inl h
    · exact .inr (.inr h)
  · rintro (h | h | h)
    · exact .inr (.inl h)
    · exact .inl h
    · exact .inr (.inr h)
theorem nd_mid {f1 fy f2 : List Addr} : (f1 ++ (fy ++ f2)).Nodup ↔ fy.Nodup ∧ (f1 ++ f2).Nodup ∧ ∀ a ∈ fy, a ∉ f1 ++ f2 := by
  have p : (f1 ++ (fy ++ f2)).Perm (fy ++ (f1 ++ f2)) := by
    rw [← List.append_assoc, ← List.append_assoc]
    exact List.Perm.append_right f2 List.perm_append_comm
  rw [p.nodup_iff, List.nodup_append]
  constructor
  · rintro ⟨a, b, c⟩
    exact ⟨a, b, fun x m m' => c x m x m' rfl⟩
  · rintro ⟨a, b, c⟩
    exact ⟨a, b, fun x m y m' z => c x m (z ▸ m')⟩
/-- what a change of an owned thing must show -/
def Chg (K : PySem.W.Frag) (mg : Mg) (F H : Hp) (y' : O) (v : V) (fy fx fo : List Addr) (H' : Hp) : Prop :=
  ∃ fy', Own K mg F H' y' v fy' ∧ (fy' ++ fo).Nodup ∧ (∀ a ∈ fy' ++ fo, a ∈ fy ++ fx) ∧ (∀ a, a ∉ fy → H' a = H a) ∧ Ex F H' ∧ TupIn F H'
theorem TbOK.wr {K : PySem.W.Frag} {H H' : Hp} {fy : List Addr} (t : TbOK K H) (dt : ∀ a ∈ fy, ∃ u, H a = some u ∧ Dat u) (h : ∀ a, a ∉ fy → H' a = H a) : TbOK K H' := by
  have keep : ∀ {a : Addr} {o : HO}, H a = some o → ¬ Dat o → H' a = some o := fun {a o} e n => by
    rw [h a fun m => ?_]; exact e
    obtain ⟨u, hu, d⟩ := dt a m
    rw [e] at hu
    cases hu
    exact n d
  intro P m
  obtain ⟨ps, h1, h2, h3⟩ := t P m
  refine ⟨ps, keep h1 fun z => z, h2, fun pos cv hc => ?_⟩
  obtain ⟨c, q, e1, e2⟩ := h3 pos cv hc
  exact ⟨c, q, e1, keep e2 fun z => z⟩
theorem Hole.write (tb : TbOK K H) {env : Sn} {σ : L2.St} {p : Pl} {y y' : O} {v : V} {fp fx : List Addr} {R : Prop} (h : Hole K mg F H env σ fp p y v) (nd : (fp ++ fx).Nodup) (fn : ∀ a ∈ fp ++ fx, F a = none)
    (q : ∀ fy, Own K mg F H y v fy → (fy ++ fx).Nodup → (∀ a ∈ fy ++ fx, F a = none) → (∀ H' fo, Chg K mg F H y' v fy fx fo H' → EnvF K mg F H' (up (putPl env p y')) σ fo) → R) : R := by
  obtain ⟨fy, f1, f2, ef, a, c, d⟩ := h
  subst ef
  have nd' := List.nodup_append.mp nd
  obtain ⟨n1, n2, n3⟩ := nd_mid.mp nd'.1
  have dj : ∀ x ∈ f1 ++ (fy ++ f2), x ∉ fx := fun x m m' => nd'.2.2 x m x m' rfl
  have f0 : ∀ x ∈ f1 ++ (fy ++ f2), F x = none := fun x m => fn x (List.mem_append_left _ m)
  have kx : ∀ x ∈ fx, F x = none := fun x m => fn x (List.mem_append_right _ m)
  refine q fy a (List.nodup_append.mpr ⟨n1, nd'.2.1, fun x m z m' e => dj x (mem_mid.mpr (.inl m)) (e ▸ m')⟩) (fun x m => ?_) fun H' fo w => ?_
  · rcases List.mem_append.mp m with m | m
    · exact f0 x (mem_mid.mpr (.inl m))
    · exact kx x m
  obtain ⟨fy', w1, w2, w3, w4, w5, w6⟩ := w
  have w2' := List.nodup_append.mp w2
  have off : ∀ x ∈ f1 ++ f2, x ∉ fy ++ fx := fun x m m' => by
    rcases List.mem_append.mp m' with m' | m'
    · exact n3 x m' m
    · exact dj x (mem_mid.mpr (.inr m)) m'
  refine ⟨w5, w6, tb.wr (Own.dat a) w4, f1 ++ (fy' ++ f2), ?_, fun x m => ?_, d F H' y' fy' (Ex.refl F) (fun x m => w4 x fun m' => n3 x m' m) w1⟩
  · refine List.nodup_append.mpr ⟨nd_mid.mpr ⟨w2'.1, n2, fun x m m' => off x m' (w3 x (List.mem_append_left _ m))⟩, w2'.2.1, fun x m z m' e => ?_⟩
    subst e
    rcases mem_mid.mp m with m | m
    · exact w2'.2.2 x m x m' rfl
    · exact off x m (w3 x (List.mem_append_right _ m'))
  · rcases List.mem_append.mp m with m | m
    · rcases mem_mid.mp m with m | m
      · rcases List.mem_append.mp (w3 x (List.mem_append_left _ m)) with m | m
        · exact f0 x (mem_mid.mpr (.inl m))
        · exact kx x m
      · exact f0 x (mem_mid.mpr (.inr m))
    · rcases List.mem_append.mp (w3 x (List.mem_append_right _ m)) with m | m
      · exact f0 x (mem_mid.mpr (.inl m))
      · exact kx x m
/-- the names' own cells and fresh ones -/
theorem Slots.beside {env : En} {σ : L2.St} {fp fx : List Addr} (hs : Slots K mg F H env σ fp) (n0 : fp.Nodup) (f0 : ∀ a ∈ fp, F a = none) (g : Grow F H F' H') (nx : fx.Nodup) (kx : ∀ a ∈ fx, H a = none ∧ F' a = none) :
    (fp ++ fx).Nodup ∧ ∀ a ∈ fp ++ fx, F' a = none := by
  refine ⟨List.nodup_append.mpr ⟨n0, nx, fun a m b m' z => ?_⟩, fun a m => ?_⟩
  · subst z
    obtain ⟨u, hu, _⟩ := hs.dom a m
    rw [(kx a m').1] at hu; cases hu
  · rcases List.mem_append.mp m with m | m
    · obtain ⟨u, hu, _⟩ := hs.dom a m
      exact (g.ff a (by rw [hu]; intro z; cases z)).trans (f0 a m)
    · exact (kx a m).2
/-- one cell is written -/
theorem ex_wr {l : Addr} {o u : HO} (e : Ex F H) (hl : F l = none) (hd : H l = some u) (d : Dat u) : Ex F (upd H l o) := e.wr hl hd d
theorem tup_wr {l : Addr} {o : HO} (t : TupIn F H) (ho : ∀ vs, o ≠ .tup vs) : TupIn F (upd H l o) := fun a vs h => by
  by_cases c : a = l
  · subst c; rw [upd_same] at h; cases h; exact absurd rfl (ho vs)
  · rw [upd_ne c] at h; exact t a vs h
/-- the kinds whose own cell is changed -/
def O.kind : O → String
  | .lst _ => "list"
  | .dK _ _ => "dict"
  | .dT _ _ => "dict"
  | _ => ""
theorem Own.ty {y : O} {v : V} {fy : List Addr} {T : String} (r : Own K mg F H y v fy) (h : y.kind = T) (hT : T ≠ "") : tyV K T v H := by
  subst h
  cases y with
  | lst os =>
    obtain ⟨p, vs, fq, rfl, h1, e2, r⟩ := r
    exact .inl ⟨rfl, _, SqL.of h1⟩
  | dK ks os =>
    obtain ⟨p, vs, fq, rfl, h1, e2, r⟩ := r
    exact .inr (.inr (.inl ⟨rfl, .inl ⟨_, h1⟩⟩))
  | dT ks os =>
    obtain ⟨p, vs, fq, rfl, h1, e2, r⟩ := r
    exact .inr (.inr (.inl ⟨rfl, .inr ⟨_, h1⟩⟩))
  | _ => exact absurd rfl hT
/-- a method with one argument that changes its owner and gives None -/
def MutV (K : PySem.W.Frag) (mg : Mg) (T : String) (r : V → List V → Hp → VK → Prop) (op : O → Fu.T → Option O) : Prop := ∀ F H y y' t v w fy fx, Ex F H → TupIn F H → Own K mg F H y v fy → RepT K mg F H t w fx → (fy ++ fx).Nodup → (∀ a ∈ fy ++ fx, F a = none) →
  y.kind = T → op y t = some y' → ∀ Q : VK, (∀ H', Chg K mg F H y' v fy fx [] H' → Q .non H') → r v [w] H Q
end
def mutS (T : String) (p : FP) (g : FE) (op : O → Fu.T → Option O) : FS := fun env => onE (p env) env fun pl => match getPl env pl with
  | some y => if y.kind = T then onE (g (up env)) env fun t => (op y t).map fun y' => .nx (putPl env pl y') else none
  | none => none
section
variable {X : Cx} {W : WX} {pos apos cpos : Pos} {o e : Expr} {to te : TE} {p : FP} {g : FE} {T id : String} {name : Str} {r : V → List V → Hp → VK → Prop} {op : O → Fu.T → Option O}
theorem rs_mut1 (hT : T ≠ "") (pa : PlainAttrs T) (slot : Slot T name id) (ty : typeOf (.builtin id) = pure (.type "method_descriptor")) (rule : MtR X id r) (hv : MutV X.K X.mg T r op) (ho : RP X W o to p) (he : RE X W e te g)
    (hbase : attributeBase o name X.env (eval o X.env) = eval o X.env)
    (hfew : ((backTo cpos (starEach [e] X.env)).all (fun x => !x.1) && (backToKw cpos (keywordEach [] X.env)).all (fun x => x.1.isSome)
      && decide ([e].length + ([] : List Keyword).length + (if ([] : List Keyword).isEmpty then 0 else 1) < 30)) = true)
    (hline : (apos.endLine == cpos.line) = true) (hs : starEach [e] X.env = (false, eval e X.env) :: starEach [] X.env) (hplain : (backTo cpos (starEach [] X.env)).any (·.1) = false)
    (hsw : swapsWith (.Call (.Attribute o name apos) [e] [] cpos) none pos.line X.env = pure false) :
    RS X W (.Expr (.Call (.Attribute o name apos) [e] [] cpos) pos) (tDrop (tBM X.K T r to (tCons te tNil))) (mutS T p g op) := by
  refine ⟨ps_expr (pe_bm pa slot ty rule ho.pe (pa_cons he.pe pa_nil hs) hbase hfew hline hs hplain) hsw, fun F H env σ D I q => ?_⟩
  obtain ⟨fp, n0, f0, hs0⟩ := I.sl
  refine ho.sem F H env σ fp I hs0 _ ?_
  unfold mutS at q
  cases e1 : p env with
  | bad => rw [e1] at q; exact q.elim
  | ex x => rw [e1] at q; exact q
  | ok pl =>
    rw [e1] at q
    simp only [onE_ok] at q
    intro v y F1 H1 g1 hy h1
    rw [hy] at q
    simp only [] at q
    split at q
    · rename_i hk
      refine ⟨?_, he.sem F1 H1 (up env) σ (I.grow g1) _ ?_⟩
      · obtain ⟨fy0, f1, f2, _, a0, _⟩ := h1
        exact a0.ty hk hT
      cases e2 : g (up env) with
      | bad => rw [e2] at q; exact q.elim
      | ex x => rw [e2] at q; exact XPost.from (g1.exF I.fh) q
      | ok t =>
        rw [e2] at q
        simp only [onE_ok] at q
        intro w F2 H2 fx g2 rt nx kx
        cases e3 : op y t with
        | none => rw [e3] at q; exact q.elim
        | some y' =>
          rw [e3] at q
          obtain ⟨n2, f2⟩ := Slots.beside hs0 n0 f0 (g1.trans g2) nx fun a m => ⟨g1.hh.back (kx a m).1, (kx a m).2⟩
          exact Hole.write ((I.grow g1).grow g2).tb (h1.grow g1.fh g2) n2 f2 (y' := y') fun fy a nd hf done => hv F2 H2 y y' t v w fy fx g2.fh g2.tu a rt nd hf hk e3 _ fun H' c => q F2 H' σ ((g1.exF I.fh).trans (g2.exF g1.fh)) (done H' [] c).ok
    · exact q.elim
end
end Fu

namespace Fu
open PySem L2 PyProof.Rows
section
variable {K : PySem.W.Frag} {mg : Mg} {F H : Hp}
/-- a list's own cell is written -/
theorem chg_list {l : Addr} {vs' : List V} {os' : List O} {fq fq' fx fo : List Addr} {vs0 : List V} (e : Ex F H) (t : TupIn F H) (hd : H l = some (.lst vs0)) (nd : ((l :: fq) ++ fx).Nodup) (fn : ∀ a ∈ (l :: fq) ++ fx, F a = none)
    (r : ∀ H', (∀ a ∈ fq ++ fx, H' a = H a) → OwnL K mg F H' os' vs' fq') (n' : (fq' ++ fo).Nodup) (s' : ∀ a ∈ fq' ++ fo, a ∈ fq ++ fx) : Chg K mg F H (.lst os') (.ref l) (l :: fq) fx fo (upd H l (.lst vs')) := by
  have hl : l ∉ fq ++ fx := by
    have : (l :: (fq ++ fx)).Nodup := nd
    exact (List.nodup_cons.mp this).1
  refine ⟨l :: fq', ⟨l, vs', fq', rfl, upd_same, rfl, r _ fun a m => upd_ne fun z => hl (z ▸ m)⟩, ?_, fun a m => ?_, fun a m => upd_ne fun z => m (z ▸ List.mem_cons_self), ex_wr e (fn l (by simp)) hd trivial, tup_wr t fun vs h => by cases h⟩
  · exact List.nodup_cons.mpr ⟨fun m => hl (s' l m), n'⟩
  · rcases List.mem_cons.mp m with m | m
    · subst m; simp
    · exact List.mem_cons_of_mem _ (s' a m)
def opAppend (y : O) (t : Fu.T) : Option O := match y, t.keep with
  | .lst os, some x => if os.length < sizeLine then some (.lst (os ++ [x])) else none
  | _, _ => none
theorem mut_append : MutV K mg "list" rAppend opAppend := by
  intro F H y y' t v w fy fx e tu r rt nd fn hk ho Q q
  unfold opAppend at ho
  split at ho
  · rename_i os x e1
    split at ho
    · rename_i hz
      cases ho
      obtain ⟨l, vs, fq, rfl, h1, e2, r⟩ := r
      subst e2
      have rx := T.keep_ok tu rt e1
      refine ⟨l, vs, w, rfl, rfl, h1, by rw [r.len]; exact hz, q _ (chg_list e tu h1 nd fn (fq' := fq ++ fx) (fun H' k => ?_) ?_ ?_)⟩
      · exact OwnL.app (OwnL.cong (Ex.refl F) (fun a m => k a (List.mem_append_left _ m)) r) ⟨w, [], fx, [], rfl, by simp, Own.cong (Ex.refl F) (fun a m => k a (List.mem_append_right _ m)) rx, rfl, rfl⟩
      · rw [List.append_nil]
        exact (List.nodup_cons.mp (show (l :: (fq ++ fx)).Nodup from nd)).2
      · intro a m
        simpa using m
    · cases ho
  · cases ho
def opExtend (y : O) (t : Fu.T) : Option O := match y, t.items with
  | .lst os, some ps => if os.length + ps.length ≤ sizeLine then some (.lst (os ++ ps)) else none
  | _, _ => none
theorem mut_extend : MutV K mg "list" rExtend opExtend := by
  intro F H y y' t v w fy fx e tu r rt nd fn hk ho Q q
  unfold opExtend at ho
  split at ho
  · rename_i os ps e1
    split at ho
    · rename_i hz
      cases ho
      obtain ⟨l, vs, fq, rfl, h1, e2, r⟩ := r
      subst e2
      obtain ⟨b, zs, fz, rfl, hb, rz, sub⟩ := T.items_ok e tu rt e1
      refine ⟨l, b, vs, zs, rfl, rfl, h1, hb, by rw [r.len, rz.len]; exact hz, q _ (chg_list e tu h1 nd fn (fq' := fq ++ fz) (fun H' k => ?_) ?_ ?_)⟩
      · exact OwnL.app (OwnL.cong (Ex.refl F) (fun a m => k a (List.mem_append_left _ m)) r) (OwnL.cong (Ex.refl F) (fun a m => k a (List.mem_append_right _ (sub.subset m))) rz)
      · rw [List.append_nil]
        exact ((List.nodup_cons.mp (show (l :: (fq ++ fx)).Nodup from nd)).2).sublist (List.Sublist.append_left sub fq)
      · intro a m
        rw [List.append_nil] at m
        rcases List.mem_append.mp m with m | m
        · exact List.mem_append_left _ m
        · exact List.mem_append_right _ (sub.subset m)
    · cases ho
  · cases ho
/-- a method without arguments -/
def Mut0 (K : PySem.W.Frag) (mg : Mg) (T : String) (r : V → List V → Hp → VK → Prop) (op : O → Option O) : Prop := ∀ F H y y' v fy, Ex F H → TupIn F H → Own K mg F H y v fy → fy.Nodup → (∀ a ∈ fy, F a = none) →
  y.kind = T → op y = some y' → ∀ Q : VK, (∀ H', Chg K mg F H y' v fy [] [] H' → Q .non H') → r v [] H Q
def opClear (y : O) : Option O := match y with
  | .lst _ => some (.lst [])
  | _ => none
theorem mut_clear : Mut0 K mg "list" rClear opClear := by
  intro F H y y' v fy e tu r nd fn hk ho Q q
  cases y with
  | lst os =>
    cases ho
    obtain ⟨l, vs, fq, rfl, h1, e2, r⟩ := r
    subst e2
    exact ⟨l, vs, rfl, rfl, h1, q _ (chg_list e tu h1 (by simpa using nd) (by simpa using fn) (fq' := []) (fun H' k => ⟨rfl, rfl⟩) List.nodup_nil (fun a m => by cases m))⟩
  | _ => cases ho
theorem OwnL.rev {H : Hp} : ∀ {os : List O} {vs : List V} {fp : List Addr}, OwnL K mg F H os vs fp → ∃ fq, OwnL K mg F H os.reverse vs.reverse fq ∧ fq.Perm fp
  | [], vs, fp, h => by
    obtain ⟨h1, h2⟩ := h
    subst h1 h2
    exact ⟨[], ⟨rfl, rfl⟩, List.Perm.refl _⟩
  | o :: os, vs, fp, h => by
    obtain ⟨w, ws, f1, f2, e1, e2, h1, h2⟩ := h
    subst e1 e2
    obtain ⟨fq, a, b⟩ := OwnL.rev h2
    refine ⟨fq ++ f1, ?_, ?_⟩
    · rw [List.reverse_cons, List.reverse_cons]
      exact OwnL.app a ⟨w, [], f1, [], rfl, by simp, h1, rfl, rfl⟩
    · exact (List.Perm.append_right f1 b).trans List.perm_append_comm
def opReverse (y : O) : Option O := match y with
  | .lst os => some (.lst os.reverse)
  | _ => none
theorem mut_reverse : Mut0 K mg "list" rReverse opReverse := by
  intro F H y y' v fy e tu r nd fn hk ho Q q
  cases y with
  | lst os =>
    cases ho
    obtain ⟨l, vs, fq, rfl, h1, e2, r⟩ := r
    subst e2
    obtain ⟨fr, r', pm⟩ := r.rev
    have n2 : fq.Nodup := (List.nodup_cons.mp nd).2
    exact ⟨l, vs, rfl, rfl, h1, q _ (chg_list e tu h1 (by simpa using nd) (by simpa using fn) (fq' := fr) (fun H' k => OwnL.cong (Ex.refl F) (fun a m => k a (by simpa using pm.mem_iff.mp m)) r') (by simpa using pm.nodup_iff.mpr n2) (fun a m => by simpa using pm.mem_iff.mp (by simpa using m)))⟩
  | _ => cases ho
end
def mutS0 (T : String) (p : FP) (op : O → Option O) : FS := fun env => onE (p env) env fun pl => match getPl env pl with
  | some y => if y.kind = T then (op y).map fun y' => .nx (putPl env pl y') else none
  | none => none
section
variable {X : Cx} {W : WX} {pos apos cpos : Pos} {o e : Expr} {to te : TE} {p : FP} {g : FE} {T id : String} {name : Str} {r : V → List V → Hp → VK → Prop}
theorem rs_mut0 {op : O → Option O} (hT : T ≠ "") (pa : PlainAttrs T) (slot : Slot T name id) (ty : typeOf (.builtin id) = pure (.type "method_descriptor")) (rule : MtR X id r) (hv : Mut0 X.K X.mg T r op) (ho : RP X W o to p)
    (hbase : attributeBase o name X.env (eval o X.env) = eval o X.env) (hline : (apos.endLine == cpos.line) = true) (hsw : swapsWith (.Call (.Attribute o name apos) [] [] cpos) none pos.line X.env = pure false) :
    RS X W (.Expr (.Call (.Attribute o name apos) [] [] cpos) pos) (tDrop (tBM0 X.K T r to)) (mutS0 T p op) := by
  refine ⟨ps_expr (pe_bm0 pa slot ty rule ho.pe hbase hline) hsw, fun F H env σ D I q => ?_⟩
  obtain ⟨fp, n0, f0, hs0⟩ := I.sl
  refine ho.sem F H env σ fp I hs0 _ ?_
  unfold mutS0 at q
  cases e1 : p env with
  | bad => rw [e1] at q; exact q.elim
  | ex x => rw [e1] at q; exact q
  | ok pl =>
    rw [e1] at q
    simp only [onE_ok] at q
    intro v y F1 H1 g1 hy h1
    rw [hy] at q
    simp only [] at q
    split at q
    · rename_i hk
      refine ⟨?_, ?_⟩
      · obtain ⟨fy0, f1, f2, _, a0, _⟩ := h1
        exact a0.ty hk hT
      cases e3 : op y with
      | none => rw [e3] at q; exact q.elim
      | some y' =>
        rw [e3] at q
        obtain ⟨n2, f2⟩ := Slots.beside (fx := []) hs0 n0 f0 g1 List.nodup_nil fun a m => by cases m
        exact Hole.write (I.grow g1).tb h1 n2 f2 (y' := y') fun fy a nd hf done => hv F1 H1 y y' v fy g1.fh g1.tu a (by simpa using nd) (by simpa using hf) hk e3 _ fun H' c => q F1 H' σ (g1.exF I.fh) (done H' [] c).ok
    · exact q.elim
theorem rs_append (ho : RP X W o to p) (he : RE X W e te g) (hbase : attributeBase o "append" X.env (eval o X.env) = eval o X.env := by rfl)
    (hfew : ((backTo cpos (starEach [e] X.env)).all (fun x => !x.1) && (backToKw cpos (keywordEach [] X.env)).all (fun x => x.1.isSome)
      && decide ([e].length + ([] : List Keyword).length + (if ([] : List Keyword).isEmpty then 0 else 1) < 30)) = true := by rfl)
    (hline : (apos.endLine == cpos.line) = true := by rfl) (hs : starEach [e] X.env = (false, eval e X.env) :: starEach [] X.env := by rfl) (hplain : (backTo cpos (starEach [] X.env)).any (·.1) = false := by rfl)
    (hsw : swapsWith (.Call (.Attribute o "append" apos) [e] [] cpos) none pos.line X.env = pure false := by rfl) :
    RS X W (.Expr (.Call (.Attribute o "append" apos) [e] [] cpos) pos) (tDrop (tBM X.K "list" rAppend to (tCons te tNil))) (mutS "list" p g opAppend) :=
  rs_mut1 (by decide) PySem.F.plainAttrs_list PySem.F.slot_list_append PySem.F.type_list_append mt_append mut_append ho he hbase hfew hline hs hplain hsw
theorem rs_extend (ho : RP X W o to p) (he : RE X W e te g) (hbase : attributeBase o "extend" X.env (eval o X.env) = eval o X.env := by rfl)
    (hfew : ((backTo cpos (starEach [e] X.env)).all (fun x => !x.1) && (backToKw cpos (keywordEach [] X.env)).all (fun x => x.1.isSome)
      && decide ([e].length + ([] : List Keyword).length + (if ([] : List Keyword).isEmpty then 0 else 1) < 30)) = true := by rfl)
    (hline : (apos.endLine == cpos.line) = true := by rfl) (hs : starEach [e] X.env = (false, eval e X.env) :: starEach [] X.env := by rfl) (hplain : (backTo cpos (starEach [] X.env)).any (·.1) = false := by rfl)
    (hsw : swapsWith (.Call (.Attribute o "extend" apos) [e] [] cpos) none pos.line X.env = pure false := by rfl) :
    RS X W (.Expr (.Call (.Attribute o "extend" apos) [e] [] cpos) pos) (tDrop (tBM X.K "list" rExtend to (tCons te tNil))) (mutS "list" p g opExtend) :=
  rs_mut1 (by decide) PySem.F.plainAttrs_list PySem.F.slot_list_extend PySem.F.type_list_extend mt_extend mut_extend ho he hbase hfew hline hs hplain hsw
theorem rs_clear (ho : RP X W o to p) (hbase : attributeBase o "clear" X.env (eval o X.env) = eval o X.env := by rfl) (hline : (apos.endLine == cpos.line) = true := by rfl)
    (hsw : swapsWith (.Call (.Attribute o "clear" apos) [] [] cpos) none pos.line X.env = pure false := by rfl) : RS X W (.Expr (.Call (.Attribute o "clear" apos) [] [] cpos) pos) (tDrop (tBM0 X.K "list" rClear to)) (mutS0 "list" p opClear) :=
  rs_mut0 (by decide) PySem.F.plainAttrs_list PySem.F.slot_list_clear PySem.F.type_list_clear mt_clear mut_clear ho hbase hline hsw
theorem rs_reverse (ho : RP X W o to p) (hbase : attributeBase o "reverse" X.env (eval o X.env) = eval o X.env := by rfl) (hline : (apos.endLine == cpos.line) = true := by rfl)
    (hsw : swapsWith (.Call (.Attribute o "reverse" apos) [] [] cpos) none pos.line X.env = pure false := by rfl) : RS X W (.Expr (.Call (.Attribute o "reverse" apos) [] [] cpos) pos) (tDrop (tBM0 X.K "list" rReverse to)) (mutS0 "list" p opReverse) :=
  rs_mut0 (by decide) PySem.F.plainAttrs_list PySem.F.slot_list_reverse PySem.F.type_list_reverse mt_reverse mut_reverse ho hbase hline hsw
end
end Fu

namespace Fu
open PySem L2 PyProof.Rows
/-! ### o[i] = e -/
def SetV (K : PySem.W.Frag) (mg : Mg) (t : TSet) (op : O → D → O → Option O) : Prop := ∀ F H y y' d x v i w fy fx, Ex F H → TupIn F H → Own K mg F H y v fy → Rep K mg H i d → Own K mg F H x w fx → (fy ++ fx).Nodup → (∀ a ∈ fy ++ fx, F a = none) →
  op y d x = some y' → ∀ Q : Hp → Prop, (∀ H', Chg K mg F H y' v fy fx [] H' → Q H') → t v i w H Q
def setS (ge : FE) (p : FP) (gi : FE) (op : O → D → O → Option O) : FS := fun env => onE (ge (up env)) env fun t => match t.keep with
  | some x => onE (p env) env fun pl => onE (gi (up env)) env fun i => ((getPl env pl).bind fun y => op y i.data x).map fun y' => .nx (putPl env pl y')
  | none => none
section
variable {X : Cx} {W : WX} {pos tpos : Pos} {o i e : Expr} {to ti te : TE} {p : FP} {g gi : FE}
theorem rs_setIx {t : TSet} {op : O → D → O → Option O} (hs : PSet X t) (hv : SetV X.K X.mg t op) (he : RE X W e te g) (ho : RP X W o to p) (hi : RE X W i ti gi)
    (ha : ∀ v, assign (.Subscript o i tpos) X.env v = (do
      let ov ← holding [v] (eval o X.env)
      let iv ← holding [v, ov] (eval i X.env)
      standAt tpos
      holding [v, ov, iv] (setItem ov iv v)
      release [v, ov, iv] []))
    (hw : swapsWithSole [.Subscript o i tpos] e pos.line X.env = pure false) (hw2 : swappedStores [.Subscript o i tpos] e X.env = pure none)
    (h1 : (assignEach [.Subscript o i tpos] X.env).map (·.2) = [assign (.Subscript o i tpos) X.env]) :
    RS X W (.Assign [.Subscript o i tpos] e pos) (tAsg te (gSub to ti t)) (setS g p gi op) := by
  refine ⟨ps_asg he.pe (pg_sub ho.pe hi.pe hs ha) hw hw2 h1, fun F H env σ D I q => he.sem F H (up env) σ I _ ?_⟩
  unfold setS at q
  cases e0 : g (up env) with
  | bad => rw [e0] at q; exact q.elim
  | ex x => rw [e0] at q; exact q
  | ok z =>
    rw [e0] at q
    simp only [onE_ok] at q
    intro w F1 H1 fx g1 rz nx kx
    cases e9 : z.keep with
    | none => rw [e9] at q; exact q.elim
    | some x =>
      rw [e9] at q
      simp only [] at q
      have rx := T.keep_ok g1.tu rz e9
      obtain ⟨fp, n0, f0, hs0⟩ := I.sl
      obtain ⟨n1, f1⟩ := Slots.beside hs0 n0 f0 g1 nx kx
      refine ho.sem F1 H1 env σ fp (I.grow g1) (hs0.grow I.fh g1) _ ?_
      cases e1 : p env with
      | bad => rw [e1] at q; exact q.elim
      | ex x => rw [e1] at q; exact XPost.from (g1.exF I.fh) q
      | ok pl =>
        rw [e1] at q
        simp only [onE_ok] at q
        intro v y F2 H2 g2 hy h2
        refine hi.sem F2 H2 (up env) σ ((I.grow g1).grow g2) _ ?_
        cases e2 : gi (up env) with
        | bad => rw [e2] at q; exact q.elim
        | ex x => rw [e2] at q; exact XPost.from ((g1.trans g2).exF I.fh) q
        | ok it =>
          rw [e2] at q
          simp only [onE_ok, hy, Option.bind_some] at q
          intro iv F3 H3 fi g3 ri _ _
          cases e3 : op y it.data x with
          | none => rw [e3] at q; exact q.elim
          | some y' =>
            rw [e3] at q
            have fx0 : ∀ a ∈ fx, H3 a = H1 a := fun a m => by
              obtain ⟨u, hu, mu⟩ := rx.dom a m
              rw [(g2.trans g3).hh.mut hu mu, hu]
            have fF : ∀ a ∈ fp ++ fx, F3 a = none := fun a m => by
              have : H1 a ≠ none := by
                rcases List.mem_append.mp m with m | m
                · obtain ⟨u, hu, mu⟩ := hs0.dom a m
                  rw [g1.hh.mut hu mu]; intro z; cases z
                · obtain ⟨u, hu, _⟩ := rx.dom a m
                  rw [hu]; intro z; cases z
              exact ((g2.trans g3).ff a this).trans (f1 a m)
            have rx3 : Own X.K X.mg F3 H3 x w fx := rx.cong ((g2.trans g3).exF g1.fh) fx0
            exact Hole.write (((I.grow g1).grow g2).grow g3).tb (h2.grow g2.fh g3) n1 fF (y' := y') fun fy a nd hf done => hv F3 H3 y y' it.data x v iv w fy fx g3.fh g3.tu a (ri.rep g3.fh) rx3 nd hf e3 _ fun H' c =>
              q F3 H' σ (((g1.trans g2).trans g3).exF I.fh) (done H' [] c).ok
end
section
variable {K : PySem.W.Frag} {mg : Mg} {F H : Hp}
theorem OwnL.focusN : ∀ {os : List O} {vs : List V} {fp : List Addr} {j : Nat}, OwnL K mg F H os vs fp → j < os.length → ∃ fy f1 f2, fp = f1 ++ (fy ++ f2) ∧
    ∀ F' H' x w fx, Ex F F' → (∀ a ∈ f1 ++ f2, H' a = H a) → Own K mg F' H' x w fx → OwnL K mg F' H' (os.set j x) (vs.set j w) (f1 ++ (fx ++ f2))
  | [], _, _, _, _, h => by simp at h
  | o :: os, _, _, 0, h, _ => by
    obtain ⟨w, ws, f1, f2, e1, e2, h1, h2⟩ := h
    subst e1 e2
    exact ⟨f1, [], f2, rfl, fun F' H' x u fx eF k r => ⟨u, ws, fx, f2, rfl, rfl, r, OwnL.cong eF (fun a m => k a m) h2⟩⟩
  | o :: os, _, _, j + 1, h, hj => by
    obtain ⟨w, ws, f1, f2, e1, e2, h1, h2⟩ := h
    obtain ⟨fy, g1, g2, c, d⟩ := OwnL.focusN (j := j) h2 (by simpa using hj)
    subst e1 e2 c
    refine ⟨fy, f1 ++ g1, g2, by simp [List.append_assoc], fun F' H' x u fx eF k r => ⟨w, ws.set j u, f1, g1 ++ (fx ++ g2), by simp, by simp [List.append_assoc], Own.cong eF (fun a m => k a (by simp [m])) h1, d F' H' x u fx eF (fun a m => k a (by
      rcases List.mem_append.mp m with m | m <;> simp [m])) r⟩⟩
def opSetL (y : O) (d : D) (x : O) : Option O := match y, d with
  | .lst os, .int i => (ixN os.length i).map fun j => .lst (os.set j x)
  | _, _ => none
theorem set_L : SetV K mg rSetL opSetL := by
  intro F H y y' d x v i w fy fx e tu r ri rx nd fn ho Q q
  unfold opSetL at ho
  split at ho
  · rename_i os k
    cases ri
    obtain ⟨l, vs, fq, rfl, h1, e2, r⟩ := r
    subst e2
    cases c : ixN os.length k with
    | none => rw [c] at ho; cases ho
    | some j =>
      rw [c] at ho
      cases ho
      have hj : j < os.length := (ixN_seq c).2.1
      obtain ⟨fo, f1, f2, ef, d⟩ := r.focusN hj
      subst ef
      have n2 := (List.nodup_cons.mp (show (l :: ((f1 ++ (fo ++ f2)) ++ fx)).Nodup from nd)).2
      have n3 := List.nodup_append.mp n2
      obtain ⟨m1, m2, m3⟩ := nd_mid.mp n3.1
      refine ⟨l, vs, k, j, rfl, rfl, h1, by rw [r.len]; exact c, q _ (chg_list e tu h1 nd fn (fq' := f1 ++ (fx ++ f2)) (fun H' k => d F H' x w fx (Ex.refl F) (fun a m => k a ?_) (Own.cong (Ex.refl F) (fun a m => k a (by simp [m])) rx)) ?_ ?_)⟩
      · rcases List.mem_append.mp m with m | m <;> simp [m]
      · rw [List.append_nil]
        refine nd_mid.mpr ⟨n3.2.1, m2, fun a m m' => ?_⟩
        refine n3.2.2 a ?_ a m rfl
        exact mem_mid.mpr (.inr m')
      · intro a m
        rw [List.append_nil] at m
        rcases mem_mid.mp m with m | m
        · exact List.mem_append_right _ m
        · exact List.mem_append_left _ (mem_mid.mpr (.inr m))
  · cases ho
end
section
variable {X : Cx} {W : WX} {pos tpos : Pos} {o i e : Expr} {to ti te : TE} {p : FP} {g gi : FE}
theorem rs_lput (he : RE X W e te g) (ho : RP X W o to p) (hi : RE X W i ti gi)
    (ha : ∀ v, assign (.Subscript o i tpos) X.env v = (do
      let ov ← holding [v] (eval o X.env)
      let iv ← holding [v, ov] (eval i X.env)
      standAt tpos
      holding [v, ov, iv] (setItem ov iv v)
      release [v, ov, iv] []) := by intro _; rfl)
    (hw : swapsWithSole [.Subscript o i tpos] e pos.line X.env = pure false := by rfl) (hw2 : swappedStores [.Subscript o i tpos] e X.env = pure none := by rfl)
    (h1 : (assignEach [.Subscript o i tpos] X.env).map (·.2) = [assign (.Subscript o i tpos) X.env] := by rfl) :
    RS X W (.Assign [.Subscript o i tpos] e pos) (tAsg te (gSub to ti rSetL)) (setS g p gi opSetL) := rs_setIx set_list set_L he ho hi ha hw hw2 h1
end
end Fu

namespace Fu
open PySem L2 PyProof.Rows
/-! ### return [x for x in xs if ..], the things moved -/
def filtL (c : FT) (v : Nat) (env : En) : List O → Option (List O)
  | [] => some []
  | o :: os => match c (env.set v (some (.bo o.data))) with
    | .ok true => (filtL c v env os).map (o :: ·)
    | .ok false => filtL c v env os
    | _ => none
def retFilt (i v : Nat) (vs : List Nat) (c : FT) : FS := fun env => match env[i]? with
  | some (some (.lst os)) => (match filtL c v (wipeE (up env) vs) os with
    | some ps => if ps.length ≤ sizeLine ∧ v < env.length then some (.rt (.lst ps)) else none
    | none => none)
  | _ => none
/-- some of the things, with their values -/
inductive Sel : List O → List V → List O → List V → Prop
  | nil : Sel [] [] [] []
  | keep {o v os vs ps ws} : Sel os vs ps ws → Sel (o :: os) (v :: vs) (o :: ps) (v :: ws)
  | drop {o v os vs ps ws} : Sel os vs ps ws → Sel (o :: os) (v :: vs) ps ws
section
variable {K : PySem.W.Frag} {mg : Mg} {F H : Hp}
theorem OwnL.sel {os ps : List O} {vs ws : List V} (s : Sel os vs ps ws) : ∀ {fp : List Addr}, OwnL K mg F H os vs fp → ∃ fq, OwnL K mg F H ps ws fq ∧ fq.Sublist fp := by
  induction s with
  | nil => exact fun h => ⟨_, h, List.Sublist.refl _⟩
  | keep s ih =>
    intro fp h
    obtain ⟨w, ws, f1, f2, e1, e2, h1, h2⟩ := h
    cases e1
    subst e2
    obtain ⟨fq, a, b⟩ := ih h2
    exact ⟨f1 ++ fq, ⟨_, _, f1, fq, rfl, rfl, h1, a⟩, List.Sublist.append_left b f1⟩
  | drop s ih =>
    intro fp h
    obtain ⟨w, ws, f1, f2, e1, e2, h1, h2⟩ := h
    cases e1
    subst e2
    obtain ⟨fq, a, b⟩ := ih h2
    exact ⟨fq, a, b.trans (List.sublist_append_right f1 f2)⟩
theorem Sel.len {os ps : List O} {vs ws : List V} (s : Sel os vs ps ws) : ws.length = ps.length := by
  induction s with
  | nil => rfl
  | keep s ih => simp [ih]
  | drop s ih => exact ih
theorem Sel.app {os ps os' ps' : List O} {vs ws vs' ws' : List V} (s : Sel os vs ps ws) (t : Sel os' vs' ps' ws') : Sel (os ++ os') (vs ++ vs') (ps ++ ps') (ws ++ ws') := by
  induction s with
  | nil => exact t
  | keep s ih => exact .keep ih
  | drop s ih => exact .drop ih
end
section
variable {X : Cx} {W : WX} {tt : Blkd TT} {c : FT} {ifs : List Expr} {scope : Scope} {own : List (Str × Nat)} {pos cpos p1 p2 p3 : Pos}
theorem rs_retFilt (i v : Nat) {x y : Str} (hc : X.calm = true) (hN : X.N.Nodup) (ok : BlkOk X.N X.env.scope scope own)
    (hg : ∀ (s : Shared) (H : Hp) (C : Addr) (cl : List (Str × Addr)) (fp : List Addr), PG (X.blk s H scope (compEnvC scope cl C X.env) fp) (.Name y p2) (gName v))
    (ht : ∀ (s : Shared) (H : Hp) (C : Addr) (cl : List (Str × Addr)) (fp : List Addr), RTs (X.blk s H scope (compEnvC scope cl C X.env) fp) W0 ifs (tt s H C cl fp) c)
    (he : ∀ (s : Shared) (H : Hp) (C : Addr) (cl : List (Str × Addr)) (fp : List Addr), PE (X.blk s H scope (compEnvC scope cl C X.env) fp) (.Name y p3) (tVar v))
    (hv : v ∈ own.map (·.2))
    (hi : X.N[i]? = some x := by rfl) (hx : Vis X.env.scope x := by first | exact Or.inl rfl | exact Or.inr (Or.inl rfl) | exact Or.inr (Or.inr rfl)) (hd : (x == ("__debug__" : Str)) = false := by decide)
    (hcd : (x == ("__classdict__" : Str)) = false := by decide)
    (h2 : ∀ s H C cl fp, tt s H C cl fp = tt X.s_0 X.H_0 0 [] [] := by intros; rfl) (hs : ∀ z, foldedSetIterable (.Name x p1) X.env z = pure z := by intro _; rfl) :
    RS X W (.Return (some (.ListComp (.Name y p3) [⟨.Name y p2, .Name x p1, ifs, 0⟩] scope cpos)) pos) (tRet (tLc (iSeqF X.K (tVar i)) (gName v) (tt X.s_0 X.H_0 0 [] []) (tVar v) (own.map (·.2)))) (retFilt i v (own.map (·.2)) c) := by
  refine ⟨ps_ret (pe_lc hc hN (pi_seqF (pe_var hi hx hd hcd)) ok hg (fun s H C cl fp => h2 s H C cl fp ▸ (ht s H C cl fp).pe) he hs), fun F H env σ D I q => ?_⟩
  have ht' := (ht X.s_0 X.H_0 0 [] []).sem
  unfold retFilt at q
  split at q
  case h_2 => exact q.elim
  rename_i os e1
  cases e2 : filtL c v (wipeE (up env) (own.map (·.2))) os with
  | none => rw [e2] at q; exact q.elim
  | some ps =>
    rw [e2] at q
    simp only [] at q
    split at q
    case isFalse => exact q.elim
    rename_i hszv
    obtain ⟨hsz, hvl⟩ := hszv
    obtain ⟨fp, nd, hf, hs0⟩ := I.sl
    obtain ⟨va, fy, f1, f2, a1, a2, a3, _⟩ := hs0.focus e1
    obtain ⟨l, vs, fq, rfl, hl, e3, rl⟩ := a2
    subst a3 e3
    have lv := rl.len
    refine .inl ⟨.ref l, a1, l, rfl, ⟨vs, SqL.of hl⟩, fun Dp hD => ?_⟩
    have I0 := I.wipe (own.map (·.2))
    have lD : l ≠ Dp := fun z => by rw [z, hD] at hl; cases hl
    let Pv : Nat → Hp → Prop := fun j H' => ∃ F' acc av rest, Grow F H F' H' ∧ F' Dp = none ∧ H' Dp = some (.lst av) ∧ Sel (os.take j) (vs.take j) acc av ∧ filtL c v (wipeE (up env) (own.map (·.2))) (os.drop j) = some rest ∧ acc ++ rest = ps
    refine ⟨fun j m H' => m = os.length - j ∧ j ≤ os.length ∧ Pv j H', ⟨os.length, by simp, Nat.zero_le _, F, [], [], ps, Grow.lst I.fh I.tu hD, I.fh.none hD, upd_same, .nil, by simpa using e2, rfl⟩, ?_⟩
    rintro j m H' ⟨rfl, hj, F', acc, av, rest, gr, fd, hd', sl, hr, hp⟩
    have hl' : H' l = some (.lst vs) := gr.hh.at hl
    have sq' : SqL X.K H' l vs := SqL.of hl'
    have rl' : OwnL X.K X.mg F' H' os vs fq := OwnL.cong (gr.exF I.fh) (fun a m => by
      obtain ⟨u, hu, mu⟩ := rl.dom a m
      rw [hu, gr.hh.mut hu mu]) rl
    by_cases hlt : j < os.length
    · refine .inr ⟨⟨vs, vs[j], sq', by simp⟩, Pv (j + 1), fun H2 p => ⟨os.length - (j + 1), by omega, rfl, hlt, p⟩, fun z H3 yl => ?_⟩
      obtain ⟨e4, e5⟩ := yl
      subst e4
      have ez : vs[j]? = some z := e5 vs sq'
      have evj : vs[j] = z := by
        have := List.getElem?_eq_getElem (l := vs) (i := j) (by omega)
        rw [this] at ez
        exact Option.some.inj ez
      have r0 : OwnL X.K X.mg F' H3 os vs fq := rl'
      obtain ⟨w, fw, g1, g2, b1, b2, _, _⟩ := r0.focus (j := j) (y := os[j]) (by simp)
      have ew : w = z := by rw [b1] at ez; exact Option.some.inj ez
      subst ew
      have rz : RepT X.K X.mg F' H3 (.bo os[j].data) w [] := ⟨rfl, b2.rep gr.fh⟩
      have I' : EnvOK X.K X.mg F' H3 (wipeE (up env) (own.map (·.2))) (wipe σ (own.map (·.2))) := I0.grow gr
      have I2 := I'.put v rz
      rw [List.drop_eq_getElem_cons hlt, filtL] at hr
      refine ⟨wipe_keeps (Keeps.set v _ _) (fun i m => ?_), ?_⟩
      · have : i = v := by simpa using m
        subst this; exact hv
      refine ht' F' H3 _ _ I2 _ ?_
      cases c1 : c ((wipeE (up env) (own.map (·.2))).set v (some (.bo os[j].data))) with
      | bad => rw [c1] at hr; cases hr
      | ex z => rw [c1] at hr; cases hr
      | ok b =>
        rw [c1] at hr
        intro F4 H4 g4
        have gr4 := gr.trans g4
        have hd4 : H4 Dp = some (.lst av) := g4.hh.at hd'
        have fd4 : F4 Dp = none := (g4.ff Dp (by rw [hd']; intro z; cases z)).trans fd
        have tk : os.take (j + 1) = os.take j ++ [os[j]] := by rw [List.take_succ, List.getElem?_eq_getElem hlt]; rfl
        have tv : vs.take (j + 1) = vs.take j ++ [w] := by rw [List.take_succ, ez]; rfl
        cases b with
        | false =>
          simp only [Bool.false_eq_true, if_false] at hr ⊢
          refine ⟨F4, acc, av, rest, gr4, fd4, hd4, ?_, hr, hp⟩
          rw [tk, tv]
          have := sl.app (.drop (o := os[j]) (v := w) .nil)
          rw [List.append_nil, List.append_nil] at this
          exact this
        | true =>
          simp only [if_true] at hr ⊢
          have lw : v < (wipe σ (own.map (·.2))).length := by
            rw [wipe_length, hs0.len]
            simpa [up] using hvl
          refine ⟨w, by rw [List.getElem?_set_self lw], av, hd4, ?_, ?_⟩
          · have := sl.len
            cases c2 : filtL c v (wipeE (up env) (own.map (·.2))) (os.drop (j + 1)) with
            | none => rw [c2] at hr; cases hr
            | some rest' =>
              rw [c2] at hr
              cases hr
              have : (acc ++ (os[j] :: rest')).length ≤ sizeLine := by rw [hp]; exact hsz
              rw [List.length_append, List.length_cons] at this
              omega
          · cases c2 : filtL c v (wipeE (up env) (own.map (·.2))) (os.drop (j + 1)) with
            | none => rw [c2] at hr; cases hr
            | some rest' =>
              rw [c2] at hr
              cases hr
              refine ⟨F4, acc ++ [os[j]], av ++ [w], rest', ?_, fd4, upd_same, ?_, c2, by rw [← hp]; simp⟩
              · have cg : ∀ a, a ≠ Dp → upd H4 Dp (.lst (av ++ [w])) a = H4 a := fun a h => upd_ne h
                refine ⟨gr4.hh.wr hD hd4 trivial, gr4.ff, gr4.fh.wr fd4 hd4 trivial, fun a us h => ?_⟩
                · by_cases hne : a = Dp
                  · rw [hne, upd_same] at h; cases h
                  · rw [cg a hne] at h
                    exact gr4.tu a us h
              · rw [tk, tv]
                exact sl.app (.keep .nil)
    · have hj' : j = os.length := by omega
      subst hj'
      refine .inl ⟨⟨vs, sq', by omega⟩, ?_⟩
      rw [List.drop_length] at hr
      cases hr
      rw [List.append_nil] at hp
      subst hp
      rw [List.take_length, ← lv, List.take_length] at sl
      obtain ⟨fs, s1, s2⟩ := rl'.sel sl
      have nq : (l :: fq).Nodup := (nd_mid.mp nd).1
      refine q (.ref Dp) F' H' (Dp :: fs) (gr.exF I.fh) gr.fh gr.tu ⟨Dp, av, fs, rfl, hd', rfl, s1⟩ ?_ ?_
      · refine List.nodup_cons.mpr ⟨fun m => ?_, ((List.nodup_cons.mp nq).2).sublist s2⟩
        obtain ⟨u, hu, _⟩ := rl.dom Dp (s2.subset m)
        rw [hD] at hu; cases hu
      · intro a m
        rcases List.mem_cons.mp m with m | m
        · subst m; exact fd
        · have ma : a ∈ f1 ++ (l :: fq ++ f2) := mem_mid.mpr (.inl (List.mem_cons_of_mem _ (s2.subset m)))
          obtain ⟨u, hu, _⟩ := hs0.dom a ma
          exact (gr.ff a (by rw [hu]; intro z; cases z)).trans (hf a ma)
end
end Fu

namespace Fu
open PySem L2 PyProof.Rows
/-! ### list(), tuple(), sum(), .. -/
def T.items2 : T → Option (List O)
  | .o (.lst os) => some os
  | .o (.tup os) => some os
  | .o (.sh d) => d.seq.map (·.map .sh)
  | .bo d => d.seq.bind fun ds => if D.flatL ds then some (ds.map .sh) else none
  | _ => none
section
variable {K : PySem.W.Frag} {mg : Mg} {F H : Hp}
theorem T.items2_ok {t : T} {v : V} {fp : List Addr} {os : List O} (e : Ex F H) (tu : TupIn F H) (h : RepT K mg F H t v fp) (q : t.items2 = some os) :
    ∃ p vs fq, v = .ref p ∧ (SqL K H p vs ∨ SqT K H p vs) ∧ OwnL K mg F H os vs fq ∧ fq.Sublist fp := by
  unfold T.items2 at q
  split at q
  · rename_i os'
    cases q
    obtain ⟨p, vs, fq, e1, h1, e2, r⟩ := h
    subst e2
    exact ⟨p, vs, fq, e1, .inl (SqL.of h1), r, List.sublist_cons_self _ _⟩
  · rename_i os'
    cases q
    obtain ⟨p, vs, e1, h1, r⟩ := h
    exact ⟨p, vs, fp, e1, .inr (e.tp h1).sq, r, List.Sublist.refl _⟩
  · rename_i d
    obtain ⟨e1, r⟩ := h
    cases c : d.seq with
    | none => rw [c] at q; cases q
    | some ds =>
      rw [c] at q
      cases q
      obtain ⟨a, vs, e2, sq, r⟩ := r.seqAt c
      refine ⟨a, vs, [], e2, ?_, OwnL.shared r, List.nil_sublist _⟩
      rcases sq with sq | sq
      · exact .inl (e.sl sq)
      · exact .inr (by rcases sq with sq | sq; exact .inl (e.rd sq); exact .inr sq)
  · rename_i d
    obtain ⟨e1, r⟩ := h
    cases c : d.seq with
    | none => rw [c] at q; cases q
    | some ds =>
      rw [c] at q
      simp only [Option.bind_some] at q
      split at q
      · rename_i hf
        cases q
        obtain ⟨a, vs, e2, sq, r⟩ := r.seqAt c
        exact ⟨a, vs, [], e2, sq, OwnL.shared (r.flat tu hf), List.nil_sublist _⟩
      · cases q
  · cases q
theorem cv1 {K : PySem.W.Frag} {mg : Mg} {op : D → Option D} {r : List V → Hp → VK → Prop} (h : ∀ {F H : Hp} v d z, Rep K mg H v d → op d = some z → Ex F H → TupIn F H → ∃ u, Rep K mg F u z ∧ ∀ Q : VK, Q u H → r [v] H Q) : CallV K mg r (op1 op) :=
  fun F H ts vs fp e t rr nd hf Q q => callV1 (fun v d z r c e t => h v d z r c e t) ts vs fp e t rr Q q
def opList (ts : List T) : Option T := match ts with
  | [t] => t.items2.map fun os => .o (.lst os)
  | _ => none
theorem cv_list : CallV K mg (fun xs H Q => ∃ p ys, xs = [V.ref p] ∧ (SqL K H p ys ∨ SqT K H p ys) ∧ ∀ l, H l = none → Q (.ref l) (upd H l (.lst ys))) opList := by
  intro F H ts vs fp e t r nd hf Q q
  unfold opList at q
  split at q
  · rename_i x
    obtain ⟨w, ws, f1, f2, e1, e2, h1, h2⟩ := r
    obtain ⟨h3, h4⟩ := h2
    subst e1 h3 e2 h4
    cases c : x.items2 with
    | none => rw [c] at q; exact q.elim
    | some os =>
      rw [c] at q
      obtain ⟨p, ys, fq, rfl, sq, ow, sub⟩ := T.items2_ok e t h1 c
      refine ⟨p, ys, rfl, sq, fun l hl => ?_⟩
      rw [List.append_nil] at nd q
      obtain ⟨g, o3, nd3⟩ := new_lst e t hl ow (nd.sublist sub)
      refine q _ F _ _ g o3 nd3 fun a m => ?_
      rcases List.mem_cons.mp m with z | m
      · subst z; exact .inr ⟨hl, e.none hl⟩
      · exact .inl (sub.subset m)
  · exact q.elim
def opTuple (ts : List T) : Option T := match ts with
  | [t] => (match t.data with
    | .lst ds => if D.flatL ds then sc (.tup ds) else none
    | .rol ds => if D.flatL ds then sc (.tup ds) else none
    | .tup ds => if D.flatL ds then sc (.tup ds) else none
    | _ => none)
  | _ => none
theorem flat_tup (ds : List D) : D.flat (.tup ds) = D.flatL ds := by rw [D.flat]
theorem cv_tuple : CallV K mg (fun xs H Q => ∃ p ys, xs = [V.ref p] ∧ ((SqL K H p ys ∧ ∀ l, H l = none → Q (.ref l) (upd H l (.tup ys))) ∨ (SqT K H p ys ∧ Q (.ref p) H))) opTuple := by
  intro F H ts vs fp e t r nd hf Q q
  unfold opTuple at q
  split at q
  · rename_i x
    obtain ⟨w, ws, f1, f2, e1, e2, h1, h2⟩ := r
    obtain ⟨h3, h4⟩ := h2
    subst e1 h3 e2 h4
    have rr := h1.rep e
    have go : ∀ ds p ys, w = .ref p → SqL K H p ys → RepL K mg H ys ds → D.flatL ds = true → OPost K mg F H (f1 ++ []) (sc (.tup ds)) Q → ∃ p ys, [w] = [V.ref p] ∧ ((SqL K H p ys ∧ ∀ l, H l = none → Q (.ref l) (upd H l (.tup ys))) ∨ (SqT K H p ys ∧ Q (.ref p) H)) := by
      intro ds p ys e1 sq r hfl q
      refine ⟨p, ys, by rw [e1], .inl ⟨sq, fun l hl => ?_⟩⟩
      have g := Grow.tup (vs := ys) e t hl
      exact q _ _ _ [] g ⟨rfl, .tup upd_same ((r.flat t hfl).mono (Ex.new (e.none hl)))⟩ List.nodup_nil (fun _ m => by cases m)
    split at q
    · rename_i ds e5
      split at q
      · rename_i hfl
        rw [e5] at rr
        cases rr with
        | lst h3 r => exact go ds _ _ rfl (SqL.of h3) r hfl q
      · exact q.elim
    · rename_i ds e5
      split at q
      · rename_i hfl
        rw [e5] at rr
        cases rr with
        | rol h3 r => exact go ds _ _ rfl h3 r hfl q
      · exact q.elim
    · rename_i ds e5
      split at q
      · rename_i hfl
        have rf := h1.flat e t (by rw [e5, flat_tup]; exact hfl)
        rw [e5] at rf
        cases rf with
        | tup h3 r => exact ⟨_, _, rfl, .inr ⟨(e.tp h3).sq, OPost.sc (d := .tup ds) e t q (.tup h3 r)⟩⟩
      · exact q.elim
    · exact q.elim
  · exact q.elim
/-! lists of numbers, of truths -/
def D.ints : List D → Option (List Int)
  | [] => some []
  | .int i :: ds => (D.ints ds).map (i :: ·)
  | _ => none
def D.bls : List D → Option (List Bool)
  | [] => some []
  | .bl i :: ds => (D.bls ds).map (i :: ·)
  | _ => none
theorem RepL.intsOf : ∀ {ds : List D} {vs : List V} {ss : List Int}, RepL K mg F vs ds → D.ints ds = some ss → vs = ss.map V.int
  | [], _, _, h, e => by cases h; cases e; rfl
  | d :: ds, _, ss, h, e => by
    cases h with
    | cons h r =>
      cases h with
      | int s =>
        have e : (D.ints ds).map (s :: ·) = some ss := e
        cases c : D.ints ds with
        | none => rw [c] at e; cases e
        | some ts =>
          rw [c] at e
          cases e
          rw [RepL.intsOf r c]
          rfl
      | _ => cases e
theorem RepL.blsOf : ∀ {ds : List D} {vs : List V} {ss : List Bool}, RepL K mg F vs ds → D.bls ds = some ss → vs = ss.map V.bl
  | [], _, _, h, e => by cases h; cases e; rfl
  | d :: ds, _, ss, h, e => by
    cases h with
    | cons h r =>
      cases h with
      | bl s =>
        have e : (D.bls ds).map (s :: ·) = some ss := e
        cases c : D.bls ds with
        | none => rw [c] at e; cases e
        | some ts =>
          rw [c] at e
          cases e
          rw [RepL.blsOf r c]
          rfl
      | _ => cases e
def D.lsq : D → Option (List D)
  | .lst xs => some xs
  | .rol xs => some xs
  | _ => none
theorem Rep.lsqAt {v : V} {d : D} {ds : List D} (h : Rep K mg F v d) (e : d.lsq = some ds) : ∃ a vs, v = .ref a ∧ SqL K F a vs ∧ RepL K mg F vs ds := by
  cases h with
  | lst h r => cases e; exact ⟨_, _, rfl, .inl (.inl h), r⟩
  | rol h r => cases e; exact ⟨_, _, rfl, h, r⟩
  | _ => cases e
def D.sum (d : D) : Option D := (d.lsq.bind D.ints).map fun is => .int is.sum
def D.any (d : D) : Option D := (d.lsq.bind D.bls).map fun is => .bl (is.any id)
def D.all (d : D) : Option D := (d.lsq.bind D.bls).map fun is => .bl (is.all id)
def D.abs (d : D) : Option D := match d with
  | .int i => some (.int (if i < 0 then -i else i))
  | _ => none
def minL : List Int → Int
  | [] => 0
  | [x] => x
  | x :: xs => if minL xs < x then minL xs else x
def maxL : List Int → Int
  | [] => 0
  | [x] => x
  | x :: xs => if x < maxL xs then maxL xs else x
theorem minL_le : ∀ {xs : List Int}, xs ≠ [] → ∀ y ∈ xs, minL xs ≤ y
  | [], h, _, _ => absurd rfl h
  | [x], _, y, m => by
    have : y = x := by simpa using m
    subst this
    exact Int.le_refl _
  | x :: z :: xs, _, y, m => by
    have ih := minL_le (xs := z :: xs) (by simp)
    rw [minL]
    · rcases List.mem_cons.mp m with e | m
      · subst e
        split <;> omega
      · have := ih y m
        split <;> omega
    · simp
theorem maxL_ge : ∀ {xs : List Int}, xs ≠ [] → ∀ y ∈ xs, y ≤ maxL xs
  | [], h, _, _ => absurd rfl h
  | [x], _, y, m => by
    have : y = x := by simpa using m
    subst this
    exact Int.le_refl _
  | x :: z :: xs, _, y, m => by
    have ih := maxL_ge (xs := z :: xs) (by simp)
    rw [maxL]
    · rcases List.mem_cons.mp m with e | m
      · subst e
        split <;> omega
      · have := ih y m
        split <;> omega
    · simp
theorem minL_mem : ∀ {xs : List Int}, xs ≠ [] → minL xs ∈ xs
  | [], h => absurd rfl h
  | [x], _ => by simp [minL]
  | x :: z :: xs, _ => by
    have ih := minL_mem (xs := z :: xs) (by simp)
    rw [minL]
    · split
      · exact List.mem_cons_of_mem _ ih
      · exact List.mem_cons_self
    · simp
theorem maxL_mem : ∀ {xs : List Int}, xs ≠ [] → maxL xs ∈ xs
  | [], h => absurd rfl h
  | [x], _ => by simp [maxL]
  | x :: z :: xs, _ => by
    have ih := maxL_mem (xs := z :: xs) (by simp)
    rw [maxL]
    · split
      · exact List.mem_cons_of_mem _ ih
      · exact List.mem_cons_self
    · simp
def D.min1 (d : D) : Option D := (d.lsq.bind D.ints).bind fun is => if is.isEmpty then none else some (.int (minL is))
def D.max1 (d : D) : Option D := (d.lsq.bind D.ints).bind fun is => if is.isEmpty then none else some (.int (maxL is))
def opMin2 (ts : List T) : Option T := match ts.map T.data with
  | [.int i, .int j] => sc (.int (if j < i then j else i))
  | _ => none
def opMax2 (ts : List T) : Option T := match ts.map T.data with
  | [.int i, .int j] => sc (.int (if j > i then j else i))
  | _ => none
theorem cv_ints2 {r : List V → Hp → VK → Prop} {f : Int → Int → Int} {op : List T → Option T} (hop : op = fun ts => match ts.map T.data with | [.int i, .int j] => sc (.int (f i j)) | _ => none) (hr : ∀ i j H Q, Q (V.int (f i j)) H → r [.int i, .int j] H Q) : CallV K mg r op := by
  intro F H ts vs fp e t rr nd hf Q q
  subst hop
  have rs := rr.rep e
  simp only [] at q
  split at q
  · rename_i i j e1
    rw [e1] at rs
    cases rs with
    | cons h1 rs =>
      cases rs with
      | cons h2 rs =>
        cases rs
        cases h1
        cases h2
        exact hr i j H Q (OPost.sc (d := .int _) e t q (.int _))
  · exact q.elim
end
def D.toS (d : D) : Option D := match d with
  | .int i => if i.natAbs.log2 < 1920 then some (.str (toString i)) else none
  | .str s => some (.str s)
  | _ => none
def D.toI (d : D) : Option D := match d with
  | .int i => some (.int i)
  | .str s => if s.length ≤ 640 then (PySem.intText? s).map .int else none
  | _ => none
section
variable {X : Cx} {W : WX} {a b : Expr} {ta : TA} {ga : FA} {p pos : Pos}
theorem re_list (hg : Gl X "list") (hm : X.mg "list" = none) (ha : RA X W [a] ta ga) (he : starEach [a] X.env = (false, eval a X.env) :: starEach [] X.env := by rfl) (hpl : (backTo pos (starEach [] X.env)).any (·.1) = false := by rfl) :
    RE X W (.Call (.Name "list" p) [a] [] pos) (tCB (fun xs H Q => ∃ p ys, xs = [V.ref p] ∧ (SqL X.K H p ys ∨ SqT X.K H p ys) ∧ ∀ l, H l = none → Q (.ref l) (upd H l (.lst ys))) ta) (eArgs opList ga) := re_callTy call_list_of cv_list hg hm PyProof.Rows.boot_list ha (by decide) (by decide) he hpl
theorem re_tuple (hg : Gl X "tuple") (hm : X.mg "tuple" = none) (ha : RA X W [a] ta ga) (he : starEach [a] X.env = (false, eval a X.env) :: starEach [] X.env := by rfl) (hpl : (backTo pos (starEach [] X.env)).any (·.1) = false := by rfl) :
    RE X W (.Call (.Name "tuple" p) [a] [] pos) (tCB (fun xs H Q => ∃ p ys, xs = [V.ref p] ∧ ((SqL X.K H p ys ∧ ∀ l, H l = none → Q (.ref l) (upd H l (.tup ys))) ∨ (SqT X.K H p ys ∧ Q (.ref p) H))) ta) (eArgs opTuple ga) := re_callTy call_tuple_of cv_tuple hg hm PyProof.Rows.boot_tuple ha (by decide) (by decide) he hpl
theorem re_sum (hc : X.calm = true) (hg : Gl X "sum") (hm : X.mg "sum" = none) (ha : RA X W [a] ta ga) (he : starEach [a] X.env = (false, eval a X.env) :: starEach [] X.env := by rfl) (hpl : (backTo pos (starEach [] X.env)).any (·.1) = false := by rfl) :
    RE X W (.Call (.Name "sum" p) [a] [] pos) (tCB (rSum X.K) ta) (eArgs (op1 D.sum) ga) := re_callB (cr_sum hc) (cv1 fun v d z r c e t => by
      unfold D.sum at c
      cases c1 : d.lsq with
      | none => rw [c1] at c; cases c
      | some ds =>
        obtain ⟨a, vs, rfl, sq, r⟩ := r.lsqAt c1
        rw [c1] at c
        simp only [Option.bind_some] at c
        cases c2 : D.ints ds with
        | none => rw [c2] at c; cases c
        | some is =>
          rw [c2] at c
          cases c
          have := r.intsOf c2
          subst this
          exact ⟨_, .int _, fun Q q => ⟨a, is, rfl, sq, q⟩⟩) hg hm PyProof.Rows.boot_sum ha (by decide) (by decide) he hpl
theorem re_any (hc : X.calm = true) (hg : Gl X "any") (hm : X.mg "any" = none) (ha : RA X W [a] ta ga) (he : starEach [a] X.env = (false, eval a X.env) :: starEach [] X.env := by rfl) (hpl : (backTo pos (starEach [] X.env)).any (·.1) = false := by rfl) :
    RE X W (.Call (.Name "any" p) [a] [] pos) (tCB (rAny X.K) ta) (eArgs (op1 D.any) ga) := re_callB (cr_any hc) (cv1 fun v d z r c e t => by
      unfold D.any at c
      cases c1 : d.lsq with
      | none => rw [c1] at c; cases c
      | some ds =>
        obtain ⟨a, vs, rfl, sq, r⟩ := r.lsqAt c1
        rw [c1] at c
        simp only [Option.bind_some] at c
        cases c2 : D.bls ds with
        | none => rw [c2] at c; cases c
        | some is =>
          rw [c2] at c
          cases c
          have := r.blsOf c2
          subst this
          exact ⟨_, .bl _, fun Q q => ⟨a, is, rfl, sq, q⟩⟩) hg hm PyProof.Rows.boot_any ha (by decide) (by decide) he hpl
theorem re_all (hc : X.calm = true) (hg : Gl X "all") (hm : X.mg "all" = none) (ha : RA X W [a] ta ga) (he : starEach [a] X.env = (false, eval a X.env) :: starEach [] X.env := by rfl) (hpl : (backTo pos (starEach [] X.env)).any (·.1) = false := by rfl) :
    RE X W (.Call (.Name "all" p) [a] [] pos) (tCB (rAll X.K) ta) (eArgs (op1 D.all) ga) := re_callB (cr_all hc) (cv1 fun v d z r c e t => by
      unfold D.all at c
      cases c1 : d.lsq with
      | none => rw [c1] at c; cases c
      | some ds =>
        obtain ⟨a, vs, rfl, sq, r⟩ := r.lsqAt c1
        rw [c1] at c
        simp only [Option.bind_some] at c
        cases c2 : D.bls ds with
        | none => rw [c2] at c; cases c
        | some is =>
          rw [c2] at c
          cases c
          have := r.blsOf c2
          subst this
          exact ⟨_, .bl _, fun Q q => ⟨a, is, rfl, sq, q⟩⟩) hg hm PyProof.Rows.boot_all ha (by decide) (by decide) he hpl
theorem re_abs (hg : Gl X "abs") (hm : X.mg "abs" = none) (ha : RA X W [a] ta ga) (he : starEach [a] X.env = (false, eval a X.env) :: starEach [] X.env := by rfl) (hpl : (backTo pos (starEach [] X.env)).any (·.1) = false := by rfl) :
    RE X W (.Call (.Name "abs" p) [a] [] pos) (tCB (fun xs H Q => ∃ i, xs = [V.int i] ∧ Q (.int (if i < 0 then -i else i)) H) ta) (eArgs (op1 D.abs) ga) := re_callB call_abs (cv1 fun v d z r c e t => by
      unfold D.abs at c
      split at c
      · cases c
        cases r
        exact ⟨_, .int _, fun Q q => ⟨_, rfl, q⟩⟩
      · cases c) hg hm (by decide +kernel) ha (by decide) (by decide) he hpl
theorem re_min1 (hc : X.calm = true) (hg : Gl X "min") (hm : X.mg "min" = none) (ha : RA X W [a] ta ga) (he : starEach [a] X.env = (false, eval a X.env) :: starEach [] X.env := by rfl) (hpl : (backTo pos (starEach [] X.env)).any (·.1) = false := by rfl) :
    RE X W (.Call (.Name "min" p) [a] [] pos) (tCB (rMin X.K) ta) (eArgs (op1 D.min1) ga) := re_callB (cr_min hc) (cv1 fun v d z r c e t => by
      unfold D.min1 at c
      cases c1 : d.lsq with
      | none => rw [c1] at c; cases c
      | some ds =>
        obtain ⟨a, vs, rfl, sq, r⟩ := r.lsqAt c1
        rw [c1] at c
        simp only [Option.bind_some] at c
        cases c2 : D.ints ds with
        | none => rw [c2] at c; cases c
        | some is =>
          rw [c2] at c
          simp only [Option.bind_some] at c
          split at c
          · cases c
          · rename_i hne
            cases c
            have := r.intsOf c2
            subst this
            have hne' : is ≠ [] := by simpa using hne
            refine ⟨_, .int _, fun Q q => ⟨a, is, rfl, sq, List.length_pos_iff.mpr hne', fun m hm hy => ?_⟩⟩
            have e1 := minL_le hne' m hm
            have e2 := hy _ (minL_mem hne')
            have : m = minL is := by omega
            rw [this]; exact q) hg hm PyProof.Rows.boot_min ha (by decide) (by decide) he hpl
theorem re_max1 (hc : X.calm = true) (hg : Gl X "max") (hm : X.mg "max" = none) (ha : RA X W [a] ta ga) (he : starEach [a] X.env = (false, eval a X.env) :: starEach [] X.env := by rfl) (hpl : (backTo pos (starEach [] X.env)).any (·.1) = false := by rfl) :
    RE X W (.Call (.Name "max" p) [a] [] pos) (tCB (rMax X.K) ta) (eArgs (op1 D.max1) ga) := re_callB (cr_max hc) (cv1 fun v d z r c e t => by
      unfold D.max1 at c
      cases c1 : d.lsq with
      | none => rw [c1] at c; cases c
      | some ds =>
        obtain ⟨a, vs, rfl, sq, r⟩ := r.lsqAt c1
        rw [c1] at c
        simp only [Option.bind_some] at c
        cases c2 : D.ints ds with
        | none => rw [c2] at c; cases c
        | some is =>
          rw [c2] at c
          simp only [Option.bind_some] at c
          split at c
          · cases c
          · rename_i hne
            cases c
            have := r.intsOf c2
            subst this
            have hne' : is ≠ [] := by simpa using hne
            refine ⟨_, .int _, fun Q q => ⟨a, is, rfl, sq, List.length_pos_iff.mpr hne', fun m hm hy => ?_⟩⟩
            have e1 := maxL_ge hne' m hm
            have e2 := hy _ (maxL_mem hne')
            have : m = maxL is := by omega
            rw [this]; exact q) hg hm PyProof.Rows.boot_max ha (by decide) (by decide) he hpl
theorem re_min2 (hc : X.calm = true) (hg : Gl X "min") (hm : X.mg "min" = none) (ha : RA X W [a, b] ta ga) (he : starEach [a, b] X.env = (false, eval a X.env) :: starEach [b] X.env := by rfl) (hpl : (backTo pos (starEach [b] X.env)).any (·.1) = false := by rfl) :
    RE X W (.Call (.Name "min" p) [a, b] [] pos) (tCB (fun xs H Q => ∃ i j, xs = [V.int i, .int j] ∧ Q (.int (if j < i then j else i)) H) ta) (eArgs opMin2 ga) := re_callB (call_min2 hc) (cv_ints2 rfl fun i j H Q q => ⟨i, j, rfl, q⟩) hg hm PyProof.Rows.boot_min ha (by decide) (by decide) he hpl
theorem re_max2 (hc : X.calm = true) (hg : Gl X "max") (hm : X.mg "max" = none) (ha : RA X W [a, b] ta ga) (he : starEach [a, b] X.env = (false, eval a X.env) :: starEach [b] X.env := by rfl) (hpl : (backTo pos (starEach [b] X.env)).any (·.1) = false := by rfl) :
    RE X W (.Call (.Name "max" p) [a, b] [] pos) (tCB (fun xs H Q => ∃ i j, xs = [V.int i, .int j] ∧ Q (.int (if j > i then j else i)) H) ta) (eArgs opMax2 ga) := re_callB (call_max2 hc) (cv_ints2 rfl fun i j H Q q => ⟨i, j, rfl, q⟩) hg hm PyProof.Rows.boot_max ha (by decide) (by decide) he hpl
theorem re_strI (hg : Gl X "str") (hm : X.mg "str" = none) (ha : RA X W [a] ta ga) (he : starEach [a] X.env = (false, eval a X.env) :: starEach [] X.env := by rfl) (hpl : (backTo pos (starEach [] X.env)).any (·.1) = false := by rfl) :
    RE X W (.Call (.Name "str" p) [a] [] pos) (tCB (fun xs H Q => (∃ i, xs = [V.int i] ∧ i.natAbs.log2 < 1920 ∧ Q (.str (toString i)) H) ∨ ∃ a, xs = [V.str a] ∧ Q (.str a) H) ta) (eArgs (op1 D.toS) ga) := re_callTy (CallR.or call_str_int SkE.call_str_str) (cv1 fun v d z r c e t => by
      unfold D.toS at c
      split at c
      · split at c
        · rename_i hl
          cases c
          cases r
          exact ⟨_, .str _, fun Q q => .inl ⟨_, rfl, hl, q⟩⟩
        · cases c
      · cases c
        cases r
        exact ⟨_, .str _, fun Q q => .inr ⟨_, rfl, q⟩⟩
      · cases c) hg hm PyProof.Rows.boot_str ha (by decide) (by decide) he hpl
theorem re_intS (hg : Gl X "int") (hm : X.mg "int" = none) (ha : RA X W [a] ta ga) (he : starEach [a] X.env = (false, eval a X.env) :: starEach [] X.env := by rfl) (hpl : (backTo pos (starEach [] X.env)).any (·.1) = false := by rfl) :
    RE X W (.Call (.Name "int" p) [a] [] pos) (tCB (fun xs H Q => ((∃ i, xs = [V.int i] ∧ Q (.int i) H) ∨ ∃ k, xs = [V.bl k] ∧ Q (.int (if k then 1 else 0)) H) ∨ ∃ a n, xs = [V.str a] ∧ PySem.intText? a = some n ∧ a.length ≤ 640 ∧ Q (.int n) H) ta) (eArgs (op1 D.toI) ga) := re_callTy (CallR.or call_int1 call_int_str) (cv1 fun v d z r c e t => by
      unfold D.toI at c
      split at c
      · cases c
        cases r
        exact ⟨_, .int _, fun Q q => .inl (.inl ⟨_, rfl, q⟩)⟩
      · rename_i s
        split at c
        · rename_i hl
          cases c2 : PySem.intText? s with
          | none => rw [c2] at c; cases c
          | some n =>
            rw [c2] at c
            cases c
            cases r
            exact ⟨_, .int _, fun Q q => .inr ⟨_, n, rfl, c2, hl, q⟩⟩
        · cases c
      · cases c) hg hm PyProof.Rows.boot_int ha (by decide) (by decide) he hpl
end
end Fu

namespace Fu
open PySem L2 PyProof.Rows
open SX (S)
/-! ### reckoning with places, truths, texts -/
@[simp] theorem kids_lst (os : List O) : (O.lst os).kids = os := (by rfl)
@[simp] theorem kids_tup (os : List O) : (O.tup os).kids = os := (by rfl)
@[simp] theorem kids_dK (k : List Key) (os : List O) : (O.dK k os).kids = os := (by rfl)
@[simp] theorem kids_dT (k : List (List Key)) (os : List O) : (O.dT k os).kids = os := (by rfl)
@[simp] theorem kids_obj (c : Str) (f : List Str) (os : List O) : (O.obj c f os).kids = os := (by rfl)
@[simp] theorem wk_lst (os ks : List O) : (O.lst os).withKids ks = .lst ks := (by rfl)
@[simp] theorem wk_tup (os ks : List O) : (O.tup os).withKids ks = .tup ks := (by rfl)
@[simp] theorem wk_dK (k : List Key) (os ks : List O) : (O.dK k os).withKids ks = .dK k ks := (by rfl)
@[simp] theorem wk_dT (k : List (List Key)) (os ks : List O) : (O.dT k os).withKids ks = .dT k ks := (by rfl)
@[simp] theorem wk_obj (c : Str) (f : List Str) (os ks : List O) : (O.obj c f os).withKids ks = .obj c f ks := (by rfl)
@[simp] theorem walk_nil (o : O) : o.walk [] = some o := (by rfl)
@[simp] theorem walk_cons (o : O) (j : Nat) (st : List Nat) : o.walk (j :: st) = (o.kids[j]?).bind fun y => y.walk st := (by rfl)
@[simp] theorem put_nil (o y : O) : o.put [] y = y := by rw [O.put]
@[simp] theorem put_cons (o y : O) (j : Nat) (st : List Nat) : o.put (j :: st) y = (match o.kids[j]? with
  | some k => o.withKids (o.kids.set j (k.put st y))
  | none => o) := by
  first
    | (rw [O.put]; done)
    | (rw [O.put]; cases o.kids[j]? <;> rfl)
@[simp] theorem getPl_eq (env : Sn) (p : Pl) : getPl env p = (match env[p.1]? with
  | some (some x) => x.walk p.2
  | _ => none) := (by rfl)
@[simp] theorem putPl_eq (env : Sn) (p : Pl) (y : O) : putPl env p y = (match env[p.1]? with
  | some (some x) => env.set p.1 (some (x.put p.2 y))
  | _ => env) := (by rfl)
@[simp] theorem pVar_eq (i : Nat) (env : Sn) : pVar i env = (match env[i]? with
  | some (some _) => .ok (i, [])
  | _ => .bad) := (by rfl)
@[simp] theorem pAt_eq (p : FP) (g : FE) (env : Sn) : pAt p g env = (p env >>= fun pl => g (up env) >>= fun t => M.of ((getPl env pl).bind fun o => (o.at t.data).bind fun j => if j < o.kids.length then some j else none) >>= fun j => .ok (pl.1, pl.2 ++ [j])) := (by rfl)
@[simp] theorem oat_lst (os : List O) (i : Int) : (O.lst os).at (.int i) = ixN os.length i := (by rfl)
@[simp] theorem oat_tup (os : List O) (i : Int) : (O.tup os).at (.int i) = ixN os.length i := (by rfl)
@[simp] theorem oat_dK (ks : List Key) (os : List O) (d : D) : (O.dK ks os).at d = d.key.bind fun c => kIdx ks c := (by rfl)
@[simp] theorem mutS_eq (T : String) (p : FP) (g : FE) (op : O → Fu.T → Option O) (env : Sn) : mutS T p g op env = onE (p env) env fun pl => match getPl env pl with
  | some y => if y.kind = T then onE (g (up env)) env fun t => (op y t).map fun y' => .nx (putPl env pl y') else none
  | none => none := (by rfl)
@[simp] theorem mutS0_eq (T : String) (p : FP) (op : O → Option O) (env : Sn) : mutS0 T p op env = onE (p env) env fun pl => match getPl env pl with
  | some y => if y.kind = T then (op y).map fun y' => .nx (putPl env pl y') else none
  | none => none := (by rfl)
@[simp] theorem setS_eq (ge : FE) (p : FP) (gi : FE) (op : O → D → O → Option O) (env : Sn) : setS ge p gi op env = onE (ge (up env)) env fun t => match t.keep with
  | some x => onE (p env) env fun pl => onE (gi (up env)) env fun i => ((getPl env pl).bind fun y => op y i.data x).map fun y' => .nx (putPl env pl y')
  | none => none := (by rfl)
@[simp] theorem kind_lst (os : List O) : (O.lst os).kind = "list" := (by rfl)
@[simp] theorem kind_dK (k : List Key) (os : List O) : (O.dK k os).kind = "dict" := (by rfl)
@[simp] theorem kind_dT (k : List (List Key)) (os : List O) : (O.dT k os).kind = "dict" := (by rfl)
@[simp] theorem opAppend_lst (os : List O) (t : T) : opAppend (.lst os) t = t.keep.bind fun x => if os.length < sizeLine then some (.lst (os ++ [x])) else none := by
  unfold opAppend
  cases t.keep <;> rfl
@[simp] theorem opExtend_lst (os : List O) (t : T) : opExtend (.lst os) t = t.items.bind fun ps => if os.length + ps.length ≤ sizeLine then some (.lst (os ++ ps)) else none := by
  unfold opExtend
  cases t.items <;> rfl
@[simp] theorem opClear_lst (os : List O) : opClear (.lst os) = some (.lst []) := (by rfl)
@[simp] theorem opReverse_lst (os : List O) : opReverse (.lst os) = some (.lst os.reverse) := (by rfl)
@[simp] theorem opSetL_lst (os : List O) (i : Int) (x : O) : opSetL (.lst os) (.int i) x = (ixN os.length i).map fun j => .lst (os.set j x) := (by rfl)
@[simp] theorem items_olst (os : List O) : (T.o (.lst os)).items = some os := (by rfl)
@[simp] theorem items2_olst (os : List O) : (T.o (.lst os)).items2 = some os := (by rfl)
@[simp] theorem items2_sh (d : D) : (T.o (.sh d)).items2 = d.seq.map (·.map .sh) := (by rfl)
@[simp] theorem items2_bo (d : D) : (T.bo d).items2 = d.seq.bind fun ds => if D.flatL ds then some (ds.map .sh) else none := (by rfl)
@[simp] theorem opList_eq (t : T) : opList [t] = t.items2.map fun os => .o (.lst os) := (by rfl)
@[simp] theorem opTuple_eq (t : T) : opTuple [t] = (match t.data with
    | .lst ds => if D.flatL ds then sc (.tup ds) else none
    | .rol ds => if D.flatL ds then sc (.tup ds) else none
    | .tup ds => if D.flatL ds then sc (.tup ds) else none
    | _ => none) := (by rfl)
@[simp] theorem lsq_lst (ds : List D) : (D.lst ds).lsq = some ds := (by rfl)
@[simp] theorem lsq_rol (ds : List D) : (D.rol ds).lsq = some ds := (by rfl)
theorem ints_map {α : Type} (f : α → Int) : ∀ xs : List α, D.ints (xs.map fun x => .int (f x)) = some (xs.map f)
  | [] => rfl
  | x :: xs => by
    show (D.ints (xs.map fun x => .int (f x))).map (f x :: ·) = _
    rw [ints_map f xs]
    rfl
theorem bls_map {α : Type} (f : α → Bool) : ∀ xs : List α, D.bls (xs.map fun x => .bl (f x)) = some (xs.map f)
  | [] => rfl
  | x :: xs => by
    show (D.bls (xs.map fun x => .bl (f x))).map (f x :: ·) = _
    rw [bls_map f xs]
    rfl
@[simp] theorem isSh_sh (d : D) : (O.sh d).isSh = true := (by rfl)
@[simp] theorem isSh_lst (d : List O) : (O.lst d).isSh = false := (by rfl)
@[simp] theorem isSh_tup (d : List O) : (O.tup d).isSh = false := (by rfl)
@[simp] theorem isSh_dK (k : List Key) (d : List O) : (O.dK k d).isSh = false := (by rfl)
@[simp] theorem isSh_dT (k : List (List Key)) (d : List O) : (O.dT k d).isSh = false := (by rfl)
@[simp] theorem mkTup_eq (os : List O) : mkTup os = if os.all O.isSh then .sh (.tup (O.dataL os)) else .tup os := (by rfl)
@[simp] theorem flatL_nil : D.flatL [] = true := by rw [D.flatL]
@[simp] theorem flatL_cons (d : D) (ds : List D) : D.flatL (d :: ds) = (d.flat && D.flatL ds) := by rw [D.flatL]
theorem flatL_all (ds : List D) : D.flatL ds = ds.all D.flat := by
  induction ds with
  | nil => simp
  | cons d ds ih => simp [ih]
@[simp] theorem flat_dtup (ds : List D) : D.flat (.tup ds) = D.flatL ds := flat_tup ds
theorem flatL_map {α : Type} (f : α → D) (h : ∀ x, (f x).flat = true) (xs : List α) : D.flatL (xs.map f) = true := by
  rw [flatL_all]
  simp [h]
@[simp] theorem pure_lst (os : List O) : (O.lst os).pure = O.pureL os := by rw [O.pure]
@[simp] theorem pure_tup (os : List O) : (O.tup os).pure = O.pureL os := by rw [O.pure]
@[simp] theorem pure_dK (k : List Key) (os : List O) : (O.dK k os).pure = O.pureL os := by rw [O.pure]
@[simp] theorem pure_dT (k : List (List Key)) (os : List O) : (O.dT k os).pure = O.pureL os := by rw [O.pure]
@[simp] theorem pureL_nil : O.pureL [] = true := by rw [O.pureL]
@[simp] theorem pureL_cons (o : O) (os : List O) : O.pureL (o :: os) = (o.pure && O.pureL os) := by rw [O.pureL]
theorem pureL_all (os : List O) : O.pureL os = os.all O.pure := by
  induction os with
  | nil => simp
  | cons d ds ih => simp [ih]
theorem pureL_map {α : Type} (f : α → O) (h : ∀ x, (f x).pure = true) (xs : List α) : O.pureL (xs.map f) = true := by
  rw [pureL_all]
  simp [h]
theorem pureL_app (os ps : List O) : O.pureL (os ++ ps) = (O.pureL os && O.pureL ps) := by simp [pureL_all]
@[simp] theorem odataL_app (os ps : List O) : O.dataL (os ++ ps) = O.dataL os ++ O.dataL ps := by simp [odataL_map]
@[simp] theorem odataL_len (os : List O) : (O.dataL os).length = os.length := by simp [odataL_map]
theorem odataL_mapf {α : Type} (f : α → O) (xs : List α) : O.dataL (xs.map f) = xs.map fun x => (f x).data := by simp [odataL_map, Function.comp_def]
@[simp] theorem ixN_last (n : Nat) : ixN (n + 1) (-1) = some n := by
  unfold ixN
  rw [if_neg (by omega), if_pos (by omega)]
  congr 1
  omega
@[simp] theorem ixN_zero (n : Nat) : ixN (n + 1) 0 = some 0 := by
  unfold ixN
  rw [if_pos (by omega), if_pos (by omega)]
  rfl
theorem ixN_nat {n k : Nat} (h : k < n) : ixN n (k : Int) = some k := by
  unfold ixN
  rw [if_pos (by omega), if_pos (by omega)]
  rfl
@[simp] theorem atI_snoc {α : Type} (xs : List α) (v : α) : atI (xs ++ [v]) (-1) = some v := atI_last xs v
@[simp] theorem tNeg_eq (x : T) : tNeg x = (match x.data with
  | .int i => some (.o (.sh (.int (-i))))
  | _ => none) := (by rfl)
@[simp] theorem retFilt_eq (i v : Nat) (vs : List Nat) (c : FT) (env : Sn) : retFilt i v vs c env = (match env[i]? with
  | some (some (.lst os)) => (match filtL c v (wipeE (up env) vs) os with
    | some ps => if ps.length ≤ sizeLine ∧ v < env.length then some (.rt (.lst ps)) else none
    | none => none)
  | _ => none) := (by rfl)
/-! a list's walk in general: each turn by a step on a state -/
theorem loop_steps {α σ : Type} {b : FG} {body : FS} (emb : α → D) (env : σ → Option O → Sn → Prop) (f : σ → α → σ) (G : σ → List α → Prop)
    (h : ∀ s a l e x, G s (a :: l) → env s x e → ∃ e1 e2 y, b (.sh (emb a)) e = some e1 ∧ body e1 = some (.nx e2) ∧ env (f s a) y e2 ∧ G (f s a) l) :
    ∀ (l : List α) (s : σ) (e : Sn) (x : Option O), G s l → env s x e → ∃ e2 y, loopS b body (l.map emb) e = some (.nx e2) ∧ env (l.foldl f s) y e2 ∧ G (l.foldl f s) []
  | [], s, e, x, g, i => ⟨e, x, rfl, i, g⟩
  | a :: l, s, e, x, g, i => by
    obtain ⟨e1, e2, y, h1, h2, h3, h4⟩ := h s a l e x g i
    obtain ⟨e3, z, h5, h6, h7⟩ := loop_steps emb env f G h l (f s a) e2 y h4 h3
    refine ⟨e3, z, ?_, h6, h7⟩
    rw [List.map_cons, loopS, h1]
    simp only [h2]
    exact h5
/-- a loop by an invariant over what is left, each turn going on -/
theorem loop_ex {α : Type} {b : FG} {body : FS} (emb : α → D) (I : List α → Sn → Prop) (h : ∀ a l e, I (a :: l) e → ∃ e1 e2, b (.sh (emb a)) e = some e1 ∧ (body e1 = some (.nx e2) ∨ body e1 = some (.ct e2)) ∧ I l e2) :
    ∀ (l : List α) (e : Sn), I l e → ∃ e2, loopS b body (l.map emb) e = some (.nx e2) ∧ I [] e2
  | [], e, i => ⟨e, rfl, i⟩
  | a :: l, e, i => by
    obtain ⟨e1, e2, h1, h2, h3⟩ := h a l e i
    obtain ⟨e3, h4, h5⟩ := loop_ex emb I h l e2 h3
    refine ⟨e3, ?_, h5⟩
    rw [List.map_cons, loopS, h1]
    rcases h2 with h2 | h2
    · simp only [h2]
      exact h4
    · simp only [h2]
      exact h4
@[simp] theorem bTup_eq (n : Nat) (bs : List O → Sn → Option Sn) (x : O) (env : Sn) : bTup n bs x env = (match x.parts with
  | some os => if os.length = n then bs os env else none
  | none => none) := (by rfl)
@[simp] theorem bCons_eq (b : FG) (bs : List O → Sn → Option Sn) (x : O) (xs : List O) (env : Sn) : bCons b bs (x :: xs) env = (b x env).bind (bs xs) := (by rfl)
@[simp] theorem bNil_eq (env : Sn) : bNil [] env = some env := (by rfl)
@[simp] theorem parts_tup (os : List O) : (O.tup os).parts = some os := (by rfl)
@[simp] theorem parts_sh (d : D) : (O.sh d).parts = d.tupItems.map (·.map .sh) := (by rfl)
@[simp] theorem tupItems_tup (ds : List D) : (D.tup ds).tupItems = some ds := (by rfl)
theorem mid_get {α : Type} (A R : List α) (x : α) : (A ++ x :: R)[A.length]? = some x := by simp
theorem mid_set {α : Type} (A R : List α) (x y : α) : (A ++ x :: R).set A.length y = A ++ y :: R := by
  rw [List.set_append_right _ _ (Nat.le_refl _), Nat.sub_self]
  rfl
theorem loop_rng' {b : FG} {body : FS} (I : Nat → Sn → Prop) (m n : Nat) (h : ∀ i, m ≤ i → i < n + m → ∀ e, I i e → ∃ e1 e2, b (.sh (.int i)) e = some e1 ∧ (body e1 = some (.nx e2) ∨ body e1 = some (.ct e2)) ∧ I (i + 1) e2) :
    ∀ e, I m e → ∃ e2, loopS b body ((List.range n).map fun k => .int ((m : Int) + ((k : Nat) : Int))) e = some (.nx e2) ∧ I (m + n) e2 := by
  induction n generalizing m with
  | zero => exact fun e i => ⟨e, rfl, i⟩
  | succ n ih =>
    intro e i
    obtain ⟨e1, e2, h1, h2, h3⟩ := h m (Nat.le_refl _) (by omega) e i
    obtain ⟨e3, h4, h5⟩ := ih (m + 1) (fun j a c => h j (by omega) (by omega)) e2 h3
    refine ⟨e3, ?_, by rw [show m + (n + 1) = m + 1 + n by omega]; exact h5⟩
    rw [List.range_succ_eq_map, List.map_cons, List.map_map, loopS]
    have e0 : (m : Int) + ((0 : Nat) : Int) = (m : Int) := by omega
    rw [e0, h1]
    have e4 : ((fun k : Nat => D.int ((m : Int) + (k : Int))) ∘ Nat.succ) = fun k : Nat => D.int (((m + 1 : Nat) : Int) + (k : Int)) := by
      funext k
      show D.int _ = D.int _
      congr 1
      simp
      omega
    rw [e4]
    rcases h2 with h2 | h2
    · simp only [h2]
      exact h4
    · simp only [h2]
      exact h4
/-- a loop over the numbers below n -/
theorem loop_rng {b : FG} {body : FS} (I : Nat → Sn → Prop) (n : Nat) (h : ∀ i, i < n → ∀ e, I i e → ∃ e1 e2, b (.sh (.int i)) e = some e1 ∧ (body e1 = some (.nx e2) ∨ body e1 = some (.ct e2)) ∧ I (i + 1) e2) (e : Sn) (i : I 0 e) :
    ∃ e2, loopS b body ((List.range n).map fun k => .int ((k : Nat) : Int)) e = some (.nx e2) ∧ I n e2 := by
  have := loop_rng' (b := b) (body := body) I 0 n (fun j _ hj => h j (by omega)) e i
  have e1 : ((List.range n).map fun k => D.int (((0 : Nat) : Int) + ((k : Nat) : Int))) = (List.range n).map fun k => .int ((k : Nat) : Int) := by
    congr 1
    funext k
    simp
  rw [e1, Nat.zero_add] at this
  exact this
theorem loop_all' {b : FG} {body : FS} (I : Nat → Sn → Prop) (good : Nat → Bool) (x : O) (m n : Nat) (h : ∀ i, m ≤ i → i < n + m → ∀ e, I i e → ∃ e1, b (.sh (.int i)) e = some e1 ∧ ((good i = true ∧ ∃ e2, body e1 = some (.nx e2) ∧ I (i + 1) e2) ∨ (good i = false ∧ body e1 = some (.rt x)))) :
    ∀ e, I m e → ((∀ i, m ≤ i → i < n + m → good i = true) ∧ ∃ e2, loopS b body ((List.range n).map fun k => .int ((m : Int) + ((k : Nat) : Int))) e = some (.nx e2) ∧ I (m + n) e2) ∨
      ((∃ i, m ≤ i ∧ i < n + m ∧ good i = false) ∧ loopS b body ((List.range n).map fun k => .int ((m : Int) + ((k : Nat) : Int))) e = some (.rt x)) := by
  induction n generalizing m with
  | zero => exact fun e i => .inl ⟨fun i h1 h2 => by omega, e, rfl, i⟩
  | succ n ih =>
    intro e i
    obtain ⟨e1, h1, h2⟩ := h m (Nat.le_refl _) (by omega) e i
    rw [List.range_succ_eq_map, List.map_cons, List.map_map, loopS]
    have e0 : (m : Int) + ((0 : Nat) : Int) = (m : Int) := by omega
    rw [e0, h1]
    have e4 : ((fun k : Nat => D.int ((m : Int) + (k : Int))) ∘ Nat.succ) = fun k : Nat => D.int (((m + 1 : Nat) : Int) + (k : Int)) := by
      funext k
      show D.int _ = D.int _
      congr 1
      simp
      omega
    rw [e4]
    rcases h2 with ⟨g, e2, h2, h3⟩ | ⟨g, h2⟩
    · simp only [h2]
      rcases ih (m + 1) (fun j a c => h j (by omega) (by omega)) e2 h3 with ⟨q1, e3, q2, q3⟩ | ⟨⟨j, a, c, d⟩, q⟩
      · refine .inl ⟨fun j a c => ?_, e3, q2, by rw [show m + (n + 1) = m + 1 + n by omega]; exact q3⟩
        by_cases z : j = m
        · subst z; exact g
        · exact q1 j (by omega) (by omega)
      · exact .inr ⟨⟨j, by omega, by omega, d⟩, q⟩
    · simp only [h2]
      exact .inr ⟨⟨m, Nat.le_refl _, by omega, g⟩, by trivial⟩
/-- a loop over the numbers below n that returns at the first bad one -/
theorem loop_all {b : FG} {body : FS} (I : Nat → Sn → Prop) (good : Nat → Bool) (x : O) (n : Nat) (h : ∀ i, i < n → ∀ e, I i e → ∃ e1, b (.sh (.int i)) e = some e1 ∧ ((good i = true ∧ ∃ e2, body e1 = some (.nx e2) ∧ I (i + 1) e2) ∨ (good i = false ∧ body e1 = some (.rt x)))) (e : Sn) (i : I 0 e) :
    ((∀ i, i < n → good i = true) ∧ ∃ e2, loopS b body ((List.range n).map fun k => .int ((k : Nat) : Int)) e = some (.nx e2) ∧ I n e2) ∨
      ((∃ i, i < n ∧ good i = false) ∧ loopS b body ((List.range n).map fun k => .int ((k : Nat) : Int)) e = some (.rt x)) := by
  have := loop_all' (b := b) (body := body) I good x 0 n (fun j _ hj => h j (by omega)) e i
  have e1 : ((List.range n).map fun k => D.int (((0 : Nat) : Int) + ((k : Nat) : Int))) = (List.range n).map fun k => .int ((k : Nat) : Int) := by
    congr 1
    funext k
    simp
  rw [e1, Nat.zero_add] at this
  rcases this with ⟨a, c⟩ | ⟨⟨j, _, a, c⟩, d⟩
  · exact .inl ⟨fun i hi => a i (by omega) (by omega), c⟩
  · exact .inr ⟨⟨j, by omega, c⟩, d⟩
/-- the numbers below n -/
def rngD (n : Int) : M (List D) := if -(2 ^ 62) ≤ n ∧ n < 2 ^ 62 then .ok ((List.range n.toNat).map fun k => .int ((k : Nat) : Int)) else .bad
/-- the numbers from m on below n -/
def rngD2 (m n : Int) : M (List D) := if -(2 ^ 62) ≤ m ∧ m < 2 ^ 62 ∧ -(2 ^ 62) ≤ n ∧ n < 2 ^ 62 then .ok ((List.range (n - m).toNat).map fun k => .int (m + ((k : Nat) : Int))) else .bad
theorem rngD_of {i : Int} (n : Nat) (h : i = n) (hn : n ≤ 1000000) : rngD i = .ok ((List.range n).map fun k => .int ((k : Nat) : Int)) := by
  subst h
  unfold rngD
  rw [if_pos (by omega), Int.toNat_natCast]
theorem rngD_neg {i : Int} (h : i ≤ 0) (h2 : -1000000 ≤ i) : rngD i = .ok [] := by
  unfold rngD
  rw [if_pos (by omega), Int.toNat_of_nonpos h]
  rfl
theorem rngD2_of {i j : Int} (m n : Nat) (h : i = m) (h2 : j = n) (hm : m ≤ 1000000) (hn : n ≤ 1000000) : rngD2 i j = .ok ((List.range (n - m)).map fun k => .int ((m : Int) + ((k : Nat) : Int))) := by
  subst h h2
  unfold rngD2
  rw [if_pos (by omega), show ((n : Int) - (m : Int)).toNat = n - m by omega]
@[simp] theorem itR1_eq (g : FA) (env : En) : itR1 g env = (g env >>= fun ts => match ts.map T.data with
  | [.int n] => rngD n
  | _ => .bad) := (by rfl)
@[simp] theorem itR2_eq (g : FA) (env : En) : itR2 g env = (g env >>= fun ts => match ts.map T.data with
  | [.int m, .int n] => rngD2 m n
  | _ => .bad) := (by rfl)
@[simp] theorem mSh_ok (ds : List D) : mSh (.ok ds) = .ok (ds.map fun d => .o (.sh d)) := (by rfl)
/-- a comprehension without a test -/
theorem comp_map {α : Type} {i : Nat} {e : FE} {env : En} (t : α → T) (f : α → O) : ∀ l : List α, (∀ a ∈ l, e (env.set i (some (t a))) = .ok (.o (f a))) → compL (cName i) yesT e env (l.map t) = some (l.map f)
  | [], _ => rfl
  | a :: l, h => by
    have ih := comp_map t f l fun x m => h x (List.mem_cons_of_mem _ m)
    rw [List.map_cons, compL]
    show (match yesT (env.set i (some (t a))) with
      | .ok true => (match e (env.set i (some (t a))) with
        | .ok y => (match y.keep, compL (cName i) yesT e env (l.map t) with
          | some x, some xs => some (x :: xs)
          | _, _ => none)
        | _ => none)
      | .ok false => compL (cName i) yesT e env (l.map t)
      | _ => none) = _
    rw [h a List.mem_cons_self, ih]
    rfl
theorem comp_map_ex {α β : Type} {i : Nat} {e : FE} {env : En} (t : α → T) (f : β → O) (P : β → Prop) : ∀ l : List α, (∀ a ∈ l, ∃ b, e (env.set i (some (t a))) = .ok (.o (f b)) ∧ P b) → ∃ bs : List β, compL (cName i) yesT e env (l.map t) = some (bs.map f) ∧ bs.length = l.length ∧ ∀ b ∈ bs, P b
  | [], _ => ⟨[], rfl, rfl, fun b m => by cases m⟩
  | a :: l, h => by
    obtain ⟨bs, h1, h2, h3⟩ := comp_map_ex t f P l fun x m => h x (List.mem_cons_of_mem _ m)
    obtain ⟨b, h4, h5⟩ := h a List.mem_cons_self
    refine ⟨b :: bs, ?_, by simp [h2], fun x m => ?_⟩
    · rw [List.map_cons, compL]
      show (match yesT (env.set i (some (t a))) with
        | .ok true => (match e (env.set i (some (t a))) with
          | .ok y => (match y.keep, compL (cName i) yesT e env (l.map t) with
            | some x, some xs => some (x :: xs)
            | _, _ => none)
          | _ => none)
        | .ok false => compL (cName i) yesT e env (l.map t)
        | _ => none) = _
      rw [h4, h1]
      rfl
    · rcases List.mem_cons.mp m with m | m
      · subst m; exact h5
      · exact h3 x m
theorem comp_keep_ex {α β : Type} {i : Nat} {e : FE} {env : En} (t : α → T) (f : β → O) (P : β → Prop) : ∀ l : List α, (∀ a ∈ l, ∃ b y, e (env.set i (some (t a))) = .ok y ∧ y.keep = some (f b) ∧ P b) → ∃ bs : List β, compL (cName i) yesT e env (l.map t) = some (bs.map f) ∧ bs.length = l.length ∧ ∀ b ∈ bs, P b
  | [], _ => ⟨[], rfl, rfl, fun b m => by cases m⟩
  | a :: l, h => by
    obtain ⟨bs, h1, h2, h3⟩ := comp_keep_ex t f P l fun x m => h x (List.mem_cons_of_mem _ m)
    obtain ⟨b, y, h4, h6, h5⟩ := h a List.mem_cons_self
    refine ⟨b :: bs, ?_, by simp [h2], fun x m => ?_⟩
    · rw [List.map_cons, compL]
      show (match yesT (env.set i (some (t a))) with
        | .ok true => (match e (env.set i (some (t a))) with
          | .ok y => (match y.keep, compL (cName i) yesT e env (l.map t) with
            | some x, some xs => some (x :: xs)
            | _, _ => none)
          | _ => none)
        | .ok false => compL (cName i) yesT e env (l.map t)
        | _ => none) = _
      rw [h4, h1]
      show (match y.keep, some (bs.map f) with
            | some x, some xs => some (x :: xs)
            | _, _ => none) = _
      rw [h6]
      rfl
    · rcases List.mem_cons.mp m with m | m
      · subst m; exact h5
      · exact h3 x m
/-! data that can be compared with itself -/
mutual
def D.cmp : Nat → D → Bool
  | _, .non => true
  | _, .bl _ => true
  | _, .int _ => true
  | _, .str _ => true
  | n + 1, .lst xs => D.cmpL n xs
  | n + 1, .tup xs => D.cmpL n xs
  | _, _ => false
def D.cmpL : Nat → List D → Bool
  | _, [] => true
  | n, d :: ds => D.cmp n d && D.cmpL n ds
end
theorem cmpL_all (n : Nat) (ds : List D) : D.cmpL n ds = ds.all (D.cmp n) := by
  induction ds with
  | nil => rw [D.cmpL]; rfl
  | cons d ds ih => rw [D.cmpL, ih]; rfl
theorem eqL_self {f : D → D → Option Bool} : ∀ {ds : List D}, (∀ d ∈ ds, f d d = some true) → eqL f ds ds = some true
  | [], _ => rfl
  | d :: ds, h => by
    rw [eqL, h d List.mem_cons_self, eqL_self fun x m => h x (List.mem_cons_of_mem _ m)]
    rfl
theorem eqb_self : ∀ (n : Nat) (d : D), D.cmp n d = true → D.eqb n d d = some true := by
  intro n
  induction n with
  | zero =>
    intro d h
    cases d <;> first | (simp; done) | (rw [D.cmp] at h <;> first | cases h | (intros; intro z; cases z) | (intros; rename_i z; cases z))
  | succ n ih =>
    intro d h
    cases d with
    | lst xs =>
      rw [D.cmp, cmpL_all] at h
      have hx := List.all_eq_true.mp h
      show (if xs.length = xs.length then eqL (D.eqb n) xs xs else some false) = some true
      rw [if_pos rfl]
      exact eqL_self fun d m => ih d (hx d m)
    | tup xs =>
      rw [D.cmp, cmpL_all] at h
      have hx := List.all_eq_true.mp h
      exact eqL_self fun d m => ih d (hx d m)
    | _ => first | (simp; done) | (rw [D.cmp] at h <;> first | cases h | (intros; intro z; cases z) | (intros; rename_i z; cases z))
@[simp] theorem eqb_lst (n : Nat) (xs ys : List D) : D.eqb (n + 1) (.lst xs) (.lst ys) = if xs.length = ys.length then eqL (D.eqb n) xs ys else some false := (by rfl)
@[simp] theorem eqL_nil (f : D → D → Option Bool) : eqL f [] [] = some true := (by rfl)
theorem cmp_mono : ∀ (n : Nat) (d : D), D.cmp n d = true → D.cmp (n + 1) d = true := by
  intro n
  induction n with
  | zero =>
    intro d h
    cases d <;> first | (simp [D.cmp]; done) | (simp [D.cmp] at h)
  | succ n ih =>
    intro d h
    cases d with
    | lst xs =>
      rw [D.cmp, cmpL_all] at h ⊢
      exact List.all_eq_true.mpr fun d m => ih d (List.all_eq_true.mp h d m)
    | tup xs =>
      rw [D.cmp, cmpL_all] at h ⊢
      exact List.all_eq_true.mpr fun d m => ih d (List.all_eq_true.mp h d m)
    | _ => first | (simp [D.cmp]; done) | (simp [D.cmp] at h)
@[simp] theorem tSlice_bos (z : Str) (lo hi : Option Int) : tSlice (.bo (.str z)) lo hi = if z.length ≤ sizeLine then some (.o (.sh (.str (cutS z lo hi)))) else none := by
  show (match (T.bo (.str z)).data with
    | .str z => if z.length ≤ sizeLine then sc (.str (cutS z lo hi)) else none
    | .tup ds => if D.flatL ds then sc (.tup (cutL ds lo hi)) else none
    | _ => none) = _
  simp
theorem cutS_to (w : List Nat) (k : Nat) : cutS (S w) none (some (k : Int)) = S (w.take k) := by
  unfold cutS
  have h1 : HT.sIx (S w).length 0 none = 0 := rfl
  rw [h1, HT.sIx_nat, List.drop_zero, Nat.sub_zero]
  show S (List.take _ w) = _
  rw [SX.S_len]
  congr 1
  rw [List.take_eq_take_iff]
  omega
theorem cutL_from {α : Type} (xs : List α) (k : Nat) : cutL xs (some (k : Int)) none = xs.drop k := by
  unfold cutL
  rw [HT.sIx_nat]
  have h1 : HT.sIx xs.length xs.length none = xs.length := rfl
  rw [h1]
  by_cases h : k ≤ xs.length
  · rw [Nat.min_eq_left h, List.take_of_length_le (by simp)]
  · rw [Nat.min_eq_right (by omega), List.drop_eq_nil_of_le (by omega : xs.length ≤ k)]
    simp
theorem cutL_mid {α : Type} (xs : List α) (a n : Nat) (h : a ≤ xs.length) : cutL xs (some (a : Int)) (some ((a : Int) + (n : Int))) = (xs.drop a).take n := by
  unfold cutL
  have e : (a : Int) + (n : Int) = ((a + n : Nat) : Int) := by omega
  rw [e, HT.sIx_nat, HT.sIx_nat, Nat.min_eq_left h, List.take_eq_take_iff, List.length_drop]
  omega
theorem cutL_to {α : Type} (xs : List α) (k : Nat) : cutL xs none (some (k : Int)) = xs.take k := by
  unfold cutL
  rw [HT.sIx_nat]
  have h1 : HT.sIx xs.length 0 none = 0 := rfl
  rw [h1, List.drop_zero, Nat.sub_zero, List.take_eq_take_iff]
  omega
theorem get_last {α β : Type} (f : α → β) (xs : List α) (y : β) : (xs.map f ++ [y])[xs.length]? = some y := by simp
theorem set_last {α β : Type} (f : α → β) (xs : List α) (y z : β) : (xs.map f ++ [y]).set xs.length z = xs.map f ++ [z] := by
  rw [List.set_append_right _ _ (by simp)]
  simp
/-! texts as lists of signs -/
theorem S_ne_nil (l : List Nat) : (S l == Str.ofString "") = decide (l = []) := by
  have e : Str.ofString "" = SX.S [] := by decide +kernel
  rw [e, SX.S_beq_eq]
theorem S_add (a b : List Nat) : S a ++ S b = S (a ++ b) := SX.S_cat a b
@[simp] theorem S_tl (l : List Nat) : (S l).cps.toList = l := (by rfl)
@[simp] theorem S_cps (l : List Nat) : (S l).cps = l.toArray := (by rfl)
@[simp] theorem S_length (l : List Nat) : (S l).length = l.length := SX.S_len l
theorem S_mk (c : Nat) : (⟨#[c]⟩ : Str) = S [c] := rfl
theorem nil_S : Str.ofString "" = S [] := by decide +kernel
theorem sp_S : Str.ofString " " = S [32] := by decide +kernel
theorem nl_S : Str.ofString "\n" = S [10] := by decide +kernel
end Fu

namespace Fu
open PySem L2 PyProof.Rows
/-! ### replace, of written texts -/
structure RET (X : Cx) (W : WX) (e : Expr) (te : TE) (g : FE) : Prop where
  pe : PET X e te
  sem : ∀ F H env σ, EnvOK X.K X.mg F H env σ → ∀ Q : VK, RPost X.K X.mg W F H env (g env) Q → te σ H Q
def eReplace (y z : Str) (g : FE) : FE := fun env => do
  let t ← g env
  match t.data with
  | .str x => if x.length + (x.length + 1) * z.length ≤ 16777216 then .ok (.o (.sh (.str (Txt.replace x y z)))) else .bad
  | _ => .bad
section
variable {X : Cx} {W : WX} {o : Expr} {to : TE} {go : FE} {y z : Str} {j k : Nat} {c0 c1 apos pos p : Pos}
theorem ret_of {e : Expr} {te : TE} {g : FE} (h : RE X W e te g) : RET X W e te g := ⟨CwR.PET.of h.pe, h.sem⟩
theorem rep_sem (ho : ∀ F H env σ, EnvOK X.K X.mg F H env σ → ∀ Q : VK, RPost X.K X.mg W F H env (go env) Q → to σ H Q) : ∀ F H env σ, EnvOK X.K X.mg F H env σ → ∀ Q : VK, RPost X.K X.mg W F H env (eReplace y z go env) Q → CwR.tReplC to y z σ H Q := by
  intro F H env σ I Q q
  refine ho F H env σ I _ ?_
  unfold eReplace at q
  cases e1 : go env with
  | bad => rw [e1] at q; exact q.elim
  | ex x => rw [e1] at q; exact q
  | ok t =>
    rw [e1] at q
    simp only [M.bind_ok] at q
    intro v F' H' fp g r nd kf
    have rr := r.rep g.fh
    split at q
    · rename_i x e2
      split at q
      · rename_i hl
        rw [e2] at rr
        cases rr
        exact ⟨x, rfl, hl, VPost.sc q g (.str _)⟩
      · exact q.elim
    · exact q.elim
theorem ret_replC (ho : RE X W o to go) (hyz : (y == z) = false := by decide +kernel)
    (hst : starEach [.Constant (.str y) j c0, .Constant (.str z) k c1] X.env = [(false, eval (.Constant (.str y) j c0) X.env), (false, eval (.Constant (.str z) k c1) X.env)] := by rfl)
    (hbase : attributeBase o "replace" X.env (eval o X.env) = eval o X.env := by rfl) (hline : (apos.endLine == pos.line) = true := by rfl) :
    RET X W (.Call (.Attribute o "replace" apos) [.Constant (.str y) j c0, .Constant (.str z) k c1] [] pos) (CwR.tReplC to y z) (eReplace y z go) := ⟨CwR.pet_replC ho.pe hyz hst hbase hline, rep_sem ho.sem⟩
theorem ret_replT (ho : RET X W o to go) (hyz : (y == z) = false := by decide +kernel)
    (hst : starEach [.Constant (.str y) j c0, .Constant (.str z) k c1] X.env = [(false, eval (.Constant (.str y) j c0) X.env), (false, eval (.Constant (.str z) k c1) X.env)] := by rfl)
    (hbase : attributeBase o "replace" X.env (eval o X.env) = eval o X.env := by rfl) (hline : (apos.endLine == pos.line) = true := by rfl) :
    RET X W (.Call (.Attribute o "replace" apos) [.Constant (.str y) j c0, .Constant (.str z) k c1] [] pos) (CwR.tReplC to y z) (eReplace y z go) := ⟨CwR.pet_replT ho.pe hyz hst hbase hline, rep_sem ho.sem⟩
/-- a written text + .. : behind the text a token is out -/
theorem re_constAdd {a : Str} (he : RET X W o to go) : RE X W (.BinOp (.Constant (.str a) j c0) .Add o pos) (tOp (rAddA X.K) (tC (.str a)) to) (eOp tAdd (eC (.str a)) go) := by
  refine ⟨⟨fun pins s σ H Q I h => ?_⟩, fun F H env σ I Q q => ?_⟩
  · refine wpAny_BinOp (wpAny_Constant_str ?_)
    refine thn (he.pe pins { s with toks := s.toks + 1 } σ H _ (by show 1 ≤ s.toks + 1; omega) (I.tok _) h) fun u s2 ⟨y, H2, I2, r2, q2⟩ => ?_
    exact op_addA pins s2 σ H2 (.str a) y (.str a s.toks) u Q I2 ⟨_, rfl⟩ r2 q2
  · show to σ H fun w H2 => rAddA X.K (.str a) w H2 Q
    refine he.sem F H env σ I _ ?_
    unfold eOp eC at q
    simp only [M.bind_ok] at q
    cases e2 : go env with
    | bad => rw [e2] at q; exact q.elim
    | ex y => rw [e2] at q; exact q
    | ok y =>
      rw [e2] at q
      simp only [M.bind_ok] at q
      intro w F' H' f2 g r2 nd k
      refine ov_add F' H' (.o (.sh (.str a))) y (.str a) w [] f2 g.fh g.tu ⟨rfl, .str a⟩ r2 nd (fun a m => (k a m).2) Q ?_
      cases e3 : tAdd (.o (.sh (.str a))) y with
      | none => rw [e3] at q; exact q.elim
      | some t =>
        rw [e3] at q
        intro z F'' H'' fp g2 r3 nd3 k3
        refine q z F'' H'' fp (g.trans g2) r3 nd3 fun a m => ?_
        rcases k3 a m with q | ⟨q1, q2⟩
        · obtain ⟨h1, h2⟩ := k a q
          obtain ⟨u, hu, _⟩ := r2.dom a q
          exact ⟨h1, (g2.ff a (by rw [hu]; intro z; cases z)).trans h2⟩
        · exact ⟨g.hh.back q1, q2⟩
end
/-! ### dicts -/
def eDK : FE := fun _ => .ok (.o (.dK [] []))
def eDT : FE := fun _ => .ok (.o (.dT [] []))
section
variable {X : Cx} {W : WX} {pos apos cpos : Pos} {o e f : Expr} {to ty tz : TE} {go gy gz : FE}
theorem re_dnewK : RE X W (.Dict [] [] pos) tDNewK eDK := ⟨pe_dnewK, fun F H env σ I Q q p hp =>
  q (.ref p) F _ [p] (Grow.obj (fun vs h => by cases h) I.fh I.tu hp) ⟨p, [], [], rfl, upd_same, rfl, rfl, rfl, rfl⟩ (by simp) fun a m => by
    have : a = p := by simpa using m
    subst this
    exact ⟨hp, I.fh.none hp⟩⟩
theorem re_dnewT : RE X W (.Dict [] [] pos) tDNewT eDT := ⟨pe_dnewT, fun F H env σ I Q q p hp =>
  q (.ref p) F _ [p] (Grow.obj (fun vs h => by cases h) I.fh I.tu hp) ⟨p, [], [], rfl, upd_same, rfl, rfl, rfl, rfl⟩ (by simp) fun a m => by
    have : a = p := by simpa using m
    subst this
    exact ⟨hp, I.fh.none hp⟩⟩
def D.isD : D → Bool
  | .dK _ _ => true
  | .dT _ _ => true
  | _ => false
/-- what stands under a key -/
def D.get (d k : D) : Option (Option D) := match d with
  | .dK ks vs => k.key.map (look ks vs)
  | .dT ks vs => (match k with
    | .tup xs => (D.keys xs).map (look ks vs)
    | _ => none)
  | _ => none
def eGet (go gy gz : FE) : FE := fun env => do
  let x ← go env
  if x.data.isD then do
    let y ← gy env
    let z ← gz env
    match x.data.get y.data with
    | some (some d) => .ok (.bo d)
    | some none => .ok z
    | none => .bad
  else .bad
theorem isD_rep {K : PySem.W.Frag} {mg : Mg} {H : Hp} {v : V} {d : D} (r : Rep K mg H v d) (h : d.isD = true) : ∃ a, v = .ref a ∧ IsD H a := by
  cases r with
  | dK h1 l r => exact ⟨_, rfl, .inl ⟨_, h1⟩⟩
  | dT h1 l r => exact ⟨_, rfl, .inr ⟨_, h1⟩⟩
  | _ => cases h
theorem get_rep {K : PySem.W.Frag} {mg : Mg} {H : Hp} {a : Addr} {w : V} {d k : D} {z : Option D} (r : Rep K mg H (.ref a) d) (rk : Rep K mg H w k) (h : d.get k = some z) : ∃ o, DGet H a w o ∧ (∀ e, z = some e → ∃ v, o = some v ∧ Rep K mg H v e) ∧ (z = none → o = none) := by
  cases r with
  | @dK _ ks vs ds h1 l r =>
    have h : k.key.map (look ks ds) = some z := h
    cases c : k.key with
    | none => rw [c] at h; cases h
    | some q =>
      rw [c] at h
      cases h
      have e1 := rk.key c
      subst e1
      have lr := look_rep (k := q) l r
      refine ⟨_, .inl ⟨_, q, h1, rfl, rfl⟩, ?_⟩
      cases c2 : look ks ds q with
      | none => rw [c2] at lr; exact ⟨fun e h => (by cases h), fun _ => lr⟩
      | some e => rw [c2] at lr; exact ⟨fun e2 h => (by cases h; exact lr), fun h => (by cases h)⟩
  | @dT _ ks vs ds h1 l r =>
    cases rk with
    | @tup b us xs t1 r1 =>
      have h : (D.keys xs).map (look ks ds) = some z := h
      cases c : D.keys xs with
      | none => rw [c] at h; cases h
      | some q =>
        rw [c] at h
        cases h
        have e1 := r1.keys c
        subst e1
        have lr := look_rep (k := q) l r
        refine ⟨_, .inr ⟨_, q, b, h1, rfl, t1, rfl⟩, ?_⟩
        cases c2 : look ks ds q with
        | none => rw [c2] at lr; exact ⟨fun e h => (by cases h), fun _ => lr⟩
        | some e => rw [c2] at lr; exact ⟨fun e2 h => (by cases h; exact lr), fun h => (by cases h)⟩
    | _ => cases h
  | _ => cases h
theorem re_get (hu : X.A.units + 150 < cLine) (ho : RE X W o to go) (he : RE X W e ty gy) (hf : RE X W f tz gz)
    (base : attributeBase o "get" X.env (eval o X.env) = eval o X.env := by rfl)
    (few : ((backTo cpos (starEach [e, f] X.env)).all (fun x => !x.1) && (backToKw cpos (keywordEach [] X.env)).all (fun x => x.1.isSome)
      && decide (([e, f] : List Expr).length + ([] : List Keyword).length + (if ([] : List Keyword).isEmpty then 0 else 1) < 30)) = true := by rfl)
    (line : (apos.endLine == cpos.line) = true := by rfl) (trees : backTo cpos (starEach [e, f] X.env) = [(false, eval e X.env), (false, eval f X.env)] := by rfl) :
    RE X W (.Call (.Attribute o "get" apos) [e, f] [] cpos) (tDGet2 to ty tz) (eGet go gy gz) := by
  refine ⟨pe_dget2 (by omega) ho.pe he.pe hf.pe ⟨base, few, line, trees⟩, fun F H env σ I Q q => ho.sem F H env σ I _ ?_⟩
  unfold eGet at q
  cases e1 : go env with
  | bad => rw [e1] at q; exact q.elim
  | ex x => rw [e1] at q; exact q
  | ok x =>
    rw [e1] at q
    simp only [M.bind_ok] at q
    intro v F1 H1 f1 g1 r1 n1 k1
    have rr := r1.rep g1.fh
    split at q
    · rename_i hd
      obtain ⟨a, rfl, hD⟩ := isD_rep rr hd
      refine ⟨a, rfl, hD, he.sem F1 H1 env σ (I.grow g1) _ ?_⟩
      cases e2 : gy env with
      | bad => rw [e2] at q; exact q.elim
      | ex y => rw [e2] at q; exact XPost.from (g1.exF I.fh) q
      | ok y =>
        rw [e2] at q
        simp only [M.bind_ok] at q
        intro w F2 H2 f2 g2 r2 n2 k2
        refine hf.sem F2 H2 env σ ((I.grow g1).grow g2) _ ?_
        cases e3 : gz env with
        | bad => rw [e3] at q; exact q.elim
        | ex z => rw [e3] at q; exact XPost.from ((g1.trans g2).exF I.fh) q
        | ok z =>
          rw [e3] at q
          simp only [M.bind_ok] at q
          intro u F3 H3 f3 g3 r3 n3 k3
          have rd : Rep X.K X.mg H3 (.ref a) x.data := rr.mono (g2.trans g3).hh
          have rk : Rep X.K X.mg H3 w y.data := (r2.rep g2.fh).mono g3.hh
          cases e4 : x.data.get y.data with
          | none => rw [e4] at q; exact q.elim
          | some zz =>
            rw [e4] at q
            obtain ⟨oo, hg, hz1, hz2⟩ := get_rep rd rk e4
            refine ⟨oo, hg, ?_⟩
            cases zz with
            | some d =>
              obtain ⟨vv, e5, rv⟩ := hz1 d rfl
              subst e5
              exact q vv F3 H3 [] ((g1.trans g2).trans g3) ⟨rfl, rv⟩ List.nodup_nil fun a m => by cases m
            | none =>
              have hz : oo = none := hz2 rfl
              subst hz
              exact q u F3 H3 f3 ((g1.trans g2).trans g3) r3 n3 fun a m => ⟨(g1.trans g2).hh.back (k3 a m).1, (k3 a m).2⟩
    · exact q.elim
end
/-! d[k] = v -/
def putKO {κ : Type} [DecidableEq κ] (ks : List κ) (os : List O) (k : κ) (x : O) : Option (List κ × List O) := if ks.Nodup ∧ ks.length < sizeLine then (match kIdx ks k with
  | some j => some (ks, os.set j x)
  | none => some (ks ++ [k], os ++ [x])) else none
def opPut (y : O) (d : D) (x : O) : Option O := match y with
  | .dK ks os => d.key.bind fun k => (putKO ks os k x).map fun p => .dK p.1 p.2
  | .dT ks os => (match d with
    | .tup xs => (D.keys xs).bind fun k => (putKO ks os k x).map fun p => .dT p.1 p.2
    | _ => none)
  | _ => none
section
variable {κ : Type} [DecidableEq κ]
theorem kIdx_none : ∀ {ks : List κ} {k : κ}, kIdx ks k = none → k ∉ ks
  | [], _, _ => by simp
  | a :: ks, k, h => by
    rw [kIdx] at h
    split at h
    · cases h
    · rename_i c
      cases d : kIdx ks k with
      | none =>
        have := kIdx_none d
        intro m
        rcases List.mem_cons.mp m with e | m
        · exact c e.symm
        · exact this m
      | some j => rw [d] at h; cases h
theorem kIdx_lt : ∀ {ks : List κ} {k : κ} {j : Nat}, kIdx ks k = some j → ∃ h : j < ks.length, ks[j] = k
  | [], _, _, h => by cases h
  | a :: ks, k, j, h => by
    rw [kIdx] at h
    split at h
    · rename_i c
      cases h
      exact ⟨by simp, c⟩
    · cases d : kIdx ks k with
      | none => rw [d] at h; cases h
      | some i =>
        rw [d] at h
        cases h
        obtain ⟨h1, h2⟩ := kIdx_lt d
        exact ⟨by simpa using h1, by simpa using h2⟩
theorem putK_at : ∀ {ks : List κ} {vs : List V} {k : κ} {j : Nat} {v : V}, ks.Nodup → ks.length = vs.length → kIdx ks k = some j → (ks.zip vs).map (fun kv => if kv.1 = k then (kv.1, v) else kv) = ks.zip (vs.set j v)
  | [], _, _, _, _, _, _, h => by cases h
  | a :: ks, [], _, _, _, _, l, _ => by simp at l
  | a :: ks, u :: vs, k, j, v, nd, l, h => by
    obtain ⟨n1, n2⟩ := List.nodup_cons.mp nd
    rw [kIdx] at h
    split at h
    · rename_i c
      cases h
      rw [List.zip_cons_cons, List.map_cons, List.set_cons_zero, List.zip_cons_cons, if_pos c]
      congr 1
      rw [← List.map_id (ks.zip vs)]
      rw [List.map_map]
      refine List.map_congr_left fun p m => ?_
      have : p.1 ≠ k := fun e => n1 (c ▸ e ▸ (List.of_mem_zip m).1)
      simp [this]
    · rename_i c
      cases d : kIdx ks k with
      | none => rw [d] at h; cases h
      | some i =>
        rw [d] at h
        cases h
        rw [List.zip_cons_cons, List.map_cons, List.set_cons_succ, List.zip_cons_cons, if_neg c, putK_at n2 (by simpa using l) d]
theorem putK_zip {ks : List κ} {vs : List V} {k : κ} {v : V} (nd : ks.Nodup) (l : ks.length = vs.length) : putK (ks.zip vs) k v = (match kIdx ks k with
    | some j => ks.zip (vs.set j v)
    | none => (ks ++ [k]).zip (vs ++ [v])) := by
  unfold putK
  cases c : kIdx ks k with
  | none =>
    have hn := kIdx_none c
    rw [if_neg, List.zip_append l]
    · rfl
    · intro h
      obtain ⟨p, m, e⟩ := List.any_eq_true.mp h
      have e : p.1 = k := by simpa using e
      exact hn (e ▸ (List.of_mem_zip m).1)
  | some j =>
    obtain ⟨h1, h2⟩ := kIdx_lt c
    rw [if_pos, putK_at nd l c]
    refine List.any_eq_true.mpr ⟨(ks[j], vs[j]'(by omega)), ?_, by simp [h2]⟩
    exact List.mem_iff_getElem.mpr ⟨j, by rw [List.length_zip]; omega, by simp⟩
end
section
variable {K : PySem.W.Frag} {mg : Mg} {F H : Hp}
/-- the parts of a container behind a put -/
theorem put_own {κ : Type} [DecidableEq κ] {ks ks' : List κ} {os os' : List O} {vs : List V} {fq fx : List Addr} {k : κ} {x : O} {w : V} (r : OwnL K mg F H os vs fq) (rx : Own K mg F H x w fx) (nd : (fq ++ fx).Nodup) (l : ks.length = vs.length)
    (h : putKO ks os k x = some (ks', os')) : ∃ vs' fq', putK (ks.zip vs) k w = ks'.zip vs' ∧ ks'.length = vs'.length ∧ (ks.zip vs).length < sizeLine ∧ fq'.Nodup ∧ (∀ a ∈ fq', a ∈ fq ++ fx) ∧ ∀ H', (∀ a ∈ fq ++ fx, H' a = H a) → OwnL K mg F H' os' vs' fq' := by
  unfold putKO at h
  split at h
  case isFalse => cases h
  rename_i hc
  have hz : (ks.zip vs).length < sizeLine := by rw [List.length_zip]; omega
  rw [putK_zip hc.1 l]
  cases c : kIdx ks k with
  | none =>
    rw [c] at h
    cases h
    refine ⟨vs ++ [w], fq ++ fx, rfl, by simp [l], hz, nd, fun a m => m, fun H' kk => ?_⟩
    exact OwnL.app (OwnL.cong (Ex.refl F) (fun a m => kk a (List.mem_append_left _ m)) r) ⟨w, [], fx, [], rfl, by simp, Own.cong (Ex.refl F) (fun a m => kk a (List.mem_append_right _ m)) rx, rfl, rfl⟩
  | some j =>
    rw [c] at h
    cases h
    obtain ⟨hj, _⟩ := kIdx_lt c
    obtain ⟨fo, f1, f2, ef, d⟩ := r.focusN (j := j) (by rw [← r.len, ← l]; exact hj)
    subst ef
    have n3 := List.nodup_append.mp nd
    obtain ⟨m1, m2, m3⟩ := nd_mid.mp n3.1
    refine ⟨vs.set j w, f1 ++ (fx ++ f2), rfl, by simp [l], hz, nd_mid.mpr ⟨n3.2.1, m2, fun a m m' => n3.2.2 a (mem_mid.mpr (.inr m')) a m rfl⟩, fun a m => ?_, fun H' kk => ?_⟩
    · rcases mem_mid.mp m with m | m
      · exact List.mem_append_right _ m
      · exact List.mem_append_left _ (mem_mid.mpr (.inr m))
    · refine d F H' x w fx (Ex.refl F) (fun a m => kk a ?_) (Own.cong (Ex.refl F) (fun a m => kk a (List.mem_append_right _ m)) rx)
      exact List.mem_append_left _ (mem_mid.mpr (.inr m))
theorem chg_cell {l : Addr} {o : HO} {y' : O} {fq fq' fx : List Addr} {u0 : HO} (ho : ∀ vs, o ≠ .tup vs) (e : Ex F H) (t : TupIn F H) (hd : H l = some u0) (dd : Dat u0) (nd : ((l :: fq) ++ fx).Nodup) (fn : ∀ a ∈ (l :: fq) ++ fx, F a = none)
    (r : Own K mg F (upd H l o) y' (.ref l) (l :: fq')) (n' : fq'.Nodup) (s' : ∀ a ∈ fq', a ∈ fq ++ fx) : Chg K mg F H y' (.ref l) (l :: fq) fx [] (upd H l o) := by
  have hl : l ∉ fq ++ fx := (List.nodup_cons.mp (show (l :: (fq ++ fx)).Nodup from nd)).1
  refine ⟨l :: fq', r, ?_, fun a m => ?_, fun a m => upd_ne fun z => m (z ▸ List.mem_cons_self), ex_wr e (fn l (by simp)) hd dd, tup_wr t ho⟩
  · rw [List.append_nil]
    exact List.nodup_cons.mpr ⟨fun m => hl (s' l m), n'⟩
  · rw [List.append_nil] at m
    rcases List.mem_cons.mp m with m | m
    · subst m; simp
    · exact List.mem_cons_of_mem _ (s' a m)
theorem set_D : SetV K mg rSetD opPut := by
  intro F H y y' d x v i w fy fx e tu r ri rx nd fn ho Q q
  unfold opPut at ho
  split at ho
  · rename_i ks os
    cases c : d.key with
    | none => rw [c] at ho; cases ho
    | some k =>
      rw [c] at ho
      simp only [Option.bind_some] at ho
      obtain ⟨l, vs, fq, rfl, h1, hl, e2, r⟩ := r
      subst e2
      cases c2 : putKO ks os k x with
      | none => rw [c2] at ho; cases ho
      | some p =>
        rw [c2] at ho
        cases ho
        have nl := List.nodup_cons.mp (show (l :: (fq ++ fx)).Nodup from nd)
        obtain ⟨vs', fq', p1, p2, p3, p4, p5, p6⟩ := put_own (ks' := p.1) (os' := p.2) r rx nl.2 hl c2
        have e1 := ri.key c
        subst e1
        refine ⟨l, _, rfl, .inl ⟨_, k, h1, rfl, p3, rfl⟩, q _ (chg_cell (fun vs h => by cases h) e tu h1 trivial nd fn ⟨l, vs', fq', rfl, by rw [upd_same, p1], p2, rfl, p6 _ fun a m => upd_ne fun z => nl.1 (z ▸ m)⟩ p4 p5)⟩
  · rename_i ks os
    split at ho
    · rename_i xs
      cases c : D.keys xs with
      | none => rw [c] at ho; cases ho
      | some k =>
        rw [c] at ho
        simp only [Option.bind_some] at ho
        obtain ⟨l, vs, fq, rfl, h1, hl, e2, r⟩ := r
        subst e2
        cases c2 : putKO ks os k x with
        | none => rw [c2] at ho; cases ho
        | some p =>
          rw [c2] at ho
          cases ho
          have nl := List.nodup_cons.mp (show (l :: (fq ++ fx)).Nodup from nd)
          obtain ⟨vs', fq', p1, p2, p3, p4, p5, p6⟩ := put_own (ks' := p.1) (os' := p.2) r rx nl.2 hl c2
          cases ri with
          | @tup b us _ t1 r1 =>
            have e1 := r1.keys c
            subst e1
            refine ⟨l, _, rfl, .inr ⟨_, k, b, h1, rfl, t1, p3, rfl⟩, q _ (chg_cell (fun vs h => by cases h) e tu h1 trivial nd fn ⟨l, vs', fq', rfl, by rw [upd_same, p1], p2, rfl, p6 _ fun a m => upd_ne fun z => nl.1 (z ▸ m)⟩ p4 p5)⟩
    · cases ho
  · cases ho
end
section
variable {X : Cx} {W : WX} {pos tpos : Pos} {o i e : Expr} {to ti te : TE} {p : FP} {g gi : FE}
theorem rs_dput (hu : X.A.units + 150 < cLine) (he : RE X W e te g) (ho : RP X W o to p) (hi : RE X W i ti gi)
    (ha : ∀ v, assign (.Subscript o i tpos) X.env v = (do
      let ov ← holding [v] (eval o X.env)
      let iv ← holding [v, ov] (eval i X.env)
      standAt tpos
      holding [v, ov, iv] (setItem ov iv v)
      release [v, ov, iv] []) := by intro _; rfl)
    (hw : swapsWithSole [.Subscript o i tpos] e pos.line X.env = pure false := by rfl) (hw2 : swappedStores [.Subscript o i tpos] e X.env = pure none := by rfl)
    (h1 : (assignEach [.Subscript o i tpos] X.env).map (·.2) = [assign (.Subscript o i tpos) X.env] := by rfl) :
    RS X W (.Assign [.Subscript o i tpos] e pos) (tAsg te (gSub to ti rSetD)) (setS g p gi opPut) := rs_setIx (set_dict (by omega)) set_D he ho hi ha hw hw2 h1
end
end Fu

namespace Fu
open PySem L2 PyProof.Rows
/-! ### a name's thing is only read from here on -/
def frzS (i : Nat) (g : FS) : FS := fun env => match env[i]? with
  | some (some x) => g (env.set i (some (.sh x.data)))
  | _ => none
section
variable {K : PySem.W.Frag} {mg : Mg} {F H : Hp}
theorem EnvOK.freeze {env : Sn} {σ : L2.St} {i : Nat} {x : O} (I : EnvOK K mg F H (up env) σ) (h : env[i]? = some (some x)) : ∃ F', Ex F F' ∧ EnvOK K mg F' H (up (env.set i (some (.sh x.data)))) σ := by
  obtain ⟨fp, nd, hf, hs⟩ := I.sl
  obtain ⟨v, fy, f1, f2, a, b, c, d⟩ := hs.focus h
  subst c
  let F' : Hp := fun q => if q ∈ fy then H q else F q
  have e1 : ∀ q, q ∈ fy → F' q = H q := fun q m => if_pos m
  have e2 : ∀ q, q ∉ fy → F' q = F q := fun q m => if_neg m
  have ex : Ex F F' := Ex.of fun q o k => by
    have : q ∉ fy := fun m => by
      have := hf q (mem_mid.mpr (.inl m))
      rw [this] at k; cases k
    rw [e2 q this]; exact k
  obtain ⟨n1, n2, n3⟩ := nd_mid.mp nd
  refine ⟨F', ex, I.fh.mid fun q => (if m : q ∈ fy then .inr ⟨e1 q m, Own.dat b q m⟩ else .inl (e2 q m)), fun q vs k => ?_, I.tb, f1 ++ ([] ++ f2), by simpa using n2, fun q m => ?_, d F' H (.sh x.data) [] ex (fun _ _ => rfl) ⟨rfl, Own.freeze ex e1 b⟩⟩
  · by_cases m : q ∈ fy
    · rw [e1 q m]; exact k
    · rw [e2 q m]; exact I.tu q vs k
  · have m : q ∈ f1 ++ f2 := by simpa using m
    rw [e2 q fun m' => n3 q m' m]
    exact hf q (mem_mid.mpr (.inr m))
end
section
variable {X : Cx} {W : WX} {pos apos cpos : Pos} {st : Stmt} {ts : TS} {g : FS}
theorem rs_freeze (i : Nat) (h : RS X W st ts g) : RS X W st ts (frzS i g) := by
  refine ⟨h.ps, fun F H env σ D I q => ?_⟩
  unfold frzS at q
  split at q
  · rename_i x e
    obtain ⟨F', ex, I'⟩ := I.freeze e
    exact h.sem F' H _ σ D I' (SPost.from ex q)
  · exact q.elim
end
/-! ### x = xs.pop(), a, b = xs.pop() -/
def popS (p : FP) (b : FG) : FS := fun env => onE (p env) env fun pl => match getPl env pl with
  | some (.lst os) => (match os.getLast? with
    | some x => (b x (putPl env pl (.lst os.dropLast))).map .nx
    | none => none)
  | _ => none
section
variable {K : PySem.W.Frag} {mg : Mg} {F H : Hp}
theorem OwnL.last : ∀ {os : List O} {vs : List V} {fp : List Addr} {x : O}, OwnL K mg F H os vs fp → os.getLast? = some x → ∃ w f1 f2, vs[vs.length - 1]? = some w ∧ fp = f1 ++ f2 ∧ OwnL K mg F H os.dropLast vs.dropLast f1 ∧ Own K mg F H x w f2
  | [], _, _, _, _, e => by cases e
  | [o], vs, fp, x, h, e => by
    obtain ⟨w, ws, f1, f2, e1, e2, h1, h2⟩ := h
    obtain ⟨h3, h4⟩ := h2
    cases e
    subst e1 e2 h3 h4
    exact ⟨w, [], f1, rfl, by simp, ⟨rfl, rfl⟩, h1⟩
  | o :: o2 :: os, vs, fp, x, h, e => by
    obtain ⟨w, ws, f1, f2, e1, e2, h1, h2⟩ := h
    have e : (o2 :: os).getLast? = some x := by simpa [List.getLast?_cons_cons] using e
    obtain ⟨u, g1, g2, a, b, c, d⟩ := OwnL.last h2 e
    have l2 := h2.len
    subst e1 e2 b
    cases ws with
    | nil => simp at l2
    | cons z zs =>
      refine ⟨u, f1 ++ g1, g2, ?_, by simp [List.append_assoc], ?_, d⟩
      · simpa using a
      · rw [List.dropLast_cons₂, List.dropLast_cons₂]
        exact ⟨w, _, f1, g1, rfl, rfl, h1, c⟩
end
section
variable {X : Cx} {W : WX} {pos apos cpos : Pos} {o tg : Expr} {to : TE} {p : FP} {gt : TG} {b : FG}
theorem rs_pop (ho : RP X W o to p) (hg : RG X tg gt b)
    (hbase : attributeBase o "pop" X.env (eval o X.env) = eval o X.env := by rfl) (hline : (apos.endLine == cpos.line) = true := by rfl)
    (hw : swapsWithSole [tg] (.Call (.Attribute o "pop" apos) [] [] cpos) pos.line X.env = pure false := by rfl) (hw2 : swappedStores [tg] (.Call (.Attribute o "pop" apos) [] [] cpos) X.env = pure none := by rfl)
    (h1 : (assignEach [tg] X.env).map (·.2) = [assign tg X.env] := by rfl) :
    RS X W (.Assign [tg] (.Call (.Attribute o "pop" apos) [] [] cpos) pos) (tAsg (tBM0 X.K "list" rPop to) gt) (popS p b) := by
  refine ⟨ps_asg (pe_bm0 PySem.F.plainAttrs_list PySem.F.slot_list_pop PySem.F.type_list_pop mt_pop ho.pe hbase hline) hg.pg hw hw2 h1, fun F H env σ D I q => ?_⟩
  obtain ⟨fp, n0, f0, hs0⟩ := I.sl
  refine ho.sem F H env σ fp I hs0 _ ?_
  unfold popS at q
  cases e1 : p env with
  | bad => rw [e1] at q; exact q.elim
  | ex x => rw [e1] at q; exact q
  | ok pl =>
    rw [e1] at q
    simp only [onE_ok] at q
    intro v y F1 H1 g1 hy hh
    rw [hy] at q
    cases y with
    | lst os =>
      simp only [] at q
      cases e3 : os.getLast? with
      | none => rw [e3] at q; exact q.elim
      | some x =>
        rw [e3] at q
        simp only [] at q
        cases e4 : b x (putPl env pl (.lst os.dropLast)) with
        | none => rw [e4] at q; exact q.elim
        | some env' =>
          rw [e4] at q
          refine ⟨?_, ?_⟩
          · obtain ⟨fy0, f1, f2, _, a0, _⟩ := hh
            exact a0.ty rfl (by decide)
          obtain ⟨n2, f2⟩ := Slots.beside (fx := []) hs0 n0 f0 g1 List.nodup_nil fun a m => by cases m
          refine Hole.write (I.grow g1).tb hh n2 f2 (y' := .lst os.dropLast) fun fy a nd hf done => ?_
          obtain ⟨l, vs, fq, rfl, hl, e2, r⟩ := a
          subst e2
          obtain ⟨w, g1', g2', hw', ef, r1, r2⟩ := r.last e3
          subst ef
          have nd' : (l :: (g1' ++ g2')).Nodup := by simpa using nd
          have np := List.nodup_cons.mp nd'
          refine ⟨l, vs, w, rfl, rfl, hl, hw', ?_⟩
          have off : ∀ a ∈ g1' ++ g2', upd H1 l (.lst vs.dropLast) a = H1 a := fun a m => upd_ne fun z => np.1 (z ▸ m)
          have c : Chg X.K X.mg F1 H1 (.lst os.dropLast) (.ref l) (l :: (g1' ++ g2')) [] g2' (upd H1 l (.lst vs.dropLast)) := by
            refine ⟨l :: g1', ⟨l, _, g1', rfl, upd_same, rfl, OwnL.cong (Ex.refl F1) (fun a m => off a (List.mem_append_left _ m)) r1⟩, ?_, fun a m => by simpa using m, fun a m => upd_ne fun z => m (z ▸ List.mem_cons_self), ex_wr g1.fh (hf l (by simp)) hl trivial, tup_wr g1.tu fun vs h => by cases h⟩
            simpa using nd'
          have I2 := done _ g2' c
          exact hg.sem F1 _ _ σ x w g2' [] _ env' (by rw [List.append_nil]; exact I2) (Own.cong (Ex.refl F1) (fun a m => off a (List.mem_append_right _ m)) r2) e4 fun σ' I3 => q F1 _ σ' (g1.exF I.fh) I3.ok
    | _ => exact q.elim
end
@[simp] theorem frzS_eq (i : Nat) (g : FS) (env : Sn) : frzS i g env = (match env[i]? with
  | some (some x) => g (env.set i (some (.sh x.data)))
  | _ => none) := (by rfl)
@[simp] theorem popS_eq (p : FP) (b : FG) (env : Sn) : popS p b env = onE (p env) env fun pl => match getPl env pl with
  | some (.lst os) => (match os.getLast? with
    | some x => (b x (putPl env pl (.lst os.dropLast))).map .nx
    | none => none)
  | _ => none := (by rfl)
@[simp] theorem eDK_eq (env : En) : eDK env = .ok (.o (.dK [] [])) := (by rfl)
@[simp] theorem eDT_eq (env : En) : eDT env = .ok (.o (.dT [] [])) := (by rfl)
@[simp] theorem isD_dK (ks : List Key) (vs : List D) : (D.dK ks vs).isD = true := (by rfl)
@[simp] theorem isD_dT (ks : List (List Key)) (vs : List D) : (D.dT ks vs).isD = true := (by rfl)
@[simp] theorem get_dK (ks : List Key) (vs : List D) (k : D) : (D.dK ks vs).get k = k.key.map (look ks vs) := (by rfl)
@[simp] theorem eGet_eq (go gy gz : FE) (env : En) : eGet go gy gz env = (go env >>= fun x => if x.data.isD then gy env >>= fun y => gz env >>= fun z => (match x.data.get y.data with
    | some (some d) => .ok (.bo d)
    | some none => .ok z
    | none => .bad) else .bad) := (by rfl)
@[simp] theorem eReplace_eq (y z : Str) (g : FE) (env : En) : eReplace y z g env = (g env >>= fun t => match t.data with
  | .str x => if x.length + (x.length + 1) * z.length ≤ 16777216 then .ok (.o (.sh (.str (Txt.replace x y z)))) else .bad
  | _ => .bad) := (by rfl)
@[simp] theorem key_str (s : Str) : D.key (.str s) = some (.inr s) := (by rfl)
@[simp] theorem key_int (i : Int) : D.key (.int i) = some (.inl i) := (by rfl)
@[simp] theorem opPut_dK (ks : List Key) (os : List O) (d : D) (x : O) : opPut (.dK ks os) d x = d.key.bind fun k => (putKO ks os k x).map fun p => .dK p.1 p.2 := (by rfl)
@[simp] theorem opPut_dT (ks : List (List Key)) (os : List O) (xs : List D) (x : O) : opPut (.dT ks os) (.tup xs) x = (D.keys xs).bind fun k => (putKO ks os k x).map fun p => .dT p.1 p.2 := (by rfl)
theorem replace_S (x y z : List Nat) (hy : y ≠ []) : Txt.replace (SX.S x) (SX.S y) (SX.S z) = SX.S (StrLaws.replL y z x) := by
  have := StrLaws.replace_list (x := SX.S x) (y := SX.S y) (z := SX.S z) (by
    rw [SX.S_len]
    exact List.length_pos_iff.mpr hy)
  rw [← SX.S_tl (Txt.replace (SX.S x) (SX.S y) (SX.S z)), this]
end Fu

namespace Fu
open PySem L2 PyProof.Rows
/-! ### constants of the written part: a list of pairs of numbers -/
section
variable {K : PySem.W.Frag} {mg : Mg}
theorem KTup.mk2 {t : Addr} {i j : Int} {ti tj : Tok} {d : Option Addr} {n : Nat} {sl : Array (Option Value)} (h : K.lookup t = some ⟨.type "tuple", d, .seq #[.int i ti, .int j tj] n, sl⟩) : KTup K t [.int i, .int j] :=
  ⟨_, _, _, h, rfl, rfl, show 2 ≤ sizeLine from by decide, .cons ⟨_, rfl⟩ (.cons ⟨_, rfl⟩ .nil)⟩
theorem rep_kup2 {F : Hp} {t : Addr} {i j : Int} (h : KTup K t [.int i, .int j]) : Rep K mg F (.ref t) (.kup [.int i, .int j]) := Rep.kup (is := [i, j]) h rfl
theorem vals_refs : ∀ ts : List Addr, Vals (ts.map V.ref) (ts.map Value.ref)
  | [] => .nil
  | t :: ts => .cons rfl (vals_refs ts)
theorem rep_rol {F : Hp} {a : Addr} {ts : List Addr} {ds : List D} {n : Nat} {sl : Array (Option Value)} (h : K.lookup a = some ⟨.type "list", none, .seq (ts.map Value.ref).toArray n, sl⟩) (hs : ts.length ≤ 1000) (hr : RepL K mg F (ts.map V.ref) ds) : Rep K mg F (.ref a) (.rol ds) :=
  .rol (.inr ⟨_, _, _, h, rfl, rfl, rfl, by
    have : sizeLine = 16777216 := rfl
    simp
    omega, by
    rw [List.toList_toArray]
    exact vals_refs ts⟩) hr
end
/-! ### xs.pop() -/
def popX (p : FP) : FS := fun env => onE (p env) env fun pl => match getPl env pl with
  | some (.lst os) => if os.length = 0 then none else some (.nx (putPl env pl (.lst os.dropLast)))
  | _ => none
section
variable {X : Cx} {W : WX} {pos apos cpos : Pos} {o : Expr} {to : TE} {p : FP}
theorem rs_popX (ho : RP X W o to p)
    (hbase : attributeBase o "pop" X.env (eval o X.env) = eval o X.env := by rfl) (hline : (apos.endLine == cpos.line) = true := by rfl)
    (hsw : swapsWith (.Call (.Attribute o "pop" apos) [] [] cpos) none pos.line X.env = pure false := by rfl) :
    RS X W (.Expr (.Call (.Attribute o "pop" apos) [] [] cpos) pos) (tDrop (tBM0 X.K "list" rPop to)) (popX p) := by
  refine ⟨ps_expr (pe_bm0 PySem.F.plainAttrs_list PySem.F.slot_list_pop PySem.F.type_list_pop mt_pop ho.pe hbase hline) hsw, fun F H env σ D I q => ?_⟩
  obtain ⟨fp, n0, f0, hs0⟩ := I.sl
  refine ho.sem F H env σ fp I hs0 _ ?_
  unfold popX at q
  cases e1 : p env with
  | bad => rw [e1] at q; exact q.elim
  | ex x => rw [e1] at q; exact q
  | ok pl =>
    rw [e1] at q
    simp only [onE_ok] at q
    intro v y F1 H1 g1 hy hh
    rw [hy] at q
    cases y with
    | lst os =>
      simp only [] at q
      split at q
      · exact q.elim
      · rename_i hne
        have hne' : os ≠ [] := fun z => hne (by rw [z]; rfl)
        have e3 : os.getLast? = some (os.getLast hne') := List.getLast?_eq_some_getLast hne'
        refine ⟨?_, ?_⟩
        · obtain ⟨fy0, f1, f2, _, a0, _⟩ := hh
          exact a0.ty rfl (by decide)
        obtain ⟨n2, f2⟩ := Slots.beside (fx := []) hs0 n0 f0 g1 List.nodup_nil fun a m => by cases m
        refine Hole.write (I.grow g1).tb hh n2 f2 (y' := .lst os.dropLast) fun fy a nd hf done => ?_
        obtain ⟨l, vs, fq, rfl, hl, e2, r⟩ := a
        subst e2
        obtain ⟨w, g1', g2', hw', ef, r1, r2⟩ := r.last e3
        subst ef
        have nd' : (l :: (g1' ++ g2')).Nodup := by simpa using nd
        have np := List.nodup_cons.mp nd'
        refine ⟨l, vs, w, rfl, rfl, hl, hw', ?_⟩
        have off : ∀ a ∈ g1' ++ g2', upd H1 l (.lst vs.dropLast) a = H1 a := fun a m => upd_ne fun z => np.1 (z ▸ m)
        have c : Chg X.K X.mg F1 H1 (.lst os.dropLast) (.ref l) (l :: (g1' ++ g2')) [] [] (upd H1 l (.lst vs.dropLast)) := by
          refine ⟨l :: g1', ⟨l, _, g1', rfl, upd_same, rfl, OwnL.cong (Ex.refl F1) (fun a m => off a (List.mem_append_left _ m)) r1⟩, ?_, fun a m => ?_, fun a m => upd_ne fun z => m (z ▸ List.mem_cons_self), ex_wr g1.fh (hf l (by simp)) hl trivial, tup_wr g1.tu fun vs h => by cases h⟩
          · rw [List.append_nil]
            exact (List.sublist_append_left (l :: g1') g2').nodup (by simpa using nd')
          · rw [List.append_nil] at m
            rcases List.mem_cons.mp m with m | m
            · subst m; simp
            · simp [m]
        have I2 := done _ [] c
        exact q F1 _ σ (g1.exF I.fh) I2.ok
    | _ => exact q.elim
@[simp] theorem popX_eq (p : FP) (env : Sn) : popX p env = onE (p env) env fun pl => match getPl env pl with
  | some (.lst os) => if os.length = 0 then none else some (.nx (putPl env pl (.lst os.dropLast)))
  | _ => none := (by rfl)
@[simp] theorem tupItems_kup (ds : List D) : (D.kup ds).tupItems = some ds := (by rfl)
end
end Fu

namespace Fu
open PySem L2 PyProof.Rows
/-! ### what is never run -/
def deadS : FS := fun _ => none
def deadE : FE := fun _ => .bad
section
variable {X : Cx} {W : WX}
theorem rs_dead {st : Stmt} : RS X W st (fun _ _ _ => False) deadS := ⟨⟨fun _ _ _ _ _ _ h => h.elim⟩, fun _ _ _ _ _ _ q => q.elim⟩
theorem re_dead {e : Expr} : RE X W e (fun _ _ _ => False) deadE := ⟨⟨fun _ _ _ _ _ _ h => h.elim⟩, fun _ _ _ _ _ _ q => q.elim⟩
end
end Fu

namespace Fu
open PySem L2 PyProof.Rows
/-! ### a name's thing goes over into a list -/
section
variable {K : PySem.W.Frag} {mg : Mg} {F H : Hp}
theorem Slots.drop1 : ∀ {env : Sn} {σ : L2.St} {fp : List Addr} {i : Nat} {y : O}, Slots K mg F H (up env) σ fp → env[i]? = some (some y) → ∃ v fy f1 f2, σ[i]? = some (some v) ∧ Own K mg F H y v fy ∧ fp = f1 ++ (fy ++ f2) ∧ Slots K mg F H (up (env.set i none)) σ (f1 ++ f2)
  | [], _, _, _, _, _, e => by simp at e
  | o :: env, _, _, 0, y, h, e => by
    obtain ⟨s, τ, f1, f2, e1, e2, h1, h2⟩ := h
    have e : o = some y := by simpa using e
    subst e e1 e2
    obtain ⟨v, a, b⟩ := h1
    exact ⟨v, f1, [], f2, by simpa using a, b, rfl, ⟨s, τ, [], f2, rfl, rfl, rfl, h2⟩⟩
  | o :: env, _, _, i + 1, y, h, e => by
    obtain ⟨s, τ, f1, f2, e1, e2, h1, h2⟩ := h
    obtain ⟨v, fy, g1, g2, a, b, c, d⟩ := Slots.drop1 (i := i) h2 (by simpa using e)
    subst e1 e2 c
    exact ⟨v, fy, f1 ++ g1, g2, by simpa using a, b, by simp [List.append_assoc], ⟨s, τ, f1, g1 ++ g2, rfl, by simp [List.append_assoc], h1, d⟩⟩
end
def appMvS (p : FP) (i : Nat) : FS := fun env => match env[i]? with
  | some (some x) => onE (p (env.set i none)) (env.set i none) fun pl => match getPl (env.set i none) pl with
    | some y => if y.kind = "list" then (opAppend y (.o x)).map fun y' => .nx (putPl (env.set i none) pl y') else none
    | none => none
  | _ => none
section
variable {X : Cx} {W : WX} {pos apos cpos p2 : Pos} {o : Expr} {to : TE} {p : FP} {x : Str}
theorem rs_appendMv (ho : RP X W o to p) (i : Nat) (hN : X.N[i]? = some x := by rfl) (hv : Vis X.env.scope x := by first | exact Or.inl rfl | exact Or.inr (Or.inl rfl) | exact Or.inr (Or.inr rfl)) (hd : (x == ("__debug__" : Str)) = false := by decide)
    (hcd : (x == ("__classdict__" : Str)) = false := by decide) (hbase : attributeBase o "append" X.env (eval o X.env) = eval o X.env := by rfl)
    (hfew : ((backTo cpos (starEach [.Name x p2] X.env)).all (fun x => !x.1) && (backToKw cpos (keywordEach [] X.env)).all (fun x => x.1.isSome)
      && decide ([Expr.Name x p2].length + ([] : List Keyword).length + (if ([] : List Keyword).isEmpty then 0 else 1) < 30)) = true := by rfl)
    (hline : (apos.endLine == cpos.line) = true := by rfl) (hs : starEach [.Name x p2] X.env = (false, eval (.Name x p2) X.env) :: starEach [] X.env := by rfl) (hplain : (backTo cpos (starEach [] X.env)).any (·.1) = false := by rfl)
    (hsw : swapsWith (.Call (.Attribute o "append" apos) [.Name x p2] [] cpos) none pos.line X.env = pure false := by rfl) :
    RS X W (.Expr (.Call (.Attribute o "append" apos) [.Name x p2] [] cpos) pos) (tDrop (tBM X.K "list" rAppend to (tCons (tVar i) tNil))) (appMvS p i) := by
  refine ⟨ps_expr (pe_bm PySem.F.plainAttrs_list PySem.F.slot_list_append PySem.F.type_list_append mt_append ho.pe (pa_cons (pe_var hN hv hd hcd) pa_nil hs) hbase hfew hline hs hplain) hsw, fun F H env σ D I q => ?_⟩
  unfold appMvS at q
  split at q
  · rename_i x0 ex
    obtain ⟨fp, n0, f0, hs0⟩ := I.sl
    obtain ⟨vx, fy, f1, f2, sx, ox, ef, hs1⟩ := hs0.drop1 ex
    subst ef
    obtain ⟨ny, n12, dj⟩ := nd_mid.mp n0
    have f1' : ∀ a ∈ f1 ++ f2, F a = none := fun a m => f0 a (mem_mid.mpr (.inr m))
    have I1 : EnvOK X.K X.mg F H (up (env.set i none)) σ := ⟨I.fh, I.tu, I.tb, _, n12, f1', hs1⟩
    refine ho.sem F H (env.set i none) σ _ I1 hs1 _ ?_
    cases e1 : p (env.set i none) with
    | bad => rw [e1] at q; exact q.elim
    | ex z => rw [e1] at q; exact q
    | ok pl =>
      rw [e1] at q
      simp only [onE_ok] at q
      intro v y F1 H1 g1 hy h1
      rw [hy] at q
      simp only [] at q
      split at q
      · rename_i hk
        refine ⟨?_, vx, sx, ?_⟩
        · obtain ⟨fy0, g1', g2', _, a0, _⟩ := h1
          exact a0.ty hk (by decide)
        cases e3 : opAppend y (.o x0) with
        | none => rw [e3] at q; exact q.elim
        | some y' =>
          rw [e3] at q
          have keep : ∀ a ∈ fy, H1 a = H a := fun a m => by
            obtain ⟨u, hu, mu⟩ := Own.dom ox a m
            rw [g1.hh.mut hu mu, hu]
          have ox1 : Own X.K X.mg F1 H1 x0 vx fy := Own.cong (g1.exF I.fh) keep ox
          have nn : ((f1 ++ f2) ++ fy).Nodup := List.nodup_append.mpr ⟨n12, ny, fun a m b m' z => dj a (z ▸ m') m⟩
          have dom : ∀ a ∈ (f1 ++ f2) ++ fy, H a ≠ none := fun a m => by
            rcases List.mem_append.mp m with m | m
            · obtain ⟨u, hu, _⟩ := hs1.dom a m
              rw [hu]; intro z; cases z
            · obtain ⟨u, hu, _⟩ := Own.dom ox a m
              rw [hu]; intro z; cases z
          have ff : ∀ a ∈ (f1 ++ f2) ++ fy, F1 a = none := fun a m => by
            rw [g1.ff a (dom a m)]
            rcases List.mem_append.mp m with m | m
            · exact f1' a m
            · exact f0 a (mem_mid.mpr (.inl m))
          exact Hole.write (I1.grow g1).tb h1 nn ff (y' := y') fun fy' a nd hf done => by
            show rAppend v [vx] H1 (fun _ H' => D.nx σ H')
            exact mut_append F1 H1 y y' (.o x0) v vx fy' fy g1.fh g1.tu a ox1 nd hf hk e3 _ fun H' c => q F1 H' σ (g1.exF I.fh) (done H' [] c).ok
      · exact q.elim
  · exact q.elim
@[simp] theorem appMvS_eq (p : FP) (i : Nat) (env : Sn) : appMvS p i env = (match env[i]? with
  | some (some x) => onE (p (env.set i none)) (env.set i none) fun pl => match getPl (env.set i none) pl with
    | some y => if y.kind = "list" then (opAppend y (.o x)).map fun y' => .nx (putPl (env.set i none) pl y') else none
    | none => none
  | _ => none) := (by rfl)
@[simp] theorem ty_kup (xs : List D) : D.ty (.kup xs) = some "tuple" := (by rfl)
end
end Fu

namespace Fu
open PySem L2 PyProof.Rows
open PySem.W (AllAlike Sortable alike EachIs dataLe dataLt)
/-! ### data that can be put in order -/
mutual
def D.py : D → Option PyData
  | .non => some .none
  | .bl b => some (.bool b)
  | .int i => some (.int i)
  | .str s => some (.str s)
  | .lst xs => (D.pyL xs).map .list
  | .rol xs => (D.pyL xs).map .list
  | .tup xs => (D.pyL xs).map .tuple
  | .kup xs => (D.pyL xs).map .tuple
  | .dK _ _ => none | .dT _ _ => none | .obj _ _ _ => none
def D.pyL : List D → Option (List PyData)
  | [] => some []
  | d :: ds => match d.py, D.pyL ds with
    | some x, some xs => some (x :: xs)
    | _, _ => none
end
theorem pyL_cons {d : D} {ds : List D} {ps : List PyData} (h : D.pyL (d :: ds) = some ps) : ∃ x xs, d.py = some x ∧ D.pyL ds = some xs ∧ ps = x :: xs := by
  rw [D.pyL] at h
  split at h
  · rename_i x xs e1 e2
    cases h
    exact ⟨x, xs, e1, e2, rfl⟩
  · cases h
section
variable {X : Cx} {pins : List (Addr × Obj)} {σ : L2.St} {H : Hp} {s : Shared} {mg : Mg}
mutual
theorem Rep.reads (I : Inv X pins σ H s) : ∀ {d : D} {v : V} {x : Value} {p : PyData}, Rep X.K mg H v d → RelV v x → d.py = some p → ∃ as, Reads s.heap x p as
  | .non, _, x, p, h, r, e => by
    cases h
    rw [D.py] at e
    cases e
    obtain rfl : x = Value.none := r
    exact ⟨_, .none⟩
  | .bl b, _, x, p, h, r, e => by
    cases h
    rw [D.py] at e
    cases e
    obtain rfl : x = Value.bool b := r
    exact ⟨_, .bool b⟩
  | .int i, _, x, p, h, r, e => by
    cases h
    rw [D.py] at e
    cases e
    obtain ⟨t, rfl⟩ := r
    exact ⟨_, .int i t⟩
  | .str z, _, x, p, h, r, e => by
    cases h
    rw [D.py] at e
    cases e
    obtain ⟨t, rfl⟩ := r
    exact ⟨_, .str z t⟩
  | .lst ds, _, x, p, h, r, e => by
    cases h with
    | @lst a vs _ h q =>
    rw [D.py] at e
    obtain rfl : x = Value.ref a := r
    cases c : D.pyL ds with
    | none => rw [c] at e; cases e
    | some ps =>
      rw [c] at e
      cases e
      obtain ⟨us, p1, o, ho, hc, n, hd⟩ := Inv.lstAt (K := X.K) I h
      obtain ⟨as, ra⟩ := RepL.reads I q p1 c
      exact ⟨_, .list ho hc hd (by simpa using ra)⟩
  | .rol ds, _, x, p, h, r, e => by
    cases h with
    | @rol a vs _ h q =>
    rw [D.py] at e
    obtain rfl : x = Value.ref a := r
    cases c : D.pyL ds with
    | none => rw [c] at e; cases e
    | some ps =>
      rw [c] at e
      cases e
      obtain ⟨us, p1, pl, _⟩ := I.list h
      obtain ⟨o, ho, hc, n, hd⟩ := pl.isList
      obtain ⟨as, ra⟩ := RepL.reads I q p1 c
      exact ⟨_, .list ho hc hd (by simpa using ra)⟩
  | .tup ds, _, x, p, h, r, e => by
    cases h with
    | @tup a vs _ h q =>
    rw [D.py] at e
    obtain rfl : x = Value.ref a := r
    cases c : D.pyL ds with
    | none => rw [c] at e; cases e
    | some ps =>
      rw [c] at e
      cases e
      obtain ⟨us, p1, o, ho, hc, n, hd⟩ := Inv.tpAt I h.sq
      obtain ⟨as, ra⟩ := RepL.reads I q p1 c
      exact ⟨_, .tuple ho hc hd (by simpa using ra)⟩
  | .kup ds, _, x, p, h, r, e => by
    cases h with
    | @kup a vs is h q =>
    rw [D.py] at e
    obtain rfl : x = Value.ref a := r
    cases c : D.pyL (is.map D.int) with
    | none => rw [c] at e; cases e
    | some ps =>
      rw [c] at e
      cases e
      obtain ⟨us, p1, o, ho, hc, n, hd⟩ := Inv.tpAt I h.sq
      subst q
      obtain ⟨as, ra⟩ := RepL.reads I (show RepL X.K mg H (is.map V.int) (is.map D.int) from RepL.ints) p1 c
      exact ⟨_, .tuple ho hc hd (by simpa using ra)⟩
  | .dK _ _, _, _, _, _, _, e => by rw [D.py] at e; cases e
  | .dT _ _, _, _, _, _, _, e => by rw [D.py] at e; cases e
  | .obj _ _ _, _, _, _, _, _, e => by rw [D.py] at e; cases e
theorem RepL.reads (I : Inv X pins σ H s) : ∀ {ds : List D} {vs : List V} {xs : List Value} {ps : List PyData}, RepL X.K mg H vs ds → Vals vs xs → D.pyL ds = some ps → ∃ as, ReadsAll s.heap xs ps as
  | [], _, _, ps, h, r, e => by
    cases h
    cases r
    rw [D.pyL] at e
    cases e
    exact ⟨_, .nil⟩
  | d :: ds, _, _, ps, h, r, e => by
    cases h with
    | cons h1 h2 =>
    cases r with
    | cons r1 r2 =>
    obtain ⟨x, xs, e1, e2, rfl⟩ := pyL_cons e
    obtain ⟨as, ra⟩ := Rep.reads I h1 r1 e1
    obtain ⟨bs, rb⟩ := RepL.reads I h2 r2 e2
    exact ⟨_, .cons ra rb⟩
end
end
/-! ### in order -/
/-- put in order by their keys; equal ones stay -/
def sortBy (ks : List PyData) (ds : List D) : List D := ((ks.zip ds).mergeSort (dataLe false Prod.fst)).map Prod.snd
def tup1 : PyData → Bool
  | .tuple (_ :: _) => true
  | _ => false
def plain1 : PyData → Bool
  | .tuple _ => false
  | .none => false
  | _ => true
/-- Python can put these in order -/
def canSort (ks : List PyData) : Bool := (ks.all fun x => ks.all fun y => alike x y) && (ks.all tup1 || ks.all plain1) && ks.all fun x => decide (x.depth ≤ 40)
theorem canSort_iff {ks : List PyData} (h : canSort ks = true) : AllAlike ks ∧ Sortable ks ∧ ∀ k ∈ ks, k.depth ≤ 40 := by
  unfold canSort at h
  simp only [Bool.and_eq_true, Bool.or_eq_true, List.all_eq_true, decide_eq_true_eq] at h
  obtain ⟨⟨h1, h2⟩, h3⟩ := h
  refine ⟨h1, h2.elim (fun h => .inl fun d m => ?_) (fun h => .inr fun d m => ?_), h3⟩
  · have := h d m
    unfold tup1 at this
    split at this
    · exact ⟨_, _, rfl⟩
    · cases this
  · have := h d m
    refine ⟨fun z => ?_, fun xs z => ?_⟩
    · rw [z] at this; cases this
    · rw [z] at this; cases this
theorem canSort_of {ks : List PyData} (h1 : AllAlike ks) (h2 : Sortable ks) (h3 : ∀ k ∈ ks, k.depth ≤ 40) : canSort ks = true := by
  unfold canSort
  simp only [Bool.and_eq_true, Bool.or_eq_true, List.all_eq_true, decide_eq_true_eq]
  refine ⟨⟨h1, h2.elim (fun h => .inl fun d m => ?_) (fun h => .inr fun d m => ?_)⟩, h3⟩
  · obtain ⟨x, r, e⟩ := h d m
    rw [e]
    rfl
  · obtain ⟨a, b⟩ := h d m
    cases d <;> first | rfl | exact absurd rfl a | exact absurd rfl (b _)
theorem sortBy_three (ks : List PyData) (vs : List V) (ds : List D) (h1 : ks.length = ds.length) (h2 : vs.length = ds.length) :
    sortBy ks ds = ((ks.zip (vs.zip ds)).mergeSort (dataLe false Prod.fst)).map fun p => p.2.2 := by
  unfold sortBy
  have e : ks.zip ds = (ks.zip (vs.zip ds)).map fun p => (p.1, p.2.2) := by
    have e1 : (vs.zip ds).map Prod.snd = ds := List.map_snd_zip (by omega)
    have : ks.zip ds = ks.zip ((vs.zip ds).map Prod.snd) := by rw [e1]
    rw [this, List.zip_map_right]
    rfl
  rw [e, ← List.map_mergeSort (r := dataLe false Prod.fst), List.map_map]
  · rfl
  · intro a _ b _
    rfl
/-- what stands for the sorted ones -/
theorem sort_out {ks : List PyData} {vs : List V} {us out : List Value} {ds : List D} (h1 : ks.length = ds.length) (h2 : vs.length = ds.length) (e : EachIs (fun u (p : PyData × V × D) => RelV p.2.1 u) out ((ks.zip (vs.zip ds)).mergeSort (dataLe false Prod.fst))) :
    ∃ ys, Vals ys out ∧ ys.length = ds.length ∧ ∀ K mg F, RepL K mg F vs ds → RepL K mg F ys (sortBy ks ds) := by
  let l := (ks.zip (vs.zip ds)).mergeSort (dataLe false Prod.fst)
  have hl : l.length = ds.length := by
    show (List.mergeSort _ _).length = _
    rw [List.length_mergeSort, List.length_zip, List.length_zip]
    omega
  refine ⟨l.map fun p => p.2.1, ?_, by rw [List.length_map, hl], fun K mg F r => ?_⟩
  · have : ∀ {out : List Value} {l : List (PyData × V × D)}, EachIs (fun u (p : PyData × V × D) => RelV p.2.1 u) out l → Vals (l.map fun p => p.2.1) out := by
      intro out l e
      induction e with
      | nil => exact .nil
      | cons h _ ih => exact .cons h ih
    exact this e
  · rw [sortBy_three ks vs ds h1 h2]
    have mem : ∀ p ∈ l, Rep K mg F p.2.1 p.2.2 := fun p m => by
      have m1 := (List.mem_mergeSort.mp m)
      have m2 := (List.of_mem_zip (a := p.1) (b := p.2) (by exact m1)).2
      have : ∀ {vs : List V} {ds : List D}, RepL K mg F vs ds → ∀ q ∈ vs.zip ds, Rep K mg F q.1 q.2 := by
        intro vs ds r
        induction vs generalizing ds with
        | nil => intro q m; simp at m
        | cons v vs ih =>
          cases r with
          | cons h r =>
            intro q m
            rcases List.mem_cons.mp m with e | m
            · subst e; exact h
            · exact ih r q m
      exact this r p.2 m2
    show RepL K mg F (l.map fun p => p.2.1) (l.map fun p => p.2.2)
    clear e hl
    generalize l = l at mem
    induction l with
    | nil => exact .nil
    | cons p l ih => exact .cons (mem p List.mem_cons_self) (ih fun q m => mem q (List.mem_cons_of_mem _ m))
theorem each3 {us : List Value} {vs : List V} (r : Vals vs us) : ∀ {ks : List PyData} {ds : List D}, ks.length = ds.length → vs.length = ds.length → EachIs (fun u (p : PyData × V × D) => RelV p.2.1 u) us (ks.zip (vs.zip ds)) := by
  induction r with
  | nil =>
    intro ks ds h1 h2
    cases ds with
    | nil => cases ks with
      | nil => exact .nil
      | cons k ks => simp at h1
    | cons d ds => simp at h2
  | cons h _ ih =>
    intro ks ds h1 h2
    cases ds with
    | nil => simp at h2
    | cons d ds => cases ks with
      | nil => simp at h1
      | cons k ks => exact .cons h (ih (by simpa using h1) (by simpa using h2))
theorem pyL_len : ∀ {ds : List D} {ks : List PyData}, D.pyL ds = some ks → ks.length = ds.length
  | [], ks, h => by rw [D.pyL] at h; cases h; rfl
  | d :: ds, ks, h => by
    obtain ⟨x, xs, _, e, rfl⟩ := pyL_cons h
    simp [pyL_len e]
theorem readsAll_each3 {h : Heap} : ∀ {us : List Value} {ks : List PyData} {as : List Addr} {vs : List V} {ds : List D}, ReadsAll h us ks as → ks.length = ds.length → vs.length = ds.length → EachIs (fun u (p : PyData × V × D) => ∃ as, Reads h u p.1 as) us (ks.zip (vs.zip ds))
  | _, _, _, vs, ds, .nil, h1, h2 => by
    cases ds with
    | nil => cases vs with
      | nil => exact .nil
      | cons v vs => simp at h2
    | cons d ds => simp at h1
  | _, _, _, vs, ds, .cons a b, h1, h2 => by
    cases ds with
    | nil => simp at h1
    | cons d ds => cases vs with
      | nil => simp at h2
      | cons v vs => exact .cons ⟨_, a⟩ (readsAll_each3 b (by simpa using h1) (by simpa using h2))
theorem map_fst3 {ks : List PyData} {vs : List V} {ds : List D} (h1 : ks.length = ds.length) (h2 : vs.length = ds.length) : (ks.zip (vs.zip ds)).map Prod.fst = ks := List.map_fst_zip (by rw [List.length_zip]; omega)
/-- sorted(xs) -/
def rSortF (K : PySem.W.Frag) (mg : Mg) : List V → Hp → VK → Prop := fun xs H Q => ∃ (a : Addr) (vs : List V) (ds : List D) (ks : List PyData), xs = [V.ref a] ∧ SqL K H a vs ∧ RepL K mg H vs ds ∧ D.pyL ds = some ks ∧ canSort ks = true ∧
  ∀ ys p, ys.length = ds.length → (∀ F, RepL K mg F vs ds → RepL K mg F ys (sortBy ks ds)) → H p = none → Q (.ref p) (upd H p (.lst ys))
theorem cr_sortF {X : Cx} (hu : X.A.units + 64 < cLine) : CallR X (.builtin "sorted") (rSortF X.K X.mg) := by
  intro pins s σ H xs us Q I r h
  obtain ⟨a, vs, ds, ks, rfl, hs, hr, hp, hc, q⟩ := h
  obtain ⟨u, rfl, ru⟩ := vals1 r
  obtain rfl : u = Value.ref a := ru
  obtain ⟨its, rv, hl, hz⟩ := I.list hs
  obtain ⟨c1, c2, c3⟩ := canSort_iff hc
  have l1 := pyL_len hp
  have l2 := hr.len
  have mf := map_fst3 l1 l2
  obtain ⟨as, ra⟩ := RepL.reads I hr rv hp
  have hbl : (ks.zip (vs.zip ds)).length = ds.length := by rw [List.length_zip, List.length_zip]; omega
  refine PySem.W.sorted_data (enc := Prod.fst) hl.isList (each3 rv l1 l2) (readsAll_each3 ra l1 l2) (by rw [mf]; exact c1) (by rw [mf]; exact c2) (by rw [hbl, ← l2]; exact hz) (fun b m => ?_) fun out lo eo => ?_
  · have := c3 b.1 (by rw [← mf]; exact List.mem_map.mpr ⟨b, m, rfl⟩)
    omega
  · obtain ⟨ys, v1, v2, v3⟩ := sort_out (us := its) l1 l2 eo
    obtain ⟨ep, he'⟩ := PyProof.Rows.sortedAll_at s.heap its out.toArray
    exact ⟨.ref _, upd H (s.heap.objs.size + 1) (.lst ys), I.laid (t' := s.toks) (fun _ _ => PyProof.Rows.sortedAll_old) (Nat.le_succ _) ⟨by rw [v2, ← l2]; exact hz, out, ep, v1, he'⟩, rfl, q ys _ v2 (fun F => v3 _ _ F) (I.hok.fresh (Nat.le_succ _))⟩
/-- what can be put in order -/
def T.sortL : T → Option (List D)
  | .o x => x.data.lsq
  | .bo d => d.lsq.bind fun ds => if D.flatL ds then some ds else none
def sortT (ds : List D) : Option T := (D.pyL ds).bind fun ks => if canSort ks then some (.o (.lst ((sortBy ks ds).map O.sh))) else none
def eSorted (g : FE) : FE := fun env => do
  let t ← g env
  M.of (t.sortL.bind sortT)
end Fu

namespace Fu
open PySem L2 PyProof.Rows PySem.Spec
open PySem.W (AllAlike Sortable alike EachIs dataLe dataLt)
/-! ### sorted(xs), read as a function -/
section
variable {X : Cx} {W : WX} {a : Expr} {te : TE} {g : FE} {p pos : Pos}
theorem sortL_rep {K : PySem.W.Frag} {mg : Mg} {F H : Hp} {t : T} {ds : List D} (e : Ex F H) (tu : TupIn F H) (c : t.sortL = some ds) {R : VK} (h : ∀ v F' H', Grow F H F' H' → (∃ a vs, v = V.ref a ∧ SqL K H' a vs ∧ RepL K mg F' vs ds) → R v H') : VPost K mg F H t R := by
  cases t with
  | o x =>
    refine VPost.share fun v F' H' fp gr r _ _ => h v F' H' gr ?_
    obtain ⟨_, r⟩ := r
    obtain ⟨a, vs, e1, sq, r⟩ := r.lsqAt c
    exact ⟨a, vs, e1, gr.fh.sl sq, r⟩
  | bo d =>
    intro v F' H' fp gr r _ _
    obtain ⟨_, r⟩ := r
    have c : (d.lsq.bind fun ds => if D.flatL ds then some ds else none) = some ds := c
    cases c1 : d.lsq with
    | none => rw [c1] at c; cases c
    | some es =>
      rw [c1] at c
      simp only [Option.bind_some] at c
      split at c
      · rename_i hf
        cases c
        obtain ⟨a, vs, e1, sq, r⟩ := r.lsqAt c1
        exact h v F' H' gr ⟨a, vs, e1, sq, r.flat gr.tu hf⟩
      · cases c
theorem re_sorted (hu : X.A.units + 64 < cLine) (hg : Gl X "sorted") (hm : X.mg "sorted" = none) (ha : RE X W a te g) (hs : starEach [a] X.env = (false, eval a X.env) :: starEach [] X.env := by rfl) (hpl : (backTo pos (starEach [] X.env)).any (·.1) = false := by rfl) :
    RE X W (.Call (.Name "sorted" p) [a] [] pos) (tCB (rSortF X.K X.mg) (tCons te tNil)) (eSorted g) := by
  refine ⟨pe_callB (cr_sortF hu) hg hm PyProof.Rows.boot_sorted (pa_cons ha.pe pa_nil hs) (by decide) (by decide) hs hpl, fun F H env σ I Q q => ?_⟩
  show te σ H fun v H1 => rSortF X.K X.mg [v] H1 Q
  refine ha.sem F H env σ I _ ?_
  unfold eSorted at q
  cases e1 : g env with
  | bad => rw [e1] at q; exact q.elim
  | ex x => rw [e1] at q; exact q
  | ok t =>
    rw [e1] at q
    simp only [M.bind_ok] at q
    cases c : t.sortL with
    | none => rw [c] at q; exact q.elim
    | some ds =>
      rw [c] at q
      simp only [Option.bind_some] at q
      unfold sortT at q
      cases c2 : D.pyL ds with
      | none => rw [c2] at q; exact q.elim
      | some ks =>
        rw [c2] at q
        simp only [Option.bind_some] at q
        split at q
        · rename_i hc
          refine sortL_rep I.fh I.tu c fun v F' H' gr ⟨a, vs, ev, sq, r⟩ => ?_
          refine ⟨a, vs, ds, ks, by rw [ev], sq, r.mono gr.fh, c2, hc, fun ys p _ ry hp => ?_⟩
          obtain ⟨g2, o2, n2⟩ := new_lst gr.fh gr.tu hp (OwnL.shared (H := H') (ry F' r)) List.nodup_nil
          exact q _ F' _ _ (gr.trans g2) o2 n2 fun b m => by
            rcases List.mem_cons.mp m with z | m
            · subst z
              exact ⟨gr.hh.back hp, gr.fh.none hp⟩
            · cases m
        · exact q.elim
end
/-! ### a lambda -/
/-- the object at f is this lambda -/
def LamO (f : Addr) (q0 : Str) (params : Arguments) (body : Expr) (scope : Scope) (cl : List (Str × Addr)) (c' : Addr) : HO := .ext fun h => ∃ pm ctv, h.get? f = some (PySem.W.kla_obj "<lambda>" q0 params body scope cl pm c' ctv)
section
variable {X : Cx} {pins : List (Addr × Obj)} {σ : L2.St} {H : Hp} {s : Shared}
theorem lam_make3 {c P : Addr} {params : Arguments} {body : Expr} {scope : Scope} {pos : Pos} {E : Value → Shared → Prop} {Q : Value → Shared → Prop} (I : Inv X pins σ H s) (TB : LamX.TabB X.base X.mg c P) (hcode : X.env.code = .ref c)
    (hT : TabG H P) (hdef : defaultsOf params X.env = ([], [])) (hfree : ∀ y ∈ scope.names, y.2 = .free → ∃ c, X.env.cells.lookup y.1 = some c)
    (h : ∀ (f c' : Addr) (q : Str) (H1 : Hp) (s' : Shared), Inv X pins σ H1 s' → Ex H H1 → (∀ b vs, H1 b = some (.tup vs) → H b = some (.tup vs)) →
      H1 f = some (LamO f (X.env.qual ++ "<lambda>") params body scope (cloFrom X.env.cells scope.names []) c') → H1 c' = some (LamX.CodeO c' q) → Q (.ref f) s') :
    wpAny (model X.prog X.w) X.A (eval (.Lambda params body scope pos) X.env) Q E s := by
  obtain ⟨ps, hP, ht, ha⟩ := id hT
  refine PySem.W.kla_eval hdef ?_
  have bP : s.heap.BuiltinsAt X.mg P := TB.bm.keeps I.bk
  have hP' : s.heap.get? P = some { cls := .none, data := .fields ps } := I.hok P _ hP
  have lay : ∀ {H0 : Hp} {h' : Heap} {tk : Nat} {c' : Addr} {pm ctv : Value}, Inv X pins σ H0 { s with heap := h', toks := tk } →
      Inv X pins σ (upd H0 h'.objs.size (LamO h'.objs.size (X.env.qual ++ "<lambda>") params body scope (cloFrom X.env.cells scope.names []) c'))
        { s with heap := h'.push (PySem.W.kla_obj "<lambda>" (X.env.qual ++ "<lambda>") params body scope (cloFrom X.env.cells scope.names []) pm c' ctv), toks := tk } := fun {H0 h' tk c' pm ctv} J =>
    J.laid (t' := tk) (fun _ _ e => Heap.get?_push_of_some _ e) (Nat.le_refl _) ⟨⟨pm, ctv, Heap.get?_push_size _ rfl⟩, ⟨_, Heap.get?_push_size _ rfl⟩, fun h1 h2 ⟨pm, ctv, e⟩ st => ⟨pm, ctv, st _ e⟩⟩
  have layE : ∀ {H0 : Hp} {f : Addr} {o : HO}, H0 f = none → (∀ vs, o ≠ .tup vs) → Ex H0 (upd H0 f o) ∧ ∀ b vs, upd H0 f o b = some (.tup vs) → H0 b = some (.tup vs) := fun {H0 f o} n no => by
    refine ⟨Ex.new n, fun b vs e => ?_⟩
    by_cases z : b = f
    · subst z
      rw [upd_same] at e
      cases e
      exact absurd rfl (no vs)
    · rw [upd_ne z] at e
      exact e
  cases hc : codeAmong pos ps.toList with
  | none =>
    refine PySem.W.kla_makeFunction (mg := X.mg) (c := c) (P := P) (ps := ps) (closure_ok hfree) I.ok.glob (I.mod.glob.keeps I.bk) hcode (TB.code.keeps I.bk) hP' ht hc TB.gP bP fun c' ctv h' tk hx hge hlt hrec htb => ?_
    obtain ⟨c2, oc, vs, t, e2, hoc, hd, hv⟩ := hrec
    cases e2
    have nC : H c' = none := I.hok.fresh hge
    have nPc : P ≠ c' := ne_of_none hP nC
    have I1 := LamX.inv_table (t' := tk) (more := #[rawInt pos.line, rawInt pos.col, .ref c']) (h' := h') I hP
      (fun b o hb e => hx b o hb e) htb hge ⟨oc, vs, t, hoc, hd, hv⟩
    let H1 : Hp := upd (upd H P (.tbl (ps ++ #[rawInt pos.line, rawInt pos.col, .ref c']))) c' (LamX.CodeO c' (X.env.qual ++ "<lambda>"))
    have at1 : ∀ b o, H b = some o → (∀ ps, o ≠ .tbl ps) → H1 b = some o := fun b o e n => by
      show upd (upd H P _) c' _ b = _
      rw [upd_ne (ne_of_none e nC), upd_ne (fun z => n ps (Option.some.inj (e.symm.trans (by rw [z]; exact hP))))]
      exact e
    have eL : (ps ++ #[rawInt pos.line, rawInt pos.col, .ref c']).toList = ps.toList ++ [rawInt pos.line, rawInt pos.col, .ref c'] := by simp
    have hP1 : H1 P = some (.tbl (ps ++ #[rawInt pos.line, rawInt pos.col, .ref c'])) := by
      show upd (upd H P _) c' _ P = _
      rw [upd_ne nPc, upd_same]
    have hc1 : H1 c' = some (LamX.CodeO c' (X.env.qual ++ "<lambda>")) := upd_same
    have E1 : Ex H H1 := by
      refine ⟨at1, fun P0 t => ?_, fun b e => ?_, fun b qs e => ?_⟩
      · obtain ⟨qs, h1, h2, h3⟩ := t
        by_cases z : P0 = P
        · subst z
          refine ⟨_, hP1, by rw [eL]; exact PySem.TriplesOk_snoc _ _ _ _ ht, fun p' cv hcv => ?_⟩
          rw [eL] at hcv
          rcases LamX.among_app _ ht hcv with z | z
          · obtain ⟨c0, q0, e1, e2⟩ := ha p' cv z
            exact ⟨c0, q0, e1, at1 _ _ e2 LamX.codeO_ne⟩
          · exact ⟨c', _, z, hc1⟩
        · refine ⟨qs, ?_, h2, fun p' cv hcv => ?_⟩
          · show upd (upd H P _) c' _ P0 = _
            rw [upd_ne (ne_of_none h1 nC), upd_ne z]
            exact h1
          · obtain ⟨c0, q0, e1, e2⟩ := h3 p' cv hcv
            exact ⟨c0, q0, e1, at1 _ _ e2 LamX.codeO_ne⟩
      · have e : upd (upd H P _) c' _ b = none := e
        by_cases z : b = c'
        · subst z; exact nC
        · rw [upd_ne z] at e
          by_cases z2 : b = P
          · subst z2; rw [upd_same] at e; cases e
          · rw [upd_ne z2] at e; exact e
      · by_cases z : b = P
        · subst z; exact ⟨_, hP1⟩
        · refine ⟨qs, ?_⟩
          show upd (upd H P _) c' _ b = _
          rw [upd_ne (ne_of_none e nC), upd_ne z]
          exact e
    have T1 : ∀ b vs, H1 b = some (.tup vs) → H b = some (.tup vs) := fun b vs e => by
      have e : upd (upd H P _) c' _ b = some (.tup vs) := e
      by_cases z : b = c'
      · subst z; rw [upd_same] at e; unfold LamX.CodeO at e; cases e
      · rw [upd_ne z] at e
        by_cases z2 : b = P
        · subst z2; rw [upd_same] at e; cases e
        · rw [upd_ne z2] at e; exact e
    have nF : H1 h'.objs.size = none := I1.hok.fresh (Nat.le_refl _)
    obtain ⟨E2, T2⟩ := layE (o := LamO h'.objs.size (X.env.qual ++ "<lambda>") params body scope (cloFrom X.env.cells scope.names []) c') nF (fun vs z => by unfold LamO at z; cases z)
    exact h h'.objs.size c' _ _ _ (lay I1) (E1.trans E2) (fun b vs e => T1 b vs (T2 b vs e)) upd_same (E2.at hc1 LamX.codeO_ne)
  | some cv =>
    obtain ⟨c', q, e, hco⟩ := ha pos cv hc
    subst e
    refine PySem.W.kla_makeFunctionHit (mg := X.mg) (c := c) (P := P) (ps := ps) (closure_ok hfree) I.ok.glob (I.mod.glob.keeps I.bk) hcode (TB.code.keeps I.bk) hP' ht hc bP fun ctv h' tk hx hsz => ?_
    have I1 : Inv X pins σ H { s with heap := h', toks := tk } := I.kept fun b o e => hx b o e
    have nF : H h'.objs.size = none := I1.hok.fresh (Nat.le_refl _)
    obtain ⟨E2, T2⟩ := layE (o := LamO h'.objs.size (X.env.qual ++ "<lambda>") params body scope (cloFrom X.env.cells scope.names []) c') nF (fun vs z => by unfold LamO at z; cases z)
    exact h h'.objs.size c' q _ _ (lay I1) E2 T2 upd_same (E2.at hco LamX.codeO_ne)
end
section
variable {prog : Program} {w : World} {A : Around} {R : Result → Shared → Prop} {s : Shared}
/-- a lambda's call; its code object may bear any name -/
theorem callFunE2 {a : Addr} {args : Args} {o : Obj} {fd : FuncData} {body : Expr} {q : Str} (hroom : A.depth < recursionLimit)
    (ho : s.heap.get? a = some o)
    (hd' : o.data = .func fd) (hco : fd.scope.isCoroutine = false) (hgen : fd.scope.isGenerator = false) (hbody : fd.body = .expr body) (hcd : s.heap.CodeRec fd.code q)
    (h : wpAny (model prog w) A.in1 (bindArgs fd args) (fun binds s₁ =>
      wpAny (model prog w) A.in1 (newFunctionEnv fd.scope fd.globals fd.closure binds (q ++ ".<locals>.") (some a) fd.code none fd.builtins)
        (fun env s₂ => s₂.heap.NoLimit ∧ codeAny (model prog w) A (.expr body env) R s₂) (fun e s' => R (.error e) s') s₁) (fun e s' => R (.error e) s') s) :
    codeAny (model prog w) A (.call (.ref a) args) R s := by
  refine codeAny_of_tree ?_
  show wpAny _ A.in1 (callAny (.ref a) args) _ _ s
  simp only [callAny]
  refine wpAny_bind (wpAny_load ho ?_)
  obtain ⟨c, oc, vs, tq, hc, hoc, hdc, hq⟩ := hcd
  simp only [hd', callFunction, hco, hgen, hbody, hc]
  rw [hc] at h
  refine wpAny_bind (m := field (.ref c) 1) (wpAny_field hoc hdc hq (wpAny_bind (wpAny_pure ?_)))
  exact wpAny_bind (wpAny_mono h (fun binds s₁ h₁ => wpAny_bind (wpAny_mono h₁ (fun env s₂ h₂ => wpAny_bind (wpAny_enterFrame h₂.1 hroom
    (wpAny_pure (And.intro rfl h₂.2)))) fun _ _ h' => h')) fun _ _ h' => h')
end
/-- the lambda as its frame sees it -/
abbrev lamF (q : Str) (params : Arguments) (scope : Scope) (cl : List (Str × Addr)) (c' : Addr) : NdefX.NF := ⟨"<lambda>", q, params, [], scope, cl, c'⟩
section
variable {CX : CXT} {P : Program} {w : World} {K : PySem.W.Frag} {mg : Mg} {base : Heap} {N ps fr : List Str} {params : Arguments} {body : Expr} {scope : Scope} {q0 q : Str} {cl : List (Str × Addr)} {f c' : Addr} {k : Nat} {A : Around} {outer : List Env} {s : Shared} {H : Hp} {us : List Value} {vs : List V} {ws : List (Option V)} {Q : VK} {E : XK} {te : TE}
theorem lam_run (S : NdefX.NScope N ps fr scope) (hb : ∀ (q0 : Str) (cl : List (Str × Addr)) (pm cv ctv : Value) (us : List Value), us.length = ps.length → bindArgs (PySem.W.kla_fn "<lambda>" q0 params body scope cl pm cv ctv) ⟨us, []⟩ = pure (ps.zip us))
    (hr : Room (k + 1) A) (e0 : Env0 P w K mg base A outer s H) (hf : H f = some (LamO f q0 params body scope cl c')) (hc : H c' = some (LamX.CodeO c' q)) (C : NdefX.CellsAt cl fr ws s.heap H) (r : Vals vs us) (hl : vs.length = ps.length)
    (hbody : Room k (A.deeper (NdefX.envF (lamF q params scope cl c') f s.heap.objs.size)) → ∃ te, PE (NdefX.ncx CX P w K mg base N (lamF q params scope cl c') f A outer s H E) body te ∧ te (NdefX.startF N vs ws) H Q) :
    codeAny (model P w) A (.call (.ref f) ⟨us, []⟩) (CR CX outer P w H s Q E) s := by
  have lim : s.heap.NoLimit := e0.mod.nolimit.keeps fun b o e => (e0.bs b o e).1
  obtain ⟨⟨pm, ctv, ho⟩, _, _⟩ := e0.hok f _ hf
  refine callFunE2 hr.depth ho rfl S.co S.gen rfl (NdefX.codeO_at e0.hok hc) ?_
  rw [hb q0 cl pm (.ref c') ctv us (by rw [← r.length]; exact hl)]
  refine wpAny_pure (wpAny_newFunctionEnv S.nocell (fun ⟨n, _⟩ hy => S.par n (List.of_mem_zip hy).1) (fun h₁ hns hsb => ⟨lim.fresh _ hsb, ?_⟩) S.kind)
  show codeAny _ _ (.expr body (NdefX.envF (lamF q params scope cl c') f s.heap.objs.size)) _ _
  have kp : ∀ b o, s.heap.get? b = some o → h₁.get? b = some o := fun b o e => hsb.extBut b o (Nat.ne_of_lt (Heap.lt_size e)) (Heap.get?_push_of_some _ e)
  obtain ⟨te, hp, hq⟩ := hbody (hr.deeper _)
  have I : Inv (NdefX.ncx CX P w K mg base N (lamF q params scope cl c') f A outer s H E) [] (NdefX.startF N vs ws) H { s with heap := h₁, toks := s.toks + (ps.zip us).length } := NdefX.inv_startN S hr.hd e0 hl r C hns kp
  refine PySem.W.kla_codeExpr (wpAny_mono (hp.run [] _ _ H _ I hq) (fun u s' hs => ?_) fun e s' hs => hs)
  obtain ⟨v, H', J, rv, q⟩ := hs
  exact ⟨v, H', J.os, J.bare, J.base, J.hok, rv, q⟩
end
end Fu

namespace Fu
open PySem L2 PyProof.Rows PySem.Spec
open PySem.W (AllAlike Sortable alike EachIs dataLe dataLt)
theorem freed_self (h : Heap) (a : Addr) : (h.update a fun o => { o with data := .freed }).get? a = none := by
  cases h with
  | mk objs l =>
  simp only [Heap.update, Heap.get?, Array.getElem?_modify, if_true]
  cases objs[a]? with
  | none => rfl
  | some o => rfl
theorem vals_back {xs : List V} {us : List Value} (r : Vals xs us) : ∀ {i : Nat} {u : Value}, us[i]? = some u → ∃ x, xs[i]? = some x ∧ RelV x u := by
  induction r with
  | nil => intro i u h; simp at h
  | cons h _ ih =>
    intro i u e
    cases i with
    | zero => simp at e; subst e; exact ⟨_, rfl, h⟩
    | succ i => exact ih (by simpa using e)
theorem vals_snoc {xs : List V} {us : List Value} {x : V} {u : Value} (r : Vals xs us) (h : RelV x u) : Vals (xs ++ [x]) (us ++ [u]) := by
  induction r with
  | nil => exact .cons h .nil
  | cons a _ ih => exact .cons a ih
theorem readsAll_each {h : Heap} : ∀ {us : List Value} {ks : List PyData} {as : List Addr}, ReadsAll h us ks as → EachIs (fun u p => ∃ as, Reads h u p as) us ks
  | _, _, _, .nil => .nil
  | _, _, _, .cons a b => .cons ⟨_, a⟩ (readsAll_each b)
section
variable {X : Cx} {pins : List (Addr × Obj)} {σ : L2.St} {H : Hp} {s : Shared} {Q : VK}
theorem sortK_run {J : Nat → Hp → List V → Prop} {a f : Addr} {vs : List V} {ds : List D} (hu : X.A.units + 64 < cLine) (I : Inv X pins σ H s) (hs : SqL X.K H a vs) (dl : vs.length = ds.length) (j0 : J 0 H [])
    (turn : ∀ (i : Nat) (x : V) (u : Value) (ks : List V) (pins' : List (Addr × Obj)) (s' : Shared) (H' : Hp), vs[i]? = some x → RelV x u → Inv X pins' σ H' s' → J i H' ks →
      wpAny (model X.prog X.w) X.A.in1.in1 (call (.ref f) [u]) (EP X pins' σ (fun v H2 => J (i + 1) H2 (ks ++ [v]))) (fun _ _ => False) s')
    (fin : ∀ H' ks, J vs.length H' ks → ∃ kds kz, RepL X.K X.mg H' ks kds ∧ D.pyL kds = some kz ∧ canSort kz = true ∧ kds.length = vs.length ∧
      ∀ ys p, ys.length = vs.length → (∀ F, RepL X.K X.mg F vs ds → RepL X.K X.mg F ys (sortBy kz ds)) → H' p = none → Q (.ref p) (upd H' p (.lst ys))) :
    wpAny (model X.prog X.w) X.A (call (.builtin "sorted") [.ref a] [(Str.ofString "key", .ref f)]) (EP X pins σ Q) X.xe s := by
  obtain ⟨its, rv, hl, hz⟩ := I.list hs
  have lz := rv.length
  have hzi : its.length ≤ sizeLine := by rw [← lz]; exact hz
  refine PySem.W.sorted_of_sort (vs := its) hl.isList hzi (ksk_s1 _ _) (fun _ => ksk_l1 _ _) fun E' => ?_
  rw [ksk_t1]
  generalize ea : s.heap.objs.size + 1 = a'
  have hc1 : (PySem.W.copyHeap s.heap its).get? a' = some (seqObj "list" its.toArray 0) := by rw [← ea]; exact PySem.W.copyHeap_at s.heap its
  have la : s.heap.objs.size ≤ a' := by omega
  have nA : H a' = none := I.hok.fresh la
  have fA : FpOk X pins H a' := I.fpOk la nA
  have ha : a' < (PySem.W.copyHeap s.heap its).objs.size := Heap.lt_size hc1
  obtain ⟨e1, ho1⟩ : ∃ e1, ((PySem.W.copyHeap s.heap its).update a' (Obj.mapSeq fun _ => (#[] : Array Value))).get? a' = some (seqObj "list" #[] e1) := ⟨_, get?_update_seq hc1 fun _ => #[]⟩
  have I0 : Inv X pins σ H { s with heap := PySem.W.copyHeap s.heap its } := I.kept (t' := s.toks) fun b o e => PySem.W.copyHeap_old e
  have I2 : Inv X pins σ H { s with heap := PySem.W.sortingHeap (PySem.W.copyHeap s.heap its) a' its } := by
    obtain ⟨_, f1, _, f3, f4, f5⟩ := fA
    exact Inv.turned (s := { s with heap := PySem.W.copyHeap s.heap its }) (t' := s.toks) (it := a') I0 (fun b o hb e => PySem.W.sortingHeap_old hb e) nA f1 f3 f4 f5
  generalize ek : ((PySem.W.copyHeap s.heap its).update a' (Obj.mapSeq fun _ => (#[] : Array Value))).push (seqObj "tuple" its.toArray 0) = hT at *
  have hkS : hT.objs.size = (PySem.W.copyHeap s.heap its).objs.size + 1 := by rw [← ek, size_push', Heap.size_update]
  have eS : PySem.W.sortingHeap (PySem.W.copyHeap s.heap its) a' its = hT.push (seqObj "list" #[] 0) := by unfold PySem.W.sortingHeap; rw [ek]
  rw [eS] at I2
  generalize ekS : hT.objs.size = kS at *
  have lk : s.heap.objs.size ≤ kS := by omega
  have nK : H kS = none := I.hok.fresh lk
  have fK : FpOk X pins H kS := I.fpOk lk nK
  have hka : kS ≠ a' := by omega
  have gK : (hT.push (seqObj "list" #[] 0)).get? kS = some (seqObj "list" #[] 0) := by rw [← ekS]; exact Heap.get?_push_size _ rfl
  have gA : (hT.push (seqObj "list" #[] 0)).get? a' = some (seqObj "list" #[] e1) := by
    rw [← ek]
    exact Heap.get?_push_of_some _ (Heap.get?_push_of_some _ ho1)
  unfold ksk_tree
  refine wpAny_bind (listItems_at hc1 rfl ?_)
  refine wpAny_bind (listUpdate_at hc1 rfl ?_ (by rw [List.size_toArray]; exact hzi) (Nat.zero_le _))
  refine wpAny_bind (seqEpoch_at ho1 rfl ?_)
  refine wpAny_bind (wpAny_newTuple ?_ (by show its.length ≤ _; exact hzi))
  refine wpAny_bind (wpAny_newList ?_ (Nat.zero_le _))
  refine wpAny_holding ?_
  have e9 : (seqObj "tuple" its.toArray 0 : Obj) = seqObj "tuple" its.toArray 0 := rfl
  show wpAny _ _ (ksk_rest a' (.ref f) false its.toArray e1 (.ref (((PySem.W.copyHeap s.heap its).update a' (Obj.mapSeq fun _ => (#[] : Array Value))).push (seqObj "tuple" its.toArray 0)).objs.size)) _ _ { s with heap := (((PySem.W.copyHeap s.heap its).update a' (Obj.mapSeq fun _ => (#[] : Array Value))).push (seqObj "tuple" its.toArray 0)).push (seqObj "list" #[] 0) }
  rw [ek, ekS]
  have pinA : ∀ {H' : Hp} {s' : Shared}, Inv X (pins ++ [(a', seqObj "list" #[] e1)]) σ H' s' → s'.heap.get? a' = some (seqObj "list" #[] e1) ∧ H' a' = none := fun {H' s'} J => by
    obtain ⟨p1, p2, _⟩ := J.pin (a', seqObj "list" #[] e1) (List.mem_append_right _ (List.mem_append_right _ (List.mem_singleton.mpr rfl)))
    exact ⟨p1, p2⟩
  have I3 : Inv X (pins ++ [(a', seqObj "list" #[] e1)]) σ H { s with heap := hT.push (seqObj "list" #[] 0) } := I2.pins_of fun p hp => by
    rcases List.mem_append.mp hp with hp | hp
    · exact I2.pin p (List.mem_append_right _ hp)
    · rw [List.mem_singleton.mp hp]
      exact ⟨gA, nA, fA.2.1, fA.2.2.1, fun v z => by cases z⟩
  unfold ksk_rest
  refine wpAny_bind (wpAny_rule ?_)
  first
    | rw [List.forIn_toArray]
    | (rw [← Array.forIn_toList]; simp only [List.toList_toArray])
    | rw [← Array.forIn_toList]
  refine wpAny_bind (ksk_fold (fun i s' => ∃ H' ks kA e, Inv X (pins ++ [(a', seqObj "list" #[] e1)]) σ H' s' ∧ s'.heap.get? kS = some (seqObj "list" kA e) ∧ H' kS = none ∧ Vals ks kA.toList ∧ ks.length = i ∧ J i H' ks) its 0 _
    ⟨H, [], #[], 0, I3, gK, nK, .nil, rfl, j0⟩ ?step ?done)
  case step =>
    rintro j x s' hx ⟨H', ks, kA, e, I', nk', hK', hv, hln, hJ⟩
    simp only [Nat.zero_add] at hln hJ ⊢
    have hj : j < its.length := (List.getElem?_eq_some_iff.mp hx).1
    obtain ⟨xv, hxv, rxv⟩ := vals_back rv hx
    have hz : kA.size = j := by
      have h1 := hv.length
      have h2 : kA.toList.length = kA.size := Array.length_toList
      omega
    have I'' : Inv X ((pins ++ [(a', seqObj "list" #[] e1)]) ++ [(kS, seqObj "list" kA e)]) σ H' s' := I'.pins_of fun p hp => by
      rcases List.mem_append.mp hp with hp | hp
      · exact I'.pin p (List.mem_append_right _ hp)
      · rw [List.mem_singleton.mp hp]
        exact ⟨nk', hK', fK.2.1, fK.2.2.1, fun v z => by cases z⟩
    refine wpAny_bind (wpAny_attempt (wpAny_mono (turn j xv x ks _ s' H' hxv rxv I'' hJ) (fun v s'' he => ?_) fun _ _ hF => hF.elim))
    obtain ⟨w, H2, I4, rw4, hJ2⟩ := he
    have nk2 : s''.heap.get? kS = some (seqObj "list" kA e) ∧ H2 kS = none := by
      obtain ⟨p1, p2, _⟩ := I4.pin (kS, seqObj "list" kA e) (List.mem_append_right _ (List.mem_append_right _ (List.mem_singleton.mpr rfl)))
      exact ⟨p1, p2⟩
    have I5 : Inv X (pins ++ [(a', seqObj "list" #[] e1)]) σ H2 s'' := I4.unpinned
    have s1 := Heap.SameBut.update s''.heap kS (Obj.mapSeq (·.push v))
    obtain ⟨c2, hc2⟩ : ∃ c2, (s''.heap.update kS (Obj.mapSeq (·.push v))).get? kS = some (seqObj "list" (kA.push v) c2) := ⟨_, get?_update_seq nk2.1 (·.push v)⟩
    have I6 : Inv X (pins ++ [(a', seqObj "list" #[] e1)]) σ H2 { s'' with heap := s''.heap.update kS (Obj.mapSeq (·.push v)) } := by
      obtain ⟨_, f1, _, f3, f4, f5⟩ := fK
      refine I5.turned (t' := s''.toks) (it := kS) (fun b o hb e => (s1.2 b hb).trans e) nk2.2 f1 f3 f4 fun p hp => ?_
      rcases List.mem_append.mp hp with hp | hp
      · exact f5 p (List.mem_append_left _ hp)
      · rcases List.mem_append.mp hp with hp | hp
        · exact f5 p (List.mem_append_right _ hp)
        · rw [List.mem_singleton.mp hp]
          exact hka.symm
    refine wpAny_bind (listUpdate_at nk2.1 rfl ?_ (by omega) (Nat.le_trans (Nat.le_of_eq (Array.size_push ..)) (by omega)))
    have ea : (kA.push v).toList = kA.toList ++ [v] := by simp
    exact wpAny_pure ⟨rfl, H2, ks ++ [w], kA.push v, c2, I6, hc2, nk2.2, by rw [ea]; exact vals_snoc hv rw4, by simp [hln], hJ2⟩
  case done =>
    rintro s' ⟨H', ks, kA, e, I', nk', hK', hv, hln, hJ⟩
    rw [Nat.zero_add] at hln hJ
    obtain ⟨kds, kz, hr, hp, hcs, hkl, q⟩ := fin H' ks (by rw [lz]; exact hJ)
    obtain ⟨c1, c2, c3⟩ := canSort_iff hcs
    obtain ⟨as, ra⟩ := RepL.reads I' hr hv hp
    have hk' := readsAll_each ra
    have kzl := pyL_len hp
    have hsz : kA.size = its.length := by
      have h1 := hv.length
      have h2 : kA.toList.length = kA.size := Array.length_toList
      omega
    refine wpAny_bind (listItems_at nk' rfl ?_)
    have hfr : (s'.heap.update kS fun o => { o with data := .freed }).get? kS = none := freed_self _ _
    obtain ⟨nA', hA'⟩ := pinA I'
    refine PySem.W.keyH_end (κ := PySem.W.dataKind s'.heap kz) (h₁ := s'.heap.update kS fun o => { o with data := .freed }) (fun b o hb e => ?_) hfr nk' nA' hka (PySem.W.SortsAt.data hk' c1 c2 fun d hd => ?_) hsz hzi fun h3 tk3 c k3 n3 => ?_
    · have hb2 : b ≠ kS := fun z => by rw [z, hfr] at e; cases e
      rw [Heap.get?_update_ne _ _ _ _ hb2] at e
      exact e
    · have := c3 d hd
      show X.A.units + 1 + 1 + d.depth < cLine
      omega
    · refine ⟨rfl, ?_⟩
      have ko : PySem.W.KeyedOut false kz its (PySem.W.sortVals (PySem.W.dataKind s'.heap kz) false kA.toList its) := ⟨s'.heap, kA.toList, c1, rfl, hk'⟩
      have l1 : kz.length = ds.length := by omega
      have mf := map_fst3 l1 dl
      rw [← mf] at ko
      have eo := PySem.W.keyedOut_each Prod.fst ko (each3 rv l1 dl)
      rw [mf] at eo
      obtain ⟨ys, v1, v2, v3⟩ := sort_out (us := its) l1 dl eo
      have kp : ∀ b o, b ≠ a' → b ≠ kS → s'.heap.get? b = some o → h3.get? b = some o := fun b o h1 h2 e => k3 b o h1 (by rw [Heap.get?_update_ne _ _ _ _ h2]; exact e)
      have nb : ∀ b u, H' b = some u → b ≠ a' ∧ b ≠ kS := fun b u e => ⟨fun z => (by rw [z, hA'] at e; cases e), fun z => (by rw [z, hK'] at e; cases e)⟩
      have I7 : Inv X pins σ H' s' := I'.unpinned
      have un : Un (frs X.stack) [a', kS] H' (upd H' a' (.lst ys)) s'.heap h3 := by
        refine ⟨fun b o e n hb hx => ?_, fun b o e n hb hx => ⟨o.slots, ?_⟩, fun b o e n hx => ?_, fun b o e hx => ⟨o, ?_⟩, fun b xs e => ?_, fun b o u e => ?_, fun b qs e => ⟨#[], ?_⟩⟩
        · simp only [List.mem_cons, List.not_mem_nil, or_false, not_or] at hx
          exact kp b o hx.1 hx.2 e
        · simp only [List.mem_cons, List.not_mem_nil, or_false, not_or] at hx
          exact kp b o hx.1 hx.2 e
        · simp only [List.mem_cons, List.not_mem_nil, or_false, not_or] at hx
          rw [upd_ne hx.1]; exact n
        · simp only [List.mem_cons, List.not_mem_nil, or_false, not_or] at hx
          exact kp b o hx.1 hx.2 e
        · rw [upd_ne (nb b _ e).1]; exact e
        · rw [upd_ne (nb b _ e).1]; exact e
        · rw [upd_ne (nb b _ e).1, e]; simp
      have hok : HOk X.prog X.w (upd H' a' (.lst ys)) h3 := fun b u e => by
        by_cases hb : b = a'
        · subst hb
          rw [upd_same] at e
          cases e
          exact ⟨by rw [v2]; omega, _, c, v1, n3⟩
        · rw [upd_ne hb] at e
          refine (I7.hok b u e).stay (fun d v hd q => ?_) (fun d q => by rw [upd_ne (nb d _ q).1]; exact q) fun d xs q => by rw [upd_ne (nb d _ q).1]; exact q
          rcases hd with z | z
          · rw [z]; rw [z] at q
            exact kp b v hb (nb b u e).2 q
          · exact kp d v (nb d _ z).1 (nb d _ z).2 q
      have I8 : Inv X pins σ (upd H' a' (.lst ys)) { s' with heap := h3, toks := tk3 } := by
        refine I7.call (g' := s'.gens) (d' := s'.drawn) (t' := tk3) un hok I7.bare fun b hb => ?_
        rcases List.mem_cons.mp hb with z | hb
        · subst z
          obtain ⟨_, f1, _, f3, f4, f5⟩ := fA
          exact ⟨f3, f1, f4, f5⟩
        · rw [List.mem_singleton.mp hb]
          obtain ⟨_, f1, _, f3, f4, f5⟩ := fK
          exact ⟨f3, f1, f4, f5⟩
      exact ⟨.ref a', _, I8, rfl, q ys a' (by omega) (fun F => v3 _ _ F) hA'⟩
end
end Fu

namespace Fu
open PySem L2 PyProof.Rows PySem.Spec
open PySem.W (AllAlike Sortable alike EachIs dataLe dataLt)
/-! ### a body run on data -/
theorem spF_run {K : PySem.W.Frag} {mg : Mg} {N : List Str} {np : Nat} {g : FS} {ts : TS} {vs : List V} {H : Hp} {Q : VK} {E : XK}
    (sem : ∀ F H env σ D, EnvOK K mg F H (up env) σ → SPost K mg (fun cls d _ H => E cls d H) F (g env) D → ts D σ H) (h : spF K mg np (run N.length g) vs H Q E) : ts { nx := fun _ H' => Q .non H', rt := Q } (L2.start N vs) H := by
  obtain ⟨ds, h1, h2, h3, h4⟩ := h
  refine sem H H (start N.length ds) _ _ (envOK_start h1 h4) ?_
  unfold run at h3
  cases e : g (start N.length ds) with
  | none => rw [e] at h3; exact h3.elim
  | some o =>
    rw [e] at h3
    cases o with
    | nx env => exact fun F' H' σ' e1 I => h3 .non H' [] (e1.trans I.fh) ⟨rfl, .non⟩ rfl List.nodup_nil (fun _ m => by cases m)
    | bk env => exact h3.elim
    | ct env => exact h3.elim
    | rt x =>
      intro v F' H' fp e1 e2 t r nd hf
      have h3 : MPost K mg H (if x.pure then .ok x else .bad) Q E := h3
      split at h3
      · rename_i hp
        exact h3 v H' fp (e1.trans e2) (Own.moveF e2 (TupIn.refl H') hp r) hp nd fun a m => e1.back (hf a m)
      · exact h3.elim
    | ex x env => exact fun F' H' σ' cls d e1 I xa => h3 H' cls d (e1.trans I.fh) xa
/-! ### sorted(xs, key=lambda x: ..) -/
def capsD (env : En) : List Nat → Option (List D)
  | [] => some []
  | j :: js => match env[j]?, capsD env js with
    | some (some t), some ds => some (t.data :: ds)
    | _, _ => none
def keysM (m : List D → M O) (cs : List D) : List D → Option (List D)
  | [] => some []
  | d :: ds => match m (d :: cs), keysM m cs ds with
    | .ok k, some r => some (k.data :: r)
    | _, _ => none
def sortK (ks ds : List D) : Option T := (D.pyL ks).bind fun ps => if canSort ps then some (.o (.lst ((sortBy ps ds).map O.sh))) else none
def eSortK (g : FE) (js : List Nat) (m : List D → M O) : FE := fun env => do
  let t ← g env
  let ds ← M.of t.sortL
  M.of ((capsD env js).bind fun cs => (keysM m cs ds).bind fun ks => sortK ks ds)
theorem keysM_len {m : List D → M O} {cs : List D} : ∀ {ds ks : List D}, keysM m cs ds = some ks → ks.length = ds.length
  | [], ks, h => by rw [keysM] at h; cases h; rfl
  | d :: ds, ks, h => by
    rw [keysM] at h
    split at h
    · rename_i k r e1 e2
      cases h
      simp [keysM_len e2]
    · cases h
theorem keysM_get {m : List D → M O} {cs : List D} : ∀ {ds ks : List D} {i : Nat} {d : D}, keysM m cs ds = some ks → ds[i]? = some d → ∃ k, m (d :: cs) = .ok k ∧ ks[i]? = some k.data
  | [], ks, i, d, _, h => by simp at h
  | e :: ds, ks, i, d, h, hd => by
    rw [keysM] at h
    split at h
    · rename_i k r e1 e2
      cases h
      cases i with
      | zero => simp at hd; subst hd; exact ⟨k, e1, rfl⟩
      | succ i =>
        obtain ⟨k2, a, b⟩ := keysM_get (i := i) e2 (by simpa using hd)
        exact ⟨k2, a, by simpa using b⟩
    · cases h
theorem caps_rep {K : PySem.W.Frag} {mg : Mg} {F H : Hp} {env : En} {σ : L2.St} (I : EnvOK K mg F H env σ) : ∀ {js : List Nat} {cs : List D}, capsD env js = some cs → ∃ ws, js.map (NdefX.slotAt σ) = ws.map some ∧ RepL K mg H ws cs
  | [], cs, h => by rw [capsD] at h; cases h; exact ⟨[], rfl, .nil⟩
  | j :: js, cs, h => by
    rw [capsD] at h
    split at h
    · rename_i t ds e1 e2
      cases h
      obtain ⟨fp, _, _, hs⟩ := I.sl
      obtain ⟨v, _, _, _, a, _, c⟩ := hs.get I.fh e1
      obtain ⟨ws, b1, b2⟩ := caps_rep I e2
      exact ⟨v :: ws, by rw [List.map_cons, List.map_cons, NdefX.slotAt_of a, b1], .cons (c.rep I.fh) b2⟩
    · cases h
theorem capsD_len {env : En} : ∀ {js : List Nat} {cs : List D}, capsD env js = some cs → cs.length = js.length
  | [], cs, h => by rw [capsD] at h; cases h; rfl
  | j :: js, cs, h => by
    rw [capsD] at h
    split at h
    · rename_i t ds e1 e2
      cases h
      simp [capsD_len e2]
    · cases h
abbrev E0 : XK := fun _ _ _ => False
/-- the reading of such a call, its list and its lambda at hand -/
def SKq (K : PySem.W.Frag) (mg : Mg) (js : List Nat) (n : Nat) (m : List D → M O) (lam : Addr → Addr → HO) (σ : L2.St) (Q : VK) (v : V) (f c' : Addr) (q : Str) (H2 : Hp) : Prop :=
  ∃ (J : Nat → Hp → List V → Prop) (a : Addr) (vs : List V) (ds : List D), v = .ref a ∧ SqL K H2 a vs ∧ vs.length = ds.length ∧ J 0 H2 [] ∧
    (∀ (i : Nat) (x : V) (ks : List V) (H' : Hp), vs[i]? = some x → J i H' ks → H' f = some (lam f c') ∧ H' c' = some (LamX.CodeO c' q) ∧ ∃ ws, js.map (NdefX.slotAt σ) = ws.map some ∧ spF K mg n m (x :: ws) H' (fun v H2 => J (i + 1) H2 (ks ++ [v])) E0) ∧
    (∀ H' ks, J vs.length H' ks → ∃ kds kz, RepL K mg H' ks kds ∧ D.pyL kds = some kz ∧ canSort kz = true ∧ kds.length = vs.length ∧
      ∀ ys p, ys.length = vs.length → (∀ F, RepL K mg F vs ds → RepL K mg F ys (sortBy kz ds)) → H' p = none → Q (.ref p) (upd H' p (.lst ys)))
def SKp (K : PySem.W.Frag) (mg : Mg) (P : Addr) (js : List Nat) (n : Nat) (m : List D → M O) (lam : Addr → Addr → HO) (σ : L2.St) (Q : VK) (v : V) (H1 : Hp) : Prop := TabG H1 P ∧ ∀ (f c' : Addr) (q : Str) (H2 : Hp), Ex H1 H2 → (∀ b vs, H2 b = some (.tup vs) → H1 b = some (.tup vs)) → H2 f = some (lam f c') → H2 c' = some (LamX.CodeO c' q) → SKq K mg js n m lam σ Q v f c' q H2
def tSK (K : PySem.W.Frag) (mg : Mg) (P : Addr) (js : List Nat) (n : Nat) (m : List D → M O) (lam : Addr → Addr → HO) (te : TE) : TE := fun σ H Q => te σ H (SKp K mg P js n m lam σ Q)
def tLamM (P : Addr) (lam : Addr → Addr → HO) : TE := fun _ H1 Q => TabG H1 P ∧ ∀ (f c' : Addr) (q : Str) (H2 : Hp), Ex H1 H2 → (∀ b vs, H2 b = some (.tup vs) → H1 b = some (.tup vs)) → H2 f = some (lam f c') → H2 c' = some (LamX.CodeO c' q) → Q (.ref f) H2
theorem start_app (N : List Str) (x : V) (ws : List V) : NdefX.startF N [x] (ws.map some) = L2.start N (x :: ws) := by
  unfold NdefX.startF L2.start
  simp [Nat.sub_sub, Nat.add_comm]
section
variable {X : Cx} {W : WX} {a : Expr} {te : TE} {g : FE} {p pos kpos lpos : Pos} {js : List Nat} {Nl fr : List Str} {x : Str} {params : Arguments} {body : Expr} {scope : Scope} {c P : Addr} {k : Nat} {gb : FE} {nn : Nat} {m : List D → M O}
theorem pe_sortK (hr : Room (k + 3) X.A) (hg : Gl X "sorted") (hm : X.mg "sorted" = none) (ha : PE X a te) (TB : LamX.TabB X.base X.mg c P) (hcode : X.env.code = .ref c) (S : NdefX.NScope Nl [x] fr scope) (hnd : NdefX.ndefB X.env.scope scope fr = true)
    (hjs : js.map (fun j => X.N[j]?) = fr.map some)
    (hbind : ∀ (q0 : Str) (cl : List (Str × Addr)) (pm cv ctv : Value) (us : List Value), us.length = 1 → bindArgs (PySem.W.kla_fn "<lambda>" q0 params body scope cl pm cv ctv) ⟨us, []⟩ = pure ([x].zip us))
    (hbody : ∀ (q : Str) (f c' : Addr) (A : Around) (outer : List Env) (s : Shared) (H : Hp), Room k (A.deeper (NdefX.envF (lamF q params scope (cloFrom X.env.cells scope.names []) c') f s.heap.objs.size)) →
      ∃ teb, RE (NdefX.ncx (L2.CX X.prog X.w) X.prog X.w X.K X.mg X.base Nl (lamF q params scope (cloFrom X.env.cells scope.names []) c') f A outer s H E0) W0 body teb gb)
    (hdef : defaultsOf params X.env = ([], []) := by rfl)
    (he : backTo pos (starEach [a] X.env) = (false, eval a X.env) :: backTo pos (starEach [] X.env) := by rfl) (hs : starEach [a] X.env = (false, eval a X.env) :: starEach [] X.env := by rfl) (hpl : (backTo pos (starEach [a] X.env)).any (·.1) = false := by rfl)
    (hall : (backToKw pos (keywordEach [⟨some "key", .Lambda params body scope lpos, kpos⟩] X.env)).all (·.1.isSome) = true := by rfl) (hnone : (backToKw pos (keywordEach [⟨some "key", .Lambda params body scope lpos, kpos⟩] X.env)).any (·.1.isNone) = false := by rfl)
    (hks : (backToKw pos (keywordEach [⟨some "key", .Lambda params body scope lpos, kpos⟩] X.env)).filterMap (·.1) = [Str.ofString "key"] := by rfl) :
    PE X (.Call (.Name "sorted" p) [a] [⟨some "key", .Lambda params body scope lpos, kpos⟩] pos) (tSK X.K X.mg P js (1 + js.length) (run Nl.length (retS gb)) (fun f c' => LamO f (X.env.qual ++ "<lambda>") params body scope (cloFrom X.env.cells scope.names []) c') te) := by
  have hfree := NdefX.ndef_free hnd
  have hfr := NdefX.ndef_fr hnd
  have pl : PE X (.Lambda params body scope lpos) (tLamM P fun f c' => LamO f (X.env.qual ++ "<lambda>") params body scope (cloFrom X.env.cells scope.names []) c') := ⟨fun pins s σ H Q I h => by
    have hfc : ∀ y ∈ scope.names, y.2 = .free → ∃ c, X.env.cells.lookup y.1 = some c := fun y hy e => (hfree y hy e).elim (fun z => I.ok.has _ (.inl z)) fun z => I.ok.has _ (.inr z)
    exact lam_make3 I TB hcode h.1 hdef hfc fun f c' q H2 s2 I2 e2 t2 hf hc => ⟨.ref f, H2, I2, rfl, h.2 f c' q H2 e2 t2 hf hc⟩⟩
  refine ⟨fun pins s σ H Q I h => ?_⟩
  refine wpAny_Call_Name_kw (ld_blt I hg hm PyProof.Rows.boot_sorted ?_ (by decide) (by decide))
  refine PyProof.Rows.callWith_kw (thn ((pa_cons ha pa_nil hs).run pos pins s σ H (fun vs H1 => match vs with
    | [v] => SKp X.K X.mg P js (1 + js.length) (run Nl.length (retS gb)) (fun f c' => LamO f (X.env.qual ++ "<lambda>") params body scope (cloFrom X.env.cells scope.names []) c') σ Q v H1
    | _ => False) I h) fun us s1 ⟨vs, H1, I1, r1, q1⟩ => ?_) he hpl hall hnone
  rw [hks]
  cases r1 with
  | nil => exact q1.elim
  | @cons v u vs us ru r1 =>
  cases r1 with
  | cons _ _ => exact q1.elim
  | nil =>
  have q1 : SKp X.K X.mg P js (1 + js.length) (run Nl.length (retS gb)) (fun f c' => LamO f (X.env.qual ++ "<lambda>") params body scope (cloFrom X.env.cells scope.names []) c') σ Q v H1 := q1
  refine thn ((pk_cons (nm := some "key") (kpos := kpos) pl pk_nil).run pos pins s1 σ H1 (fun zs H2 => match zs with
    | [.ref f] => ∃ c' q, H2 f = some (LamO f (X.env.qual ++ "<lambda>") params body scope (cloFrom X.env.cells scope.names []) c') ∧ H2 c' = some (LamX.CodeO c' q) ∧ SKq X.K X.mg js (1 + js.length) (run Nl.length (retS gb)) (fun f c' => LamO f (X.env.qual ++ "<lambda>") params body scope (cloFrom X.env.cells scope.names []) c') σ Q v f c' q H2
    | _ => False) I1 ⟨q1.1, fun f c' q H2 e2 t2 hf hc => ⟨c', q, hf, hc, q1.2 f c' q H2 e2 t2 hf hc⟩⟩) fun ws s2 ⟨zs, H2, I2, r2, q2⟩ => ?_
  cases r2 with
  | nil => exact q2.elim
  | @cons z uz zs us rz r2 =>
  cases r2 with
  | cons _ _ => cases z <;> exact q2.elim
  | nil =>
  obtain ⟨f, ez⟩ : ∃ f, z = .ref f := by
    cases z with
    | ref f => exact ⟨f, rfl⟩
    | _ => exact q2.elim
  subst ez
  obtain rfl : uz = Value.ref f := rz
  obtain ⟨c', q, hf, hc, J, a', vs, ds, ev, sq, dl, j0, turn, fin⟩ := q2
  subst ev
  obtain rfl : u = Value.ref a' := ru
  refine sortK_run (by have := hr.un; omega) I2 sq dl j0 (fun i x u ks pins' s' H' hx rx I' hJ => ?_) fin
  obtain ⟨hf', hc', ws, hw, hsp⟩ := turn i x ks H' hx hJ
  have C := NdefX.cells_of I' (NdefX.Caps.made I'.ok hfree hfr hjs)
  rw [hw] at C
  refine wpAny_call (codeAny_mono (lam_run (k := k) (CX := L2.CX X.prog X.w) (N := Nl) (Q := fun v H2 => J (i + 1) H2 (ks ++ [v])) (E := E0) S hbind (hr.in1.in1) I'.env0.in1.in1 hf' hc' C (.cons rx .nil) rfl fun hr' => ?_) fun r s3 hq => ?_)
  · obtain ⟨teb, hb⟩ := hbody q f c' _ _ s' H' hr'
    refine ⟨teb, hb.pe, ?_⟩
    rw [start_app]
    exact spF_run (N := Nl) (ts := tRet teb) (fun F H env σ D I q => (rs_ret (pos := pos) hb).sem F H env σ D I q) hsp
  · cases r with
    | error e =>
      obtain ⟨_, _, _, _, _, _, _, _, _, _, _, _, z⟩ := hq
      exact z.elim
    | ok fl =>
      cases fl with
      | ret u => exact I'.after hq
      | next => exact False.elim hq
      | brk => exact False.elim hq
      | cont => exact False.elim hq
theorem sortK_sem (hl : Nl.length = nn) (hM : Marks X.K P) (lam : Addr → Addr → HO) (hlam : ∀ f c' ps, lam f c' ≠ .tbl ps) (ha : ∀ F H env σ, EnvOK X.K X.mg F H env σ → ∀ Q : VK, RPost X.K X.mg W F H env (g env) Q → te σ H Q) {F H : Hp} {env : En} {σ : L2.St} (I : EnvOK X.K X.mg F H env σ) (Q : VK)
    (q : RPost X.K X.mg W F H env (eSortK g js m env) Q) : tSK X.K X.mg P js (1 + js.length) m lam te σ H Q := by
  refine ha F H env σ I _ ?_
  unfold eSortK at q
  cases e1 : g env with
  | bad => rw [e1] at q; exact q.elim
  | ex x => rw [e1] at q; exact q
  | ok t =>
    rw [e1] at q
    simp only [M.bind_ok] at q
    cases c : t.sortL with
    | none => rw [c] at q; exact q.elim
    | some ds =>
      rw [c] at q
      cases c2 : capsD env js with
      | none => rw [c2] at q; exact q.elim
      | some cs =>
        rw [c2] at q
        have q : RPost X.K X.mg W F H env (M.of ((keysM m cs ds).bind fun ks => sortK ks ds)) Q := q
        cases c3 : keysM m cs ds with
        | none => rw [c3] at q; exact q.elim
        | some kds =>
          rw [c3] at q
          have q : RPost X.K X.mg W F H env (M.of (sortK kds ds)) Q := q
          unfold sortK at q
          cases c4 : D.pyL kds with
          | none => rw [c4] at q; exact q.elim
          | some kz =>
            rw [c4] at q
            simp only [Option.bind_some] at q
            split at q
            · rename_i hc
              have q : VPost X.K X.mg F H (.o (.lst ((sortBy kz ds).map O.sh))) Q := q
              refine sortL_rep I.fh I.tu c fun v F1 H1 gr ⟨a, vs, ev, sq, r⟩ => ?_
              have I1 := I.grow gr
              refine ⟨I1.tb P hM, fun f c' q0 H2 e2 t2 hf hc' => ?_⟩
              have g12 : Grow F1 H1 F1 H2 := ⟨e2, fun _ _ => rfl, gr.fh.trans e2, fun b vs h => gr.tu b vs (t2 b vs h)⟩
              have hl1 := r.len
              have hl2 := keysM_len c3
              refine ⟨fun i H' ks => ∃ F', Grow F1 H2 F' H' ∧ RepL X.K X.mg F' ks (kds.take i), a, vs, ds, ev, e2.sl sq, hl1, ⟨F1, Grow.refl g12.fh g12.tu, by rw [List.take_zero]; exact .nil⟩, fun i x ks H' hx hJ => ?_, fun H' ks hJ => ?_⟩
              · obtain ⟨F', g3, rk⟩ := hJ
                refine ⟨g3.hh.at hf (hlam f c'), g3.hh.at hc' LamX.codeO_ne, ?_⟩
                have I3 := (I1.grow g12).grow g3
                obtain ⟨ws, w1, w2⟩ := caps_rep I3 c2
                refine ⟨ws, w1, ?_⟩
                obtain ⟨d, hd, rd⟩ := r.get' hx
                obtain ⟨k, k1, k2⟩ := keysM_get c3 hd
                have eF : Ex F1 F' := Grow.exF g12.fh g3
                refine ⟨d :: cs, .cons (rd.mono (eF.trans g3.fh)) w2, by rw [List.length_cons, capsD_len c2, Nat.add_comm], ?_, I3.tb⟩
                rw [k1]
                intro v2 H3 fq e3 ro hp nd kk
                have g4 := Grow.after g3.fh g3.tu e3
                have hd4 : ∀ b ∈ fq, H' b = none ∧ grown F' H' H3 b = none := fun b m => by
                  refine ⟨kk b m, grown_none (kk b m) fun vs z => ?_⟩
                  obtain ⟨u, hu, mu⟩ := Own.dom ro b m
                  rw [z] at hu
                  cases hu
                  exact mu
                have ro4 : Own X.K X.mg (grown F' H' H3) H3 k v2 fq := Own.moveF (Ex.refl H3) g4.tu hp ro
                have key : VPost X.K X.mg F' H' (.o k) (fun v H4 => ∃ F', Grow F1 H2 F' H4 ∧ RepL X.K X.mg F' (ks ++ [v]) (kds.take (i + 1))) := VPost.share fun v3 F5 H5 fp5 g5 r5 _ _ => by
                  refine ⟨F5, g3.trans g5, ?_⟩
                  have et : kds.take (i + 1) = kds.take i ++ [k.data] := by rw [List.take_add_one, k2]; rfl
                  rw [et]
                  exact RepL.app (rk.mono (Grow.exF g3.fh g5)) (.cons r5.2 .nil)
                exact key v2 _ H3 fq g4 ro4 nd hd4
              · obtain ⟨F', g3, rk⟩ := hJ
                rw [List.take_of_length_le (by omega)] at rk
                refine ⟨kds, kz, rk.mono g3.fh, c4, hc, by omega, fun ys p _ ry hp => ?_⟩
                obtain ⟨g5, o5, n5⟩ := new_lst g3.fh g3.tu hp (OwnL.shared (H := H') (ry F' (r.mono (Grow.exF g12.fh g3)))) List.nodup_nil
                exact q _ F' _ _ (((gr.trans g12).trans g3).trans g5) o5 n5 fun b m => by
                  rcases List.mem_cons.mp m with z | m
                  · subst z
                    exact ⟨gr.hh.back (e2.back (g3.hh.back hp)), g3.fh.none hp⟩
                  · cases m
            · exact q.elim
theorem re_sortK (hl : Nl.length = nn) (hM : Marks X.K P) (hr : Room (k + 3) X.A) (hg : Gl X "sorted") (hm : X.mg "sorted" = none) (ha : RE X W a te g) (TB : LamX.TabB X.base X.mg c P) (hcode : X.env.code = .ref c) (S : NdefX.NScope Nl [x] fr scope) (hnd : NdefX.ndefB X.env.scope scope fr = true)
    (hjs : js.map (fun j => X.N[j]?) = fr.map some)
    (hbind : ∀ (q0 : Str) (cl : List (Str × Addr)) (pm cv ctv : Value) (us : List Value), us.length = 1 → bindArgs (PySem.W.kla_fn "<lambda>" q0 params body scope cl pm cv ctv) ⟨us, []⟩ = pure ([x].zip us))
    (hbody : ∀ (q : Str) (f c' : Addr) (A : Around) (outer : List Env) (s : Shared) (H : Hp), Room k (A.deeper (NdefX.envF (lamF q params scope (cloFrom X.env.cells scope.names []) c') f s.heap.objs.size)) →
      ∃ teb, RE (NdefX.ncx (L2.CX X.prog X.w) X.prog X.w X.K X.mg X.base Nl (lamF q params scope (cloFrom X.env.cells scope.names []) c') f A outer s H E0) W0 body teb gb)
    (hdef : defaultsOf params X.env = ([], []) := by rfl)
    (he : backTo pos (starEach [a] X.env) = (false, eval a X.env) :: backTo pos (starEach [] X.env) := by rfl) (hs : starEach [a] X.env = (false, eval a X.env) :: starEach [] X.env := by rfl) (hpl : (backTo pos (starEach [a] X.env)).any (·.1) = false := by rfl)
    (hall : (backToKw pos (keywordEach [⟨some "key", .Lambda params body scope lpos, kpos⟩] X.env)).all (·.1.isSome) = true := by rfl) (hnone : (backToKw pos (keywordEach [⟨some "key", .Lambda params body scope lpos, kpos⟩] X.env)).any (·.1.isNone) = false := by rfl)
    (hks : (backToKw pos (keywordEach [⟨some "key", .Lambda params body scope lpos, kpos⟩] X.env)).filterMap (·.1) = [Str.ofString "key"] := by rfl) :
    RE X W (.Call (.Name "sorted" p) [a] [⟨some "key", .Lambda params body scope lpos, kpos⟩] pos) (tSK X.K X.mg P js (1 + js.length) (run nn (retS gb)) (fun f c' => LamO f (X.env.qual ++ "<lambda>") params body scope (cloFrom X.env.cells scope.names []) c') te) (eSortK g js (run nn (retS gb))) := by
  subst hl
  exact ⟨pe_sortK hr hg hm ha.pe TB hcode S hnd hjs hbind hbody hdef he hs hpl hall hnone hks, fun F H env σ I Q q => sortK_sem (nn := Nl.length) (Nl := Nl) rfl hM _ (fun f c' ps z => by unfold LamO at z; cases z) ha.sem I Q q⟩
end
end Fu

namespace Fu
open PySem L2 PyProof.Rows PySem.Spec
theorem Room.hu {k : Nat} {A : Around} (hr : Room k A) : A.units + 150 < cLine := by have := hr.un; omega
theorem hu64 {A : Around} (h : A.units + 150 < cLine) : A.units + 64 < cLine := by omega
/-! ### K with a mark -/
abbrev mkK (K : PySem.W.Frag) (a0 : Addr) (Ps : List Addr) : PySem.W.Frag := K ++ [(a0, markO Ps)]
section
variable {K : PySem.W.Frag} {a0 : Addr} {o : Obj} {Ps : List Addr}
theorem lookup_mark (h : K.lookup a0 = some o) (a : Addr) : (mkK K a0 Ps).lookup a = K.lookup a := by
  unfold mkK
  rw [List.lookup_append]
  cases e : K.lookup a with
  | some u => rfl
  | none =>
    have : a ≠ a0 := fun z => by rw [z, h] at e; cases e
    have hb : (a == a0) = false := by simpa using this
    simp [List.lookup, hb]
theorem codeIn_mark (h : K.lookup a0 = some o) (cd : Value) (q : Str) : PySem.W.codeIn (mkK K a0 Ps) cd q = PySem.W.codeIn K cd q := by
  unfold PySem.W.codeIn
  cases cd <;> first | rfl | (simp only [lookup_mark h])
theorem keepIn_fun (h : K.lookup a0 = some o) {f : Addr} {oc : Value} {od : Option Addr} {fd : FuncData} {osl : Array (Option Value)} (l : K.lookup f = some ⟨oc, od, .func fd, osl⟩) : PySem.W.keepIn (mkK K a0 Ps) (.ref f) = true := by
  unfold PySem.W.keepIn
  simp only [lookup_mark h, l]
theorem in_mark (h : K.lookup a0 = some o) {hp : Heap} (X : K.In hp) : (mkK K a0 Ps).In hp := fun a o e => X a o (by rw [← lookup_mark h]; exact e)
theorem in_unmark (h : K.lookup a0 = some o) {hp : Heap} (X : (mkK K a0 Ps).In hp) : K.In hp := fun a o e => X a o (by rw [lookup_mark h]; exact e)
theorem fun_mark (h : K.lookup a0 = some o) {x qual : Str} {st : Stmt} {f : Addr} {fd : FuncData} (F : Fun K x qual st f fd) : Fun (mkK K a0 Ps) x qual st f fd := by
  obtain ⟨oc, od, kV, doc, pm, an, cdv, ct, osl, e, l, c⟩ := F.ex
  exact ⟨⟨oc, od, kV, doc, pm, an, cdv, ct, osl, e, by rw [lookup_mark h]; exact l, by rw [codeIn_mark h]; exact c⟩, keepIn_fun h l⟩
theorem mark_inj {Ps Qs : List Addr} (h : markO Ps = markO Qs) : Ps = Qs := by
  unfold markO at h
  have h1 : Data.seq (Ps.map Value.ref).toArray 0 = Data.seq (Qs.map Value.ref).toArray 0 := congrArg Obj.data h
  injection h1 with h2 _
  have h3 : Ps.map Value.ref = Qs.map Value.ref := by simpa using congrArg Array.toList h2
  exact (List.map_inj_right (fun _ _ z => by injection z)).mp h3
theorem marks_mem {P : Addr} (m : Marks (mkK K a0 Ps) P) : P ∈ Ps := by
  obtain ⟨K1, a1, Qs, e, hm⟩ := m
  have e2 := List.append_inj_right' e rfl
  have e3 : markO Ps = markO Qs := by
    injection e2 with e4 _
    exact congrArg Prod.snd e4
  rw [mark_inj e3]
  exact hm
theorem marks_of {P : Addr} (m : P ∈ Ps) : Marks (mkK K a0 Ps) P := ⟨K, a0, Ps, rfl, m⟩
theorem tabG_nil {H : Hp} {P : Addr} (h : H P = some (.tbl #[])) : TabG H P := ⟨#[], h, True.intro, fun pos cv hc => by
  have z : codeAmong pos [] = some cv := hc
  simp [codeAmong] at z⟩
end
section
variable {P : Program} {w : World} {K : PySem.W.Frag} {mg : Mg} {base : Heap}
/-- THE RULE for a def, its code object told -/
theorem fn_FT {x qual : Str} {st : Stmt} {f : Addr} {fd : FuncData} {N ps : List Str} {k n np : Nat} {g : FS} (hn : N.length = n) (hnp : ps.length = np) (F : Fun K x qual st f fd) (S : FnScope N ps (defScope st))
    (hb : ∀ (A : Around) (outer : List Env) (s : Shared) (H : Hp) (E : XK), Room k (A.deeper (envOfC qual (defScope st) s.heap.objs.size f fd.code)) →
      ∃ ts, RB (cxOf (L2.CX P w) P w K mg base N qual (defScope st) f fd.code A outer s H E) (fun cls d _ H => E cls d H) (defBody st) ts g) :
    FnOk P w K mg base (L2.CX P w) (k + 1) f fd ps (spF K mg np (run n g)) := by
  subst hn hnp
  obtain ⟨oc, od, kV, doc, pm, an, cdv, ct, osl, rfl, lk, hcd⟩ := F.ex
  refine fn_of lk hcd S (fun vs H Q E h => ?_) fun A outer s H vs Q E hr h => ?_
  · obtain ⟨ds, h1, h2, _⟩ := h
    rw [h1.len, h2]
  · obtain ⟨ts, hb⟩ := hb A outer s H E hr
    exact ⟨ts, hb.ps, spF_run hb.sem h⟩
end
/-- a def with a table of its own -/
structure TbAt (K : PySem.W.Frag) (mg : Mg) (base : Heap) (fd : FuncData) (c P : Addr) : Prop where
  code : fd.code = .ref c
  tb : LamX.TabB base mg c P
  mk_ : Marks K P
/-- the end, for a K with a mark -/
theorem walk_mark {l : PySem.W.OpenLaw} {n k : Nat} {q : Program} {loose : List Str} {XP : (Str → Option Value) → Heap → Prop} {YP : World → Heap → Prop} {d : DefRec} {x : Str} {K : Params → PySem.W.Frag} {Ps : List Addr}
    (hn : l.most = some n) (hn2 : n ≤ 63) (hdf : d.params.defaults = []) (hr : Room k callerA) (hY : ∀ (w : World) (h : Heap), YP w h → (K w.params).In h) (hT : ∀ (w : World) (h : Heap), YP w h → ∀ P ∈ Ps, h.get? P = some { cls := .none, data := .fields #[] })
    (F : ∀ (w : World) (mg : Str → Option Value) (fa : Addr) (h : Heap), (K w.params).In h → h.Ns mainGlobals mg → mg d.name = some (.ref fa) →
      ∃ (fd : FuncData) (cs : List (Addr × Addr)) (o : Obj), cs.map (·.2) = Ps ∧ (K w.params).lookup fa = some o ∧ (∀ p ∈ cs, PySem.W.codeHdIn (K w.params) p.1 p.2 = true ∧ (K w.params).lookup p.2 = none) ∧ (∀ (s : Shared) (u : Value), BindsTo s fd ⟨[u], []⟩ [(x, u)]) ∧
        ∀ base : Heap, base.Ns mainGlobals mg → (∀ p ∈ cs, LamX.TabB base mg p.1 p.2) → FnOk l.prog w (mkK (K w.params) fa Ps) mg base (L2.CX l.prog w) k fa fd [x] (spLaw (mkK (K w.params) fa Ps))) :
    PySem.W.WalkO q loose XP YP l.row.toRowW d [] (fun f vs => PySem.call f vs) := by
  refine LamX.walk_ofTsE (x := x) (CX := fun w => L2.CX l.prog w) hn (Nat.le_trans hn2 (by decide)) hdf hr (fun w mg fa h Y G hmg => ?_) fun _ _ _ _ _ z => ?_
  · have KX := hY w h Y
    obtain ⟨fd, cs, o, rfl, lk, hc, hb, hF⟩ := F w mg fa h KX G hmg
    refine ⟨mkK (K w.params) fa (cs.map (·.2)), in_mark lk KX, fd, cs, _, fun p hp => hT w h Y p.2 (List.mem_map.mpr ⟨p, hp, rfl⟩), fun p hp => ?_, fun p hp => PySem.W.codeHd_of_K KX (hc p hp).1, hb, fun H a ns hl _ hH hS => ?_, fun base _ G' TB => hF base G' TB⟩
    · rw [lookup_mark lk]; exact (hc p hp).2
    · refine ⟨a, ns, rfl, hS, Nat.le_trans hl hn2, fun _ => rfl, fun P m => ?_⟩
      obtain ⟨p, hp, e⟩ := List.mem_map.mp (marks_mem m)
      exact tabG_nil (by rw [← e]; exact hH p hp)
  · obtain ⟨_, _, _, _, _, _, _, _, _, _, _, _, z⟩ := z
    exact z.elim
end Fu

namespace Fu
open PySem L2 PyProof.Rows PySem.Spec
/-! ### xs.count(y) -/
def D.atom : D → Bool
  | .int _ => true
  | .str _ => true
  | _ => false
def D.one : D → Bool
  | .int _ => true
  | .str _ => true
  | .tup xs => xs.all D.atom
  | _ => false
def valV : V → D
  | .int i => .int i
  | .str z => .str z
  | _ => .non
def val1 (H : Hp) : Value → D
  | .int i _ => .int i
  | .str z _ => .str z
  | .ref a => match H a with
    | some (.tup vs) => .tup (vs.map valV)
    | _ => .non
  | _ => .non
def dCount (d : D) : List D → Option Nat
  | [] => some 0
  | z :: zs => match D.eqb (deep + 1) z d, dCount d zs with
    | some b, some n => some (n + if b then 1 else 0)
    | _, _ => none
def cntT (ds : List D) (y : T) : Option T := if ds.all D.one then (dCount y.data ds).bind fun n => sc (.int (n : Nat)) else none
def eCount (g h : FE) : FE := fun env => do
  let t ← g env
  match t.data.lsq with
  | some ds => do
    let u ← h env
    M.of (cntT ds u)
  | none => .bad
section
variable {K : PySem.W.Frag} {mg : Mg} {H : Hp}
theorem valV_of : ∀ {vs : List V} {ds : List D}, RepL K mg H vs ds → ds.all D.atom = true → vs.map valV = ds
  | [], _, h, _ => by cases h; rfl
  | v :: vs, _, h, e => by
    cases h with
    | cons h r =>
      simp only [List.all_cons, Bool.and_eq_true] at e
      rw [List.map_cons, valV_of r e.2]
      congr 1
      cases h <;> first | rfl | cases e.1
theorem val1_of {v : V} {u : Value} {d : D} (h : Rep K mg H v d) (r : RelV v u) (e : d.one = true) : val1 H u = d := by
  cases h with
  | int i => obtain ⟨t, rfl⟩ := r; rfl
  | str z => obtain ⟨t, rfl⟩ := r; rfl
  | tup h q =>
    obtain rfl : u = Value.ref _ := r
    unfold val1
    simp only []
    rw [show H _ = _ from h]
    simp only []
    rw [valV_of q e]
  | _ => cases e
theorem count_of {d : D} : ∀ {vs : List V} {us : List Value} {ds : List D} {n : Nat}, RepL K mg H vs ds → Vals vs us → ds.all D.one = true → dCount d ds = some n → us.countP (fun u => decide (D.eqb (deep + 1) (val1 H u) d = some true)) = n
  | _, _, [], n, h, r, _, e => by
    cases h
    cases r
    cases e
    rfl
  | _, _, z :: zs, n, h, r, a, e => by
    cases h with
    | cons h1 h2 =>
    cases r with
    | cons r1 r2 =>
    simp only [List.all_cons, Bool.and_eq_true] at a
    rw [dCount] at e
    split at e
    · rename_i b m e1 e2
      cases e
      rw [List.countP_cons, count_of h2 r2 a.2 e2, val1_of h1 r1 a.1, e1]
      cases b <;> simp
    · cases e
theorem count_each {d : D} : ∀ {ds : List D} {n : Nat}, dCount d ds = some n → ∀ z ∈ ds, ∃ b, D.eqb (deep + 1) z d = some b
  | [], _, _, z, m => by cases m
  | y :: ys, n, e, z, m => by
    rw [dCount] at e
    split at e
    · rename_i b k e1 e2
      rcases List.mem_cons.mp m with rfl | m
      · exact ⟨b, e1⟩
      · exact count_each e2 z m
    · cases e
end
def rCountF (K : PySem.W.Frag) (mg : Mg) : V → List V → Hp → VK → Prop := fun x xs H Q => ∃ (a : Addr) (vs : List V) (ds : List D) (w : V) (d : D) (n : Nat), x = .ref a ∧ xs = [w] ∧ SqL K H a vs ∧ RepL K mg H vs ds ∧ ds.all D.one = true ∧ Rep K mg H w d ∧ dCount d ds = some n ∧ Q (.int (n : Nat)) H
theorem mt_countF {X : Cx} (hu : X.A.units + 150 < cLine) : MtR X "list.count" (rCountF X.K X.mg) := by
  intro pins s σ H x xs v us Q I rx rxs h
  obtain ⟨p, vs, ds, w, d, n, rfl, rfl, hs, hr, ho1, hd1, hn, q⟩ := h
  obtain rfl : v = Value.ref p := rx
  obtain ⟨u, rfl, ru⟩ := rxs.one
  obtain ⟨its, rv, ⟨⟨cls, dd, data, sl⟩, m, ho, hc, hdn, hd⟩, hlen⟩ := I.list hs
  simp only at hc hd
  subst hc hd
  refine call_meets PySem.F.slot_list_count ⟨_, ho, rfl⟩ PySem.F.entry_list_count (PySem.F.args_list_count_2 _ _)
    (SeqAt.list_countAt p its.toArray m dd sl u (fun y => decide (D.eqb (deep + 1) (val1 H y) d = some true))) ⟨ho, fun y hy => ?_, ?_⟩
  · have hy' : y ∈ its := by simpa using hy
    obtain ⟨i, hi⟩ := List.mem_iff_getElem?.mp hy'
    obtain ⟨yv, h1, h2⟩ := vals_back rv hi
    obtain ⟨z, h3, h4⟩ := hr.get' h1
    have hz := List.mem_of_getElem? h3
    obtain ⟨b, hb⟩ := count_each hn z hz
    have hv : val1 H y = z := val1_of h4 h2 (List.all_eq_true.mp ho1 z hz)
    have := Rep.eqAt I (deep + 1) (A := X.A.in1) h4 hd1 h2 ru (by show X.A.units + 1 + 101 < _; omega) hb
    have e : decide (D.eqb (deep + 1) (val1 H y) d = some true) = b := by rw [hv, hb]; cases b <;> simp
    rw [e]
    exact this
  · refine ⟨.int (n : Nat), H, I.tok _, ⟨s.toks, ?_⟩, q⟩
    show Value.int ((its.toArray.toList.countP _ : Nat) : Int) s.toks = Value.int ((n : Nat) : Int) s.toks
    rw [show its.toArray.toList.countP _ = n from count_of hr rv ho1 hn]
section
variable {X : Cx} {W : WX} {o e : Expr} {to te : TE} {go ge : FE} {pos apos : Pos}
theorem re_count (hu : X.A.units + 150 < cLine) (ho : RE X W o to go) (he : RE X W e te ge) (hbase : attributeBase o "count" X.env (eval o X.env) = eval o X.env := by rfl) (hline : (apos.endLine == pos.line) = true := by rfl)
    (hs : starEach [e] X.env = (false, eval e X.env) :: starEach [] X.env := by rfl)
    (hfew : ((backTo pos (starEach [e] X.env)).all (fun x => !x.1) && (backToKw pos (keywordEach [] X.env)).all (fun x => x.1.isSome)
      && decide (([e] : List Expr).length + ([] : List Keyword).length + (if ([] : List Keyword).isEmpty then 0 else 1) < 30)) = true := by rfl)
    (hplain : (backTo pos (starEach [] X.env)).any (·.1) = false := by rfl) :
    RE X W (.Call (.Attribute o "count" apos) [e] [] pos) (tBM X.K "list" (rCountF X.K X.mg) to (tCons te tNil)) (eCount go ge) := by
  refine ⟨pe_bm PySem.F.plainAttrs_list PySem.F.slot_list_count PySem.F.type_list_count (mt_countF hu) ho.pe (pa_cons he.pe pa_nil hs) hbase hfew hline hs hplain, fun F H env σ I Q q => ho.sem F H env σ I _ ?_⟩
  unfold eCount at q
  cases e1 : go env with
  | bad => rw [e1] at q; exact q.elim
  | ex x => rw [e1] at q; exact q
  | ok t =>
    rw [e1] at q
    simp only [M.bind_ok] at q
    intro v F' H' fp g rr _ _
    have k := rr.rep g.fh
    split at q
    · rename_i ds c
      obtain ⟨a, vs, rfl, sq, r⟩ := k.lsqAt c
      refine ⟨.inl ⟨rfl, vs, sq⟩, he.sem F' H' env σ (I.grow g) _ ?_⟩
      cases e3 : ge env with
      | bad => rw [e3] at q; exact q.elim
      | ex x => rw [e3] at q; exact XPost.from (g.exF I.fh) q
      | ok u =>
        rw [e3] at q
        simp only [M.bind_ok] at q
        unfold cntT at q
        split at q
        · rename_i ha
          cases c2 : dCount u.data ds with
          | none => rw [c2] at q; exact q.elim
          | some n =>
            rw [c2] at q
            intro w F2 H2 f2 g2 r2 n2 k2
            exact ⟨a, vs, ds, w, u.data, n, rfl, rfl, g2.hh.sl sq, r.mono g2.hh, ha, r2.rep g2.fh, c2, VPost.sc (d := .int (n : Nat)) q (g.trans g2) (.int _)⟩
        · exact q.elim
    · exact q.elim
end
end Fu

namespace Fu
open PySem L2 PyProof.Rows PySem.Spec
open PySem.W (alike dataLt)
/-! ### order of any two alike things -/
def isNone : PyData → Bool
  | .none => true
  | _ => false
def tCmpP (f : PyData → PyData → Bool) (x y : T) : Option T := match x.data.py, y.data.py with
  | some p, some q => if alike p q && !isNone p && decide (p.depth ≤ 40) then sc (.bl (f p q)) else none
  | _, _ => none
def rCmpP (K : PySem.W.Frag) (mg : Mg) (f : PyData → PyData → Bool) : R2 := fun x y H Q => ∃ d e p q, Rep K mg H x d ∧ Rep K mg H y e ∧ d.py = some p ∧ e.py = some q ∧ alike p q = true ∧ p ≠ .none ∧ p.depth ≤ 40 ∧ Q (.bl (f p q)) H
abbrev leP : PyData → PyData → Bool := fun p q => !dataLt q p
abbrev gtP : PyData → PyData → Bool := fun p q => dataLt q p
abbrev geP : PyData → PyData → Bool := fun p q => !dataLt p q
theorem ov_cmpP {K : PySem.W.Frag} {mg : Mg} {f : PyData → PyData → Bool} : OpV K mg (rCmpP K mg f) (tCmpP f) := by
  intro F H x y v w f1 f2 e t r1 r2 nd hf Q h
  unfold tCmpP at h
  split at h
  · rename_i p q e1 e2
    split at h
    · rename_i hc
      simp only [Bool.and_eq_true, Bool.not_eq_true', decide_eq_true_eq] at hc
      obtain ⟨⟨c1, c2⟩, c3⟩ := hc
      exact ⟨_, _, p, q, r1.rep e, r2.rep e, e1, e2, c1, (fun z => by rw [z] at c2; cases c2), c3, OPost.sc (d := .bl _) e t h (.bl _)⟩
    · exact h.elim
  · exact h.elim
section
variable {X : Cx} {mg : Mg} (hu : X.A.units + 150 < cLine)
include hu
theorem op_leP : OpR X (compareOp .LtE) (rCmpP X.K mg leP) := by
  intro pins s σ H x y v u Q I rx ry h
  obtain ⟨d, e, p, q, h1, h2, e1, e2, ha, hn, hd, hq⟩ := h
  obtain ⟨as, ra⟩ := Rep.reads I h1 rx e1
  obtain ⟨bs, rb⟩ := Rep.reads I h2 ry e2
  exact PySem.W.le_data ra rb ha hn (by omega) ⟨.bl _, H, I, rfl, hq⟩
theorem op_gtP : OpR X (compareOp .Gt) (rCmpP X.K mg gtP) := by
  intro pins s σ H x y v u Q I rx ry h
  obtain ⟨d, e, p, q, h1, h2, e1, e2, ha, hn, hd, hq⟩ := h
  obtain ⟨as, ra⟩ := Rep.reads I h1 rx e1
  obtain ⟨bs, rb⟩ := Rep.reads I h2 ry e2
  exact PySem.W.gt_data ra rb ha hn (by omega) ⟨.bl _, H, I, rfl, hq⟩
theorem op_geP : OpR X (compareOp .GtE) (rCmpP X.K mg geP) := by
  intro pins s σ H x y v u Q I rx ry h
  obtain ⟨d, e, p, q, h1, h2, e1, e2, ha, hn, hd, hq⟩ := h
  obtain ⟨as, ra⟩ := Rep.reads I h1 rx e1
  obtain ⟨bs, rb⟩ := Rep.reads I h2 ry e2
  exact PySem.W.ge_data ra rb ha hn (by omega) ⟨.bl _, H, I, rfl, hq⟩
end
end Fu

namespace Fu
open PySem L2 PyProof.Rows
/-! ### a op b op c, of whole numbers -/
abbrev ltI : Int → Int → Bool := fun i j => decide (i < j)
def chainT (q : Int → Int → Bool) (j : Int) (t : T) : M T := match t.data with
  | .int k => .ok (.o (.sh (.bl (q j k))))
  | _ => .bad
def eChain (p q : Int → Int → Bool) (ga gb gc : FE) : FE := fun env => ga env >>= fun x => gb env >>= fun y => match x.data, y.data with
  | .int i, .int j => if p i j then gc env >>= chainT q j else .ok (.o (.sh (.bl false)))
  | _, _ => .bad
section
variable {X : Cx} {W : WX}
theorem chain_sem {ta tb tc : TE} {ga gb gc : FE} {ea eb ec : Expr} {p q : Int → Int → Bool} (ha : RE X W ea ta ga) (hb : RE X W eb tb gb) (hc : RE X W ec tc gc) {F H : Hp} {env : En} {σ : L2.St} (I : EnvOK X.K X.mg F H env σ) (Q : VK)
    (h : RPost X.K X.mg W F H env (eChain p q ga gb gc env) Q) : tChain (rI0 fun i j => .bl (p i j)) (rI0 fun i j => .bl (q i j)) ta tb tc σ H Q := by
  refine two (R := fun v w H2 => rI0 (fun i j => .bl (p i j)) v w H2 fun z H3 => ∃ k, z = .bl k ∧ (if k = true then tc σ H3 fun w' H4 => rI0 (fun i j => .bl (q i j)) w w' H4 Q else Q (.bl false) H3)) ha hb I ?_
  unfold eChain at h
  cases e1 : ga env with
  | bad => rw [e1] at h; exact h.elim
  | ex x => rw [e1] at h; exact h
  | ok x =>
    rw [e1] at h
    show match gb env with | .ok y => _ | .ex e => _ | .bad => _
    simp only [M.bind_ok] at h
    cases e2 : gb env with
    | bad => rw [e2] at h; exact h.elim
    | ex y => rw [e2] at h; exact h
    | ok y =>
      rw [e2] at h
      simp only [M.bind_ok] at h
      intro v w F' H' f1 f2 g I' r1 r2 nd k
      have q1 := r1.rep g.fh
      have q2 := r2.rep g.fh
      cases c1 : x.data with
      | int i =>
        rw [c1] at h q1
        cases c2 : y.data with
        | int j =>
          rw [c2] at h q2
          cases q1; cases q2
          refine ⟨i, j, rfl, rfl, p i j, rfl, ?_⟩
          simp only at h
          cases c3 : p i j with
          | false =>
            rw [c3] at h
            simp only [Bool.false_eq_true, if_false] at h ⊢
            exact h _ F' H' [] g ⟨rfl, .bl false⟩ List.nodup_nil (fun _ m => by cases m)
          | true =>
            rw [c3] at h
            simp only [if_true] at h ⊢
            refine hc.sem F' H' env σ I' _ ?_
            cases e3 : gc env with
            | bad => rw [e3] at h; exact h.elim
            | ex z =>
              rw [e3] at h
              intro F2 H2 σ' cls d ef I2 xa
              exact h F2 H2 σ' cls d ((g.exF I.fh).trans ef) I2 xa
            | ok z =>
              rw [e3] at h
              simp only [M.bind_ok, chainT] at h
              intro u F2 H2 f3 g2 r3 nd3 k3
              have q3 := r3.rep g2.fh
              cases c4 : z.data with
              | int k' =>
                rw [c4] at h q3
                cases q3
                exact ⟨j, k', rfl, rfl, h _ F2 H2 [] (g.trans g2) ⟨rfl, .bl _⟩ List.nodup_nil (fun _ m => by cases m)⟩
              | _ => rw [c4] at h; exact h.elim
        | _ => rw [c2] at h; exact h.elim
      | _ => rw [c1] at h; exact h.elim
theorem re_chain {ta tb tc : TE} {ga gb gc : FE} {ea eb ec : Expr} {pos : Pos} {op op' : CmpOp} {p q : Int → Int → Bool} (ho : OpR X (compareOp op) (rI0 fun i j => .bl (p i j))) (ho' : OpR X (compareOp op') (rI0 fun i j => .bl (q i j)))
    (ha : RE X W ea ta ga) (hb : RE X W eb tb gb) (hc : RE X W ec tc gc) (hm : lastMarks [op, op'] [eb, ec] = false := by with_unfolding_all rfl) :
    RE X W (.Compare ea [op, op'] [eb, ec] pos) (tChain (rI0 fun i j => .bl (p i j)) (rI0 fun i j => .bl (q i j)) ta tb tc) (eChain p q ga gb gc) :=
  ⟨pe_chain ho ho' ha.pe hb.pe hc.pe hm, fun F H env σ I Q h => chain_sem ha hb hc I Q h⟩
theorem rt_chain {ta tb tc : TE} {ga gb gc : FE} {ea eb ec : Expr} {pos : Pos} {op op' : CmpOp} {p q : Int → Int → Bool} (ho : OpR X (compareOp op) (rI0 fun i j => .bl (p i j))) (ho' : OpR X (compareOp op') (rI0 fun i j => .bl (q i j)))
    (ha : RE X W ea ta ga) (hb : RE X W eb tb gb) (hc : RE X W ec tc gc) (hm : lastMarks [op, op'] [eb, ec] = false := by with_unfolding_all rfl) :
    RT X W (.Compare ea [op, op'] [eb, ec] pos) (tTest (tChain (rI0 fun i j => .bl (p i j)) (rI0 fun i j => .bl (q i j)) ta tb tc)) (asB (eChain p q ga gb gc)) :=
  ⟨pt_chain ho ho' ha.pe hb.pe hc.pe hm, fun F H env σ I Q h => chain_sem ha hb hc I _ (asB_post h)⟩
end
@[simp] theorem eChain_eq (p q : Int → Int → Bool) (ga gb gc : FE) (env : En) : eChain p q ga gb gc env = (ga env >>= fun x => gb env >>= fun y => match x.data, y.data with
  | .int i, .int j => if p i j then gc env >>= chainT q j else .ok (.o (.sh (.bl false)))
  | _, _ => .bad) := (by rfl)
@[simp] theorem chainT_eq (q : Int → Int → Bool) (j : Int) (t : T) : chainT q j t = (match t.data with
  | .int k => .ok (.o (.sh (.bl (q j k))))
  | _ => .bad) := (by rfl)
end Fu

namespace Fu
open PySem L2 PyProof.Rows PySem.Spec
open PySem.W (AllAlike Sortable alike EachIs dataLe dataLt)
/-! ### xs.append((e, x)): what x has goes over -/
def appTupS (p : FP) (g : FE) (i : Nat) : FS := fun env => match env[i]? with
  | some (some x) => onE (p (env.set i none)) (env.set i none) fun pl => match getPl (env.set i none) pl with
    | some y => if y.kind = "list" then onE (g (up env)) env fun t => match t.keep with
      | some z => (opAppend y (.o (mkTup [z, x]))).map fun y' => .nx (putPl (env.set i none) pl y')
      | none => none else none
    | none => none
  | _ => none
section
variable {X : Cx} {W : WX} {pos apos cpos p2 tpos : Pos} {o e : Expr} {to te : TE} {p : FP} {g : FE} {x : Str} {x1}
theorem rs_appendTup (ho : RP X W o to p) (he : RE X W e te g) (i : Nat) (hN : X.N[i]? = some x := by rfl) (hv : Vis X.env.scope x := by first | exact Or.inl rfl | exact Or.inr (Or.inl rfl) | exact Or.inr (Or.inr rfl)) (hd : (x == ("__debug__" : Str)) = false := by decide)
    (hcd : (x == ("__classdict__" : Str)) = false := by decide) (hbase : attributeBase o "append" X.env (eval o X.env) = eval o X.env := by rfl)
    (hfew : ((backTo cpos (starEach [.Tuple [e, .Name x p2] x1 tpos] X.env)).all (fun x => !x.1) && (backToKw cpos (keywordEach [] X.env)).all (fun x => x.1.isSome)
      && decide ([Expr.Tuple [e, .Name x p2] x1 tpos].length + ([] : List Keyword).length + (if ([] : List Keyword).isEmpty then 0 else 1) < 30)) = true := by rfl)
    (hline : (apos.endLine == cpos.line) = true := by rfl) (hs : starEach [.Tuple [e, .Name x p2] x1 tpos] X.env = (false, eval (.Tuple [e, .Name x p2] x1 tpos) X.env) :: starEach [] X.env := by rfl) (hplain : (backTo cpos (starEach [] X.env)).any (·.1) = false := by rfl)
    (hs2 : starEach [e, .Name x p2] X.env = (false, eval e X.env) :: starEach [.Name x p2] X.env := by rfl) (hs3 : starEach [.Name x p2] X.env = (false, eval (.Name x p2) X.env) :: starEach [] X.env := by rfl)
    (hsw : swapsWith (.Call (.Attribute o "append" apos) [.Tuple [e, .Name x p2] x1 tpos] [] cpos) none pos.line X.env = pure false := by rfl) :
    RS X W (.Expr (.Call (.Attribute o "append" apos) [.Tuple [e, .Name x p2] x1 tpos] [] cpos) pos) (tDrop (tBM X.K "list" rAppend to (tCons (tTup (tCons te (tCons (tVar i) tNil))) tNil))) (appTupS p g i) := by
  refine ⟨ps_expr (pe_bm PySem.F.plainAttrs_list PySem.F.slot_list_append PySem.F.type_list_append mt_append ho.pe (pa_cons (pe_tup (pa_cons he.pe (pa_cons (pe_var hN hv hd hcd) pa_nil hs3) hs2)) pa_nil hs) hbase hfew hline hs hplain) hsw, fun F H env σ D I q => ?_⟩
  unfold appTupS at q
  split at q
  · rename_i x0 ex
    obtain ⟨fp, n0, f0, hs0⟩ := I.sl
    obtain ⟨vx, fy, f1, f2, sx, ox, ef, hs1⟩ := hs0.drop1 ex
    subst ef
    obtain ⟨ny, n12, dj⟩ := nd_mid.mp n0
    have f1' : ∀ a ∈ f1 ++ f2, F a = none := fun a m => f0 a (mem_mid.mpr (.inr m))
    have I1 : EnvOK X.K X.mg F H (up (env.set i none)) σ := ⟨I.fh, I.tu, I.tb, _, n12, f1', hs1⟩
    refine ho.sem F H (env.set i none) σ _ I1 hs1 _ ?_
    cases e1 : p (env.set i none) with
    | bad => rw [e1] at q; exact q.elim
    | ex z => rw [e1] at q; exact q
    | ok pl =>
      rw [e1] at q
      simp only [onE_ok] at q
      intro v y F1 H1 g1 hy h1
      rw [hy] at q
      simp only [] at q
      split at q
      · rename_i hk
        refine ⟨?_, he.sem F1 H1 (up env) σ (I.grow g1) _ ?_⟩
        · obtain ⟨fy0, g1', g2', _, a0, _⟩ := h1
          exact a0.ty hk (by decide)
        cases e2 : g (up env) with
        | bad => rw [e2] at q; exact q.elim
        | ex z => rw [e2] at q; exact XPost.from (g1.exF I.fh) q
        | ok t =>
          rw [e2] at q
          simp only [onE_ok] at q
          intro w F2 H2 fz g2 rz nz kz
          cases e4 : t.keep with
          | none => rw [e4] at q; exact q.elim
          | some z =>
            rw [e4] at q
            simp only [] at q
            refine ⟨vx, sx, by show 2 ≤ sizeLine; decide, fun pt hpt => ?_⟩
            cases e3 : opAppend y (.o (mkTup [z, x0])) with
            | none => rw [e3] at q; exact q.elim
            | some y' =>
              rw [e3] at q
              have g12 := g1.trans g2
              have keep : ∀ a ∈ fy, H2 a = H a := fun a m => by
                obtain ⟨u, hu, mu⟩ := Own.dom ox a m
                rw [g12.hh.mut hu mu, hu]
              have ox1 : Own X.K X.mg F2 H2 x0 vx fy := Own.cong (g12.exF I.fh) keep ox
              have oz : Own X.K X.mg F2 H2 z w fz := T.keep_ok g2.tu rz e4
              have hzn : ∀ a ∈ fz, H a = none := fun a m => g1.hh.back (kz a m).1
              have ozx : OwnL X.K X.mg F2 H2 [z, x0] [w, vx] (fz ++ fy) := ⟨w, [vx], fz, fy, rfl, rfl, oz, vx, [], fy, [], rfl, by simp, ox1, rfl, rfl⟩
              obtain ⟨g3, o3, k3⟩ := new_tup g2.fh g2.tu hpt ozx
              have dom1 : ∀ a ∈ (f1 ++ f2), H a ≠ none := fun a m => by
                obtain ⟨u, hu, _⟩ := hs1.dom a m
                rw [hu]; intro z; cases z
              have dom2 : ∀ a ∈ fy, H a ≠ none := fun a m => by
                obtain ⟨u, hu, _⟩ := Own.dom ox a m
                rw [hu]; intro z; cases z
              have nzy : (fz ++ fy).Nodup := List.nodup_append.mpr ⟨nz, ny, fun a m b m' z => by
                subst z
                exact dom2 a m' (hzn a m)⟩
              have nn : ((f1 ++ f2) ++ (fz ++ fy)).Nodup := List.nodup_append.mpr ⟨n12, nzy, fun a m b m' z => by
                subst z
                rcases List.mem_append.mp m' with m' | m'
                · exact dom1 a m (hzn a m')
                · exact dj a m' m⟩
              have ff2 : ∀ a ∈ (f1 ++ f2) ++ (fz ++ fy), F2 a = none := fun a m => by
                rcases List.mem_append.mp m with m | m
                · rw [g12.ff a (dom1 a m)]; exact f1' a m
                · rcases List.mem_append.mp m with m | m
                  · exact (kz a m).2
                  · rw [g12.ff a (dom2 a m)]; exact f0 a (mem_mid.mpr (.inl m))
              have hdom : ∀ a ∈ (f1 ++ f2) ++ (fz ++ fy), H2 a ≠ none := fun a m => by
                rcases List.mem_append.mp m with m | m
                · obtain ⟨u, hu, mu⟩ := hs1.dom a m
                  rw [g12.hh.mut hu mu]; intro z; cases z
                · obtain ⟨u, hu, mu⟩ := ozx.dom a m
                  rw [hu]; intro z; cases z
              have ff : ∀ a ∈ (f1 ++ f2) ++ (fz ++ fy), upd F2 pt (.tup [w, vx]) a = none := fun a m => by
                rw [g3.ff a (hdom a m)]; exact ff2 a m
              exact Hole.write (((I1.grow g1).grow g2).grow g3).tb ((h1.grow g1.fh g2).grow g2.fh g3) nn ff (y' := y') fun fy' a nd hf done => by
                show rAppend v [.ref pt] (upd H2 pt (.tup [w, vx])) (fun _ H' => D.nx σ H')
                exact mut_append _ _ y y' (.o (mkTup [z, x0])) v (.ref pt) fy' (fz ++ fy) g3.fh g3.tu a o3 nd hf hk e3 _ fun H' c => q _ H' σ (((g1.exF I.fh).trans (g2.exF g1.fh)).trans (g3.exF g2.fh)) (done H' [] c).ok
      · exact q.elim
  · exact q.elim
@[simp] theorem appTupS_eq (p : FP) (g : FE) (i : Nat) (env : Sn) : appTupS p g i env = (match env[i]? with
  | some (some x) => onE (p (env.set i none)) (env.set i none) fun pl => match getPl (env.set i none) pl with
    | some y => if y.kind = "list" then onE (g (up env)) env fun t => match t.keep with
      | some z => (opAppend y (.o (mkTup [z, x]))).map fun y' => .nx (putPl (env.set i none) pl y')
      | none => none else none
    | none => none
  | _ => none) := (by rfl)
end
/-! ### return sorted(x): what x has goes over -/
def sortG {α : Type} (ks : List PyData) (xs : List α) : List α := ((ks.zip xs).mergeSort (dataLe false Prod.fst)).map Prod.snd
theorem sortG_three {α β : Type} (ks : List PyData) (vs : List α) (ds : List β) (h1 : ks.length = ds.length) (h2 : vs.length = ds.length) :
    sortG ks ds = ((ks.zip (vs.zip ds)).mergeSort (dataLe false Prod.fst)).map (fun p => p.2.2) ∧ sortG ks vs = ((ks.zip (vs.zip ds)).mergeSort (dataLe false Prod.fst)).map (fun p => p.2.1) := by
  have e : ks.zip ds = (ks.zip (vs.zip ds)).map fun p => (p.1, p.2.2) := by
    have e1 : (vs.zip ds).map Prod.snd = ds := List.map_snd_zip (by omega)
    have : ks.zip ds = ks.zip ((vs.zip ds).map Prod.snd) := by rw [e1]
    rw [this, List.zip_map_right]
    rfl
  have e' : ks.zip vs = (ks.zip (vs.zip ds)).map fun p => (p.1, p.2.1) := by
    have e1 : (vs.zip ds).map Prod.fst = vs := List.map_fst_zip (by omega)
    have : ks.zip vs = ks.zip ((vs.zip ds).map Prod.fst) := by rw [e1]
    rw [this, List.zip_map_right]
    rfl
  unfold sortG
  constructor
  · rw [e, ← List.map_mergeSort (r := dataLe false Prod.fst), List.map_map]
    · rfl
    · intro a _ b _
      rfl
  · rw [e', ← List.map_mergeSort (r := dataLe false Prod.fst), List.map_map]
    · rfl
    · intro a _ b _
      rfl
/-- sorted(xs): the things themselves, put in order -/
def rSortV (K : PySem.W.Frag) (mg : Mg) : List V → Hp → VK → Prop := fun xs H Q => ∃ (a : Addr) (vs : List V) (ds : List D) (ks : List PyData), xs = [V.ref a] ∧ SqL K H a vs ∧ RepL K mg H vs ds ∧ D.pyL ds = some ks ∧ canSort ks = true ∧
  ∀ p, H p = none → Q (.ref p) (upd H p (.lst (sortG ks vs)))
theorem cr_sortV {X : Cx} (hu : X.A.units + 64 < cLine) : CallR X (.builtin "sorted") (rSortV X.K X.mg) := by
  intro pins s σ H xs us Q I r h
  obtain ⟨a, vs, ds, ks, rfl, hs, hr, hp, hc, q⟩ := h
  obtain ⟨u, rfl, ru⟩ := vals1 r
  obtain rfl : u = Value.ref a := ru
  obtain ⟨its, rv, hl, hz⟩ := I.list hs
  obtain ⟨c1, c2, c3⟩ := canSort_iff hc
  have l1 := pyL_len hp
  have l2 := hr.len
  have mf := map_fst3 l1 l2
  obtain ⟨as, ra⟩ := RepL.reads I hr rv hp
  have hbl : (ks.zip (vs.zip ds)).length = ds.length := by rw [List.length_zip, List.length_zip]; omega
  refine PySem.W.sorted_data (enc := Prod.fst) hl.isList (each3 rv l1 l2) (readsAll_each3 ra l1 l2) (by rw [mf]; exact c1) (by rw [mf]; exact c2) (by rw [hbl, ← l2]; exact hz) (fun b m => ?_) fun out lo eo => ?_
  · have := c3 b.1 (by rw [← mf]; exact List.mem_map.mpr ⟨b, m, rfl⟩)
    omega
  · have v1 : Vals (sortG ks vs) out := by
      rw [(sortG_three ks vs ds l1 l2).2]
      have : ∀ {out : List Value} {l : List (PyData × V × D)}, EachIs (fun u (p : PyData × V × D) => RelV p.2.1 u) out l → Vals (l.map fun p => p.2.1) out := by
        intro out l e
        induction e with
        | nil => exact .nil
        | cons h _ ih => exact .cons h ih
      exact this eo
    have v2 : (sortG ks vs).length ≤ sizeLine := by
      rw [(sortG_three ks vs ds l1 l2).2, List.length_map, List.length_mergeSort, hbl, ← l2]
      exact hz
    obtain ⟨ep, he'⟩ := PyProof.Rows.sortedAll_at s.heap its out.toArray
    exact ⟨.ref _, upd H (s.heap.objs.size + 1) (.lst (sortG ks vs)), I.laid (t' := s.toks) (fun _ _ => PyProof.Rows.sortedAll_old) (Nat.le_succ _) ⟨v2, out, ep, v1, he'⟩, rfl, q _ (I.hok.fresh (Nat.le_succ _))⟩
section
variable {K : PySem.W.Frag} {mg : Mg} {F H : Hp}
/-- each thing with its own cells -/
theorem OwnL.parts : ∀ {os : List O} {vs : List V} {fp : List Addr}, OwnL K mg F H os vs fp → ∃ fs : List (List Addr), fs.length = os.length ∧ fp = fs.flatten ∧ ∀ p ∈ os.zip (vs.zip fs), Own K mg F H p.1 p.2.1 p.2.2
  | [], vs, fp, h => by
    obtain ⟨h1, h2⟩ := h
    subst h1 h2
    exact ⟨[], rfl, rfl, fun p m => by cases m⟩
  | o :: os, vs, fp, h => by
    obtain ⟨w, ws, f1, f2, e1, e2, h1, h2⟩ := h
    obtain ⟨fs, a, b, c⟩ := OwnL.parts h2
    subst e1 e2 b
    refine ⟨f1 :: fs, by simp [a], rfl, fun p m => ?_⟩
    rcases List.mem_cons.mp m with rfl | m
    · exact h1
    · exact c p m
theorem OwnL.ofParts : ∀ {l : List (O × V × List Addr)}, (∀ p ∈ l, Own K mg F H p.1 p.2.1 p.2.2) → OwnL K mg F H (l.map (·.1)) (l.map (·.2.1)) (l.map (·.2.2)).flatten
  | [], _ => ⟨rfl, rfl⟩
  | p :: l, h => ⟨p.2.1, _, p.2.2, _, rfl, rfl, h p List.mem_cons_self, OwnL.ofParts fun q m => h q (List.mem_cons_of_mem _ m)⟩
theorem OwnL.sorted {ks : List PyData} {os : List O} {vs : List V} {fp : List Addr} (h : OwnL K mg F H os vs fp) (hk : ks.length = os.length) : ∃ fq, OwnL K mg F H (sortG ks os) (sortG ks vs) fq ∧ fq.Perm fp := by
  obtain ⟨fs, l1, e, hp⟩ := h.parts
  have l2 := h.len
  have e1 := (sortG_three ks vs fs (by omega) (by omega)).1
  have z1 : (os.zip (vs.zip fs)).map (·.1) = os := List.map_fst_zip (by rw [List.length_zip]; omega)
  have z2 : (os.zip (vs.zip fs)).map (·.2) = vs.zip fs := List.map_snd_zip (by rw [List.length_zip]; omega)
  have z3 : (vs.zip fs).map (·.1) = vs := List.map_fst_zip (by omega)
  have z4 : (vs.zip fs).map (·.2) = fs := List.map_snd_zip (by omega)
  have g1 := (sortG_three ks (os.zip (vs.zip fs)) os hk (by rw [List.length_zip, List.length_zip]; omega))
  have mp : ∀ {α β : Type} (f : α → β) (xs : List α), ks.length = xs.length → sortG ks (xs.map f) = (sortG ks xs).map f := by
    intro α β f xs hl
    unfold sortG
    rw [List.zip_map_right, ← List.map_mergeSort (r := dataLe false Prod.fst), List.map_map, List.map_map]
    · rfl
    · intro a _ b _; rfl
  have hzl : ks.length = (os.zip (vs.zip fs)).length := by rw [List.length_zip, List.length_zip]; omega
  have m1 := mp (·.1) (os.zip (vs.zip fs)) hzl
  have m2 := mp (fun p => p.2.1) (os.zip (vs.zip fs)) hzl
  have m3 := mp (fun p => p.2.2) (os.zip (vs.zip fs)) hzl
  rw [z1] at m1
  have e2 : (os.zip (vs.zip fs)).map (fun p => p.2.1) = vs := by
    have : (os.zip (vs.zip fs)).map (fun p => p.2.1) = ((os.zip (vs.zip fs)).map (·.2)).map (·.1) := by rw [List.map_map]; rfl
    rw [this, z2, z3]
  have e3 : (os.zip (vs.zip fs)).map (fun p => p.2.2) = fs := by
    have : (os.zip (vs.zip fs)).map (fun p => p.2.2) = ((os.zip (vs.zip fs)).map (·.2)).map (·.2) := by rw [List.map_map]; rfl
    rw [this, z2, z4]
  rw [e2] at m2
  rw [e3] at m3
  have perm : ∀ {α : Type} (xs : List α), ks.length = xs.length → (sortG ks xs).Perm xs := by
    intro α xs hl
    unfold sortG
    have := (List.mergeSort_perm (ks.zip xs) (dataLe false Prod.fst)).map Prod.snd
    rwa [List.map_snd_zip (by omega)] at this
  refine ⟨(sortG ks fs).flatten, ?_, ?_⟩
  · rw [m1, m2, m3]
    exact OwnL.ofParts fun p m => hp p ((perm _ hzl).mem_iff.mp m)
  · rw [e]
    exact (perm fs (by omega)).flatten
end
def retSortMv (i : Nat) : FS := fun env => match env[i]? with
  | some (some (.lst os)) => (D.pyL (O.dataL os)).bind fun ks => if canSort ks then some (.rt (.lst (sortG ks os))) else none
  | _ => none
section
variable {X : Cx} {W : WX} {p p2 pos pos2 : Pos} {x : Str}
theorem rs_retSortMv (hu : X.A.units + 64 < cLine) (hg : Gl X "sorted") (hm : X.mg "sorted" = none) (i : Nat) (hN : X.N[i]? = some x := by rfl) (hv : Vis X.env.scope x := by first | exact Or.inl rfl | exact Or.inr (Or.inl rfl) | exact Or.inr (Or.inr rfl)) (hd : (x == ("__debug__" : Str)) = false := by decide)
    (hcd : (x == ("__classdict__" : Str)) = false := by decide) (hs : starEach [.Name x p2] X.env = (false, eval (.Name x p2) X.env) :: starEach [] X.env := by rfl) (hpl : (backTo pos (starEach [] X.env)).any (·.1) = false := by rfl) :
    RS X W (.Return (some (.Call (.Name "sorted" p) [.Name x p2] [] pos)) pos2) (tRet (tCB (rSortV X.K X.mg) (tCons (tVar i) tNil))) (retSortMv i) := by
  refine ⟨ps_ret (pe_callB (cr_sortV hu) hg hm PyProof.Rows.boot_sorted (pa_cons (pe_var hN hv hd hcd) pa_nil hs) (by decide) (by decide) hs hpl), fun F H env σ De I q => ?_⟩
  unfold retSortMv at q
  split at q
  · rename_i os e
    obtain ⟨fp, nd, hf, hs⟩ := I.sl
    obtain ⟨v, f0, fi, f2, a, b, c⟩ := hs.get I.fh (up_get e)
    subst b
    obtain ⟨l, vs, fq, rfl, hl, e2, r⟩ := (show Own X.K X.mg F H (.lst os) v fi from c)
    subst e2
    cases c1 : D.pyL (O.dataL os) with
    | none => rw [c1] at q; exact q.elim
    | some ks =>
      rw [c1] at q
      simp only [Option.bind_some] at q
      split at q
      · rename_i hc
        have rep := OwnL.rep I.fh r
        have lk : ks.length = os.length := by
          have := pyL_len c1
          rw [this, O.dataL_map, List.length_map]
        refine ⟨.ref l, a, l, vs, O.dataL os, ks, rfl, .inl (.inl hl), rep, c1, hc, fun p hp => ?_⟩
        obtain ⟨fz, o1, pm⟩ := r.sorted lk
        have sub : (l :: fq).Sublist (f0 ++ ((l :: fq) ++ f2)) := (List.sublist_append_left _ f2).trans (List.sublist_append_right f0 _)
        have nfq : fq.Nodup := (List.nodup_cons.mp (nd.sublist sub)).2
        have nfz : fz.Nodup := pm.nodup_iff.mpr nfq
        obtain ⟨g, o3, nd3⟩ := new_lst I.fh I.tu hp o1 nfz
        refine q (.ref p) F _ (p :: fz) (Ex.refl F) g.fh g.tu o3 nd3 fun b m => ?_
        rcases List.mem_cons.mp m with z | m
        · subst z; exact I.fh.none hp
        · exact hf b (sub.subset (List.mem_cons_of_mem _ (pm.mem_iff.mp m)))
      · exact q.elim
  · exact q.elim
@[simp] theorem retSortMv_eq (i : Nat) (env : Sn) : retSortMv i env = (match env[i]? with
  | some (some (.lst os)) => (D.pyL (O.dataL os)).bind fun ks => if canSort ks then some (.rt (.lst (sortG ks os))) else none
  | _ => none) := (by rfl)
end
end Fu

namespace Fu
open PySem L2 PyProof.Rows
/-! ### for x in xs: (a part of x).append(e), xs not used again -/
/-- these names are not known any more -/
def wipeS (env : Sn) : List Nat → Sn
  | [] => env
  | j :: js => (wipeS env js).set j none
section
variable {K : PySem.W.Frag} {mg : Mg} {F H : Hp}
theorem Slots.drop : ∀ {env : Sn} {σ : L2.St} {fp : List Addr} (i : Nat), Slots K mg F H (up env) σ fp → ∃ fq, Slots K mg F H (up (env.set i none)) σ fq ∧ fq.Sublist fp
  | [], σ, fp, i, h => ⟨fp, h, List.Sublist.refl _⟩
  | o :: env, σ, fp, 0, h => by
    obtain ⟨s, τ, f1, f2, e1, e2, h1, h2⟩ := h
    subst e1 e2
    exact ⟨f2, ⟨s, τ, [], f2, rfl, rfl, rfl, h2⟩, List.sublist_append_right f1 f2⟩
  | o :: env, σ, fp, i + 1, h => by
    obtain ⟨s, τ, f1, f2, e1, e2, h1, h2⟩ := h
    subst e1 e2
    obtain ⟨fq, k1, k2⟩ := Slots.drop i h2
    exact ⟨f1 ++ fq, ⟨s, τ, f1, fq, rfl, rfl, h1, k1⟩, List.Sublist.append_left k2 f1⟩
theorem Slots.wipe {env : Sn} {σ : L2.St} {fp : List Addr} (h : Slots K mg F H (up env) σ fp) : ∀ js : List Nat, ∃ fq, Slots K mg F H (up (wipeS env js)) σ fq ∧ fq.Sublist fp
  | [] => ⟨fp, h, List.Sublist.refl _⟩
  | j :: js => by
    obtain ⟨f1, a, b⟩ := h.wipe js
    obtain ⟨f2, c, d⟩ := a.drop j
    exact ⟨f2, c, d.trans b⟩
theorem EnvF.wipe {env : Sn} {σ : L2.St} {fx : List Addr} (I : EnvF K mg F H (up env) σ fx) (js : List Nat) : EnvF K mg F H (up (wipeS env js)) σ fx := by
  obtain ⟨fp, nd, hf, hs⟩ := I.sl
  obtain ⟨fq, a, b⟩ := hs.wipe js
  exact ⟨I.fh, I.tu, I.tb, fq, nd.sublist (List.Sublist.append_right b fx), fun x m => hf x ((List.Sublist.append_right b fx).subset m), a⟩
theorem EnvF.perm {env : En} {σ : L2.St} {fx fy : List Addr} (I : EnvF K mg F H env σ fx) (p : fy.Perm fx) : EnvF K mg F H env σ fy := by
  obtain ⟨fp, nd, hf, hs⟩ := I.sl
  have p2 : (fp ++ fy).Perm (fp ++ fx) := List.Perm.append_left fp p
  exact ⟨I.fh, I.tu, I.tb, fp, p2.nodup_iff.mpr nd, fun x m => hf x (p2.mem_iff.mp m), hs⟩
theorem EnvF.some_ok {env : En} {σ : L2.St} {fx : List Addr} (I : EnvF K mg F H env σ fx) : EnvOK K mg F H env σ := by
  obtain ⟨fp, nd, hf, hs⟩ := I.sl
  exact ⟨I.fh, I.tu, I.tb, fp, (List.nodup_append.mp nd).1, fun x m => hf x (List.mem_append_left _ m), hs⟩
end
/-- one turn is right -/
def goneItem (env0 : Sn) (js : List Nat) (b : FG) (p : FP) (g : FE) (o : O) : Prop :=
  ∃ env1 pl l d, b o env0 = some env1 ∧ p env1 = .ok pl ∧ getPl env1 pl = some (.lst l) ∧ g (up env1) = .ok (.o (.sh d)) ∧ l.length < sizeLine ∧ ∀ y, wipeS (putPl env1 pl y) js = env0
open Classical in
noncomputable def forGoneS (i : Nat) (js : List Nat) (b : FG) (p : FP) (g : FE) : FS := fun env => match env[i]? with
  | some (some (.lst os)) => if ∀ o ∈ os, goneItem (wipeS env (i :: js)) js b p g o then some (.nx (wipeS env (i :: js))) else none
  | _ => none
section
variable {X : Cx} {W : WX} {tg o e : Expr} {gt : TG} {b : FG} {to te : TE} {p : FP} {g : FE} {x : Str} {pos xpos apos cpos spos : Pos}
theorem rs_forGone (hp : PassesOwn (model X.prog X.w) X.A X.env X.xe) (hc : X.calm = true) (i : Nat) (js : List Nat) (hg : RG X tg gt b) (ho : RP X W o to p) (he : RE X W e te g)
    (hN : X.N[i]? = some x := by rfl) (hv : Vis X.env.scope x := by first | exact Or.inl rfl | exact Or.inr (Or.inl rfl) | exact Or.inr (Or.inr rfl)) (hd : (x == ("__debug__" : Str)) = false := by decide)
    (hcd : (x == ("__classdict__" : Str)) = false := by decide) (hbase : attributeBase o "append" X.env (eval o X.env) = eval o X.env := by rfl)
    (hfew : ((backTo cpos (starEach [e] X.env)).all (fun x => !x.1) && (backToKw cpos (keywordEach [] X.env)).all (fun x => x.1.isSome)
      && decide ([e].length + ([] : List Keyword).length + (if ([] : List Keyword).isEmpty then 0 else 1) < 30)) = true := by rfl)
    (hline : (apos.endLine == cpos.line) = true := by rfl) (hs : starEach [e] X.env = (false, eval e X.env) :: starEach [] X.env := by rfl) (hplain : (backTo cpos (starEach [] X.env)).any (·.1) = false := by rfl)
    (hsw : swapsWith (.Call (.Attribute o "append" apos) [e] [] cpos) none spos.line X.env = pure false := by rfl) (hfs : ∀ v, foldedSetIterable (.Name x xpos) X.env v = pure v := by intro _; rfl) :
    RS X W (.For tg (.Name x xpos) [.Expr (.Call (.Attribute o "append" apos) [e] [] cpos) spos] [] pos) (tFor (iList X.K (tVar i)) gt (tDrop (tBM X.K "list" rAppend to (tCons te tNil)))) (forGoneS i js b p g) := by
  refine ⟨ps_for hp hc (pi_list (pe_var hN hv hd hcd)) hg.pg (pss_one (ps_expr (pe_bm PySem.F.plainAttrs_list PySem.F.slot_list_append PySem.F.type_list_append mt_append ho.pe (pa_cons he.pe pa_nil hs) hbase hfew hline hs hplain) hsw)) hfs, fun F H env σ De I q => ?_⟩
  unfold forGoneS at q
  split at q
  · rename_i os ex
    split at q
    · rename_i hall
      obtain ⟨fp, n0, f0, hs0⟩ := I.sl
      obtain ⟨vx, fy, f1, f2, sx, ox, ef, hs1⟩ := hs0.drop1 ex
      subst ef
      obtain ⟨pc, vs, fq, rfl, hpc, e2, r⟩ := (show Own X.K X.mg F H (.lst os) vx fy from ox)
      subst e2
      obtain ⟨ny, n12, dj⟩ := nd_mid.mp n0
      have I1 : EnvF X.K X.mg F H (up (env.set i none)) σ (pc :: fq) := by
        refine ⟨I.fh, I.tu, I.tb, f1 ++ f2, List.nodup_append.mpr ⟨n12, ny, fun a m b m' z => dj a (z ▸ m') m⟩, fun a m => ?_, hs1⟩
        rcases List.mem_append.mp m with m | m
        · exact f0 a (mem_mid.mpr (.inr m))
        · exact f0 a (mem_mid.mpr (.inl m))
      have I2 := I1.wipe js
      have ew : wipeS (env.set i none) js = wipeS env (i :: js) := by
        have : ∀ js : List Nat, wipeS (env.set i none) js = (wipeS env js).set i none := fun js => by
          induction js with
          | nil => rfl
          | cons j js ih =>
            show (wipeS (env.set i none) js).set j none = ((wipeS env js).set j none).set i none
            rw [ih]
            by_cases c : i = j
            · subst c; rfl
            · exact List.set_comm _ _ c
        exact this js
      rw [ew] at I2
      generalize wipeS env (i :: js) = env0 at *
      clear ew I1 hs1
      have hl := r.len
      refine ⟨.ref pc, sx, pc, rfl, ⟨vs, .inl (.inl hpc)⟩, ?_⟩
      let Pv : Nat → L2.St → Hp → Prop := fun t σ H => ∃ F' fr, Ex F F' ∧ EnvF X.K X.mg F' H (up env0) σ (pc :: fr) ∧ H pc = some (.lst vs) ∧ OwnL X.K X.mg F' H (os.drop t) (vs.drop t) fr
      refine ⟨fun t m σ H => m = vs.length - t ∧ t ≤ vs.length ∧ Pv t σ H, ⟨vs.length, by simp, Nat.zero_le _, F, fq, Ex.refl F, I2, hpc, r⟩, ?_⟩
      rintro t m σ' H' ⟨rfl, hlt, F', fr, e1, I', hpc', r'⟩
      by_cases ht : t < vs.length
      · refine .inr ⟨⟨vs, vs[t], .inl (.inl hpc'), by simp [ht]⟩, Pv (t + 1), fun σ2 H2 pv => ⟨vs.length - (t + 1), by omega, rfl, ht, pv⟩, fun v H3 y => ?_⟩
        obtain ⟨y1, y2⟩ := y
        subst y1
        have ev : v = vs[t] := by
          have := y2 vs (.inl (.inl hpc'))
          rw [List.getElem?_eq_getElem ht] at this
          exact (Option.some.inj this).symm
        have hto : t < os.length := by omega
        rw [List.drop_eq_getElem_cons hto, List.drop_eq_getElem_cons ht] at r'
        obtain ⟨w, ws, g1, g2, e3, e4, o1, o2⟩ := r'
        obtain ⟨rfl, rfl⟩ := List.cons.inj e3
        subst e4
        rw [← ev] at o1
        obtain ⟨env1, pl, l, d, hb, hpl, hgp, hge, hll, hwi⟩ := hall os[t] (List.getElem_mem _)
        have I3 : EnvF X.K X.mg F' H3 (up env0) σ' (g1 ++ (pc :: g2)) := I'.perm List.perm_middle
        refine hg.sem F' H3 env0 σ' os[t] v g1 (pc :: g2) _ env1 I3 o1 hb fun σ2 I4 => ?_
        obtain ⟨fp4, n4, f4, hs4⟩ := I4.sl
        refine ho.sem F' H3 env1 σ2 fp4 I4.some_ok hs4 _ ?_
        rw [hpl]
        intro w y F1 H1 gr1 hy hole
        rw [hgp] at hy
        cases hy
        refine ⟨?_, he.sem F1 H1 (up env1) σ2 (I4.some_ok.grow gr1) _ ?_⟩
        · obtain ⟨fy0, g1', g2', _, a0, _⟩ := hole
          exact a0.ty rfl (by decide)
        rw [hge]
        intro ve F2 H2 fz gr2 rz nz kz
        obtain ⟨rfl, rd⟩ := (show fz = [] ∧ Rep X.K X.mg F2 ve d from rz)
        have gr := gr1.trans gr2
        have dom4 : ∀ a ∈ fp4 ++ (pc :: g2), ∃ u, H3 a = some u ∧ Mut (some u) := fun a m => by
          rcases List.mem_append.mp m with m | m
          · exact hs4.dom a m
          · rcases List.mem_cons.mp m with rfl | m
            · exact ⟨_, hpc', trivial⟩
            · exact o2.dom a m
        have ff : ∀ a ∈ fp4 ++ (pc :: g2), F2 a = none := fun a m => by
          obtain ⟨u, hu, _⟩ := dom4 a m
          rw [gr.ff a (by rw [hu]; intro z; cases z)]
          exact f4 a m
        have keep : ∀ a ∈ fp4 ++ (pc :: g2), H2 a = H3 a := fun a m => by
          obtain ⟨u, hu, mu⟩ := dom4 a m
          rw [gr.hh.mut hu mu, hu]
        refine Hole.write ((I4.some_ok.grow gr1).grow gr2).tb (hole.grow gr1.fh gr2) n4 ff (y' := .lst (l ++ [.sh d])) fun fy' ay nd hf done => ?_
        have opa : opAppend (.lst l) (.o (.sh d)) = some (.lst (l ++ [.sh d])) := by
          show (if l.length < sizeLine then some (O.lst (l ++ [.sh d])) else none) = _
          rw [if_pos hll]
        have nfy := List.nodup_append.mp nd
        show rAppend w [ve] H2 (fun _ H' => Pv (t + 1) σ2 H')
        refine mut_append F2 H2 (.lst l) (.lst (l ++ [.sh d])) (.o (.sh d)) w ve fy' [] gr2.fh gr2.tu ay ⟨rfl, rd⟩ (by rw [List.append_nil]; exact nfy.1) (fun a m => hf a (by rw [List.append_nil] at m; exact List.mem_append_left _ m)) rfl opa _ fun H4 c => ?_
        obtain ⟨fy2, c1, c2, c3, c4, c5, c6⟩ := c
        rw [List.append_nil] at c2 c3
        have I5 := done H4 (pc :: g2) ⟨fy2, c1, List.nodup_append.mpr ⟨c2, nfy.2.1, fun a m b m' z => by
          have := c3 a m
          rw [List.append_nil] at this
          exact nfy.2.2 a this b m' z⟩, fun a m => by
          rcases List.mem_append.mp m with m | m
          · have := c3 a m
            rw [List.append_nil] at this
            exact List.mem_append_left _ this
          · exact List.mem_append_right _ m, c4, c5, c6⟩
        have off : ∀ a ∈ pc :: g2, H4 a = H3 a := fun a m => by
          rw [c4 a (fun m' => nfy.2.2 a m' a m rfl)]
          exact keep a (List.mem_append_right _ m)
        have I6 := I5.wipe js
        rw [hwi] at I6
        exact ⟨F2, g2, e1.trans (gr.exF I4.fh), I6, (off pc List.mem_cons_self).trans hpc', OwnL.cong (gr.exF I4.fh) (fun a m => off a (List.mem_cons_of_mem _ m)) o2⟩
      · have ht' : t = vs.length := by omega
        exact .inl ⟨⟨vs, .inl (.inl hpc'), by omega⟩, q F' H' σ' e1 I'.some_ok⟩
    · exact q.elim
  · exact q.elim
end
theorem forGoneS_eq (i : Nat) (js : List Nat) (b : FG) (p : FP) (g : FE) (env : Sn) (os : List O) (h : env[i]? = some (some (.lst os))) (hg : ∀ o ∈ os, goneItem (wipeS env (i :: js)) js b p g o) : forGoneS i js b p g env = some (.nx (wipeS env (i :: js))) := by
  unfold forGoneS
  rw [h]
  simp only []
  rw [if_pos hg]
end Fu

/-! `x = y` where y is dead afterwards: what y holds goes over. -/
namespace Fu
open PySem L2 PyProof.Rows
def setMvS (i j : Nat) : FS := fun env => match env[j]? with
  | some (some x) => some (.nx ((env.set j none).set i (some x)))
  | _ => none
section
variable {X : Cx} {W : WX} {pos : Pos}
theorem rs_setMv (i j : Nat) {x y : Str} {p pos' : Pos} (hN : X.N.Nodup) (hj : X.N[j]? = some y := by rfl) (hv : Vis X.env.scope y := by first | exact Or.inl rfl | exact Or.inr (Or.inl rfl) | exact Or.inr (Or.inr rfl))
    (hd : (y == ("__debug__" : Str)) = false := by decide) (hcd : (y == ("__classdict__" : Str)) = false := by decide)
    (hi : X.N[i]? = some x := by rfl) (hx : Loc X.env.scope x := by first | exact Or.inl rfl | exact Or.inr rfl)
    (hs : swapsWith (.Name y p) (some (.Name x pos')) pos.line X.env = pure false := by rfl) (hf : X.fn x = true ∨ X.env.scope.names.lookup x = some .local := by first | exact .inl rfl | exact .inr rfl) :
    RS X W (.Assign [.Name x pos'] (.Name y p) pos) (tAsg (tVar j) (gName i)) (setMvS i j) := by
  refine ⟨ps_set hN hi hx (pe_var hj hv hd hcd) hs hf, fun F H env σ D I q => ?_⟩
  unfold setMvS at q
  split at q
  · rename_i x0 ex
    obtain ⟨fp, n0, f0, hs0⟩ := I.sl
    obtain ⟨vx, fy, f1, f2, sx, ox, ef, hs1⟩ := hs0.drop1 ex
    subst ef
    refine ⟨vx, sx, ?_⟩
    have nn : (f1 ++ f2 ++ fy).Nodup := by
      refine (List.Perm.nodup_iff ?_).mp n0
      rw [List.append_assoc]
      exact List.Perm.append_left f1 List.perm_append_comm
    obtain ⟨fq, s1, s2, s3⟩ := hs1.set i (t := .o x0) ox nn
    refine q F H _ (Ex.refl F) ⟨I.fh, I.tu, I.tb, fq, s2, fun a m => ?_, ?_⟩
    · have := s3 a m
      refine f0 a ?_
      simp only [List.mem_append] at this ⊢
      rcases this with (h | h) | h
      · exact .inl h
      · exact .inr (.inr h)
      · exact .inr (.inl h)
    · rw [up_set]
      exact s1
  · exact q.elim
theorem rb_dead {sts : List Stmt} : RB X W sts (fun _ _ _ => False) deadS := ⟨⟨fun _ _ _ _ _ _ h => h.elim⟩, fun _ _ _ _ _ _ q => q.elim⟩
end
@[simp] theorem setMvS_eq (i j : Nat) (env : Sn) : setMvS i j env = (match env[j]? with
  | some (some x) => some (.nx ((env.set j none).set i (some x)))
  | _ => none) := (by rfl)
end Fu

namespace Sh
open PySem L2 Fu PyProof.Rows
def c_SIGNS : Str := "abcdefghijklmnopqrstuvwxyz0123456789"
/-! is_word -/
noncomputable def b_is_word_1 : FS :=
  (ifS (asB (eOp (tIn true) (eVar 1) (eC (.str c_SIGNS))))
  (retS (eC (.bl false)))
  skipS)
noncomputable def g_is_word : FS :=
  (seqS (ifS (asB (eOp tEq (eVar 0) (eC (.str ""))))
  (retS (eC (.bl false)))
  skipS)
  (seqS (forS (itS (eVar 0)) (bName 1)
  b_is_word_1)
  (retS (eC (.bl true)))))
noncomputable def m_is_word : List D → M O := run 2 g_is_word
/-! law_cell_at -/
noncomputable def g_law_cell_at : FS :=
  (seqS (ifS (asB (eOp tLt (eVar 1) (eArgs (op1 D.len) (aCons (eVar 0) aNil))))
  (retS (eOp tIx (eVar 0) (eVar 1)))
  skipS)
  (retS (eC (.int 0))))
noncomputable def m_law_cell_at : List D → M O := run 2 g_law_cell_at
/-! law_any_sign -/
noncomputable def g_law_any_sign : FS :=
  (seqS (asgS (bName 1) (eC (.str " !\"#$&'()*+,-./0123456789:;<=>?@ABCDEFGHIJKLMNOPQRSTUVWXYZ[\\]^_`")))
  (seqS (asgS (bName 1) (eOp tAdd (eVar 1) (eC (.str "abcdefghijklmnopqrstuvwxyz{|}~\n"))))
  (retS (eOp tIx (eVar 1) (eOp tMod (eVar 0) (eC (.int 95)))))))
noncomputable def m_law_any_sign : List D → M O := run 2 g_law_any_sign
/-! law_due -/
noncomputable def b_law_due_1 : FS :=
  (ifS (asB (eOp (tIn true) (eVar 1) (eC (.str "abcdefghijklmnopqrstuvwxyz0123456789"))))
  (retS (eC (.bl false)))
  skipS)
noncomputable def g_law_due : FS :=
  (seqS (forS (itS (eVar 0)) (bName 1)
  b_law_due_1)
  (retS (eOp (tOrd gtI gtS) (eArgs (op1 D.len) (aCons (eVar 0) aNil)) (eC (.int 0)))))
noncomputable def m_law_due : List D → M O := run 2 g_law_due
/-! words_of -/
noncomputable def b_words_of_1 : FS :=
  (ifS (asB (eOp (tIn false) (eVar 3) (eC (.str c_SIGNS))))
  (asgS (bName 2) (eOp tAdd (eVar 2) (eVar 3)))
  (ifS (asB (eOp tNe (eVar 2) (eC (.str ""))))
  (seqS (mutS "list" (pVar 1) (eVar 2) opAppend)
  (asgS (bName 2) (eC (.str ""))))
  skipS))
noncomputable def g_words_of : FS :=
  (seqS (asgS (bName 1) (eArgs dLst aNil))
  (seqS (asgS (bName 2) (eC (.str "")))
  (seqS (forS (itS (eOp tAdd (eStr0 sLower (eVar 0)) (eC (.str " ")))) (bName 3)
  b_words_of_1)
  (retMv 1))))
noncomputable def m_words_of : List D → M O := run 4 g_words_of
/-! law_sign -/
noncomputable def g_law_sign : FS :=
  (seqS (ifS (asB (eOp tEq (eVar 0) (eC (.int 0))))
  (retS (eOp tIx (eC (.str "aAbB7 -\n")) (eOp tMod (eVar 1) (eC (.int 8)))))
  skipS)
  (seqS (ifS (tAndG (asB (eOp tEq (eVar 0) (eC (.int 1)))) (asB (eOp tLt (eOp tMod (eVar 1) (eC (.int 8))) (eC (.int 7)))))
  (retS (eOp tIx (eC (.str "abcdefghijklmnopqrstuvwxyzABCDEFGHIJKLMNOPQRSTUVWXYZ0123456789")) (eOp tMod (eOp tDiv (eVar 1) (eC (.int 8))) (eC (.int 62)))))
  skipS)
  (seqS (ifS (asB (eOp tEq (eVar 0) (eC (.int 1))))
  (retS (eOp tIx (eC (.str " \n")) (eOp tMod (eOp tDiv (eVar 1) (eC (.int 8))) (eC (.int 2)))))
  skipS)
  (seqS (asgS (bName 2) (eC (.str " !\"#$&'()*+,-./0123456789:;<=>?@ABCDEFGHIJKLMNOPQRSTUVWXYZ[\\]^_`")))
  (seqS (asgS (bName 2) (eOp tAdd (eVar 2) (eC (.str "abcdefghijklmnopqrstuvwxyz{|}~\n"))))
  (retS (eOp tIx (eVar 2) (eOp tMod (eVar 1) (eC (.int 95))))))))))
noncomputable def m_law_sign : List D → M O := run 3 g_law_sign
/-! law_due_v2 -/
noncomputable def b_law_due_v2_1 : FS :=
  (seqS (asgS (bName 5) (eStr0 sLower (eVar 4)))
  (ifS (asB (eOp (tIn true) (eVar 5) (eC (.str "abcdefghijklmnopqrstuvwxyz0123456789"))))
  (seqS (asgS (bName 3) (eC (.bl false)))
  (ifS (asB (eOp tEq (eVar 4) (eC (.str "\n"))))
  (asgS (bName 2) (eC (.bl true)))
  skipS))
  (ifS (asB (eVar 3))
  (setS (eOp tAdd (eOp tIx (eOp tIx (eVar 1) (eUn tNeg (eC (.int 1)))) (eUn tNeg (eC (.int 1)))) (eVar 5)) (pAt (pVar 1) (eUn tNeg (eC (.int 1)))) (eUn tNeg (eC (.int 1))) opSetL)
  (seqS (ifS (asB (eVar 2))
  (mutS "list" (pVar 1) (eArgs dLst aNil) opAppend)
  skipS)
  (seqS (asgS (bName 2) (eC (.bl false)))
  (seqS (asgS (bName 3) (eC (.bl true)))
  (mutS "list" (pAt (pVar 1) (eUn tNeg (eC (.int 1)))) (eVar 5) opAppend)))))))
noncomputable def g_law_due_v2 : FS :=
  (seqS (asgS (bName 1) (eArgs dLst aNil))
  (seqS (asgS (bName 2) (eC (.bl true)))
  (seqS (asgS (bName 3) (eC (.bl false)))
  (seqS (forS (itS (eVar 0)) (bName 4)
  b_law_due_v2_1)
  (retMv 1)))))
noncomputable def m_law_due_v2 : List D → M O := run 6 g_law_due_v2
/-! law_same -/
noncomputable def b_law_same_1 : FS :=
  (ifS (tNotG (asB (eIsa "list" (eVar 2))))
  (retS (eC (.bl false)))
  skipS)
noncomputable def g_law_same : FS :=
  (seqS (ifS (tNotG (asB (eIsa "list" (eVar 0))))
  (retS (eC (.bl false)))
  skipS)
  (seqS (forS (itS (eVar 0)) (bName 2)
  b_law_same_1)
  (retS (eOp tEq (eVar 0) (eVar 1)))))
noncomputable def m_law_same : List D → M O := run 3 g_law_same
/-! rows_of -/
noncomputable def q_rows_of_1 : FE :=
  (eCall m_words_of (aCons (eVar 2) aNil))
noncomputable def t_rows_of_2 : FT :=
  (asB (eOp tNe (eVar 3) (eArgs dLst aNil)))
noncomputable def g_rows_of : FS :=
  (seqS (asgS (bName 1) (eComp (itC (eStr1 sSplit (eVar 0) (eC (.str "\n")))) [2] (cName 2) yesT q_rows_of_1))
  (retFilt 1 3 [3] t_rows_of_2))
noncomputable def m_rows_of : List D → M O := run 4 g_rows_of
/-! show_rows -/
noncomputable def q_show_rows_1 : FE :=
  (eStr1 sJoin (eC (.str " ")) (eVar 1))
noncomputable def g_show_rows : FS :=
  (retS (eStr1 sJoin (eC (.str "\n")) (eComp (itC (eVar 0)) [1] (cName 1) yesT q_show_rows_1)))
noncomputable def m_show_rows : List D → M O := run 2 g_show_rows
/-! law_part -/
noncomputable def g_law_part : FS :=
  (retS (eOp tMod (eOp tMod (eOp tMul (eOp tMod (eOp tMul (eOp tAdd (eOp tMod (eVar 0) (eC (.int 99991))) (eC (.int 17))) (eOp tAdd (eC (.int 48271)) (eOp tMul (eC (.int 7919)) (eVar 1)))) (eC (.int 65537))) (eOp tAdd (eVar 1) (eC (.int 3)))) (eC (.int 8191))) (eVar 2)))
noncomputable def m_law_part : List D → M O := run 3 g_law_part
/-! law_written -/
noncomputable def b_law_written_1 : FS :=
  (seqS (ifS (asB (eOp (tOrd gtI gtS) (eVar 3) (eC (.int 0))))
  (asgS (bName 1) (eOp tAdd (eVar 1) (eC (.str " "))))
  skipS)
  (asgS (bName 1) (eOp tAdd (eVar 1) (eOp tIx (eOp tIx (eVar 0) (eVar 2)) (eVar 3)))))
noncomputable def b_law_written_2 : FS :=
  (seqS (ifS (asB (eOp (tOrd gtI gtS) (eVar 2) (eC (.int 0))))
  (asgS (bName 1) (eOp tAdd (eVar 1) (eC (.str "\n"))))
  skipS)
  (forS (itR1 (aCons (eArgs (op1 D.len) (aCons (eOp tIx (eVar 0) (eVar 2)) aNil)) aNil)) (bName 3)
  b_law_written_1))
noncomputable def g_law_written : FS :=
  (seqS (asgS (bName 1) (eC (.str "")))
  (seqS (forS (itR1 (aCons (eArgs (op1 D.len) (aCons (eVar 0) aNil)) aNil)) (bName 2)
  b_law_written_2)
  (retMv 1)))
noncomputable def m_law_written : List D → M O := run 4 g_law_written
/-! law_words -/
noncomputable def b_law_words_1 : FS :=
  (seqS (asgS (bName 9) (eCall m_law_part (aCons (eVar 0) (aCons (eOp tAdd (eVar 8) (eC (.int 2))) (aCons (eC (.int 36)) aNil)))))
  (seqS (ifS (tAndG (asB (eOp tEq (eVar 8) (eVar 4))) (asB (eOp tEq (eCall m_law_part (aCons (eVar 1) (aCons (eC (.int 20)) (aCons (eC (.int 2)) aNil)))) (eC (.int 0)))))
  (asgS (bName 9) (eOp tAdd (eVar 9) (eVar 6)))
  skipS)
  (asgS (bName 7) (eOp tAdd (eVar 7) (eOp tIx (eVar 2) (eOp tMod (eVar 9) (eC (.int 36))))))))
noncomputable def b_law_words_2 : FS :=
  (seqS (asgS (bName 7) (eC (.str "")))
  (seqS (forS (itR1 (aCons (eC (.int 12)) aNil)) (bName 8)
  b_law_words_1)
  (ifS (asB (eOp tEq (eCall m_law_part (aCons (eVar 1) (aCons (eC (.int 20)) (aCons (eC (.int 2)) aNil)))) (eC (.int 0))))
  (mutS "list" (pVar 5) (eSl (eVar 7) oNone (oSome (eVar 3))) opAppend)
  (mutS "list" (pVar 5) (eSl (eVar 7) oNone (oSome (eOp tAdd (eC (.int 1)) (eOp tMod (eOp tAdd (eVar 3) (eVar 6)) (eC (.int 12)))))) opAppend))))
noncomputable def g_law_words : FS :=
  (seqS (asgS (bName 2) (eC (.str "abcdefghijklmnopqrstuvwxyz0123456789")))
  (seqS (asgS (bName 3) (eOp tAdd (eC (.int 1)) (eCall m_law_part (aCons (eVar 0) (aCons (eC (.int 0)) (aCons (eC (.int 12)) aNil))))))
  (seqS (asgS (bName 4) (eCall m_law_part (aCons (eVar 1) (aCons (eC (.int 1)) (aCons (eVar 3) aNil)))))
  (seqS (asgS (bName 5) (eArgs dLst aNil))
  (seqS (forS (itR1 (aCons (eC (.int 4)) aNil)) (bName 6)
  b_law_words_2)
  (retMv 5))))))
noncomputable def m_law_words : List D → M O := run 10 g_law_words
/-! law_rows -/
noncomputable def b_law_rows_1 : FS :=
  (seqS (asgS (bName 4) (eCall m_law_part (aCons (eVar 3) (aCons (eC (.int 21)) (aCons (eC (.int 6)) aNil)))))
  (ifS (asB (eOp tLt (eVar 4) (eC (.int 5))))
  (mutS "list" (pAt (pVar 2) (eUn tNeg (eC (.int 1)))) (eOp tIx (eVar 0) (eOp tIx (eArgs dLst (aCons (eC (.int 0)) (aCons (eC (.int 0)) (aCons (eC (.int 1)) (aCons (eC (.int 2)) (aCons (eC (.int 3)) aNil)))))) (eVar 4))) opAppend)
  (mutS "list" (pVar 2) (eArgs dLst aNil) opAppend)))
noncomputable def g_law_rows : FS :=
  (seqS (asgS (bName 2) (eArgs dLst (aCons (eArgs dLst aNil) aNil)))
  (seqS (forS (itS (eVar 1)) (bName 3)
  b_law_rows_1)
  (retMv 2)))
noncomputable def m_law_rows : List D → M O := run 5 g_law_rows
/-! law_sign_v2 -/
noncomputable def g_law_sign_v2 : FS :=
  (seqS (ifS (tAndG (asB (eOp tEq (eVar 0) (eC (.int 0)))) (asB (eOp (tOrd gtI gtS) (eOp tMod (eVar 1) (eC (.int 4))) (eC (.int 0)))))
  (retS (eOp tIx (eC (.str "abcdefghijklmnopqrstuvwxyzABCDEFGHIJKLMNOPQRSTUVWXYZ0123456789")) (eOp tMod (eOp tDiv (eVar 1) (eC (.int 4))) (eC (.int 62)))))
  skipS)
  (seqS (asgS (bName 2) (eC (.str " !\"#$&'()*+,-./0123456789:;<=>?@ABCDEFGHIJKLMNOPQRSTUVWXYZ[\\]^_`")))
  (seqS (asgS (bName 2) (eOp tAdd (eVar 2) (eC (.str "abcdefghijklmnopqrstuvwxyz{|}~\n"))))
  (retS (eOp tIx (eVar 2) (eOp tMod (eOp tDiv (eVar 1) (eC (.int 4))) (eC (.int 95))))))))
noncomputable def m_law_sign_v2 : List D → M O := run 3 g_law_sign_v2
/-! law_marked -/
noncomputable def b_law_marked_1 : FS :=
  (ifS (asB (eOp (tIn false) (eVar 2) (eC (.str "abcdefghijklmnopqrstuvwxyz0123456789"))))
  (asgS (bName 1) (eOp tAdd (eVar 1) (eVar 2)))
  (ifS (asB (eOp tEq (eVar 2) (eC (.str "\n"))))
  (seqS (asgS (bName 1) (eStr1 (sStr sRstripC) (eVar 1) (eC (.str " "))))
  (ifS (tAndG (asB (eOp tNe (eVar 1) (eC (.str "")))) (asB (eOp tNe (eOp tIx (eVar 1) (eUn tNeg (eC (.int 1)))) (eC (.str "\n")))))
  (asgS (bName 1) (eOp tAdd (eVar 1) (eC (.str "\n"))))
  skipS))
  (ifS (tAndG (asB (eOp tNe (eVar 1) (eC (.str "")))) (asB (eOp (tIn true) (eOp tIx (eVar 1) (eUn tNeg (eC (.int 1)))) (eC (.str " \n")))))
  (asgS (bName 1) (eOp tAdd (eVar 1) (eC (.str " "))))
  skipS)))
noncomputable def g_law_marked : FS :=
  (seqS (asgS (bName 1) (eC (.str "")))
  (seqS (forS (itS (eStr0 sLower (eVar 0))) (bName 2)
  b_law_marked_1)
  (retS (eStr1 (sStr sRstripC) (eVar 1) (eC (.str " \n"))))))
noncomputable def m_law_marked : List D → M O := run 3 g_law_marked
/-! end_of -/
noncomputable def g_end_of : FS :=
  (retS (eSl (eOp tIx (eVar 0) (eOp tIx (eVar 1) (eC (.int 0)))) (oSome (eOp tIx (eVar 1) (eC (.int 1)))) oNone))
noncomputable def m_end_of : List D → M O := run 2 g_end_of
/-! in_common -/
noncomputable def t_in_common_1 : FT :=
  (tAndG (asB (eOp tLt (eVar 2) (eArgs (op1 D.len) (aCons (eVar 0) aNil)))) (tAndG (asB (eOp tLt (eVar 2) (eArgs (op1 D.len) (aCons (eVar 1) aNil)))) (asB (eOp tEq (eOp tIx (eVar 0) (eVar 2)) (eOp tIx (eVar 1) (eVar 2))))))
noncomputable def b_in_common_2 : FS :=
  (asgS (bName 2) (eOp tAdd (eVar 2) (eC (.int 1))))
noncomputable def g_in_common : FS :=
  (seqS (asgS (bName 2) (eC (.int 0)))
  (seqS (whileS t_in_common_1
  b_in_common_2)
  (retMv 2)))
noncomputable def m_in_common : List D → M O := run 3 g_in_common
/-! law_all -/
noncomputable def b_law_all_1 : FS :=
  (mutS "list" (pVar 1) (eArgs dTup (aCons (eVar 2) (aCons (eVar 3) aNil))) opAppend)
noncomputable def b_law_all_2 : FS :=
  (forS (itR1 (aCons (eArgs (op1 D.len) (aCons (eOp tIx (eVar 0) (eVar 2)) aNil)) aNil)) (bName 3)
  b_law_all_1)
noncomputable def g_law_all : FS :=
  (seqS (asgS (bName 1) (eArgs dLst aNil))
  (seqS (forS (itR1 (aCons (eArgs (op1 D.len) (aCons (eVar 0) aNil)) aNil)) (bName 2)
  b_law_all_2)
  (retMv 1)))
noncomputable def m_law_all : List D → M O := run 4 g_law_all
/-! law_copy -/
noncomputable def q_law_copy_1 : FE :=
  (eArgs opList (aCons (eVar 1) aNil))
noncomputable def g_law_copy : FS :=
  (retS (eComp (itC (eVar 0)) [1] (cName 1) yesT q_law_copy_1))
noncomputable def m_law_copy : List D → M O := run 2 g_law_copy
/-! law_whole -/
noncomputable def g_law_whole : FS :=
  (retS (eAnd (eIsa "int" (eVar 0)) (eNot (eIsa "bool" (eVar 0)))))
noncomputable def m_law_whole : List D → M O := run 1 g_law_whole
/-! law_common -/
noncomputable def t_law_common_1 : FT :=
  (tAndG (asB (eOp tLt (eVar 5) (eArgs (op1 D.len) (aCons (eVar 3) aNil)))) (tAndG (asB (eOp tLt (eVar 5) (eArgs (op1 D.len) (aCons (eVar 4) aNil)))) (asB (eOp tEq (eOp tIx (eVar 3) (eVar 5)) (eOp tIx (eVar 4) (eVar 5))))))
noncomputable def b_law_common_2 : FS :=
  (asgS (bName 5) (eOp tAdd (eVar 5) (eC (.int 1))))
noncomputable def g_law_common : FS :=
  (seqS (asgS (bName 3) (eSl (eOp tIx (eVar 0) (eOp tIx (eVar 1) (eC (.int 0)))) (oSome (eOp tIx (eVar 1) (eC (.int 1)))) oNone))
  (seqS (asgS (bName 4) (eSl (eOp tIx (eVar 0) (eOp tIx (eVar 2) (eC (.int 0)))) (oSome (eOp tIx (eVar 2) (eC (.int 1)))) oNone))
  (seqS (asgS (bName 5) (eC (.int 0)))
  (seqS (whileS t_law_common_1
  b_law_common_2)
  (retMv 5)))))
noncomputable def m_law_common : List D → M O := run 6 g_law_common
/-! shares -/
noncomputable def b_shares_1 : FS :=
  (ifS (asB (eOp tEq (eVar 3) (eC (.int 0))))
  (mutS "list" (pVar 2) (eC (.int 0)) opAppend)
  (mutS "list" (pVar 2) (eCall m_in_common (aCons (eCall m_end_of (aCons (eVar 0) (aCons (eOp tIx (eVar 1) (eOp tSub (eVar 3) (eC (.int 1)))) aNil))) (aCons (eCall m_end_of (aCons (eVar 0) (aCons (eOp tIx (eVar 1) (eVar 3)) aNil))) aNil))) opAppend))
noncomputable def g_shares : FS :=
  (seqS (asgS (bName 2) (eArgs dLst aNil))
  (seqS (forS (itR1 (aCons (eArgs (op1 D.len) (aCons (eVar 1) aNil)) aNil)) (bName 3)
  b_shares_1)
  (retMv 2)))
noncomputable def m_shares : List D → M O := run 4 g_shares
/-! law_words_v2 -/
noncomputable def b_law_words_v2_1 : FS :=
  (seqS (asgS (bName 9) (eCall m_law_part (aCons (eVar 0) (aCons (eOp tAdd (eVar 8) (eC (.int 2))) (aCons (eC (.int 36)) aNil)))))
  (seqS (ifS (asB (eOp tEq (eVar 8) (eVar 4)))
  (asgS (bName 9) (eOp tAdd (eVar 9) (eVar 6)))
  skipS)
  (asgS (bName 7) (eOp tAdd (eVar 7) (eOp tIx (eVar 2) (eOp tMod (eVar 9) (eC (.int 36))))))))
noncomputable def b_law_words_v2_2 : FS :=
  (seqS (asgS (bName 7) (eC (.str "")))
  (seqS (forS (itR1 (aCons (eVar 3) aNil)) (bName 8)
  b_law_words_v2_1)
  (mutS "list" (pVar 5) (eVar 7) opAppend)))
noncomputable def q_law_words_v2_3 : FE :=
  (eSl (eOp tIx (eVar 5) (eC (.int 0))) oNone (oSome (eOp tSub (eVar 3) (eVar 6))))
noncomputable def g_law_words_v2 : FS :=
  (seqS (asgS (bName 2) (eC (.str "abcdefghijklmnopqrstuvwxyz0123456789")))
  (seqS (asgS (bName 3) (eOp tAdd (eC (.int 1)) (eCall m_law_part (aCons (eVar 0) (aCons (eC (.int 0)) (aCons (eC (.int 14)) aNil))))))
  (seqS (asgS (bName 4) (eCall m_law_part (aCons (eVar 1) (aCons (eC (.int 1)) (aCons (eVar 3) aNil)))))
  (seqS (asgS (bName 5) (eArgs dLst aNil))
  (seqS (forS (itR1 (aCons (eC (.int 5)) aNil)) (bName 6)
  b_law_words_v2_2)
  (seqS (ifS (tAndG (asB (eOp (tOrd gtI gtS) (eVar 3) (eC (.int 4)))) (asB (eOp tEq (eOp tMod (eVar 1) (eC (.int 2))) (eC (.int 1)))))
  (retS (eComp (fun env => mSh ((itR1 (aCons (eC (.int 5)) aNil)) env)) [6] (cName 6) yesT q_law_words_v2_3))
  skipS)
  (retMv 5)))))))
noncomputable def m_law_words_v2 : List D → M O := run 10 g_law_words_v2
/-! law_rows_v2 -/
noncomputable def b_law_rows_v2_1 : FS :=
  (ifS (asB (eOp tEq (eCall m_law_part (aCons (eVar 3) (aCons (eC (.int 3)) (aCons (eC (.int 8)) aNil)))) (eC (.int 0))))
  (mutS "list" (pVar 2) (eArgs dLst aNil) opAppend)
  (mutS "list" (pAt (pVar 2) (eUn tNeg (eC (.int 1)))) (eOp tIx (eVar 0) (eOp tIx (eArgs dLst (aCons (eC (.int 0)) (aCons (eC (.int 0)) (aCons (eC (.int 0)) (aCons (eC (.int 1)) (aCons (eC (.int 1)) (aCons (eC (.int 1)) (aCons (eC (.int 2)) (aCons (eC (.int 3)) (aCons (eC (.int 4)) aNil)))))))))) (eCall m_law_part (aCons (eVar 3) (aCons (eC (.int 4)) (aCons (eC (.int 9)) aNil)))))) opAppend))
noncomputable def g_law_rows_v2 : FS :=
  (seqS (asgS (bName 2) (eArgs dLst (aCons (eArgs dLst aNil) aNil)))
  (seqS (forS (itS (eVar 1)) (bName 3)
  b_law_rows_v2_1)
  (retMv 2)))
noncomputable def m_law_rows_v2 : List D → M O := run 4 g_law_rows_v2
/-! law_is_place -/
noncomputable def g_law_is_place : FS :=
  (retS (eAnd (eIsa "tuple" (eVar 0)) (eAnd (eOp tEq (eArgs (op1 D.len) (aCons (eVar 0) aNil)) (eC (.int 2))) (eAnd (eCall m_law_whole (aCons (eOp tIx (eVar 0) (eC (.int 0))) aNil)) (eCall m_law_whole (aCons (eOp tIx (eVar 0) (eC (.int 1))) aNil))))))
noncomputable def m_law_is_place : List D → M O := run 1 g_law_is_place
/-! law_right -/
noncomputable def b_law_right_1 : FS :=
  (seqS (asgS (bName 5) (eC (.int 0)))
  (seqS (ifS (asB (eOp (tOrd gtI gtS) (eVar 4) (eC (.int 0))))
  (asgS (bName 5) (eCall m_law_common (aCons (eVar 0) (aCons (eOp tIx (eVar 1) (eOp tSub (eVar 4) (eC (.int 1)))) (aCons (eOp tIx (eVar 1) (eVar 4)) aNil)))))
  skipS)
  (ifS (tOrG (tNotG (asB (eCall m_law_whole (aCons (eOp tIx (eVar 3) (eVar 4)) aNil)))) (asB (eOp tNe (eOp tIx (eVar 3) (eVar 4)) (eVar 5))))
  (retS (eC (.bl false)))
  skipS)))
noncomputable def g_law_right : FS :=
  (seqS (asgS (bName 2) (eArgs dTup (aCons (eCall m_law_copy (aCons (eVar 0) aNil)) (aCons (eArgs opList (aCons (eVar 1) aNil)) aNil))))
  (seqS (asgS (bName 3) (eCall m_shares (aCons (eOp tIx (eVar 2) (eC (.int 0))) (aCons (eOp tIx (eVar 2) (eC (.int 1))) aNil))))
  (seqS (ifS (tOrG (tNotG (asB (eIsa "list" (eVar 3)))) (asB (eOp tNe (eArgs (op1 D.len) (aCons (eVar 3) aNil)) (eArgs (op1 D.len) (aCons (eVar 1) aNil)))))
  (retS (eC (.bl false)))
  skipS)
  (seqS (ifS (asB (eOp tNe (eVar 2) (eArgs dTup (aCons (eVar 0) (aCons (eVar 1) aNil)))))
  (retS (eC (.bl false)))
  skipS)
  (seqS (forS (itR1 (aCons (eArgs (op1 D.len) (aCons (eVar 1) aNil)) aNil)) (bName 4)
  b_law_right_1)
  (retS (eC (.bl true))))))))
noncomputable def m_law_right : List D → M O := run 6 g_law_right
/-! places_of -/
noncomputable def b_places_of_1 : FS :=
  (ifS (asB (eOp tEq (eSl (eOp tIx (eVar 0) (eVar 4)) (oSome (eVar 5)) (oSome (eOp tAdd (eVar 5) (eArgs (op1 D.len) (aCons (eVar 2) aNil))))) (eVar 2)))
  (mutS "list" (pVar 3) (eArgs dTup (aCons (eVar 4) (aCons (eVar 5) aNil))) opAppend)
  skipS)
noncomputable def b_places_of_2 : FS :=
  (forS (itR1 (aCons (eArgs (op1 D.len) (aCons (eOp tIx (eVar 0) (eVar 4)) aNil)) aNil)) (bName 5)
  b_places_of_1)
noncomputable def g_places_of : FS :=
  (seqS (asgS (bName 2) (eArgs opList (aCons (eVar 1) aNil)))
  (seqS (asgS (bName 3) (eArgs dLst aNil))
  (seqS (forS (itR1 (aCons (eArgs (op1 D.len) (aCons (eVar 0) aNil)) aNil)) (bName 4)
  b_places_of_2)
  (retMv 3))))
noncomputable def m_places_of : List D → M O := run 6 g_places_of
/-! law_comes -/
noncomputable def b_law_comes_1 : FS :=
  (ifS (tOrG (asB (eOp (tOrd geI geS) (eOp tAdd (eVar 1) (eVar 3)) (eArgs (op1 D.len) (aCons (eVar 0) aNil)))) (asB (eOp tNe (eOp tIx (eVar 0) (eOp tAdd (eVar 1) (eVar 3))) (eOp tIx (eVar 2) (eVar 3)))))
  (retS (eC (.bl false)))
  skipS)
noncomputable def g_law_comes : FS :=
  (seqS (forS (itR1 (aCons (eArgs (op1 D.len) (aCons (eVar 2) aNil)) aNil)) (bName 3)
  b_law_comes_1)
  (retS (eC (.bl true))))
noncomputable def m_law_comes : List D → M O := run 4 g_law_comes
/-! law_stretch -/
noncomputable def q_law_stretch_1 : FE :=
  (eOp tIx (eVar 0) (eCall m_law_part (aCons (eVar 2) (aCons (eOp tAdd (eC (.int 31)) (eVar 7)) (aCons (eC (.int 4)) aNil)))))
noncomputable def g_law_stretch : FS :=
  (seqS (asgS (bName 3) (eOp tAdd (eC (.int 1)) (eCall m_law_part (aCons (eVar 2) (aCons (eC (.int 30)) (aCons (eC (.int 4)) aNil))))))
  (seqS (asgS (bName 4) (eComp (fun env => mSh ((itR1 (aCons (eVar 3) aNil)) env)) [7] (cName 7) yesT q_law_stretch_1))
  (seqS (asgS (bName 5) (eOp tIx (eVar 1) (eCall m_law_part (aCons (eVar 2) (aCons (eC (.int 35)) (aCons (eArgs (op1 D.len) (aCons (eVar 1) aNil)) aNil))))))
  (seqS (ifS (tAndG (asB (eOp tEq (eCall m_law_part (aCons (eVar 2) (aCons (eC (.int 36)) (aCons (eC (.int 2)) aNil)))) (eC (.int 1)))) (asB (eOp (tOrd gtI gtS) (eArgs (op1 D.len) (aCons (eVar 5) aNil)) (eC (.int 0)))))
  (seqS (asgS (bName 6) (eCall m_law_part (aCons (eVar 2) (aCons (eC (.int 37)) (aCons (eArgs (op1 D.len) (aCons (eVar 5) aNil)) aNil)))))
  (asgS (bName 4) (eSl (eVar 5) (oSome (eVar 6)) (oSome (eOp tAdd (eVar 6) (eVar 3))))))
  skipS)
  (retS (eArgs opTuple (aCons (eVar 4) aNil)))))))
noncomputable def m_law_stretch : List D → M O := run 8 g_law_stretch
/-! base_of -/
noncomputable def g_base_of : FS :=
  (seqS (ifS (asB (eOp tEq (eVar 0) (eArgs dTup (aCons (eC (.int 1)) (aCons (eC (.int 1)) aNil)))))
  (retS (eOp tIx (eVar 1) (eC (.int 0))))
  skipS)
  (seqS (ifS (tAndG (asB (eOp (tOrd gtI gtS) (eOp tIx (eVar 0) (eC (.int 0))) (eC (.int 0)))) (asB (eOp (tOrd gtI gtS) (eOp tIx (eVar 0) (eC (.int 1))) (eC (.int 0)))))
  (retS (eOp tIx (eVar 1) (eC (.int 1))))
  skipS)
  (retS (eOp tIx (eVar 1) (eC (.int 2))))))
noncomputable def m_base_of : List D → M O := run 2 g_base_of
/-! words_in -/
noncomputable def b_words_in_1 : FS :=
  (mutS "list" (pVar 1) (eVar 2) opExtend)
noncomputable def g_words_in : FS :=
  (seqS (asgS (bName 1) (eArgs dLst aNil))
  (seqS (forS (itS (eVar 0)) (bName 2)
  b_words_in_1)
  (retMv 1)))
noncomputable def m_words_in : List D → M O := run 3 g_words_in
/-! lone_words -/
noncomputable def q_lone_words_1 : FE :=
  (eOp (tIn false) (eArgs dTup (aCons (eVar 4) (aCons (eVar 5) aNil))) (eVar 2))
noncomputable def b_lone_words_2 : FS :=
  (ifS (tNotG (asB (eArgs (op1 D.any) (aCons (eComp (itC (eVar 1)) [5] (cName 5) yesT q_lone_words_1) aNil))))
  (asgS (bName 3) (eOp tAdd (eVar 3) (eC (.int 1))))
  skipS)
noncomputable def q_lone_words_3 : FE :=
  (eOp (tIn false) (eArgs dTup (aCons (eVar 5) (aCons (eVar 4) aNil))) (eVar 2))
noncomputable def b_lone_words_4 : FS :=
  (ifS (tNotG (asB (eArgs (op1 D.any) (aCons (eComp (itC (eVar 0)) [5] (cName 5) yesT q_lone_words_3) aNil))))
  (asgS (bName 3) (eOp tAdd (eVar 3) (eC (.int 1))))
  skipS)
noncomputable def g_lone_words : FS :=
  (seqS (asgS (bName 3) (eC (.int 0)))
  (seqS (forS (itS (eVar 0)) (bName 4)
  b_lone_words_2)
  (seqS (forS (itS (eVar 1)) (bName 4)
  b_lone_words_4)
  (retMv 3))))
noncomputable def m_lone_words : List D → M O := run 6 g_lone_words
/-! law_lone -/
noncomputable def b_law_lone_1 : FS :=
  (ifS (tOrG (tAndG (asB (eVar 3)) (tAndG (asB (eOp tEq (eVar 8) (eVar 5))) (asB (eOp (tIn false) (eVar 7) (eVar 1))))) (tAndG (tNotG (asB (eVar 3))) (tAndG (asB (eOp tEq (eVar 7) (eVar 5))) (asB (eOp (tIn false) (eVar 8) (eVar 1))))))
  (asgS (bName 6) (eC (.bl true)))
  skipS)
noncomputable def b_law_lone_2 : FS :=
  (seqS (asgS (bName 6) (eC (.bl false)))
  (seqS (forS (itS (eVar 2)) (bTup 2 (bCons (bName 7) (bCons (bName 8) bNil)))
  b_law_lone_1)
  (ifS (tNotG (asB (eVar 6)))
  (asgS (bName 4) (eOp tAdd (eVar 4) (eC (.int 1))))
  skipS)))
noncomputable def g_law_lone : FS :=
  (seqS (asgS (bName 4) (eC (.int 0)))
  (seqS (forS (itS (eVar 0)) (bName 5)
  b_law_lone_2)
  (retMv 4)))
noncomputable def m_law_lone : List D → M O := run 9 g_law_lone
/-! price -/
noncomputable def g_price : FS :=
  (seqS (asgS (bName 4) (eCall m_words_in (aCons (eVar 0) aNil)))
  (seqS (asgS (bName 5) (eCall m_words_in (aCons (eVar 1) aNil)))
  (seqS (asgS (bName 6) (eCall m_lone_words (aCons (eVar 4) (aCons (eVar 5) (aCons (eVar 3) aNil)))))
  (retS (eOp tAdd (eOp tAdd (eCall m_base_of (aCons (eArgs dTup (aCons (eArgs (op1 D.len) (aCons (eVar 0) aNil)) (aCons (eArgs (op1 D.len) (aCons (eVar 1) aNil)) aNil))) (aCons (eVar 2) aNil))) (eOp tMul (eOp tIx (eVar 2) (eC (.int 3))) (eArgs (op1 D.abs) (aCons (eOp tSub (eArgs (op1 D.len) (aCons (eVar 4) aNil)) (eArgs (op1 D.len) (aCons (eVar 5) aNil))) aNil)))) (eOp tMul (eOp tIx (eVar 2) (eC (.int 4))) (eVar 6)))))))
noncomputable def m_price : List D → M O := run 7 g_price
/-! law_pairs -/
noncomputable def b_law_pairs_1 : FS :=
  (seqS (asgS (bName 5) (eOp tIx (eVar 0) (eCall m_law_part (aCons (eVar 2) (aCons (eOp tAdd (eC (.int 43)) (eVar 4)) (aCons (eC (.int 4)) aNil))))))
  (seqS (asgS (bName 6) (eOp tIx (eVar 1) (eCall m_law_part (aCons (eVar 2) (aCons (eOp tAdd (eC (.int 53)) (eVar 4)) (aCons (eC (.int 4)) aNil))))))
  (mutS "list" (pVar 3) (eArgs dTup (aCons (eVar 5) (aCons (eVar 6) aNil))) opAppend)))
noncomputable def g_law_pairs : FS :=
  (seqS (asgS (bName 3) (eArgs dLst aNil))
  (seqS (forS (itR1 (aCons (eCall m_law_part (aCons (eVar 2) (aCons (eC (.int 42)) (aCons (eC (.int 9)) aNil)))) aNil)) (bName 4)
  b_law_pairs_1)
  (retMv 3)))
noncomputable def m_law_pairs : List D → M O := run 7 g_law_pairs
/-! law_prices -/
noncomputable def q_law_prices_1 : FE :=
  (eCall m_law_part (aCons (eVar 0) (aCons (eOp tAdd (eC (.int 44)) (eVar 3)) (aCons (eC (.int 6)) aNil))))
noncomputable def g_law_prices : FS :=
  (seqS (asgS (bName 1) (eOp tMod (eVar 0) (eOp tAdd (eOp tPow (eC (.int 10)) (eC (.int 60))) (eC (.int 1)))))
  (seqS (asgS (bName 2) (eArgs dLst (aCons (eVar 1) (aCons (eOp tDiv (eVar 1) (eC (.int 3))) (aCons (eOp tDiv (eVar 1) (eC (.int 7))) (aCons (eOp tDiv (eVar 1) (eC (.int 11))) (aCons (eOp tMod (eVar 1) (eC (.int 13))) aNil)))))))
  (seqS (ifS (asB (eOp (tOrd gtI gtS) (eCall m_law_part (aCons (eVar 0) (aCons (eC (.int 41)) (aCons (eC (.int 3)) aNil)))) (eC (.int 0))))
  (asgS (bName 2) (eComp (fun env => mSh ((itR1 (aCons (eC (.int 5)) aNil)) env)) [3] (cName 3) yesT q_law_prices_1))
  skipS)
  (retS (eArgs opTuple (aCons (eVar 2) aNil))))))
noncomputable def m_law_prices : List D → M O := run 4 g_law_prices
/-! law_step_price -/
noncomputable def b_law_step_price_1 : FS :=
  (asgS (bName 4) (eOp tAdd (eVar 4) (eVar 5)))
noncomputable def b_law_step_price_2 : FS :=
  (asgS (bName 6) (eOp tAdd (eVar 6) (eVar 5)))
noncomputable def g_law_step_price : FS :=
  (seqS (asgS (bName 4) (eArgs dLst aNil))
  (seqS (forS (itS (eVar 0)) (bName 5)
  b_law_step_price_1)
  (seqS (asgS (bName 6) (eArgs dLst aNil))
  (seqS (forS (itS (eVar 1)) (bName 5)
  b_law_step_price_2)
  (seqS (asgS (bName 7) (eOp tIx (eVar 2) (eC (.int 2))))
  (seqS (ifS (tAndG (asB (eOp tEq (eArgs (op1 D.len) (aCons (eVar 0) aNil)) (eC (.int 1)))) (asB (eOp tEq (eArgs (op1 D.len) (aCons (eVar 1) aNil)) (eC (.int 1)))))
  (asgS (bName 7) (eOp tIx (eVar 2) (eC (.int 0))))
  (ifS (tAndG (asB (eOp (tOrd gtI gtS) (eArgs (op1 D.len) (aCons (eVar 0) aNil)) (eC (.int 0)))) (asB (eOp (tOrd gtI gtS) (eArgs (op1 D.len) (aCons (eVar 1) aNil)) (eC (.int 0)))))
  (asgS (bName 7) (eOp tIx (eVar 2) (eC (.int 1))))
  skipS))
  (seqS (asgS (bName 7) (eOp tAdd (eVar 7) (eOp tMul (eOp tIx (eVar 2) (eC (.int 3))) (eArgs opMax2 (aCons (eOp tSub (eArgs (op1 D.len) (aCons (eVar 4) aNil)) (eArgs (op1 D.len) (aCons (eVar 6) aNil))) (aCons (eOp tSub (eArgs (op1 D.len) (aCons (eVar 6) aNil)) (eArgs (op1 D.len) (aCons (eVar 4) aNil))) aNil))))))
  (seqS (asgS (bName 8) (eOp tAdd (eCall m_law_lone (aCons (eVar 4) (aCons (eVar 6) (aCons (eVar 3) (aCons (eC (.bl false)) aNil))))) (eCall m_law_lone (aCons (eVar 6) (aCons (eVar 4) (aCons (eVar 3) (aCons (eC (.bl true)) aNil)))))))
  (retS (eOp tAdd (eVar 7) (eOp tMul (eOp tIx (eVar 2) (eC (.int 4))) (eVar 8))))))))))))
noncomputable def m_law_step_price : List D → M O := run 9 g_law_step_price
/-! links -/
noncomputable def q_links_1 : FE :=
  (eOp tAdd (eVar 3) (eVar 5))
noncomputable def q_links_2 : FE :=
  (eOp tAdd (eVar 2) (eVar 5))
noncomputable def b_links_3 : FS :=
  (seqS (mutS "list" (pVar 1) (eArgs dTup (aCons (eComp (fun env => mSh ((itR1 (aCons (eOp tIx (eVar 4) (eC (.int 0))) aNil)) env)) [5] (cName 5) yesT q_links_2) (aCons (eComp (fun env => mSh ((itR1 (aCons (eOp tIx (eVar 4) (eC (.int 1))) aNil)) env)) [5] (cName 5) yesT q_links_1) aNil))) opAppend)
  (seqS (asgS (bName 2) (eOp tAdd (eVar 2) (eOp tIx (eVar 4) (eC (.int 0)))))
  (asgS (bName 3) (eOp tAdd (eVar 3) (eOp tIx (eVar 4) (eC (.int 1)))))))
noncomputable def g_links : FS :=
  (seqS (asgS (bName 1) (eArgs dLst aNil))
  (seqS (asgS (bName 2) (eC (.int 0)))
  (seqS (asgS (bName 3) (eC (.int 0)))
  (seqS (forS (itS (eVar 0)) (bName 4)
  b_links_3)
  (retMv 1)))))
noncomputable def m_links : List D → M O := run 6 g_links
/-! law_text -/
noncomputable def b_law_text_1 : FS :=
  (seqS (asgS (bName 4) (eCall m_law_part (aCons (eVar 3) (aCons (eC (.int 21)) (aCons (eC (.int 6)) aNil)))))
  (ifS (tAndG (asB (eOp tLt (eVar 4) (eC (.int 4)))) (asB (eOp tNe (eVar 2) (eArgs dLst aNil))))
  (mutS "list" (pAt (pVar 2) (eUn tNeg (eC (.int 1)))) (eOp tIx (eVar 0) (eVar 4)) opAppend)
  (ifS (asB (eOp tLt (eArgs (op1 D.len) (aCons (eVar 2) aNil)) (eC (.int 3))))
  (mutS "list" (pVar 2) (eArgs dLst (aCons (eOp tIx (eVar 0) (eOp tMod (eVar 4) (eC (.int 4)))) aNil)) opAppend)
  skipS)))
noncomputable def g_law_text : FS :=
  (seqS (asgS (bName 2) (eArgs dLst aNil))
  (seqS (forS (itS (eVar 1)) (bName 3)
  b_law_text_1)
  (retMv 2)))
noncomputable def m_law_text : List D → M O := run 5 g_law_text
/-! step_to -/
noncomputable def g_step_to : FS :=
  (retS (eCall m_price (aCons (eSl (eVar 0) (oSome (eOp tSub (eVar 4) (eOp tIx (eVar 6) (eC (.int 0))))) (oSome (eVar 4))) (aCons (eSl (eVar 1) (oSome (eOp tSub (eVar 5) (eOp tIx (eVar 6) (eC (.int 1))))) (oSome (eVar 5))) (aCons (eVar 2) (aCons (eVar 3) aNil))))))
noncomputable def m_step_to : List D → M O := run 7 g_step_to
/-! law_text_v2 -/
noncomputable def b_law_text_v2_1 : FS :=
  (seqS (asgS (bName 4) (eCall m_law_part (aCons (eVar 3) (aCons (eC (.int 21)) (aCons (eC (.int 6)) aNil)))))
  (ifS (asB (eOp tLt (eVar 4) (eC (.int 4))))
  (mutS "list" (pAt (pVar 2) (eUn tNeg (eC (.int 1)))) (eOp tIx (eVar 0) (eVar 4)) opAppend)
  (ifS (asB (eOp tLt (eArgs (op1 D.len) (aCons (eVar 2) aNil)) (eC (.int 5))))
  (mutS "list" (pVar 2) (eArgs dLst aNil) opAppend)
  skipS)))
noncomputable def g_law_text_v2 : FS :=
  (seqS (asgS (bName 2) (eArgs dLst (aCons (eArgs dLst aNil) aNil)))
  (seqS (forS (itS (eVar 1)) (bName 3)
  b_law_text_v2_1)
  (seqS (ifS (asB (eOp tEq (eCall m_law_part (aCons (eOp tAdd (eArgs (op1 D.len) (aCons (eOp tIx (eVar 2) (eUn tNeg (eC (.int 1)))) aNil)) (eArgs (op1 D.len) (aCons (eVar 1) aNil))) (aCons (eC (.int 24)) (aCons (eC (.int 5)) aNil)))) (eC (.int 1))))
  (popX (pVar 2))
  skipS)
  (retMv 2))))
noncomputable def m_law_text_v2 : List D → M O := run 5 g_law_text_v2
/-! law_field -/
noncomputable def b_law_field_1 : FS :=
  (ifS (tAndG (asB (eOp (tOrd leI leS) (eVar 9) (eVar 5))) (asB (eOp (tOrd leI leS) (eVar 10) (eVar 6))))
  (seqS (asgS (bName 11) (eSl (eVar 0) (oSome (eOp tSub (eVar 5) (eVar 9))) (oSome (eVar 5))))
  (seqS (asgS (bName 12) (eSl (eVar 1) (oSome (eOp tSub (eVar 6) (eVar 10))) (oSome (eVar 6))))
  (seqS (asgS (bName 13) (eOp tIx (eOp tIx (eOp tIx (eVar 4) (eOp tSub (eVar 5) (eVar 9))) (eOp tSub (eVar 6) (eVar 10))) (eC (.int 0))))
  (seqS (asgS (bName 13) (eOp tAdd (eVar 13) (eCall m_law_step_price (aCons (eVar 11) (aCons (eVar 12) (aCons (eVar 2) (aCons (eVar 3) aNil)))))))
  (seqS (ifS (tOrG (asB (eOp (tIs false) (eVar 7) (eC .non))) (asB (eOp tLt (eVar 13) (eVar 7))))
  (seqS (asgS (bName 7) (eVar 13))
  (asgS (bName 8) (eC (.int 0))))
  skipS)
  (ifS (asB (eOp tEq (eVar 13) (eVar 7)))
  (asgS (bName 8) (eOp tAdd (eVar 8) (eOp tIx (eOp tIx (eOp tIx (eVar 4) (eOp tSub (eVar 5) (eVar 9))) (eOp tSub (eVar 6) (eVar 10))) (eC (.int 1)))))
  skipS))))))
  skipS)
noncomputable def g_law_field : FS :=
  (seqS (ifS (tAndG (asB (eOp tEq (eVar 5) (eC (.int 0)))) (asB (eOp tEq (eVar 6) (eC (.int 0)))))
  (retS (eArgs dTup (aCons (eC (.int 0)) (aCons (eC (.int 1)) aNil))))
  skipS)
  (seqS (asgS (bName 7) (eC .non))
  (seqS (asgS (bName 8) (eC (.int 0)))
  (seqS (forS (itS (eArgs dLst (aCons (eArgs dTup (aCons (eC (.int 1)) (aCons (eC (.int 1)) aNil))) (aCons (eArgs dTup (aCons (eC (.int 1)) (aCons (eC (.int 2)) aNil))) (aCons (eArgs dTup (aCons (eC (.int 2)) (aCons (eC (.int 1)) aNil))) (aCons (eArgs dTup (aCons (eC (.int 1)) (aCons (eC (.int 0)) aNil))) (aCons (eArgs dTup (aCons (eC (.int 0)) (aCons (eC (.int 1)) aNil))) aNil))))))) (bTup 2 (bCons (bName 9) (bCons (bName 10) bNil)))
  b_law_field_1)
  (retS (eArgs dTup (aCons (eVar 7) (aCons (eVar 8) aNil))))))))
noncomputable def m_law_field : List D → M O := run 14 g_law_field
def d_STEPS : D := .rol [.kup [.int 1, .int 1], .kup [.int 1, .int 2], .kup [.int 2, .int 1], .kup [.int 1, .int 0], .kup [.int 0, .int 1]]
/-! entries -/
noncomputable def b_entries_1 : FS :=
  (ifS (tAndG (asB (eOp (tOrd leI leS) (eOp tIx (eVar 8) (eC (.int 0))) (eVar 5))) (asB (eOp (tOrd leI leS) (eOp tIx (eVar 8) (eC (.int 1))) (eVar 6))))
  (seqS (asgS (bTup 2 (bCons (bName 9) (bCons (bName 10) bNil))) (eOp tIx (eOp tIx (eVar 4) (eOp tSub (eVar 5) (eOp tIx (eVar 8) (eC (.int 0))))) (eOp tSub (eVar 6) (eOp tIx (eVar 8) (eC (.int 1))))))
  (mutS "list" (pVar 7) (eArgs dTup (aCons (eOp tAdd (eVar 9) (eCall m_step_to (aCons (eVar 0) (aCons (eVar 1) (aCons (eVar 2) (aCons (eVar 3) (aCons (eVar 5) (aCons (eVar 6) (aCons (eVar 8) aNil))))))))) (aCons (eVar 10) (aCons (eVar 8) aNil)))) opAppend))
  skipS)
noncomputable def g_entries : FS :=
  (seqS (asgS (bName 7) (eArgs dLst aNil))
  (seqS (forS (itS (eC d_STEPS)) (bName 8)
  b_entries_1)
  (retMv 7)))
noncomputable def m_entries : List D → M O := run 11 g_entries
/-! law_is_paper -/
noncomputable def b_law_is_paper_1 : FS :=
  (seqS (asgS (bName 7) (eOp tIx (eOp tIx (eVar 4) (eVar 5)) (eVar 6)))
  (seqS (ifS (tOrG (tNotG (asB (eIsa "tuple" (eVar 7)))) (tOrG (asB (eOp tNe (eArgs (op1 D.len) (aCons (eVar 7) aNil)) (eC (.int 2)))) (tOrG (asB (eIsa "bool" (eOp tIx (eVar 7) (eC (.int 0))))) (asB (eIsa "bool" (eOp tIx (eVar 7) (eC (.int 1))))))))
  (retS (eC (.bl false)))
  skipS)
  (ifS (asB (eOp tNe (eVar 7) (eCall m_law_field (aCons (eVar 0) (aCons (eVar 1) (aCons (eVar 2) (aCons (eVar 3) (aCons (eVar 4) (aCons (eVar 5) (aCons (eVar 6) aNil))))))))))
  (retS (eC (.bl false)))
  skipS)))
noncomputable def b_law_is_paper_2 : FS :=
  (seqS (ifS (tOrG (tNotG (asB (eIsa "list" (eOp tIx (eVar 4) (eVar 5))))) (asB (eOp tNe (eArgs (op1 D.len) (aCons (eOp tIx (eVar 4) (eVar 5)) aNil)) (eOp tAdd (eArgs (op1 D.len) (aCons (eVar 1) aNil)) (eC (.int 1))))))
  (retS (eC (.bl false)))
  skipS)
  (forS (itR1 (aCons (eOp tAdd (eArgs (op1 D.len) (aCons (eVar 1) aNil)) (eC (.int 1))) aNil)) (bName 6)
  b_law_is_paper_1))
noncomputable def g_law_is_paper : FS :=
  (seqS (ifS (tOrG (tNotG (asB (eIsa "list" (eVar 4)))) (asB (eOp tNe (eArgs (op1 D.len) (aCons (eVar 4) aNil)) (eOp tAdd (eArgs (op1 D.len) (aCons (eVar 0) aNil)) (eC (.int 1))))))
  (retS (eC (.bl false)))
  skipS)
  (seqS (forS (itR1 (aCons (eOp tAdd (eArgs (op1 D.len) (aCons (eVar 0) aNil)) (eC (.int 1))) aNil)) (bName 5)
  b_law_is_paper_2)
  (retS (eC (.bl true)))))
noncomputable def m_law_is_paper : List D → M O := run 8 g_law_is_paper
/-! field -/
noncomputable def q_field_1 : FE :=
  (eOp tIx (eVar 9) (eC (.int 0)))
noncomputable def q_field_2 : FE :=
  (eOp tIx (eVar 9) (eC (.int 1)))
noncomputable def t_field_2 : FT :=
  (asB (eOp tEq (eOp tIx (eVar 9) (eC (.int 0))) (eVar 8)))
noncomputable def g_field : FS :=
  (seqS (ifS (tAndG (asB (eOp tEq (eVar 5) (eC (.int 0)))) (asB (eOp tEq (eVar 6) (eC (.int 0)))))
  (retS (eArgs dTup (aCons (eC (.int 0)) (aCons (eC (.int 1)) aNil))))
  skipS)
  (seqS (asgS (bName 7) (eCall m_entries (aCons (eVar 0) (aCons (eVar 1) (aCons (eVar 2) (aCons (eVar 3) (aCons (eVar 4) (aCons (eVar 5) (aCons (eVar 6) aNil)))))))))
  (seqS (asgS (bName 8) (eArgs (op1 D.min1) (aCons (eComp (itC (eVar 7)) [9] (cName 9) yesT q_field_1) aNil)))
  (retS (eArgs dTup (aCons (eVar 8) (aCons (eArgs (op1 D.sum) (aCons (eComp (itC (eVar 7)) [9] (cName 9) t_field_2 q_field_2) aNil)) aNil)))))))
noncomputable def m_field : List D → M O := run 10 g_field
/-! paper -/
noncomputable def b_paper_1 : FS :=
  (mutS "list" (pAt (pVar 4) (eVar 5)) (eCall m_field (aCons (eVar 0) (aCons (eVar 1) (aCons (eVar 2) (aCons (eVar 3) (aCons (eVar 4) (aCons (eVar 5) (aCons (eVar 6) aNil)))))))) opAppend)
noncomputable def b_paper_2 : FS :=
  (seqS (mutS "list" (pVar 4) (eArgs dLst aNil) opAppend)
  (forS (itR1 (aCons (eOp tAdd (eArgs (op1 D.len) (aCons (eVar 1) aNil)) (eC (.int 1))) aNil)) (bName 6)
  b_paper_1))
noncomputable def g_paper : FS :=
  (seqS (asgS (bName 4) (eArgs dLst aNil))
  (seqS (forS (itR1 (aCons (eOp tAdd (eArgs (op1 D.len) (aCons (eVar 0) aNil)) (eC (.int 1))) aNil)) (bName 5)
  b_paper_2)
  (retMv 4)))
noncomputable def m_paper : List D → M O := run 7 g_paper
/-! law_bent -/
noncomputable def q_law_bent_1 : FE :=
  (eArgs opList (aCons (eVar 10) aNil))
noncomputable def g_law_bent : FS :=
  (seqS (asgS (bName 2) (eComp (itC (eVar 0)) [10] (cName 10) yesT q_law_bent_1))
  (seqS (asgS (bName 3) (eCall m_law_part (aCons (eVar 1) (aCons (eC (.int 25)) (aCons (eArgs (op1 D.len) (aCons (eVar 2) aNil)) aNil)))))
  (seqS (asgS (bName 4) (eCall m_law_part (aCons (eVar 1) (aCons (eC (.int 26)) (aCons (eArgs (op1 D.len) (aCons (eOp tIx (eVar 2) (eVar 3)) aNil)) aNil)))))
  (seqS (asgS (bName 5) (eOp tIx (eArgs dLst (aCons (eC (.int 0)) (aCons (eC (.int 1)) (aCons (eUn tNeg (eC (.int 1))) (aCons (eOp tMod (eVar 1) (eOp tPow (eC (.int 10)) (eC (.int 60)))) aNil))))) (eCall m_law_part (aCons (eVar 1) (aCons (eC (.int 27)) (aCons (eC (.int 4)) aNil))))))
  (seqS (asgS (bTup 2 (bCons (bName 7) (bCons (bName 8) bNil))) (eOp tIx (eOp tIx (eVar 2) (eVar 3)) (eVar 4)))
  (seqS (asgS (bName 6) (eCall m_law_part (aCons (eVar 1) (aCons (eC (.int 28)) (aCons (eC (.int 3)) aNil)))))
  (seqS (ifS (asB (eOp tEq (eVar 6) (eC (.int 0))))
  (setS (eArgs dTup (aCons (eOp tAdd (eVar 7) (eVar 5)) (aCons (eVar 8) aNil))) (pAt (pVar 2) (eVar 3)) (eVar 4) opSetL)
  skipS)
  (seqS (ifS (asB (eOp tEq (eVar 6) (eC (.int 1))))
  (setS (eArgs dTup (aCons (eVar 7) (aCons (eOp tAdd (eVar 8) (eVar 5)) aNil))) (pAt (pVar 2) (eVar 3)) (eVar 4) opSetL)
  skipS)
  (seqS (ifS (asB (eOp tEq (eVar 6) (eC (.int 2))))
  (seqS (asgS (bName 9) (eCall m_law_part (aCons (eVar 1) (aCons (eC (.int 29)) (aCons (eArgs (op1 D.len) (aCons (eOp tIx (eVar 2) (eVar 3)) aNil)) aNil)))))
  (seqS (setS (eOp tIx (eOp tIx (eVar 2) (eVar 3)) (eVar 9)) (pAt (pVar 2) (eVar 3)) (eVar 4) opSetL)
  (setS (eArgs dTup (aCons (eVar 7) (aCons (eVar 8) aNil))) (pAt (pVar 2) (eVar 3)) (eVar 9) opSetL)))
  skipS)
  (retMv 2))))))))))
noncomputable def m_law_bent : List D → M O := run 11 g_law_bent
/-! law_paper -/
noncomputable def b_law_paper_1 : FS :=
  (mutS "list" (pAt (pVar 4) (eUn tNeg (eC (.int 1)))) (eCall m_law_field (aCons (eVar 0) (aCons (eVar 1) (aCons (eVar 2) (aCons (eVar 3) (aCons (eVar 4) (aCons (eVar 5) (aCons (eVar 6) aNil)))))))) opAppend)
noncomputable def b_law_paper_2 : FS :=
  (seqS (mutS "list" (pVar 4) (eArgs dLst aNil) opAppend)
  (forS (itR1 (aCons (eOp tAdd (eArgs (op1 D.len) (aCons (eVar 1) aNil)) (eC (.int 1))) aNil)) (bName 6)
  b_law_paper_1))
noncomputable def g_law_paper : FS :=
  (seqS (asgS (bName 4) (eArgs dLst aNil))
  (seqS (forS (itR1 (aCons (eOp tAdd (eArgs (op1 D.len) (aCons (eVar 0) aNil)) (eC (.int 1))) aNil)) (bName 5)
  b_law_paper_2)
  (retMv 4)))
noncomputable def m_law_paper : List D → M O := run 7 g_law_paper
/-! is_paper -/
noncomputable def b_is_paper_1 : FS :=
  (ifS (asB (eOp tNe (eOp tIx (eOp tIx (eVar 4) (eVar 5)) (eVar 6)) (eCall m_field (aCons (eVar 0) (aCons (eVar 1) (aCons (eVar 2) (aCons (eVar 3) (aCons (eVar 4) (aCons (eVar 5) (aCons (eVar 6) aNil))))))))))
  (retS (eC (.bl false)))
  skipS)
noncomputable def b_is_paper_2 : FS :=
  (forS (itR1 (aCons (eOp tAdd (eArgs (op1 D.len) (aCons (eVar 1) aNil)) (eC (.int 1))) aNil)) (bName 6)
  b_is_paper_1)
noncomputable def g_is_paper : FS :=
  (seqS (forS (itR1 (aCons (eOp tAdd (eArgs (op1 D.len) (aCons (eVar 0) aNil)) (eC (.int 1))) aNil)) (bName 5)
  b_is_paper_2)
  (retS (eC (.bl true))))
noncomputable def m_is_paper : List D → M O := run 7 g_is_paper
/-! cheapest -/
noncomputable def q_cheapest_1 : FE :=
  (eOp tIx (eVar 10) (eC (.int 2)))
noncomputable def t_cheapest_1 : FT :=
  (asB (eOp tEq (eOp tIx (eVar 10) (eC (.int 0))) (eOp tIx (eOp tIx (eOp tIx (eVar 4) (eVar 5)) (eVar 6)) (eC (.int 0)))))
noncomputable def t_cheapest_3 : FT :=
  (tOrG (asB (eOp (tOrd gtI gtS) (eVar 5) (eC (.int 0)))) (asB (eOp (tOrd gtI gtS) (eVar 6) (eC (.int 0)))))
noncomputable def b_cheapest_4 : FS :=
  (seqS (asgS (bName 8) (eCall m_entries (aCons (eVar 0) (aCons (eVar 1) (aCons (eVar 2) (aCons (eVar 3) (aCons (eVar 4) (aCons (eVar 5) (aCons (eVar 6) aNil)))))))))
  (seqS (asgS (bName 9) (eOp tIx (eComp (itC (eVar 8)) [10] (cName 10) t_cheapest_1 q_cheapest_1) (eC (.int 0))))
  (seqS (mutS "list" (pVar 7) (eVar 9) opAppend)
  (seqS (asgS (bName 5) (eOp tSub (eVar 5) (eOp tIx (eVar 9) (eC (.int 0)))))
  (asgS (bName 6) (eOp tSub (eVar 6) (eOp tIx (eVar 9) (eC (.int 1)))))))))
noncomputable def g_cheapest : FS :=
  (seqS (asgS (bName 4) (eCall m_paper (aCons (eVar 0) (aCons (eVar 1) (aCons (eVar 2) (aCons (eVar 3) aNil))))))
  (seqS (asgS (bName 5) (eArgs (op1 D.len) (aCons (eVar 0) aNil)))
  (seqS (asgS (bName 6) (eArgs (op1 D.len) (aCons (eVar 1) aNil)))
  (seqS (asgS (bName 7) (eArgs dLst aNil))
  (seqS (whileS t_cheapest_3
  b_cheapest_4)
  (seqS (mutS0 "list" (pVar 7) opReverse)
  (retMv 7)))))))
noncomputable def m_cheapest : List D → M O := run 11 g_cheapest
/-! law_way -/
noncomputable def b_law_way_1 : FS :=
  (ifS (tAndG (asB (eOp (tOrd leI leS) (eOp tAdd (eVar 4) (eOp tIx (eVar 8) (eC (.int 0)))) (eArgs (op1 D.len) (aCons (eVar 0) aNil)))) (asB (eOp (tOrd leI leS) (eOp tAdd (eVar 5) (eOp tIx (eVar 8) (eC (.int 1)))) (eArgs (op1 D.len) (aCons (eVar 1) aNil)))))
  (mutS "list" (pVar 7) (eVar 8) opAppend)
  skipS)
noncomputable def b_law_way_2 : FS :=
  (seqS (asgS (bName 7) (eArgs dLst aNil))
  (seqS (forS (itS (eArgs dLst (aCons (eArgs dTup (aCons (eC (.int 1)) (aCons (eC (.int 1)) aNil))) (aCons (eArgs dTup (aCons (eC (.int 1)) (aCons (eC (.int 2)) aNil))) (aCons (eArgs dTup (aCons (eC (.int 2)) (aCons (eC (.int 1)) aNil))) (aCons (eArgs dTup (aCons (eC (.int 1)) (aCons (eC (.int 0)) aNil))) (aCons (eArgs dTup (aCons (eC (.int 0)) (aCons (eC (.int 1)) aNil))) aNil))))))) (bName 8)
  b_law_way_1)
  (ifS (asB (eOp tNe (eVar 7) (eArgs dLst aNil)))
  (seqS (asgS (bName 8) (eOp tIx (eVar 7) (eCall m_law_part (aCons (eVar 2) (aCons (eOp tAdd (eC (.int 30)) (eVar 6)) (aCons (eArgs (op1 D.len) (aCons (eVar 7) aNil)) aNil))))))
  (seqS (mutS "list" (pVar 3) (eVar 8) opAppend)
  (seqS (asgS (bName 4) (eOp tAdd (eVar 4) (eOp tIx (eVar 8) (eC (.int 0)))))
  (asgS (bName 5) (eOp tAdd (eVar 5) (eOp tIx (eVar 8) (eC (.int 1))))))))
  skipS)))
noncomputable def g_law_way : FS :=
  (seqS (asgS (bName 3) (eArgs dLst aNil))
  (seqS (asgS (bName 4) (eC (.int 0)))
  (seqS (asgS (bName 5) (eC (.int 0)))
  (seqS (forS (itR1 (aCons (eC (.int 10)) aNil)) (bName 6)
  b_law_way_2)
  (retMv 3)))))
noncomputable def m_law_way : List D → M O := run 9 g_law_way
/-! way_price -/
noncomputable def b_way_price_1 : FS :=
  (seqS (ifS (tOrG (asB (eOp (tIn true) (eVar 8) (eC d_STEPS))) (tOrG (asB (eOp (tOrd gtI gtS) (eOp tAdd (eVar 6) (eOp tIx (eVar 8) (eC (.int 0)))) (eArgs (op1 D.len) (aCons (eVar 0) aNil)))) (asB (eOp (tOrd gtI gtS) (eOp tAdd (eVar 7) (eOp tIx (eVar 8) (eC (.int 1)))) (eArgs (op1 D.len) (aCons (eVar 1) aNil))))))
  deadS
  skipS)
  (seqS (asgS (bName 5) (eOp tAdd (eVar 5) (eCall m_price (aCons (eSl (eVar 0) (oSome (eVar 6)) (oSome (eOp tAdd (eVar 6) (eOp tIx (eVar 8) (eC (.int 0)))))) (aCons (eSl (eVar 1) (oSome (eVar 7)) (oSome (eOp tAdd (eVar 7) (eOp tIx (eVar 8) (eC (.int 1)))))) (aCons (eVar 2) (aCons (eVar 3) aNil)))))))
  (seqS (asgS (bName 6) (eOp tAdd (eVar 6) (eOp tIx (eVar 8) (eC (.int 0)))))
  (asgS (bName 7) (eOp tAdd (eVar 7) (eOp tIx (eVar 8) (eC (.int 1))))))))
noncomputable def g_way_price : FS :=
  (seqS (asgS (bName 5) (eC (.int 0)))
  (seqS (asgS (bName 6) (eC (.int 0)))
  (seqS (asgS (bName 7) (eC (.int 0)))
  (seqS (forS (itS (eVar 4)) (bName 8)
  b_way_price_1)
  (seqS (ifS (tOrG (asB (eOp tNe (eVar 6) (eArgs (op1 D.len) (aCons (eVar 0) aNil)))) (asB (eOp tNe (eVar 7) (eArgs (op1 D.len) (aCons (eVar 1) aNil)))))
  deadS
  skipS)
  (retMv 5))))))
noncomputable def m_way_price : List D → M O := run 9 g_way_price
/-! law_cost -/
noncomputable def b_law_cost_1 : FS :=
  (seqS (ifS (asB (eOp (tIn true) (eArgs dTup (aCons (eVar 8) (aCons (eVar 9) aNil))) (eArgs dLst (aCons (eArgs dTup (aCons (eC (.int 1)) (aCons (eC (.int 1)) aNil))) (aCons (eArgs dTup (aCons (eC (.int 1)) (aCons (eC (.int 2)) aNil))) (aCons (eArgs dTup (aCons (eC (.int 2)) (aCons (eC (.int 1)) aNil))) (aCons (eArgs dTup (aCons (eC (.int 1)) (aCons (eC (.int 0)) aNil))) (aCons (eArgs dTup (aCons (eC (.int 0)) (aCons (eC (.int 1)) aNil))) aNil))))))))
  (retS (eC .non))
  skipS)
  (seqS (asgS (bName 5) (eOp tAdd (eVar 5) (eCall m_law_step_price (aCons (eSl (eVar 0) (oSome (eVar 6)) (oSome (eOp tAdd (eVar 6) (eVar 8)))) (aCons (eSl (eVar 1) (oSome (eVar 7)) (oSome (eOp tAdd (eVar 7) (eVar 9)))) (aCons (eVar 2) (aCons (eVar 3) aNil)))))))
  (seqS (asgS (bName 6) (eOp tAdd (eVar 6) (eVar 8)))
  (asgS (bName 7) (eOp tAdd (eVar 7) (eVar 9))))))
noncomputable def g_law_cost : FS :=
  (seqS (asgS (bName 5) (eC (.int 0)))
  (seqS (asgS (bName 6) (eC (.int 0)))
  (seqS (asgS (bName 7) (eC (.int 0)))
  (seqS (forS (itS (eVar 4)) (bTup 2 (bCons (bName 8) (bCons (bName 9) bNil)))
  b_law_cost_1)
  (seqS (ifS (tOrG (asB (eOp tNe (eVar 6) (eArgs (op1 D.len) (aCons (eVar 0) aNil)))) (asB (eOp tNe (eVar 7) (eArgs (op1 D.len) (aCons (eVar 1) aNil)))))
  (retS (eC .non))
  skipS)
  (retMv 5))))))
noncomputable def m_law_cost : List D → M O := run 10 g_law_cost
/-! law_ways -/
noncomputable def q_law_ways_1 : FE :=
  (eArgs dTup (aCons (eOp tAdd (eOp tIx (eVar 11) (eC (.int 0))) (eVar 10)) (aCons (eOp tAdd (eOp tIx (eVar 11) (eC (.int 1))) (eArgs dLst (aCons (eArgs dTup (aCons (eVar 8) (aCons (eVar 9) aNil))) aNil))) aNil)))
noncomputable def b_law_ways_2 : FS :=
  (ifS (tAndG (asB (eOp (tOrd leI leS) (eVar 8) (eVar 5))) (asB (eOp (tOrd leI leS) (eVar 9) (eVar 6))))
  (seqS (asgS (bName 10) (eCall m_law_step_price (aCons (eSl (eVar 0) (oSome (eOp tSub (eVar 5) (eVar 8))) (oSome (eVar 5))) (aCons (eSl (eVar 1) (oSome (eOp tSub (eVar 6) (eVar 9))) (oSome (eVar 6))) (aCons (eVar 2) (aCons (eVar 3) aNil))))))
  (mutS "list" (pVar 7) (eComp (itC (eOp tIx (eOp tIx (eVar 4) (eOp tSub (eVar 5) (eVar 8))) (eOp tSub (eVar 6) (eVar 9)))) [11] (cName 11) yesT q_law_ways_1) opExtend))
  skipS)
noncomputable def b_law_ways_3 : FS :=
  (seqS (asgS (bName 7) (eArgs dLst aNil))
  (seqS (ifS (tAndG (asB (eOp tEq (eVar 5) (eC (.int 0)))) (asB (eOp tEq (eVar 6) (eC (.int 0)))))
  (asgS (bName 7) (eArgs dLst (aCons (eArgs dTup (aCons (eC (.int 0)) (aCons (eArgs dLst aNil) aNil))) aNil)))
  skipS)
  (seqS (forS (itS (eArgs dLst (aCons (eArgs dTup (aCons (eC (.int 1)) (aCons (eC (.int 1)) aNil))) (aCons (eArgs dTup (aCons (eC (.int 1)) (aCons (eC (.int 2)) aNil))) (aCons (eArgs dTup (aCons (eC (.int 2)) (aCons (eC (.int 1)) aNil))) (aCons (eArgs dTup (aCons (eC (.int 1)) (aCons (eC (.int 0)) aNil))) (aCons (eArgs dTup (aCons (eC (.int 0)) (aCons (eC (.int 1)) aNil))) aNil))))))) (bTup 2 (bCons (bName 8) (bCons (bName 9) bNil)))
  b_law_ways_2)
  (appMvS (pAt (pVar 4) (eVar 5)) 7))))
noncomputable def b_law_ways_4 : FS :=
  (seqS (mutS "list" (pVar 4) (eArgs dLst aNil) opAppend)
  (forS (itR1 (aCons (eOp tAdd (eArgs (op1 D.len) (aCons (eVar 1) aNil)) (eC (.int 1))) aNil)) (bName 6)
  b_law_ways_3))
noncomputable def g_law_ways : FS :=
  (seqS (asgS (bName 4) (eArgs dLst aNil))
  (seqS (forS (itR1 (aCons (eOp tAdd (eArgs (op1 D.len) (aCons (eVar 0) aNil)) (eC (.int 1))) aNil)) (bName 5)
  b_law_ways_4)
  (retMv 4)))
noncomputable def m_law_ways : List D → M O := run 12 g_law_ways
/-! law_asked -/
noncomputable def q_law_asked_1 : FE :=
  (eOp tIx (eVar 2) (eCall m_law_part (aCons (eVar 3) (aCons (eOp tAdd (eC (.int 7)) (eVar 8)) (aCons (eC (.int 5)) aNil)))))
noncomputable def g_law_asked : FS :=
  (seqS (asgS (bName 4) (eComp (fun env => mSh ((itR1 (aCons (eOp tAdd (eC (.int 1)) (eCall m_law_part (aCons (eVar 3) (aCons (eC (.int 6)) (aCons (eC (.int 4)) aNil))))) aNil)) env)) [8] (cName 8) yesT q_law_asked_1))
  (seqS (ifS (tOrG (asB (eOp tEq (eVar 1) (eArgs dLst aNil))) (asB (eOp tEq (eCall m_law_part (aCons (eVar 3) (aCons (eC (.int 11)) (aCons (eC (.int 4)) aNil)))) (eC (.int 0)))))
  (retMv 4)
  skipS)
  (seqS (asgS (bName 5) (eOp tIx (eVar 1) (eCall m_law_part (aCons (eVar 3) (aCons (eC (.int 12)) (aCons (eArgs (op1 D.len) (aCons (eVar 1) aNil)) aNil))))))
  (seqS (asgS (bName 6) (eSl (eSl (eOp tIx (eVar 0) (eOp tIx (eVar 5) (eC (.int 0)))) (oSome (eOp tIx (eVar 5) (eC (.int 1)))) oNone) oNone (oSome (eOp tAdd (eC (.int 1)) (eCall m_law_part (aCons (eVar 3) (aCons (eC (.int 13)) (aCons (eC (.int 4)) aNil))))))))
  (seqS (asgS (bName 7) (eCall m_law_part (aCons (eVar 3) (aCons (eC (.int 14)) (aCons (eC (.int 4)) aNil)))))
  (seqS (ifS (asB (eOp tEq (eVar 7) (eC (.int 1))))
  (retS (eOp tAdd (eSl (eVar 6) oNone (oSome (eUn tNeg (eC (.int 1))))) (eSl (eVar 4) oNone (oSome (eC (.int 1))))))
  skipS)
  (seqS (ifS (asB (eOp tEq (eVar 7) (eC (.int 2))))
  (retS (eOp tAdd (eVar 6) (eSl (eVar 4) oNone (oSome (eC (.int 1))))))
  skipS)
  (retMv 6))))))))
noncomputable def m_law_asked : List D → M O := run 9 g_law_asked
/-! law_sorted -/
noncomputable def q_law_sorted_1 : FE :=
  (eArgs dTup (aCons (eSl (eOp tIx (eVar 1) (eOp tIx (eVar 0) (eC (.int 0)))) (oSome (eOp tIx (eVar 0) (eC (.int 1)))) oNone) (aCons (eVar 0) aNil)))
noncomputable def g_law_sorted : FS :=
  (retS (eSortK (eCall m_law_all (aCons (eVar 0) aNil)) [0] (run 2 (retS q_law_sorted_1))))
noncomputable def m_law_sorted : List D → M O := run 1 g_law_sorted
/-! all_places -/
noncomputable def q_all_places_1 : FE :=
  (eArgs dTup (aCons (eVar 2) (aCons (eVar 3) aNil)))
noncomputable def b_all_places_2 : FS :=
  (mutS "list" (pVar 1) (eComp (fun env => mSh ((itR1 (aCons (eArgs (op1 D.len) (aCons (eOp tIx (eVar 0) (eVar 2)) aNil)) aNil)) env)) [3] (cName 3) yesT q_all_places_1) opExtend)
noncomputable def g_all_places : FS :=
  (seqS (asgS (bName 1) (eArgs dLst aNil))
  (seqS (forS (itR1 (aCons (eArgs (op1 D.len) (aCons (eVar 0) aNil)) aNil)) (bName 2)
  b_all_places_2)
  (retMv 1)))
noncomputable def m_all_places : List D → M O := run 4 g_all_places
/-! law_other_places -/
noncomputable def g_law_other_places : FS :=
  (seqS (ifS (asB (eOp tEq (eVar 1) (eC (.int 0))))
  (seqS (asgS (bName 4) (eOp tAdd (eSl (eVar 0) (oSome (eOp tAdd (eVar 2) (eC (.int 1)))) (oSome (eOp tAdd (eVar 2) (eC (.int 2))))) (eSl (eVar 0) (oSome (eVar 2)) (oSome (eOp tAdd (eVar 2) (eC (.int 1)))))))
  (retS (eOp tAdd (eOp tAdd (eSl (eVar 0) oNone (oSome (eVar 2))) (eVar 4)) (eSl (eVar 0) (oSome (eOp tAdd (eVar 2) (eC (.int 2)))) oNone))))
  skipS)
  (seqS (ifS (asB (eOp tEq (eVar 1) (eC (.int 1))))
  (seqS (asgS (bName 5) (eArgs opList (aCons (eVar 0) aNil)))
  (seqS (setS (eOp tIx (eVar 0) (eVar 3)) (pVar 5) (eVar 2) opSetL)
  (seqS (setS (eOp tIx (eVar 0) (eVar 2)) (pVar 5) (eVar 3) opSetL)
  (retMv 5))))
  skipS)
  (seqS (ifS (tOrG (asB (eOp tEq (eVar 1) (eC (.int 2)))) (asB (eOp tEq (eVar 1) (eC (.int 3)))))
  (retS (eOp tAdd (eSl (eVar 0) oNone (oSome (eVar 2))) (eSl (eVar 0) (oSome (eOp tAdd (eVar 2) (eC (.int 1)))) oNone)))
  skipS)
  (seqS (ifS (asB (eOp tEq (eVar 1) (eC (.int 4))))
  (retS (eOp tAdd (eOp tAdd (eSl (eVar 0) oNone (oSome (eVar 2))) (eArgs dLst (aCons (eOp tIx (eVar 0) (eVar 3)) aNil))) (eSl (eVar 0) (oSome (eOp tAdd (eVar 2) (eC (.int 1)))) oNone)))
  skipS)
  (seqS (ifS (asB (eOp tEq (eVar 1) (eC (.int 5))))
  (retS (eOp tAdd (eOp tAdd (eSl (eVar 0) oNone (oSome (eVar 2))) (eSl (eVar 0) (oSome (eVar 2)) (oSome (eOp tAdd (eVar 2) (eC (.int 1)))))) (eSl (eVar 0) (oSome (eVar 2)) oNone)))
  skipS)
  (seqS (ifS (asB (eOp tEq (eVar 1) (eC (.int 6))))
  (retS (eSorted (eVar 0)))
  skipS)
  (retS (eArgs opList (aCons (eVar 0) aNil)))))))))
noncomputable def m_law_other_places : List D → M O := run 6 g_law_other_places
/-! law_other_numbers -/
noncomputable def g_law_other_numbers : FS :=
  (seqS (ifS (asB (eOp tEq (eVar 1) (eC (.int 2))))
  (retS (eOp tAdd (eSl (eVar 0) oNone (oSome (eVar 2))) (eSl (eVar 0) (oSome (eOp tAdd (eVar 2) (eC (.int 1)))) oNone)))
  skipS)
  (seqS (ifS (asB (eOp tEq (eVar 1) (eC (.int 5))))
  (retS (eOp tAdd (eOp tAdd (eSl (eVar 0) oNone (oSome (eOp tAdd (eVar 2) (eC (.int 1))))) (eArgs dLst (aCons (eC (.int 0)) aNil))) (eSl (eVar 0) (oSome (eOp tAdd (eVar 2) (eC (.int 1)))) oNone)))
  skipS)
  (seqS (ifS (asB (eOp tEq (eVar 1) (eC (.int 7))))
  (retS (eOp tAdd (eOp tAdd (eSl (eVar 0) oNone (oSome (eVar 2))) (eArgs dLst (aCons (eOp tAdd (eOp tIx (eVar 0) (eVar 2)) (eC (.int 1))) aNil))) (eSl (eVar 0) (oSome (eOp tAdd (eVar 2) (eC (.int 1)))) oNone)))
  skipS)
  (seqS (ifS (asB (eOp tEq (eVar 1) (eC (.int 8))))
  (retS (eOp tAdd (eOp tAdd (eSl (eVar 0) oNone (oSome (eVar 2))) (eArgs dLst (aCons (eOp tSub (eOp tIx (eVar 0) (eVar 2)) (eC (.int 1))) aNil))) (eSl (eVar 0) (oSome (eOp tAdd (eVar 2) (eC (.int 1)))) oNone)))
  skipS)
  (seqS (ifS (asB (eOp tEq (eVar 1) (eC (.int 9))))
  (retS (eOp tAdd (eOp tAdd (eSl (eVar 0) oNone (oSome (eVar 2))) (eArgs dLst (aCons (eOp tSub (eOp tMod (eVar 3) (eOp tPow (eC (.int 10)) (eC (.int 9)))) (eC (.int 5))) aNil))) (eSl (eVar 0) (oSome (eOp tAdd (eVar 2) (eC (.int 1)))) oNone)))
  skipS)
  (seqS (ifS (asB (eOp tEq (eVar 1) (eC (.int 10))))
  (retS (eSl (eVar 0) oNone (oSome (eUn tNeg (eC (.int 1))))))
  skipS)
  (seqS (ifS (asB (eOp tEq (eVar 1) (eC (.int 11))))
  (retS (eOp tAdd (eVar 0) (eArgs dLst (aCons (eC (.int 0)) aNil))))
  skipS)
  (retS (eArgs opList (aCons (eVar 0) aNil))))))))))
noncomputable def m_law_other_numbers : List D → M O := run 4 g_law_other_numbers
/-! are_in_order -/
noncomputable def g_are_in_order : FS :=
  (seqS (asgS (bName 4) (eCall m_end_of (aCons (eVar 0) (aCons (eVar 1) aNil))))
  (seqS (asgS (bName 5) (eCall m_end_of (aCons (eVar 0) (aCons (eVar 2) aNil))))
  (seqS (ifS (tOrG (asB (eOp tLt (eVar 3) (eC (.int 0)))) (tOrG (asB (eOp (tOrd gtI gtS) (eVar 3) (eArgs (op1 D.len) (aCons (eVar 4) aNil)))) (tOrG (asB (eOp (tOrd gtI gtS) (eVar 3) (eArgs (op1 D.len) (aCons (eVar 5) aNil)))) (asB (eOp tNe (eSl (eVar 4) oNone (oSome (eVar 3))) (eSl (eVar 5) oNone (oSome (eVar 3))))))))
  (retS (eC (.bl false)))
  skipS)
  (seqS (ifS (asB (eOp tEq (eVar 3) (eArgs (op1 D.len) (aCons (eVar 4) aNil))))
  (retS (eOr (eOp tLt (eVar 3) (eArgs (op1 D.len) (aCons (eVar 5) aNil))) (eOp tLt (eVar 1) (eVar 2))))
  skipS)
  (retS (eAnd (eOp tLt (eVar 3) (eArgs (op1 D.len) (aCons (eVar 5) aNil))) (eOp tLt (eOp tIx (eVar 4) (eVar 3)) (eOp tIx (eVar 5) (eVar 3)))))))))
noncomputable def m_are_in_order : List D → M O := run 6 g_are_in_order
/-! law_shares -/
noncomputable def q_law_shares_1 : FE :=
  (eC (.int 0))
noncomputable def b_law_shares_2 : FS :=
  (seqS (asgS (bName 4) (eSl (eOp tIx (eVar 0) (eOp tIx (eOp tIx (eVar 1) (eOp tSub (eVar 3) (eC (.int 1)))) (eC (.int 0)))) (oSome (eOp tIx (eOp tIx (eVar 1) (eOp tSub (eVar 3) (eC (.int 1)))) (eC (.int 1)))) oNone))
  (mutS "list" (pVar 2) (eCall m_in_common (aCons (eVar 4) (aCons (eSl (eOp tIx (eVar 0) (eOp tIx (eOp tIx (eVar 1) (eVar 3)) (eC (.int 0)))) (oSome (eOp tIx (eOp tIx (eVar 1) (eVar 3)) (eC (.int 1)))) oNone) aNil))) opAppend))
noncomputable def g_law_shares : FS :=
  (seqS (asgS (bName 2) (eComp (itC (eSl (eVar 1) oNone (oSome (eC (.int 1))))) [5] (cName 5) yesT q_law_shares_1))
  (seqS (forS (itR2 (aCons (eC (.int 1)) (aCons (eArgs (op1 D.len) (aCons (eVar 1) aNil)) aNil))) (bName 3)
  b_law_shares_2)
  (retMv 2)))
noncomputable def m_law_shares : List D → M O := run 6 g_law_shares
/-! is_row_of_ends -/
noncomputable def b_is_row_of_ends_1 : FS :=
  (ifS (tNotG (asB (eCall m_are_in_order (aCons (eVar 0) (aCons (eOp tIx (eVar 1) (eOp tSub (eVar 3) (eC (.int 1)))) (aCons (eOp tIx (eVar 1) (eVar 3)) (aCons (eOp tIx (eVar 2) (eVar 3)) aNil)))))))
  (retS (eC (.bl false)))
  skipS)
noncomputable def g_is_row_of_ends : FS :=
  (seqS (ifS (tOrG (asB (eOp tNe (eSorted (eVar 1)) (eCall m_all_places (aCons (eVar 0) aNil)))) (asB (eOp tNe (eArgs (op1 D.len) (aCons (eVar 2) aNil)) (eArgs (op1 D.len) (aCons (eVar 1) aNil)))))
  (retS (eC (.bl false)))
  skipS)
  (seqS (ifS (tAndG (asB (eOp tNe (eVar 1) (eArgs dLst aNil))) (asB (eOp tNe (eOp tIx (eVar 2) (eC (.int 0))) (eC (.int 0)))))
  (retS (eC (.bl false)))
  skipS)
  (seqS (forS (itR2 (aCons (eC (.int 1)) (aCons (eArgs (op1 D.len) (aCons (eVar 1) aNil)) aNil))) (bName 3)
  b_is_row_of_ends_1)
  (retS (eC (.bl true))))))
noncomputable def m_is_row_of_ends : List D → M O := run 4 g_is_row_of_ends
/-! law_told -/
noncomputable def g_law_told : FS :=
  (seqS (asgS (bName 4) (eArgs dTup (aCons (eCall m_law_copy (aCons (eVar 0) aNil)) (aCons (eArgs opList (aCons (eVar 1) aNil)) (aCons (eArgs opList (aCons (eVar 2) aNil)) aNil)))))
  (seqS (asgS (bName 5) (eCall m_is_row_of_ends (aCons (eOp tIx (eVar 4) (eC (.int 0))) (aCons (eOp tIx (eVar 4) (eC (.int 1))) (aCons (eOp tIx (eVar 4) (eC (.int 2))) aNil)))))
  (retS (eAnd (eIsa "bool" (eVar 5)) (eAnd (eOp tEq (eVar 5) (eVar 3)) (eOp tEq (eVar 4) (eArgs dTup (aCons (eVar 0) (aCons (eVar 1) (aCons (eVar 2) aNil))))))))))
noncomputable def m_law_told : List D → M O := run 6 g_law_told
/-! law_is_ahead -/
noncomputable def g_law_is_ahead : FS :=
  (seqS (asgS (bName 3) (eCall m_end_of (aCons (eVar 0) (aCons (eVar 1) aNil))))
  (seqS (asgS (bName 4) (eCall m_end_of (aCons (eVar 0) (aCons (eVar 2) aNil))))
  (retS (eOr (eOp tLt (eVar 3) (eVar 4)) (eAnd (eOp tEq (eVar 3) (eVar 4)) (eOp tLt (eVar 1) (eVar 2)))))))
noncomputable def m_law_is_ahead : List D → M O := run 5 g_law_is_ahead
/-! law_turned -/
noncomputable def g_law_turned : FS :=
  (seqS (ifS (tOrG (asB (eOp tEq (eVar 0) (eArgs dLst aNil))) (asB (eOp tEq (eCall m_law_part (aCons (eVar 1) (aCons (eC (.int 5)) (aCons (eC (.int 3)) aNil)))) (eC (.int 0)))))
  (retMv 0)
  skipS)
  (seqS (asgS (bName 2) (eCall m_law_part (aCons (eVar 1) (aCons (eC (.int 6)) (aCons (eArgs (op1 D.len) (aCons (eVar 0) aNil)) aNil)))))
  (seqS (asgS (bName 3) (eCall m_law_part (aCons (eVar 1) (aCons (eC (.int 7)) (aCons (eArgs (op1 D.len) (aCons (eVar 0) aNil)) aNil)))))
  (seqS (asgS (bName 4) (eArgs opList (aCons (eVar 0) aNil)))
  (seqS (setS (eOp tIx (eVar 0) (eVar 3)) (pVar 4) (eVar 2) opSetL)
  (seqS (ifS (asB (eOp (tOrd gtI gtS) (eCall m_law_part (aCons (eVar 1) (aCons (eC (.int 8)) (aCons (eC (.int 4)) aNil)))) (eC (.int 0))))
  (setS (eOp tIx (eVar 0) (eVar 2)) (pVar 4) (eVar 3) opSetL)
  skipS)
  (retMv 4)))))))
noncomputable def m_law_turned : List D → M O := run 5 g_law_turned
/-! law_changed -/
noncomputable def g_law_changed : FS :=
  (seqS (ifS (tOrG (asB (eOp tEq (eVar 0) (eArgs dLst aNil))) (asB (eOp (tOrd gtI gtS) (eCall m_law_part (aCons (eVar 1) (aCons (eC (.int 9)) (aCons (eC (.int 3)) aNil)))) (eC (.int 0)))))
  (retMv 0)
  skipS)
  (seqS (asgS (bName 2) (eCall m_law_part (aCons (eVar 1) (aCons (eC (.int 10)) (aCons (eArgs (op1 D.len) (aCons (eVar 0) aNil)) aNil)))))
  (seqS (asgS (bName 3) (eOp tIx (eArgs dLst (aCons (eOp tAdd (eOp tIx (eVar 0) (eVar 2)) (eC (.int 1))) (aCons (eOp tSub (eOp tIx (eVar 0) (eVar 2)) (eC (.int 1))) (aCons (eOp tMod (eVar 1) (eOp tPow (eC (.int 10)) (eC (.int 9)))) aNil)))) (eCall m_law_part (aCons (eVar 1) (aCons (eC (.int 11)) (aCons (eC (.int 3)) aNil))))))
  (retS (eOp tAdd (eOp tAdd (eSl (eVar 0) oNone (oSome (eVar 2))) (eArgs dLst (aCons (eVar 3) aNil))) (eSl (eVar 0) (oSome (eOp tAdd (eVar 2) (eC (.int 1)))) oNone))))))
noncomputable def m_law_changed : List D → M O := run 4 g_law_changed
/-! law_by_definition -/
noncomputable def b_law_by_definition_1 : FS :=
  (ifS (asB (eOp tNe (eCount (eVar 1) (eVar 3)) (eC (.int 1))))
  (retS (eC (.bl false)))
  skipS)
noncomputable def b_law_by_definition_2 : FS :=
  (ifS (tNotG (asB (eCall m_law_is_ahead (aCons (eVar 0) (aCons (eOp tIx (eVar 1) (eVar 5)) (aCons (eOp tIx (eVar 1) (eVar 4)) aNil))))))
  (retS (eC (.bl false)))
  skipS)
noncomputable def b_law_by_definition_3 : FS :=
  (seqS (forS (itR1 (aCons (eVar 4) aNil)) (bName 5)
  b_law_by_definition_2)
  (seqS (asgS (bName 6) (eC (.int 0)))
  (seqS (ifS (asB (eOp (tOrd gtI gtS) (eVar 4) (eC (.int 0))))
  (asgS (bName 6) (eCall m_in_common (aCons (eCall m_end_of (aCons (eVar 0) (aCons (eOp tIx (eVar 1) (eOp tSub (eVar 4) (eC (.int 1)))) aNil))) (aCons (eCall m_end_of (aCons (eVar 0) (aCons (eOp tIx (eVar 1) (eVar 4)) aNil))) aNil))))
  skipS)
  (ifS (asB (eOp tNe (eOp tIx (eVar 2) (eVar 4)) (eVar 6)))
  (retS (eC (.bl false)))
  skipS))))
noncomputable def g_law_by_definition : FS :=
  (seqS (forS (itS (eCall m_law_all (aCons (eVar 0) aNil))) (bName 3)
  b_law_by_definition_1)
  (seqS (ifS (tOrG (asB (eOp tNe (eArgs (op1 D.len) (aCons (eVar 2) aNil)) (eArgs (op1 D.len) (aCons (eVar 1) aNil)))) (asB (eOp tNe (eArgs (op1 D.len) (aCons (eVar 1) aNil)) (eArgs (op1 D.len) (aCons (eCall m_law_all (aCons (eVar 0) aNil)) aNil)))))
  (retS (eC (.bl false)))
  skipS)
  (seqS (forS (itR1 (aCons (eArgs (op1 D.len) (aCons (eVar 1) aNil)) aNil)) (bName 4)
  b_law_by_definition_3)
  (retS (eC (.bl true))))))
noncomputable def m_law_by_definition : List D → M O := run 7 g_law_by_definition
/-! ends -/
noncomputable def q_ends_1 : FE :=
  (eCall m_end_of (aCons (eVar 1) (aCons (eVar 0) aNil)))
noncomputable def g_ends : FS :=
  (retS (eSortK (eCall m_all_places (aCons (eVar 0) aNil)) [0] (run 2 (retS q_ends_1))))
noncomputable def m_ends : List D → M O := run 1 g_ends
/-! intervals -/
noncomputable def t_intervals_1 : FT :=
  (asB (eOp (tOrd gtI gtS) (eOp tIx (eOp tIx (eVar 2) (eUn tNeg (eC (.int 1)))) (eC (.int 0))) (eVar 4)))
noncomputable def b_intervals_2 : FS :=
  (seqS (popS (pVar 2) (bTup 2 (bCons (bName 6) (bCons (bName 5) bNil))))
  (mutS "list" (pVar 1) (eArgs dTup (aCons (eVar 6) (aCons (eVar 5) (aCons (eVar 3) aNil)))) opAppend))
noncomputable def b_intervals_3 : FS :=
  (seqS (asgS (bName 4) (eC (.int 0)))
  (seqS (ifS (asB (eOp tLt (eVar 3) (eArgs (op1 D.len) (aCons (eVar 0) aNil))))
  (asgS (bName 4) (eOp tIx (eVar 0) (eVar 3)))
  skipS)
  (seqS (asgS (bName 5) (eOp tSub (eVar 3) (eC (.int 1))))
  (seqS (whileS t_intervals_1
  b_intervals_2)
  (ifS (asB (eOp tLt (eOp tIx (eOp tIx (eVar 2) (eUn tNeg (eC (.int 1)))) (eC (.int 0))) (eVar 4)))
  (mutS "list" (pVar 2) (eArgs dTup (aCons (eVar 4) (aCons (eVar 5) aNil))) opAppend)
  skipS)))))
noncomputable def g_intervals : FS :=
  (seqS (asgS (bName 1) (eArgs dLst aNil))
  (seqS (asgS (bName 2) (eArgs dLst (aCons (eArgs dTup (aCons (eC (.int 0)) (aCons (eC (.int 0)) aNil))) aNil)))
  (seqS (forS (itR2 (aCons (eC (.int 1)) (aCons (eOp tAdd (eArgs (op1 D.len) (aCons (eVar 0) aNil)) (eC (.int 1))) aNil))) (bName 3)
  b_intervals_3)
  (retMv 1))))
noncomputable def m_intervals : List D → M O := run 7 g_intervals
/-! word_ahead -/
noncomputable def g_word_ahead : FS :=
  (seqS (ifS (asB (eOp tEq (eOp tIx (eVar 1) (eC (.int 1))) (eC (.int 0))))
  (retS (eC (.str "")))
  skipS)
  (retS (eOp tIx (eOp tIx (eVar 0) (eOp tIx (eVar 1) (eC (.int 0)))) (eOp tSub (eOp tIx (eVar 1) (eC (.int 1))) (eC (.int 1))))))
noncomputable def m_word_ahead : List D → M O := run 2 g_word_ahead
/-! all_alike -/
noncomputable def g_all_alike : FS :=
  (retS (eAnd (eOp tNe (eOp tIx (eVar 0) (eC (.int 0))) (eC (.str ""))) (eOp tEq (eCount (eVar 0) (eOp tIx (eVar 0) (eC (.int 0)))) (eArgs (op1 D.len) (aCons (eVar 0) aNil)))))
noncomputable def m_all_alike : List D → M O := run 1 g_all_alike
/-! law_places -/
noncomputable def b_law_places_1 : FS :=
  (ifS (asB (eOp tEq (eArgs opTuple (aCons (eSl (eOp tIx (eVar 0) (eVar 3)) (oSome (eVar 4)) (oSome (eOp tAdd (eVar 4) (eArgs (op1 D.len) (aCons (eVar 1) aNil))))) aNil)) (eVar 1)))
  (mutS "list" (pVar 2) (eArgs dTup (aCons (eVar 3) (aCons (eVar 4) aNil))) opAppend)
  skipS)
noncomputable def b_law_places_2 : FS :=
  (forS (itR1 (aCons (eOp tAdd (eOp tSub (eArgs (op1 D.len) (aCons (eOp tIx (eVar 0) (eVar 3)) aNil)) (eArgs (op1 D.len) (aCons (eVar 1) aNil))) (eC (.int 1))) aNil)) (bName 4)
  b_law_places_1)
noncomputable def g_law_places : FS :=
  (seqS (asgS (bName 2) (eArgs dLst aNil))
  (seqS (forS (itR1 (aCons (eArgs (op1 D.len) (aCons (eVar 0) aNil)) aNil)) (bName 3)
  b_law_places_2)
  (retMv 2)))
noncomputable def m_law_places : List D → M O := run 5 g_law_places
/-! law_one_word -/
noncomputable def b_law_one_word_1 : FS :=
  (ifS (tOrG (asB (eOp tEq (eVar 1) (eC (.str "")))) (asB (eOp tNe (eVar 1) (eOp tIx (eVar 0) (eC (.int 0))))))
  (retS (eC (.bl false)))
  skipS)
noncomputable def g_law_one_word : FS :=
  (seqS (forS (itS (eVar 0)) (bName 1)
  b_law_one_word_1)
  (retS (eC (.bl true))))
noncomputable def m_law_one_word : List D → M O := run 2 g_law_one_word
/-! law_full -/
noncomputable def b_law_full_1 : FS :=
  (seqS (asgS (bName 7) (eOp tAdd (eOp tAdd (eArgs dLst (aCons (eC (.str "")) aNil)) (eOp tIx (eVar 0) (eVar 5))) (eArgs dLst (aCons (eC (.str "")) aNil))))
  (seqS (mutS "list" (pVar 3) (eOp tIx (eVar 7) (eVar 6)) opAppend)
  (mutS "list" (pVar 4) (eOp tIx (eVar 7) (eOp tAdd (eOp tAdd (eVar 6) (eC (.int 1))) (eArgs (op1 D.len) (aCons (eVar 1) aNil)))) opAppend)))
noncomputable def g_law_full : FS :=
  (seqS (asgS (bName 3) (eArgs dLst aNil))
  (seqS (asgS (bName 4) (eArgs dLst aNil))
  (seqS (forS (itS (eVar 2)) (bTup 2 (bCons (bName 5) (bCons (bName 6) bNil)))
  b_law_full_1)
  (retS (eAnd (eOp (tOrd gtI gtS) (eArgs (op1 D.len) (aCons (eVar 2) aNil)) (eC (.int 1))) (eAnd (eNot (eCall m_law_one_word (aCons (eVar 3) aNil))) (eNot (eCall m_law_one_word (aCons (eVar 4) aNil)))))))))
noncomputable def m_law_full : List D → M O := run 8 g_law_full
/-! law_right_v3 -/
noncomputable def b_law_right_v3_1 : FS :=
  (seqS (asgS (bName 3) (eOp tIx (eVar 1) (eVar 2)))
  (seqS (ifS (tOrG (tNotG (asB (eIsa "tuple" (eVar 3)))) (tOrG (asB (eOp tNe (eArgs (op1 D.len) (aCons (eVar 3) aNil)) (eC (.int 2)))) (tOrG (tNotG (asB (eIsa "tuple" (eOp tIx (eVar 3) (eC (.int 0)))))) (asB (eOp tEq (eOp tIx (eVar 3) (eC (.int 0))) (eArgs dTup aNil))))))
  (retS (eC (.bl false)))
  skipS)
  (seqS (ifS (tOrG (tNotG (asB (eIsa "list" (eOp tIx (eVar 3) (eC (.int 1)))))) (tOrG (asB (eOp tNe (eOp tIx (eVar 3) (eC (.int 1))) (eCall m_law_places (aCons (eVar 0) (aCons (eOp tIx (eVar 3) (eC (.int 0))) aNil))))) (tNotG (asB (eCall m_law_full (aCons (eVar 0) (aCons (eOp tIx (eVar 3) (eC (.int 0))) (aCons (eOp tIx (eVar 3) (eC (.int 1))) aNil))))))))
  (retS (eC (.bl false)))
  skipS)
  (ifS (tAndG (asB (eOp (tOrd gtI gtS) (eVar 2) (eC (.int 0)))) (tNotG (asB (eOp tLt (eOp tIx (eOp tIx (eVar 1) (eOp tSub (eVar 2) (eC (.int 1)))) (eC (.int 0))) (eOp tIx (eVar 3) (eC (.int 0)))))))
  (retS (eC (.bl false)))
  skipS))))
noncomputable def g_law_right_v3 : FS :=
  (seqS (ifS (tNotG (asB (eIsa "list" (eVar 1))))
  (retS (eC (.bl false)))
  skipS)
  (seqS (forS (itR1 (aCons (eArgs (op1 D.len) (aCons (eVar 1) aNil)) aNil)) (bName 2)
  b_law_right_v3_1)
  (retS (eC (.bl true)))))
noncomputable def m_law_right_v3 : List D → M O := run 4 g_law_right_v3
/-! law_drawn_out -/
noncomputable def t_law_drawn_out_1 : FT :=
  (tAndG (asB (eOp tLt (eVar 5) (eOp tIx (eVar 1) (eC (.int 1))))) (tAndG (asB (eOp tLt (eVar 5) (eOp tIx (eVar 2) (eC (.int 1))))) (asB (eOp tEq (eOp tIx (eVar 3) (eOp tSub (eOp tSub (eOp tIx (eVar 1) (eC (.int 1))) (eVar 5)) (eC (.int 1)))) (eOp tIx (eVar 4) (eOp tSub (eOp tSub (eOp tIx (eVar 2) (eC (.int 1))) (eVar 5)) (eC (.int 1))))))))
noncomputable def b_law_drawn_out_2 : FS :=
  (asgS (bName 5) (eOp tAdd (eVar 5) (eC (.int 1))))
noncomputable def t_law_drawn_out_3 : FT :=
  (tAndG (asB (eOp tLt (eOp tAdd (eVar 6) (eVar 8)) (eArgs (op1 D.len) (aCons (eVar 3) aNil)))) (tAndG (asB (eOp tLt (eOp tAdd (eVar 7) (eVar 8)) (eArgs (op1 D.len) (aCons (eVar 4) aNil)))) (asB (eOp tEq (eOp tIx (eVar 3) (eOp tAdd (eVar 6) (eVar 8))) (eOp tIx (eVar 4) (eOp tAdd (eVar 7) (eVar 8)))))))
noncomputable def b_law_drawn_out_4 : FS :=
  (asgS (bName 8) (eOp tAdd (eVar 8) (eC (.int 1))))
noncomputable def g_law_drawn_out : FS :=
  (seqS (asgS (bName 3) (eOp tIx (eVar 0) (eOp tIx (eVar 1) (eC (.int 0)))))
  (seqS (asgS (bName 4) (eOp tIx (eVar 0) (eOp tIx (eVar 2) (eC (.int 0)))))
  (seqS (asgS (bName 5) (eC (.int 0)))
  (seqS (whileS t_law_drawn_out_1
  b_law_drawn_out_2)
  (seqS (asgS (bName 6) (eOp tSub (eOp tIx (eVar 1) (eC (.int 1))) (eVar 5)))
  (seqS (asgS (bName 7) (eOp tSub (eOp tIx (eVar 2) (eC (.int 1))) (eVar 5)))
  (seqS (asgS (bName 8) (eC (.int 0)))
  (seqS (whileS t_law_drawn_out_3
  b_law_drawn_out_4)
  (retS (eArgs dTup (aCons (eArgs opTuple (aCons (eSl (eVar 3) (oSome (eVar 6)) (oSome (eOp tAdd (eVar 6) (eVar 8)))) aNil)) (aCons (eArgs dTup (aCons (eOp tIx (eVar 1) (eC (.int 0))) (aCons (eVar 6) aNil))) (aCons (eArgs dTup (aCons (eOp tIx (eVar 2) (eC (.int 0))) (aCons (eVar 7) aNil))) aNil)))))))))))))
noncomputable def m_law_drawn_out : List D → M O := run 9 g_law_drawn_out
/-! law_drawn_out_v2 -/
noncomputable def t_law_drawn_out_v2_1 : FT :=
  (tAndG (asB (eOp tLt (eVar 5) (eOp tIx (eVar 1) (eC (.int 1))))) (tAndG (asB (eOp tLt (eVar 5) (eOp tIx (eVar 2) (eC (.int 1))))) (asB (eOp tEq (eOp tIx (eVar 3) (eOp tSub (eOp tSub (eOp tIx (eVar 1) (eC (.int 1))) (eVar 5)) (eC (.int 1)))) (eOp tIx (eVar 4) (eOp tSub (eOp tSub (eOp tIx (eVar 2) (eC (.int 1))) (eVar 5)) (eC (.int 1))))))))
noncomputable def b_law_drawn_out_v2_2 : FS :=
  (asgS (bName 5) (eOp tAdd (eVar 5) (eC (.int 1))))
noncomputable def t_law_drawn_out_v2_3 : FT :=
  (tAndG (asB (eOp tLt (eOp tAdd (eVar 6) (eVar 8)) (eArgs (op1 D.len) (aCons (eVar 3) aNil)))) (tAndG (asB (eOp tLt (eOp tAdd (eVar 7) (eVar 8)) (eArgs (op1 D.len) (aCons (eVar 4) aNil)))) (asB (eOp tEq (eOp tIx (eVar 3) (eOp tAdd (eVar 6) (eVar 8))) (eOp tIx (eVar 4) (eOp tAdd (eVar 7) (eVar 8)))))))
noncomputable def b_law_drawn_out_v2_4 : FS :=
  (asgS (bName 8) (eOp tAdd (eVar 8) (eC (.int 1))))
noncomputable def g_law_drawn_out_v2 : FS :=
  (seqS (asgS (bName 3) (eOp tIx (eVar 0) (eOp tIx (eVar 1) (eC (.int 0)))))
  (seqS (asgS (bName 4) (eOp tIx (eVar 0) (eOp tIx (eVar 2) (eC (.int 0)))))
  (seqS (asgS (bName 5) (eC (.int 0)))
  (seqS (whileS t_law_drawn_out_v2_1
  b_law_drawn_out_v2_2)
  (seqS (asgS (bName 6) (eOp tSub (eOp tIx (eVar 1) (eC (.int 1))) (eVar 5)))
  (seqS (asgS (bName 7) (eOp tSub (eOp tIx (eVar 2) (eC (.int 1))) (eVar 5)))
  (seqS (asgS (bName 8) (eC (.int 0)))
  (seqS (whileS t_law_drawn_out_v2_3
  b_law_drawn_out_v2_4)
  (retS (eArgs opTuple (aCons (eSl (eVar 3) (oSome (eVar 6)) (oSome (eOp tAdd (eVar 6) (eVar 8)))) aNil)))))))))))
noncomputable def m_law_drawn_out_v2 : List D → M O := run 9 g_law_drawn_out_v2
/-! law_text_v3 -/
noncomputable def b_law_text_v3_1 : FS :=
  (seqS (asgS (bName 4) (eOp tIx (eVar 0) (eOp tIx (eArgs dLst (aCons (eC (.int 0)) (aCons (eC (.int 0)) (aCons (eC (.int 0)) (aCons (eC (.int 1)) (aCons (eC (.int 2)) (aCons (eC (.int 3)) aNil))))))) (eCall m_law_part (aCons (eVar 3) (aCons (eC (.int 21)) (aCons (eC (.int 6)) aNil)))))))
  (seqS (ifS (asB (eOp tEq (eCall m_law_part (aCons (eVar 3) (aCons (eC (.int 22)) (aCons (eC (.int 2)) aNil)))) (eC (.int 1))))
  (asgS (bName 4) (eStr0 sUpper (eVar 4)))
  skipS)
  (asgS (bName 2) (eOp tAdd (eOp tAdd (eVar 2) (eVar 4)) (eOp tIx (eArgs dLst (aCons (eC (.str " ")) (aCons (eC (.str ", ")) (aCons (eC (.str "-")) (aCons (eC (.str " ")) (aCons (eC (.str ". ")) (aCons (eC (.str " (")) (aCons (eC (.str "\n")) aNil)))))))) (eCall m_law_part (aCons (eVar 3) (aCons (eC (.int 23)) (aCons (eC (.int 7)) aNil)))))))))
noncomputable def g_law_text_v3 : FS :=
  (seqS (asgS (bName 2) (eC (.str "")))
  (seqS (forS (itS (eVar 1)) (bName 3)
  b_law_text_v3_1)
  (retMv 2)))
noncomputable def m_law_text_v3 : List D → M O := run 5 g_law_text_v3
/-! first_from -/
noncomputable def t_first_from_1 : FT :=
  (asB (eOp tLt (eVar 4) (eVar 5)))
noncomputable def b_first_from_2 : FS :=
  (seqS (asgS (bName 6) (eOp tDiv (eOp tAdd (eVar 4) (eVar 5)) (eC (.int 2))))
  (seqS (asgS (bName 7) (eCall m_end_of (aCons (eVar 0) (aCons (eOp tIx (eVar 1) (eVar 6)) aNil))))
  (ifS (tOrG (tAndG (asB (eOp (tIs false) (eVar 3) (eC .non))) (asB (eOp tLt (eVar 7) (eVar 2)))) (tAndG (asB (eOp (tIs true) (eVar 3) (eC .non))) (asB (eOp (tCmpP leP) (eSl (eVar 7) oNone (oSome (eVar 3))) (eVar 2)))))
  (asgS (bName 4) (eOp tAdd (eVar 6) (eC (.int 1))))
  (asgS (bName 5) (eVar 6)))))
noncomputable def g_first_from : FS :=
  (seqS (asgS (bName 4) (eC (.int 0)))
  (seqS (asgS (bName 5) (eArgs (op1 D.len) (aCons (eVar 1) aNil)))
  (seqS (whileS t_first_from_1
  b_first_from_2)
  (retMv 4))))
noncomputable def m_first_from : List D → M O := run 8 g_first_from
/-! stretch_of -/
noncomputable def g_stretch_of : FS :=
  (seqS (asgS (bName 3) (eCall m_first_from (aCons (eVar 0) (aCons (eVar 1) (aCons (eVar 2) (aCons (eC .non) aNil))))))
  (retS (eArgs dTup (aCons (eVar 3) (aCons (eCall m_first_from (aCons (eVar 0) (aCons (eVar 1) (aCons (eVar 2) (aCons (eArgs (op1 D.len) (aCons (eVar 2) aNil)) aNil))))) aNil)))))
noncomputable def m_stretch_of : List D → M O := run 4 g_stretch_of
/-! law_right_v2 -/
noncomputable def b_law_right_v2_1 : FS :=
  (seqS (asgS (bName 8) (eSl (eOp tIx (eVar 0) (eOp tIx (eVar 5) (eC (.int 0)))) (oSome (eOp tIx (eVar 5) (eC (.int 1)))) oNone))
  (ifS (asB (eOp tEq (eSl (eVar 8) oNone (oSome (eArgs (op1 D.len) (aCons (eVar 2) aNil)))) (eVar 2)))
  (asgS (bName 4) (eOp tAdd (eVar 4) (eC (.int 1))))
  (ifS (asB (eOp tLt (eVar 8) (eVar 2)))
  (asgS (bName 3) (eOp tAdd (eVar 3) (eC (.int 1))))
  skipS)))
noncomputable def g_law_right_v2 : FS :=
  (seqS (asgS (bName 3) (eC (.int 0)))
  (seqS (asgS (bName 4) (eC (.int 0)))
  (seqS (forS (itS (eVar 1)) (bName 5)
  b_law_right_v2_1)
  (seqS (asgS (bName 6) (eArgs dTup (aCons (eCall m_law_copy (aCons (eVar 0) aNil)) (aCons (eArgs opList (aCons (eVar 1) aNil)) (aCons (eArgs opList (aCons (eVar 2) aNil)) aNil)))))
  (seqS (asgS (bName 7) (eCall m_stretch_of (aCons (eOp tIx (eVar 6) (eC (.int 0))) (aCons (eOp tIx (eVar 6) (eC (.int 1))) (aCons (eOp tIx (eVar 6) (eC (.int 2))) aNil)))))
  (seqS (ifS (tOrG (tNotG (asB (eIsa "tuple" (eVar 7)))) (tOrG (asB (eOp tNe (eArgs (op1 D.len) (aCons (eVar 7) aNil)) (eC (.int 2)))) (asB (eOp tNe (eVar 6) (eArgs dTup (aCons (eVar 0) (aCons (eVar 1) (aCons (eVar 2) aNil))))))))
  (retS (eC (.bl false)))
  skipS)
  (retS (eAnd (eCall m_law_whole (aCons (eOp tIx (eVar 7) (eC (.int 0))) aNil)) (eAnd (eCall m_law_whole (aCons (eOp tIx (eVar 7) (eC (.int 1))) aNil)) (eOp tEq (eVar 7) (eArgs dTup (aCons (eVar 3) (aCons (eOp tAdd (eVar 3) (eVar 4)) aNil)))))))))))))
noncomputable def m_law_right_v2 : List D → M O := run 9 g_law_right_v2
/-! full_stretches -/
noncomputable def q_full_stretches_1 : FE :=
  (eCall m_word_ahead (aCons (eVar 0) (aCons (eVar 7) aNil)))
noncomputable def b_full_stretches_2 : FS :=
  (seqS (asgS (bName 6) (eSorted (eSl (eVar 1) (oSome (eVar 4)) (oSome (eVar 5)))))
  (ifS (tNotG (asB (eCall m_all_alike (aCons (eComp (itC (eVar 6)) [7] (cName 7) yesT q_full_stretches_1) aNil))))
  (appTupS (pVar 2) (eArgs opTuple (aCons (eSl (eCall m_end_of (aCons (eVar 0) (aCons (eOp tIx (eVar 6) (eC (.int 0))) aNil))) oNone (oSome (eVar 3))) aNil)) 6)
  skipS))
noncomputable def g_full_stretches : FS :=
  (seqS (asgS (bName 1) (eCall m_ends (aCons (eVar 0) aNil)))
  (seqS (asgS (bName 2) (eArgs dLst aNil))
  (seqS (forS (itS (eCall m_intervals (aCons (eCall m_shares (aCons (eVar 0) (aCons (eVar 1) aNil))) aNil))) (bTup 3 (bCons (bName 3) (bCons (bName 4) (bCons (bName 5) bNil))))
  b_full_stretches_2)
  (retSortMv 2))))
noncomputable def m_full_stretches : List D → M O := run 8 g_full_stretches
/-! law_word -/
noncomputable def b_law_word_1 : FS :=
  (asgS (bName 2) (eOp tAdd (eVar 2) (eOp tIx (eVar 1) (eCall m_law_part (aCons (eVar 0) (aCons (eOp tAdd (eVar 3) (eC (.int 2))) (aCons (eC (.int 36)) aNil)))))))
noncomputable def g_law_word : FS :=
  (seqS (asgS (bName 1) (eC (.str "abcdefghijklmnopqrstuvwxyz0123456789")))
  (seqS (asgS (bName 2) (eC (.str "")))
  (seqS (forS (itR1 (aCons (eOp tAdd (eC (.int 1)) (eCall m_law_part (aCons (eVar 0) (aCons (eC (.int 0)) (aCons (eOp tIx (eArgs dLst (aCons (eC (.int 3)) (aCons (eC (.int 14)) (aCons (eC (.int 40)) aNil)))) (eCall m_law_part (aCons (eVar 0) (aCons (eC (.int 1)) (aCons (eC (.int 3)) aNil))))) aNil))))) aNil)) (bName 3)
  b_law_word_1)
  (retMv 2))))
noncomputable def m_law_word : List D → M O := run 4 g_law_word
/-! law_single -/
noncomputable def g_law_single : FS :=
  (seqS (asgS (bName 1) (eCall m_law_part (aCons (eVar 0) (aCons (eC (.int 50)) (aCons (eC (.int 7)) aNil)))))
  (seqS (ifS (asB (eOp tLt (eVar 1) (eC (.int 3))))
  (retS (eArgs dTup (aCons (eC (.str "word")) (aCons (eCall m_law_word (aCons (eVar 0) aNil)) aNil))))
  skipS)
  (seqS (ifS (asB (eOp tEq (eVar 1) (eC (.int 3))))
  (retS (eArgs dTup (aCons (eC (.str "begin")) (aCons (eCall m_law_word (aCons (eVar 0) aNil)) aNil))))
  skipS)
  (seqS (ifS (asB (eOp tEq (eVar 1) (eC (.int 4))))
  (retS (eArgs dTup (aCons (eC (.str "end")) (aCons (eCall m_law_word (aCons (eVar 0) aNil)) aNil))))
  skipS)
  (seqS (ifS (asB (eOp tEq (eVar 1) (eC (.int 5))))
  (retS (eArgs dTup (aCons (eC (.str "any")) aNil)))
  skipS)
  (retS (eArgs dTup (aCons (eC (.str "upto")) (aCons (eCall m_law_part (aCons (eVar 0) (aCons (eC (.int 51)) (aCons (eC (.int 10)) aNil)))) aNil)))))))))
noncomputable def m_law_single : List D → M O := run 2 g_law_single
/-! law_question -/
noncomputable def b_law_question_1 : FS :=
  (seqS (asgS (bName 4) (eCall m_law_part (aCons (eVar 3) (aCons (eC (.int 52)) (aCons (eC (.int 9)) aNil)))))
  (ifS (tAndG (asB (eOp tEq (eVar 4) (eC (.int 0)))) (asB (eOp tLt (eArgs (op1 D.len) (aCons (eVar 1) aNil)) (eC (.int 20)))))
  (seqS (appMvS (pVar 1) 2)
  (asgS (bName 2) (eArgs dLst (aCons (eArgs dLst aNil) aNil))))
  (ifS (tAndG (asB (eOp tEq (eVar 4) (eC (.int 1)))) (asB (eOp tNe (eOp tIx (eVar 2) (eUn tNeg (eC (.int 1)))) (eArgs dLst aNil))))
  (mutS "list" (pVar 2) (eArgs dLst aNil) opAppend)
  (ifS (tAndG (asB (eOp tLt (eVar 4) (eC (.int 4)))) (tAndG (asB (eOp tNe (eOp tIx (eVar 2) (eUn tNeg (eC (.int 1)))) (eArgs dLst aNil))) (asB (eOp tNe (eVar 1) (eArgs dLst aNil)))))
  (seqS (setMvS 5 2)
  (seqS (popS (pVar 1) (bName 2))
  (appTupS (pAt (pVar 2) (eUn tNeg (eC (.int 1)))) (eC (.str "in")) 5)))
  (mutS "list" (pAt (pVar 2) (eUn tNeg (eC (.int 1)))) (eCall m_law_single (aCons (eVar 3) aNil)) opAppend)))))
noncomputable def t_law_question_2 : FT :=
  (tOrG (asB (eOp tNe (eVar 1) (eArgs dLst aNil))) (asB (eOp tEq (eOp tIx (eVar 2) (eUn tNeg (eC (.int 1)))) (eArgs dLst aNil))))
noncomputable def b_law_question_3 : FS :=
  (ifS (asB (eOp tEq (eOp tIx (eVar 2) (eUn tNeg (eC (.int 1)))) (eArgs dLst aNil)))
  (mutS "list" (pAt (pVar 2) (eUn tNeg (eC (.int 1)))) (eArgs dTup (aCons (eC (.str "any")) aNil)) opAppend)
  (seqS (setMvS 5 2)
  (seqS (popS (pVar 1) (bName 2))
  (appTupS (pAt (pVar 2) (eUn tNeg (eC (.int 1)))) (eC (.str "in")) 5))))
noncomputable def g_law_question : FS :=
  (seqS (asgS (bName 1) (eArgs dLst aNil))
  (seqS (asgS (bName 2) (eArgs dLst (aCons (eArgs dLst aNil) aNil)))
  (seqS (forS (itS (eVar 0)) (bName 3)
  b_law_question_1)
  (seqS (whileS t_law_question_2
  b_law_question_3)
  (retMv 2)))))
noncomputable def m_law_question : List D → M O := run 6 g_law_question
/-! show_part show_question -/
noncomputable def g_show_part (m_show_part m_show_question : List D → M O) : FS :=
  (seqS (ifS (asB (eOp tEq (eOp tIx (eVar 0) (eC (.int 0))) (eC (.str "any"))))
  (retS (eC (.str "?")))
  skipS)
  (seqS (ifS (asB (eOp tEq (eOp tIx (eVar 0) (eC (.int 0))) (eC (.str "upto"))))
  (retS (eOp tAdd (eC (.str "..")) (eArgs (op1 D.toS) (aCons (eOp tIx (eVar 0) (eC (.int 1))) aNil))))
  skipS)
  (seqS (ifS (asB (eOp tEq (eOp tIx (eVar 0) (eC (.int 0))) (eC (.str "begin"))))
  (retS (eOp tAdd (eOp tIx (eVar 0) (eC (.int 1))) (eC (.str "*"))))
  skipS)
  (seqS (ifS (asB (eOp tEq (eOp tIx (eVar 0) (eC (.int 0))) (eC (.str "end"))))
  (retS (eOp tAdd (eC (.str "*")) (eOp tIx (eVar 0) (eC (.int 1)))))
  skipS)
  (seqS (ifS (asB (eOp tEq (eOp tIx (eVar 0) (eC (.int 0))) (eC (.str "in"))))
  (retS (eOp tAdd (eOp tAdd (eC (.str "( ")) (eCall m_show_question (aCons (eOp tIx (eVar 0) (eC (.int 1))) aNil))) (eC (.str " )"))))
  skipS)
  (retS (eOp tIx (eVar 0) (eC (.int 1)))))))))
noncomputable def q_show_question_1 (m_show_part m_show_question : List D → M O) : FE :=
  (eCall m_show_part (aCons (eVar 3) aNil))
noncomputable def b_show_question_2 (m_show_part m_show_question : List D → M O) : FS :=
  (mutS "list" (pVar 1) (eStr1 sJoin (eC (.str " ")) (eComp (itC (eVar 2)) [3] (cName 3) yesT (q_show_question_1 m_show_part m_show_question))) opAppend)
noncomputable def g_show_question (m_show_part m_show_question : List D → M O) : FS :=
  (seqS (asgS (bName 1) (eArgs dLst aNil))
  (seqS (forS (itS (eVar 0)) (bName 2)
  (b_show_question_2 m_show_part m_show_question))
  (retS (eStr1 sJoin (eC (.str " | ")) (eVar 1)))))
noncomputable def rc_show_part : Nat → (List D → M O) × (List D → M O)
  | 0 => (fun _ => .bad, fun _ => .bad)
  | k + 1 => (run 1 (g_show_part (rc_show_part k).1 (rc_show_part k).2), run 4 (g_show_question (rc_show_part k).1 (rc_show_part k).2))
noncomputable def m_show_part : List D → M O := (rc_show_part 80).1
noncomputable def m_show_question : List D → M O := (rc_show_part 80).2
/-! law_part_text law_text_v4 -/
noncomputable def g_law_part_text (m_law_part_text m_law_text_v4 : List D → M O) : FS :=
  (seqS (ifS (asB (eOp tEq (eOp tIx (eVar 0) (eC (.int 0))) (eC (.str "any"))))
  (retS (eC (.str "?")))
  skipS)
  (seqS (ifS (asB (eOp tEq (eOp tIx (eVar 0) (eC (.int 0))) (eC (.str "upto"))))
  (retS (eOp tAdd (eC (.str "..")) (eOp tIx (eC (.str "0123456789")) (eOp tIx (eVar 0) (eC (.int 1))))))
  skipS)
  (seqS (ifS (asB (eOp tEq (eOp tIx (eVar 0) (eC (.int 0))) (eC (.str "begin"))))
  (retS (eOp tAdd (eOp tIx (eVar 0) (eC (.int 1))) (eC (.str "*"))))
  skipS)
  (seqS (ifS (asB (eOp tEq (eOp tIx (eVar 0) (eC (.int 0))) (eC (.str "end"))))
  (retS (eOp tAdd (eC (.str "*")) (eOp tIx (eVar 0) (eC (.int 1)))))
  skipS)
  (seqS (ifS (asB (eOp tEq (eOp tIx (eVar 0) (eC (.int 0))) (eC (.str "in"))))
  (retS (eOp tAdd (eOp tAdd (eC (.str "( ")) (eCall m_law_text_v4 (aCons (eOp tIx (eVar 0) (eC (.int 1))) aNil))) (eC (.str " )"))))
  skipS)
  (retS (eOp tIx (eVar 0) (eC (.int 1)))))))))
noncomputable def b_law_text_v4_1 (m_law_part_text m_law_text_v4 : List D → M O) : FS :=
  (asgS (bName 1) (eOp tAdd (eOp tAdd (eVar 1) (eC (.str " "))) (eCall m_law_part_text (aCons (eVar 3) aNil))))
noncomputable def b_law_text_v4_2 (m_law_part_text m_law_text_v4 : List D → M O) : FS :=
  (seqS (ifS (asB (eOp tNe (eVar 1) (eC (.str ""))))
  (asgS (bName 1) (eOp tAdd (eVar 1) (eC (.str " |"))))
  skipS)
  (frzS 2 (forS (itS (eVar 2)) (bName 3)
  (b_law_text_v4_1 m_law_part_text m_law_text_v4))))
noncomputable def g_law_text_v4 (m_law_part_text m_law_text_v4 : List D → M O) : FS :=
  (seqS (asgS (bName 1) (eC (.str "")))
  (seqS (forS (itS (eVar 0)) (bName 2)
  (b_law_text_v4_2 m_law_part_text m_law_text_v4))
  (retS (eStr1 (sStr sStripC) (eVar 1) (eC (.str " "))))))
noncomputable def rc_law_part_text : Nat → (List D → M O) × (List D → M O)
  | 0 => (fun _ => .bad, fun _ => .bad)
  | k + 1 => (run 1 (g_law_part_text (rc_law_part_text k).1 (rc_law_part_text k).2), run 4 (g_law_text_v4 (rc_law_part_text k).1 (rc_law_part_text k).2))
noncomputable def m_law_part_text : List D → M O := (rc_law_part_text 80).1
noncomputable def m_law_text_v4 : List D → M O := (rc_law_part_text 80).2
end Sh

namespace Sh
open PySem L2 Fu PyProof.Rows
open SX (S)
/-! ### words of a line, rows of a text -/
def isS (c : Nat) : Bool := decide (c ∈ c_SIGNS.cps)
/-- a word's owned text -/
abbrev wO (w : List Nat) : O := .sh (.str (S w))
abbrev wD (w : List Nat) : D := .str (S w)
def wstep (s : List (List Nat) × List Nat) (c : Nat) : List (List Nat) × List Nat :=
  if isS c then (s.1, s.2 ++ [c]) else if s.2 = [] then s else (s.1 ++ [s.2], [])
def words (l : List Nat) : List (List Nat) := ((l.map lo1 ++ [32]).foldl wstep ([], [])).1
theorem sizeL : sizeLine = 16777216 := rfl
abbrev chr (c : Nat) : D := .str ⟨#[c]⟩
theorem words_step (s : List (List Nat) × List Nat) (c : Nat) (l : O) (h1 : s.1.length < 16777216) (h2 : s.2.length < 16777216) :
    b_words_of_1 [some l, some (.lst (s.1.map wO)), some (wO s.2), some (.sh (chr c))] = some (.nx [some l, some (.lst ((wstep s c).1.map wO)), some (wO (wstep s c).2), some (.sh (chr c))]) := by
  unfold b_words_of_1 wstep isS
  by_cases hc : c ∈ c_SIGNS.cps
  · simp [hc, sizeL, h2, S_mk, S_add, show s.2.length + 1 ≤ 16777216 by omega]
  · by_cases h : s.2 = []
    · simp [hc, h, nil_S]
    · simp [hc, h, S_ne_nil, sizeL, h1]
      exact nil_S
theorem wstep_len (s : List (List Nat) × List Nat) (c : Nat) : (wstep s c).1.length ≤ s.1.length + 1 ∧ (wstep s c).2.length ≤ s.2.length + 1 := by
  unfold wstep
  split
  · simp
  · split
    · omega
    · simp
theorem words_loop (l : List Nat) (hl : l.length ≤ 10000000) (o : O) (x : Option O) : ∃ y, loopS (bName 3) b_words_of_1 (l.map chr) [some o, some (.lst []), some (wO []), x] =
    some (.nx [some o, some (.lst ((l.foldl wstep ([], [])).1.map wO)), some (wO (l.foldl wstep ([], [])).2), y]) := by
  obtain ⟨e2, y, h, he, _⟩ := loop_steps (b := bName 3) (body := b_words_of_1) chr (fun s y e => e = [some o, some (.lst (s.1.map wO)), some (wO s.2), y]) wstep (fun s l => s.1.length + l.length ≤ 10000000 ∧ s.2.length + l.length ≤ 10000000)
    (fun s a l e x g i => by
      subst i
      obtain ⟨g1, g2⟩ := g
      rw [List.length_cons] at g1 g2
      refine ⟨_, _, _, rfl, words_step s a o (by omega) (by omega), rfl, ?_⟩
      have := wstep_len s a
      omega) l ([], []) [some o, some (.lst []), some (wO []), x] x (by simpa using hl) rfl
  exact ⟨y, by rw [h, he]⟩
@[simp] theorem pureL_wO (ws : List (List Nat)) : O.pureL (ws.map wO) = true := pureL_map wO (fun _ => by simp) ws
theorem lower_chars (l : List Nat) (h : l.all (· < 128) = true) : Txt.lower (S l) = S (l.map lo1) := SX.lower_S h
theorem m_words_of_eq (l : List Nat) (h : l.all (· < 128) = true) (hl : l.length ≤ 1000000) : m_words_of [wD l] = .ok (.lst ((words l).map wO)) := by
  unfold m_words_of g_words_of
  obtain ⟨y, e⟩ := words_loop (l.map lo1 ++ [32]) (by simp; omega) (.sh (wD l)) none
  have e' : ∀ cs : List Nat, List.map ((fun c => D.str ⟨#[c]⟩)) cs = cs.map chr := fun _ => rfl
  have hp := pureL_map (f := wO) (fun x => by simp) (words l)
  simp [sLower, lower_chars l h, show l.length ≤ 5592405 by omega, sp_S, S_add, sizeL, show l.length + 1 ≤ 16777216 by omega]
  simp only [List.map_append, List.map_map, List.map_cons, List.map_nil] at e
  rw [nil_S]
  have e2 : (List.map ((fun c => D.str { cps := #[c] }) ∘ lo1) l ++ [D.str { cps := #[32] }]) = List.map (chr ∘ lo1) l ++ [chr 32] := rfl
  rw [e2, e]
  unfold words
  simp only [Option.bind_some, Option.map_some, then_nx, retMv_eq, List.getElem?_cons_succ, List.getElem?_cons_zero, finish_rt, pure_lst, pureL_wO, if_true]
@[simp] theorem data_wO (w : List Nat) : (wO w).data = wD w := by simp
@[simp] theorem dataL_wO (ws : List (List Nat)) : O.dataL (ws.map wO) = ws.map wD := by rw [odataL_mapf]; simp
/-- a row's owned list -/
abbrev rO (r : List (List Nat)) : O := .lst (r.map wO)
abbrev rD (r : List (List Nat)) : D := .lst (r.map wD)
@[simp] theorem data_rO (r : List (List Nat)) : (rO r).data = rD r := by simp
@[simp] theorem dataL_rO (rs : List (List (List Nat))) : O.dataL (rs.map rO) = rs.map rD := by rw [odataL_mapf]; simp
@[simp] theorem pureL_rO (rs : List (List (List Nat))) : O.pureL (rs.map rO) = true := pureL_map rO (fun _ => by simp) rs
/-- the lines of a text -/
def linesA : List Nat → List Nat → List (List Nat)
  | acc, [] => [acc]
  | acc, c :: r => if c = 10 then acc :: linesA [] r else linesA (acc ++ [c]) r
theorem spl_lines : ∀ (l acc : List Nat), TL.spl [10] 0 acc l = linesA acc l
  | [], acc => rfl
  | c :: r, acc => by
    by_cases h : c = 10
    · subst h
      rw [TL.spl_hit (by rfl), linesA, if_pos rfl, ← spl_lines r []]
      rfl
    · rw [TL.spl_miss (by
        show ([c] == [10]) = false
        simpa using h), linesA, if_neg h, spl_lines r]
def nonE (r : List (List Nat)) : Bool := decide (r ≠ [])
def rows (t : List Nat) : List (List (List Nat)) := ((linesA [] t).map words).filter nonE
theorem lines_ok : ∀ (l acc : List Nat), (acc ++ l).all (· < 128) = true → ∀ p ∈ linesA acc l, p.all (· < 128) = true ∧ p.length ≤ acc.length + l.length
  | [], acc, h, p, m => by
    have : p = acc := by simpa [linesA] using m
    subst this
    exact ⟨by simpa using h, by simp⟩
  | c :: r, acc, h, p, m => by
    rw [linesA] at m
    by_cases e : c = 10
    · rw [if_pos e] at m
      rcases List.mem_cons.mp m with m | m
      · subst m
        rw [List.all_append] at h
        exact ⟨(Bool.and_eq_true_iff.mp h).1, by simp⟩
      · have := lines_ok r [] (by
          rw [List.all_append] at h
          have := (Bool.and_eq_true_iff.mp h).2
          rw [List.all_cons] at this
          simpa using (Bool.and_eq_true_iff.mp this).2) p m
        exact ⟨this.1, by have := this.2; simp at this ⊢; omega⟩
    · rw [if_neg e] at m
      have := lines_ok r (acc ++ [c]) (by simpa [List.append_assoc] using h) p m
      exact ⟨this.1, by have := this.2; simp at this ⊢; omega⟩
theorem lines_len : ∀ (l acc : List Nat), (linesA acc l).length ≤ l.length + 1
  | [], acc => by simp [linesA]
  | c :: r, acc => by
    rw [linesA]
    split
    · have := lines_len r []
      simp; omega
    · have := lines_len r (acc ++ [c])
      simp; omega
theorem rows_comp (ls : List (List Nat)) (h : ∀ p ∈ ls, p.all (· < 128) = true ∧ p.length ≤ 1000000) (e : En) (he : e.length = 4) : compL (cName 2) yesT q_rows_of_1 e (ls.map fun p => .o (.sh (wD p))) = some (ls.map fun p => rO (words p)) :=
  comp_map _ _ ls fun p m => by
    obtain ⟨h1, h2⟩ := h p m
    simp [q_rows_of_1, he, m_words_of_eq p h1 h2]
theorem filt_rows (e : En) (he : e.length = 4) : ∀ rs : List (List (List Nat)), filtL t_rows_of_2 3 e (rs.map rO) = some ((rs.filter nonE).map rO)
  | [] => rfl
  | r :: rs => by
    have ih := filt_rows e he rs
    have : t_rows_of_2 (e.set 3 (some (.bo (rO r).data))) = .ok (nonE r) := by
      unfold t_rows_of_2
      cases r with
      | nil =>
        simp [he, nonE, D.eqb, eqL]
      | cons w ws =>
        simp [he, nonE, D.eqb]
    rw [List.map_cons, filtL, this, List.filter_cons]
    cases c : nonE r <;> simp [ih]
theorem m_rows_of_eq (t : List Nat) (h : t.all (· < 128) = true) (hl : t.length ≤ 900000) : m_rows_of [wD t] = .ok (.lst ((rows t).map rO)) := by
  unfold m_rows_of g_rows_of
  have hs : sSplit (S t) (.o (.sh (.str (S [10])))) = some (.o (.lst ((linesA [] t).map wO))) := by
    unfold sSplit
    simp only [data_o, odata_sh]
    rw [if_pos]
    · rw [SX.split_S (by decide) (by decide), spl_lines, List.map_map]
      rfl
    · constructor
      · rfl
      · show (S t).length + 2 ≤ sizeLine
        rw [S_length, sizeL]; omega
  have hlen := lines_len t []
  have hc := rows_comp (linesA [] t) (fun p m => by
    have := lines_ok t [] (by simpa using h) p m
    exact ⟨this.1, by have := this.2; simp at this; omega⟩) [some (.o (.sh (wD t))), none, none, none] rfl
  have hf := filt_rows [some (.o (.sh (wD t))), some (.o (.lst ((linesA [] t).map fun p => rO (words p)))), none, none] rfl ((linesA [] t).map words)
  rw [List.map_map] at hf
  have hf : filtL t_rows_of_2 3 [some (.o (.sh (wD t))), some (.o (.lst ((linesA [] t).map fun p => rO (words p)))), none, none] ((linesA [] t).map fun p => rO (words p)) = some ((rows t).map rO) := hf
  have hfl : (rows t).length ≤ 16777216 := by
    have := List.length_filter_le nonE ((linesA [] t).map words)
    rw [List.length_map] at this
    unfold rows
    omega
  simp [nl_S, hs, hc, hf, Function.comp_def, sizeL, hfl, show (linesA [] t).length ≤ 16777216 by omega]
/-! the due rows, sign by sign -/
def fin (s : List (List Nat) × List Nat) : List (List Nat) := if s.2 = [] then s.1 else s.1 ++ [s.2]
def cur (s : List (List Nat) × List Nat) : List (List (List Nat)) := if fin s = [] then [] else [fin s]
abbrev Dst := List (List (List Nat)) × (List (List Nat) × List Nat)
def dstep (d : Dst) (c : Nat) : Dst := if c = 10 then (d.1 ++ cur d.2, ([], [])) else (d.1, wstep d.2 (lo1 c))
theorem words_fin (l : List Nat) : words l = fin ((l.map lo1).foldl wstep ([], [])) := by
  unfold words fin
  rw [List.foldl_append]
  generalize (l.map lo1).foldl wstep ([], []) = s
  have : isS 32 = false := by decide +kernel
  show (wstep s 32).1 = _
  unfold wstep
  rw [this]
  simp only [Bool.false_eq_true, if_false]
  split <;> rfl
theorem dstep_rows : ∀ (t acc : List Nat) (D : List (List (List Nat))), let d := t.foldl dstep (D, (acc.map lo1).foldl wstep ([], [])); d.1 ++ cur d.2 = D ++ ((linesA acc t).map words).filter nonE
  | [], acc, D => by
    show D ++ cur _ = D ++ ([words acc].filter nonE)
    congr 1
    rw [words_fin]
    unfold cur
    rw [List.filter_cons]
    unfold nonE
    split <;> simp_all
  | c :: t, acc, D => by
    by_cases e : c = 10
    · have ih := dstep_rows t [] (D ++ cur ((acc.map lo1).foldl wstep ([], [])))
      rw [List.foldl_cons, linesA, if_pos e]
      have : dstep (D, (acc.map lo1).foldl wstep ([], [])) c = (D ++ cur ((acc.map lo1).foldl wstep ([], [])), ([].map lo1).foldl wstep ([], [])) := by
        unfold dstep
        rw [if_pos e]
        rfl
      rw [this]
      refine ih.trans ?_
      rw [List.append_assoc]
      congr 1
      rw [List.map_cons, List.filter_cons, words_fin acc]
      unfold cur nonE
      split <;> simp_all
    · have ih := dstep_rows t (acc ++ [c]) D
      rw [List.foldl_cons, linesA, if_neg e]
      have : dstep (D, (acc.map lo1).foldl wstep ([], [])) c = (D, ((acc ++ [c]).map lo1).foldl wstep ([], [])) := by
        unfold dstep
        rw [if_neg e, List.map_append, List.foldl_append]
        rfl
      rw [this]
      exact ih
theorem due_rows (t : List Nat) : (t.foldl dstep ([], ([], []))).1 ++ cur (t.foldl dstep ([], ([], []))).2 = rows t := by
  have := dstep_rows t [] []
  rw [List.nil_append] at this
  exact this
theorem signs_S : Str.ofString "abcdefghijklmnopqrstuvwxyz0123456789" = c_SIGNS := rfl
theorem lower1 (c : Nat) (h : c < 128) : Txt.lower ⟨#[c]⟩ = S [lo1 c] := lower_chars [c] (by simp [h])
theorem due_step (d : Dst) (c : Nat) (hc : c < 128) (t : O) (z : Option O) (h1 : d.1.length + 1 < 16777216) (h2 : d.2.1.length + 1 < 16777216) (h3 : d.2.2.length + 1 < 16777216) :
    b_law_due_v2_1 [some t, some (.lst ((d.1 ++ cur d.2).map rO)), some (.sh (.bl (decide (cur d.2 = [])))), some (.sh (.bl (decide (d.2.2 ≠ [])))), some (.sh (chr c)), z] =
    some (.nx [some t, some (.lst (((dstep d c).1 ++ cur (dstep d c).2).map rO)), some (.sh (.bl (decide (cur (dstep d c).2 = [])))), some (.sh (.bl (decide ((dstep d c).2.2 ≠ [])))), some (.sh (chr c)), some (.sh (.str (S [lo1 c])))]) := by
  obtain ⟨D, ws, w⟩ := d
  have hl : (⟨#[c]⟩ : Str).length ≤ 5592405 := by rw [chr_len]; omega
  have h1 : D.length + 1 < 16777216 := h1
  have h2 : ws.length + 1 < 16777216 := h2
  have h3 : w.length + 1 < 16777216 := h3
  have he : (S [c] == S [10]) = decide (c = 10) := by rw [SX.S_beq_eq]; simp
  unfold b_law_due_v2_1
  by_cases hs : lo1 c ∈ c_SIGNS.cps
  · have hs' : isS (lo1 c) = true := by simp [isS, hs]
    have h10 : ¬ c = 10 := by
      intro e
      subst e
      exact absurd hs' (by decide +kernel)
    by_cases hw : w = []
    · subst hw
      by_cases hws : ws = []
      · subst hws
        simp [sLower, hl, lower1 c hc, signs_S, hs, S_mk, cur, fin, dstep, wstep, hs', h10, sizeL, get_last, set_last, show D.length < 16777216 by omega]
      · simp [sLower, hl, lower1 c hc, signs_S, hs, hws, S_mk, cur, fin, dstep, wstep, hs', h10, sizeL, get_last, set_last, show ws.length < 16777216 by omega]
    · simp [sLower, hl, lower1 c hc, signs_S, hs, hw, S_mk, cur, fin, dstep, wstep, hs', h10, sizeL, get_last, set_last, S_add, show w.length ≤ 16777215 by omega]
  · have hs' : isS (lo1 c) = false := by simp [isS, hs]
    by_cases h10 : c = 10
    · subst h10
      have l10 : Txt.lower (S [10]) = S [10] := lower1 10 (by omega)
      have hc0 : cur ([], []) = [] := rfl
      have n10 : ¬ 10 ∈ c_SIGNS.cps := hs
      simp [sLower, l10, signs_S, n10, dstep, nl_S, S_mk, hc0]
      rfl
    · by_cases hw : w = []
      · subst hw
        simp [sLower, hl, lower1 c hc, signs_S, hs, dstep, wstep, hs', he, h10, nl_S, S_mk]
      · have hc2 : cur (ws ++ [w], []) = cur (ws, w) := by simp [cur, fin, hw]
        simp [sLower, hl, lower1 c hc, signs_S, hs, hw, dstep, wstep, hs', he, h10, nl_S, S_mk, hc2]
theorem dstep_len (d : Dst) (c : Nat) : (dstep d c).1.length ≤ d.1.length + 1 ∧ (dstep d c).2.1.length ≤ d.2.1.length + 1 ∧ (dstep d c).2.2.length ≤ d.2.2.length + 1 := by
  unfold dstep
  have := wstep_len d.2 (lo1 c)
  split
  · simp [cur]
    split <;> simp
  · simp
    omega
theorem m_due_eq (t : List Nat) (h : t.all (· < 128) = true) (hl : t.length ≤ 900000) : m_law_due_v2 [wD t] = .ok (.lst ((rows t).map rO)) := by
  unfold m_law_due_v2 g_law_due_v2
  obtain ⟨e2, y, h1, ⟨z, he⟩, _⟩ := loop_steps (b := bName 4) (body := b_law_due_v2_1) chr
    (fun (d : Dst) x e => ∃ z, e = [some (.sh (wD t)), some (.lst ((d.1 ++ cur d.2).map rO)), some (.sh (.bl (decide (cur d.2 = [])))), some (.sh (.bl (decide (d.2.2 ≠ [])))), x, z]) dstep
    (fun d l => d.1.length + l.length ≤ 1000000 ∧ d.2.1.length + l.length ≤ 1000000 ∧ d.2.2.length + l.length ≤ 1000000 ∧ l.all (· < 128) = true)
    (fun d c l e x g i => by
      obtain ⟨z, i⟩ := i
      subst i
      obtain ⟨g1, g2, g3, g4⟩ := g
      rw [List.all_cons, Bool.and_eq_true] at g4
      rw [List.length_cons] at g1 g2 g3
      have := dstep_len d c
      refine ⟨_, _, some (.sh (chr c)), rfl, due_step d c (by simpa using g4.1) (.sh (wD t)) z (by omega) (by omega) (by omega), ⟨_, rfl⟩, by omega, by omega, by omega, g4.2⟩) t ([], ([], [])) [some (.sh (wD t)), some (.lst []), some (.sh (.bl true)), some (.sh (.bl false)), none, none] none
    ⟨by simp; omega, by simp; omega, by simp; omega, h⟩ ⟨none, rfl⟩
  rw [due_rows] at he
  simp [sizeL]
  rw [h1, he]
  simp only [then_nx, retMv_eq, List.getElem?_cons_succ, List.getElem?_cons_zero, finish_rt, pure_lst, pureL_rO, if_true]
/-! the comparer -/
theorem cmp_rD (n : Nat) (r : List (List Nat)) : D.cmp (n + 1) (rD r) = true := by
  show D.cmp (n + 1) (.lst (r.map wD)) = true
  rw [D.cmp, cmpL_all]
  simp [D.cmp]
theorem cmp_rows (n : Nat) (rs : List (List (List Nat))) : D.cmp (n + 2) (.lst (rs.map rD)) = true := by
  rw [D.cmp, cmpL_all]
  rw [List.all_eq_true]
  intro d m
  obtain ⟨r, _, rfl⟩ := List.mem_map.mp m
  exact cmp_rD n r
theorem same_loop (f d : O) : ∀ (rs : List (List (List Nat))) (x : Option O), ∃ y, loopS (bName 2) b_law_same_1 (rs.map rD) [some f, some d, x] = some (.nx [some f, some d, y])
  | [], x => ⟨x, rfl⟩
  | r :: rs, x => by
    obtain ⟨y, h⟩ := same_loop f d rs (some (.sh (rD r)))
    refine ⟨y, ?_⟩
    have h1 : b_law_same_1 [some f, some d, some (.sh (rD r))] = some (.nx [some f, some d, some (.sh (rD r))]) := by simp [b_law_same_1, isaB]
    rw [List.map_cons, loopS]
    simp [h1, h]
theorem m_same_eq (rs : List (List (List Nat))) : m_law_same [.lst (rs.map rD), .lst (rs.map rD)] = .ok (.sh (.bl true)) := by
  unfold m_law_same g_law_same
  obtain ⟨y, h⟩ := same_loop (.sh (.lst (rs.map rD))) (.sh (.lst (rs.map rD))) rs none
  have hc := eqb_self 101 (.lst (rs.map rD)) (cmp_rows 99 rs)
  simp [isaB, h, hc]
theorem fold_len (l : List Nat) : ∀ s : List (List Nat) × List Nat, (l.foldl wstep s).1.length ≤ s.1.length + l.length := by
  induction l with
  | nil => intro s; simp
  | cons c l ih =>
    intro s
    have h1 := wstep_len s c
    have h2 := ih (wstep s c)
    rw [List.foldl_cons, List.length_cons]
    omega
theorem words_len (l : List Nat) : (words l).length ≤ l.length + 1 := by
  have := fold_len (l.map lo1 ++ [32]) ([], [])
  unfold words
  simpa using this
theorem rows_len (t : List Nat) (h : t.all (· < 128) = true) : (rows t).length ≤ t.length + 1 ∧ ∀ r ∈ rows t, r.length ≤ t.length + 1 := by
  constructor
  · have h1 := List.length_filter_le nonE ((linesA [] t).map words)
    have h2 := lines_len t []
    rw [List.length_map] at h1
    unfold rows
    omega
  · intro r m
    obtain ⟨p, m1, rfl⟩ := List.mem_map.mp (List.mem_filter.mp m).1
    have h1 := (lines_ok t [] (by simpa using h) p m1).2
    have h2 := words_len p
    simp at h1
    omega
end Sh

namespace Sh
open PySem L2 Fu PyProof.Rows
open SX (S)
/-! ### drawn parts, words, rows -/
def part (c k m : Int) : Int := (c % 99991 + 17) * (48271 + 7919 * k) % 65537 * (k + 3) % 8191 % m
theorem part_ge (c k m : Int) (hm : 0 < m) : 0 ≤ part c k m := Int.emod_nonneg _ (by omega)
theorem part_lt (c k m : Int) (hm : 0 < m) : part c k m < m := Int.emod_lt_of_pos _ hm
theorem m_part_eq (c k m : Int) (hm : 0 < m) : m_law_part [.int c, .int k, .int m] = .ok (.sh (.int (part c k m))) := by
  unfold m_law_part g_law_part
  have h1 : (-(2 ^ 64) : Int) < c % 99991 + 17 ∧ c % 99991 + 17 < 2 ^ 64 := by omega
  have h2 : (-(2 ^ 64) : Int) < (c % 99991 + 17) * (48271 + 7919 * k) % 65537 ∧ (c % 99991 + 17) * (48271 + 7919 * k) % 65537 < 2 ^ 64 := by
    have := Int.emod_nonneg ((c % 99991 + 17) * (48271 + 7919 * k)) (b := 65537) (by omega)
    have := Int.emod_lt_of_pos ((c % 99991 + 17) * (48271 + 7919 * k)) (b := 65537) (by omega)
    omega
  simp at h1 h2
  simp [h1, h2, hm, part]
theorem cell_eq (ns : List Int) (k : Nat) : m_law_cell_at [.rol (ns.map D.int), .int k] = .ok (.sh (.int (ns.getD k 0))) := by
  unfold m_law_cell_at g_law_cell_at
  by_cases h : k < ns.length
  · have e : atI (ns.map D.int) (k : Int) = some (.int ns[k]) := atI_nat (by simp [h])
    simp [h, e]
  · simp [h]
/-- a word: of the signs -/
def isW (w : List Nat) : Prop := w.all isS = true ∧ w.length ≤ 14 ∧ w ≠ []
theorem pickS (i : Int) : ∃ c, atI c_SIGNS.cps.toList (i % 36) = some c ∧ isS c = true := by
  obtain ⟨c, h1, h2⟩ := atI_mod c_SIGNS.cps.toList 36 (by decide +kernel) (by decide) i
  exact ⟨c, by simpa using h1, by simpa [isS] using h2⟩
theorem signs_len : c_SIGNS.length = 36 := by decide +kernel
theorem words2_in (one other size at_ : Int) (ws : O) (k : Int) (n : Nat) (hn : n ≤ 20) (x : Option O) (y : Option O) :
    ∃ w e8 e9, loopS (bName 8) b_law_words_v2_1 ((List.range n).map fun k => .int ((k : Nat) : Int)) [some (.sh (.int one)), some (.sh (.int other)), some (.sh (.str c_SIGNS)), some (.sh (.int size)), some (.sh (.int at_)), some ws, some (.sh (.int k)), some (wO []), x, y] =
      some (.nx [some (.sh (.int one)), some (.sh (.int other)), some (.sh (.str c_SIGNS)), some (.sh (.int size)), some (.sh (.int at_)), some ws, some (.sh (.int k)), some (wO w), e8, e9]) ∧ w.all isS = true ∧ w.length = n := by
  obtain ⟨e2, h, w, e8, e9, he, hw1, hw2⟩ := loop_ex (b := bName 8) (body := b_law_words_v2_1) (fun k : Nat => D.int k)
    (fun l e => ∃ w e8 e9, e = [some (.sh (.int one)), some (.sh (.int other)), some (.sh (.str c_SIGNS)), some (.sh (.int size)), some (.sh (.int at_)), some ws, some (.sh (.int k)), some (wO w), e8, e9] ∧ w.all isS = true ∧ w.length + l.length = n)
    (fun a l e i => by
      obtain ⟨w, e8, e9, rfl, h1, h2⟩ := i
      rw [List.length_cons] at h2
      have hp := m_part_eq one (a + 2) 36 (by omega)
      by_cases hat : (a : Int) = at_
      · obtain ⟨c, hc, hs⟩ := pickS (part one (a + 2) 36 + k)
        refine ⟨_, _, rfl, .inl ?_, w ++ [c], some (.sh (.int a)), some (.sh (.int (part one (a + 2) 36 + k))), rfl, by simp [h1, hs], by simp; omega⟩
        subst hat
        simp [b_law_words_v2_1, hp, hc, signs_len, sizeL, S_mk, S_add, show w.length + 1 ≤ 16777216 by omega]
      · obtain ⟨c, hc, hs⟩ := pickS (part one (a + 2) 36)
        refine ⟨_, _, rfl, .inl ?_, w ++ [c], some (.sh (.int a)), some (.sh (.int (part one (a + 2) 36))), rfl, by simp [h1, hs], by simp; omega⟩
        simp [b_law_words_v2_1, hp, hat, hc, signs_len, sizeL, S_mk, S_add, show w.length + 1 ≤ 16777216 by omega])
    (List.range n) [some (.sh (.int one)), some (.sh (.int other)), some (.sh (.str c_SIGNS)), some (.sh (.int size)), some (.sh (.int at_)), some ws, some (.sh (.int k)), some (wO []), x, y] ⟨[], x, y, rfl, rfl, by simp⟩
  exact ⟨w, e8, e9, by rw [h, he], hw1, by simpa using hw2⟩
theorem words2_out (one other at_ : Int) (n : Nat) (hn : n ≤ 14) (h0 : 1 ≤ n) (e6 e7 e8 e9 : Option O) :
    ∃ (ws : List (List Nat)) (f6 f7 f8 f9 : Option O), loopS (bName 6) b_law_words_v2_2 ((List.range 5).map fun k => .int ((k : Nat) : Int)) [some (.sh (.int one)), some (.sh (.int other)), some (.sh (.str c_SIGNS)), some (.sh (.int n)), some (.sh (.int at_)), some (.lst []), e6, e7, e8, e9] =
      some (.nx [some (.sh (.int one)), some (.sh (.int other)), some (.sh (.str c_SIGNS)), some (.sh (.int n)), some (.sh (.int at_)), some (.lst (ws.map wO)), f6, f7, f8, f9]) ∧ ws.length = 5 ∧ ∀ w ∈ ws, w.all isS = true ∧ w.length = n := by
  obtain ⟨e2, h, ws, f6, f7, f8, f9, he, hl, hw⟩ := loop_ex (b := bName 6) (body := b_law_words_v2_2) (fun k : Nat => D.int k)
    (fun l e => ∃ (ws : List (List Nat)) (f6 f7 f8 f9 : Option O), e = [some (.sh (.int one)), some (.sh (.int other)), some (.sh (.str c_SIGNS)), some (.sh (.int n)), some (.sh (.int at_)), some (.lst (List.map wO ws)), f6, f7, f8, f9] ∧ ws.length + l.length = 5 ∧ ∀ w ∈ ws, w.all isS = true ∧ w.length = n)
    (fun a l e i => by
      obtain ⟨ws, f6, f7, f8, f9, rfl, h1, h2⟩ := i
      rw [List.length_cons] at h1
      obtain ⟨w, g8, g9, hw, w1, w2⟩ := words2_in one other n at_ (.lst (ws.map wO)) a n (by omega) f8 f9
      refine ⟨_, _, rfl, .inl ?_, ws ++ [w], some (.sh (.int a)), some (wO w), g8, g9, rfl, by simp; omega, fun v m => ?_⟩
      · have := rngD_of n rfl (by omega)
        simp [b_law_words_v2_2, nil_S, this, hw, sizeL, show ws.length < 16777216 by omega]
      · rcases List.mem_append.mp m with m | m
        · exact h2 v m
        · have : v = w := by simpa using m
          subst this
          exact ⟨w1, w2⟩)
    (List.range 5) _ ⟨[], e6, e7, e8, e9, rfl, by simp, fun w m => by cases m⟩
  exact ⟨ws, f6, f7, f8, f9, by rw [← he]; exact h, by simpa using hl, hw⟩
theorem m_words2_ex (one other : Int) : ∃ ws : List (List Nat), m_law_words_v2 [.int one, .int other] = .ok (.lst (ws.map wO)) ∧ ws.length = 5 ∧ ∀ w ∈ ws, isW w := by
  unfold m_law_words_v2 g_law_words_v2
  have p1 := m_part_eq one 0 14 (by omega)
  have g1 := part_ge one 0 14 (by omega)
  have g2 := part_lt one 0 14 (by omega)
  obtain ⟨n, hn⟩ := Int.eq_ofNat_of_zero_le g1
  rw [hn] at p1 g2
  have p2 := m_part_eq other 1 (1 + n) (by omega)
  obtain ⟨ws, f6, f7, f8, f9, hl, l5, hw⟩ := words2_out one other (part other 1 (1 + n)) (n + 1) (by omega) (by omega) none none none none
  have e1 : ((n + 1 : Nat) : Int) = 1 + (n : Int) := by omega
  rw [e1] at hl
  have r5 := rngD_of (i := 5) 5 rfl (by omega)
  by_cases hc : (1 + (n : Int) > 4 ∧ other % 2 = 1)
  · obtain ⟨h4, h2⟩ := hc
    cases ws with
    | nil => simp at l5
    | cons w0 ws =>
      obtain ⟨w1, w2⟩ := hw w0 List.mem_cons_self
      obtain ⟨vs, hv, lv, pv⟩ := comp_map_ex (i := 6) (e := q_law_words_v2_3) (env := [some (.o (.sh (.int one))), some (.o (.sh (.int other))), some (.o (.sh (.str c_SIGNS))), some (.o (.sh (.int (1 + n)))), some (.o (.sh (.int (part other 1 (1 + n))))), some (.o (.lst ((w0 :: ws).map wO))), none, f7.map T.o, f8.map T.o, f9.map T.o]) (fun k : Nat => T.o (.sh (.int k))) wO isW (List.range 5) (fun k m => by
        have hk : k < 5 := by simpa using m
        refine ⟨w0.take (n + 1 - k), ?_, ?_⟩
        · have e : 1 + (n : Int) - k = ((n + 1 - k : Nat) : Int) := by omega
          have a0 : atI (wD w0 :: ws.map wD) 0 = some (wD w0) := atI_nat (j := 0) rfl
          simp [q_law_words_v2_3, a0, sizeL, w2, show n + 1 ≤ 16777216 by omega, e, cutS_to]
        · refine ⟨?_, by simp; omega, ?_⟩
          · rw [List.all_eq_true] at w1 ⊢
            exact fun x m => w1 x (List.mem_of_mem_take m)
          · intro e
            have := congrArg List.length e
            have h0 : ([] : List Nat).length = 0 := rfl
            rw [List.length_take, h0] at this
            omega)
      refine ⟨vs, ?_, by simpa using lv, pv⟩
      simp at lv
      simp [p1, p2, signs_S, r5, hl, h4, h2, Function.comp_def] at hv ⊢
      simp [hv, lv, sizeL]
  · refine ⟨ws, ?_, l5, fun w m => ⟨(hw w m).1, by have := (hw w m).2; omega, fun e => by have := (hw w m).2; rw [e] at this; simp at this⟩⟩
    simp [p1, p2, signs_S, r5, hl]
    intro h4 h2
    exact absurd ⟨by omega, h2⟩ hc
/-! rows drawn -/
def inW (ws : List (List Nat)) (rs : List (List (List Nat))) : Prop := ∀ r ∈ rs, ∀ w ∈ r, w ∈ ws
theorem at9 (i : Int) (h0 : 0 ≤ i) (h1 : i < 9) : ∃ j : Nat, atI [D.int 0, .int 0, .int 0, .int 1, .int 1, .int 1, .int 2, .int 3, .int 4] i = some (.int j) ∧ j < 5 := by
  obtain ⟨n, rfl⟩ := Int.eq_ofNat_of_zero_le h0
  have : n < 9 := by omega
  match n, this with
  | 0, _ => exact ⟨0, rfl, by omega⟩
  | 1, _ => exact ⟨0, rfl, by omega⟩
  | 2, _ => exact ⟨0, rfl, by omega⟩
  | 3, _ => exact ⟨1, rfl, by omega⟩
  | 4, _ => exact ⟨1, rfl, by omega⟩
  | 5, _ => exact ⟨1, rfl, by omega⟩
  | 6, _ => exact ⟨2, rfl, by omega⟩
  | 7, _ => exact ⟨3, rfl, by omega⟩
  | 8, _ => exact ⟨4, rfl, by omega⟩
theorem at9O (i : Int) (h0 : 0 ≤ i) (h1 : i < 9) : ∃ j : Nat, atI [O.sh (.int 0), .sh (.int 0), .sh (.int 0), .sh (.int 1), .sh (.int 1), .sh (.int 1), .sh (.int 2), .sh (.int 3), .sh (.int 4)] i = some (.sh (.int j)) ∧ j < 5 := by
  obtain ⟨n, rfl⟩ := Int.eq_ofNat_of_zero_le h0
  have : n < 9 := by omega
  match n, this with
  | 0, _ => exact ⟨0, rfl, by omega⟩
  | 1, _ => exact ⟨0, rfl, by omega⟩
  | 2, _ => exact ⟨0, rfl, by omega⟩
  | 3, _ => exact ⟨1, rfl, by omega⟩
  | 4, _ => exact ⟨1, rfl, by omega⟩
  | 5, _ => exact ⟨1, rfl, by omega⟩
  | 6, _ => exact ⟨2, rfl, by omega⟩
  | 7, _ => exact ⟨3, rfl, by omega⟩
  | 8, _ => exact ⟨4, rfl, by omega⟩
theorem rows2_loop (ws : List (List Nat)) (l5 : ws.length = 5) (cs : O) (l : List Int) (hl : l.length ≤ 1000) (x : Option O) :
    ∃ (rs : List (List (List Nat))) (y : Option O), loopS (bName 3) b_law_rows_v2_1 (l.map D.int) [some (.sh (.lst (ws.map wD))), some cs, some (.lst [.lst []]), x] =
      some (.nx [some (.sh (.lst (ws.map wD))), some cs, some (.lst (rs.map rO)), y]) ∧ inW ws rs ∧ rs ≠ [] ∧ rs.length ≤ 1 + l.length ∧ ∀ r ∈ rs, r.length ≤ l.length := by
  have hinit : inW ws ([] ++ [[]]) := by
    intro q m w mw
    have : q = [] := by simpa using m
    subst this
    cases mw
  obtain ⟨e2, h, rs, r, y, he, h1, h2, h3, _⟩ := loop_ex (b := bName 3) (body := b_law_rows_v2_1) (fun i : Int => D.int i)
    (fun k e => ∃ (rs : List (List (List Nat))) (r : List (List Nat)) (y : Option O), e = [some (.sh (.lst (ws.map wD))), some cs, some (.lst (rs.map rO ++ [rO r])), y] ∧ inW ws (rs ++ [r]) ∧ rs.length + 1 + k.length ≤ 1 + l.length ∧ (∀ q ∈ rs ++ [r], q.length + k.length ≤ l.length) ∧ True)
    (fun a k e i => by
      obtain ⟨rs, r, y, rfl, h1, h2, h3, _⟩ := i
      rw [List.length_cons] at h2
      have p1 := m_part_eq a 3 8 (by omega)
      have p2 := m_part_eq a 4 9 (by omega)
      have hr : r.length + (k.length + 1) ≤ l.length := by simpa using h3 r (by simp)
      by_cases h0 : part a 3 8 = 0
      · refine ⟨_, _, rfl, .inl ?_, rs ++ [r], [], some (.sh (.int a)), rfl, ?_, by simp; omega, ?_, trivial⟩
        · simp [b_law_rows_v2_1, p1, h0, sizeL, show rs.length + 1 < 16777216 by omega]
        · intro q m w mw
          rcases List.mem_append.mp m with m | m
          · exact h1 q m w mw
          · have : q = [] := by simpa using m
            subst this
            cases mw
        · intro q m
          rcases List.mem_append.mp m with m | m
          · have := h3 q m
            simp at this
            omega
          · have : q = [] := by simpa using m
            subst this
            simp
            omega
      · obtain ⟨j, hj, lj⟩ := at9O (part a 4 9) (part_ge a 4 9 (by omega)) (part_lt a 4 9 (by omega))
        have ew : atI (ws.map wD) (j : Int) = some (wD (ws[j]'(by omega))) := atI_nat (by simp)
        refine ⟨_, _, rfl, .inl ?_, rs, r ++ [ws[j]'(by omega)], some (.sh (.int a)), rfl, ?_, by omega, ?_, trivial⟩
        · simp [b_law_rows_v2_1, p1, p2, h0, hj, ew, sizeL, get_last, set_last, show r.length < 16777216 by omega]
        · intro q m w mw
          rcases List.mem_append.mp m with m | m
          · exact h1 q (by simp [m]) w mw
          · have : q = r ++ [ws[j]'(by omega)] := by simpa using m
            subst this
            rcases List.mem_append.mp mw with mw | mw
            · exact h1 r (by simp) w mw
            · have : w = ws[j]'(by omega) := by simpa using mw
              subst this
              exact List.getElem_mem _
        · intro q m
          rcases List.mem_append.mp m with m | m
          · have := h3 q (by simp [m])
            simp at this
            omega
          · have : q = r ++ [ws[j]'(by omega)] := by simpa using m
            subst this
            simp
            omega)
    l [some (.sh (.lst (ws.map wD))), some cs, some (.lst [.lst []]), x] ⟨[], [], x, rfl, hinit, by simp, by simp, trivial⟩
  refine ⟨rs ++ [r], y, ?_, h1, by simp, by simpa [Nat.add_comm] using h2, fun q m => by simpa using h3 q m⟩
  rw [he] at h
  refine h.trans ?_
  simp
theorem m_rows2_ex (ws : List (List Nat)) (l5 : ws.length = 5) (l : List Int) (hl : l.length ≤ 1000) : ∃ rs : List (List (List Nat)), m_law_rows_v2 [.lst (ws.map wD), .lst (l.map D.int)] = .ok (.lst (rs.map rO)) ∧ inW ws rs ∧ rs ≠ [] ∧ rs.length ≤ 1 + l.length ∧ ∀ r ∈ rs, r.length ≤ l.length := by
  unfold m_law_rows_v2 g_law_rows_v2
  obtain ⟨rs, y, h, h1, h2, h3, h4⟩ := rows2_loop ws l5 (.sh (.lst (l.map D.int))) l hl none
  exact ⟨rs, by simp [sizeL, h], h1, h2, h3, h4⟩
/-! copies, all places -/
theorem m_copy_eq (rs : List (List (List Nat))) (hl : rs.length ≤ 1000000) : m_law_copy [.lst (rs.map rD)] = .ok (.lst (rs.map rO)) := by
  unfold m_law_copy g_law_copy
  have hc := comp_map (i := 1) (e := q_law_copy_1) (env := [some (.o (.sh (.lst (rs.map rD)))), none]) (fun r : List (List Nat) => T.o (.sh (rD r))) rO rs (fun r m => by
    simp [q_law_copy_1, List.map_map, Function.comp_def])
  simp [Function.comp_def, hc, sizeL, show rs.length ≤ 16777216 by omega]
/-- places of rows -/
abbrev pD (p : Nat × Nat) : D := .tup [.int p.1, .int p.2]
def allP (rs : List (List (List Nat))) : List (Nat × Nat) := (List.range rs.length).flatMap fun n => (List.range (rs.getD n []).length).map fun a => (n, a)
end Sh

namespace Sh
open PySem L2 Fu PyProof.Rows
open SX (S)
/-! ### in_common, shares -/
def comm : List (List Nat) → List (List Nat) → Nat
  | x :: xs, y :: ys => if x = y then comm xs ys + 1 else 0
  | _, _ => 0
theorem comm_le : ∀ xs ys : List (List Nat), comm xs ys ≤ xs.length ∧ comm xs ys ≤ ys.length
  | [], ys => by simp [comm]
  | x :: xs, [] => by simp [comm]
  | x :: xs, y :: ys => by
    have := comm_le xs ys
    rw [comm]
    split <;> simp <;> omega
theorem comm_at : ∀ (xs ys : List (List Nat)) (k : Nat), k ≤ comm xs ys → (k < comm xs ys ↔ ∃ w, xs[k]? = some w ∧ ys[k]? = some w)
  | [], ys, k, h => by simp [comm] at h ⊢
  | x :: xs, [], k, h => by simp [comm] at h ⊢
  | x :: xs, y :: ys, k, h => by
    rw [comm] at h ⊢
    by_cases e : x = y
    · rw [if_pos e] at h ⊢
      cases k with
      | zero => simp [e]
      | succ k =>
        have := comm_at xs ys k (by omega)
        simp
        rw [← this]
    · rw [if_neg e] at h ⊢
      have : k = 0 := by omega
      subst this
      simp
      exact fun a => e a.symm
theorem common_test (xs ys : List (List Nat)) (k : Nat) (h : k ≤ comm xs ys) (hx : xs.length ≤ 1000000) (hy : ys.length ≤ 1000000) :
    t_in_common_1 [some (.o (.sh (rD xs))), some (.o (.sh (rD ys))), some (.o (.sh (.int k)))] = .ok (decide (k < comm xs ys)) := by
  have hl := comm_le xs ys
  have ha := comm_at xs ys k h
  unfold t_in_common_1
  by_cases c : k < comm xs ys
  · obtain ⟨w, h1, h2⟩ := ha.mp c
    have e1 : atI (xs.map wD) (k : Int) = some (wD w) := atI_nat (by simp [h1])
    have e2 : atI (ys.map wD) (k : Int) = some (wD w) := atI_nat (by simp [h2])
    simp [c, show k < xs.length by omega, show k < ys.length by omega, e1, e2]
  · by_cases c1 : k < xs.length
    · by_cases c2 : k < ys.length
      · have e1 : atI (xs.map wD) (k : Int) = some (wD xs[k]) := atI_nat (by simp [c1])
        have e2 : atI (ys.map wD) (k : Int) = some (wD ys[k]) := atI_nat (by simp [c2])
        have ne : ¬ xs[k] = ys[k] := fun e => c (ha.mpr ⟨xs[k], by simp [c1], by simp [c2, e]⟩)
        have ne' : (S xs[k] == S ys[k]) = false := by rw [SX.S_beq_eq]; simp [ne]
        simp [c, c1, c2, e1, e2, ne']
      · simp [c, c1, c2]
    · simp [c, c1]
theorem common_loop (xs ys : List (List Nat)) (hx : xs.length ≤ 1000000) (hy : ys.length ≤ 1000000) : ∀ (d k : Nat), k + d = comm xs ys →
    wloop t_in_common_1 b_in_common_2 (d + 1) [some (.sh (rD xs)), some (.sh (rD ys)), some (.sh (.int k))] = some (.nx [some (.sh (rD xs)), some (.sh (rD ys)), some (.sh (.int (comm xs ys)))])
  | 0, k, h => by
    have ht := common_test xs ys k (by omega) hx hy
    have : ¬ k < comm xs ys := by omega
    have e : k = comm xs ys := by omega
    rw [wloop]
    simp [ht, this]
    omega
  | d + 1, k, h => by
    have ht := common_test xs ys k (by omega) hx hy
    have : k < comm xs ys := by omega
    have ih := common_loop xs ys hx hy d (k + 1) (by omega)
    have hb : b_in_common_2 [some (.sh (rD xs)), some (.sh (rD ys)), some (.sh (.int k))] = some (.nx [some (.sh (rD xs)), some (.sh (rD ys)), some (.sh (.int ((k + 1 : Nat) : Int)))]) := by
      simp [b_in_common_2]
    rw [wloop]
    simp [ht, this, hb]
    exact ih
theorem m_in_common_eq (xs ys : List (List Nat)) (hx : xs.length ≤ 1000000) (hy : ys.length ≤ 1000000) : m_in_common [rD xs, rD ys] = .ok (.sh (.int (comm xs ys))) := by
  unfold m_in_common g_in_common
  have := whileS_of (common_loop xs ys hx hy (comm xs ys) 0 (by omega))
  simp at this
  simp [this]
/-- the end at a place -/
def eAt (rs : List (List (List Nat))) (p : Nat × Nat) : List (List Nat) := (rs.getD p.1 []).drop p.2
theorem m_end_of_eq (rs : List (List (List Nat))) (p : Nat × Nat) (h : p.1 < rs.length) : m_end_of [.lst (rs.map rD), pD p] = .ok (rO (eAt rs p)) := by
  unfold m_end_of g_end_of
  have e1 : atI (rs.map rD) (p.1 : Int) = some (rD rs[p.1]) := atI_nat (by simp [h])
  have e0 : ∀ a b : D, atI [a, b] 0 = some a := fun a b => atI_nat (j := 0) rfl
  have e2 : ∀ a b : D, atI [a, b] 1 = some b := fun a b => atI_nat (j := 1) rfl
  have hp := pureL_map (fun w => O.sh (wD w)) (fun _ => by simp) (rs[p.1].drop p.2)
  have e3 : (cutL (rs[p.1].map wD) (some (p.2 : Int)) none).map O.sh = (rs[p.1].drop p.2).map wO := by
    rw [cutL_from, ← List.map_drop, List.map_map]
    rfl
  have hq : List.drop p.2 (rs[p.1].map wO) = (rs[p.1].drop p.2).map wO := List.map_drop.symm
  simp [e1, e0, e2, e3, eAt, h]
  simp only [hq, pureL_wO, if_true]
/-! the row of shares -/
def shareAt (rs : List (List (List Nat))) (ps : List (Nat × Nat)) (k : Nat) : Nat := if k = 0 then 0 else comm (eAt rs (ps.getD (k - 1) (0, 0))) (eAt rs (ps.getD k (0, 0)))
/-- small rows, and places in them -/
structure Good (rs : List (List (List Nat))) (ps : List (Nat × Nat)) : Prop where
  len : rs.length ≤ 1000000
  row : ∀ r ∈ rs, r.length ≤ 1000000
  pl : ps.length ≤ 1000000
  at_ : ∀ p ∈ ps, p.1 < rs.length
theorem eAt_len {rs : List (List (List Nat))} (h : ∀ r ∈ rs, r.length ≤ 1000000) (p : Nat × Nat) : (eAt rs p).length ≤ 1000000 := by
  unfold eAt
  rw [List.length_drop]
  by_cases c : p.1 < rs.length
  · have := h rs[p.1] (List.getElem_mem _)
    simp [c]
    omega
  · simp [c]
theorem m_shares_eq (rs : List (List (List Nat))) (ps : List (Nat × Nat)) (g : Good rs ps) : m_shares [.lst (rs.map rD), .lst (ps.map pD)] = .ok (.lst ((List.range ps.length).map fun k => .sh (.int (shareAt rs ps k)))) := by
  unfold m_shares g_shares
  have hr := rngD_of ps.length rfl g.pl
  obtain ⟨e2, h, x, he⟩ := loop_rng (b := bName 3) (body := b_shares_1) (fun i e => ∃ x, e = [some (.sh (.lst (rs.map rD))), some (.sh (.lst (ps.map pD))), some (.lst ((List.range i).map fun k => .sh (.int (shareAt rs ps k)))), x]) ps.length (fun i hi e hI => by
    obtain ⟨x, rfl⟩ := hI
    have hz := g.pl
    refine ⟨_, _, rfl, .inl ?_, some (.sh (.int i)), rfl⟩
    by_cases h0 : i = 0
    · subst h0
      simp [b_shares_1, sizeL, shareAt]
    · have e1 : atI (ps.map pD) (i : Int) = some (pD ps[i]) := atI_nat (by simp [hi])
      have e2 : atI (ps.map pD) ((i : Int) - 1) = some (pD ps[i - 1]) := by
        have : (i : Int) - 1 = ((i - 1 : Nat) : Int) := by omega
        rw [this]
        exact atI_nat (by simp [show i - 1 < ps.length by omega])
      have m1 := m_end_of_eq rs ps[i] (g.at_ _ (List.getElem_mem _))
      have m2 := m_end_of_eq rs ps[i - 1] (g.at_ _ (List.getElem_mem _))
      have m3 := m_in_common_eq (eAt rs ps[i - 1]) (eAt rs ps[i]) (eAt_len g.row _) (eAt_len g.row _)
      simp [b_shares_1, sizeL, shareAt, h0, e1, e2, m1, m2, m3, hi, show i < 16777216 by omega, show i - 1 < ps.length by omega, List.range_succ]) [some (.sh (.lst (rs.map rD))), some (.sh (.lst (ps.map pD))), some (.lst []), none] ⟨none, rfl⟩
  have hp := pureL_map (fun k => O.sh (.int (shareAt rs ps k))) (fun _ => by simp) (List.range ps.length)
  subst he
  simp [hr, h, hp]
/-! all places -/
abbrev pO (p : Nat × Nat) : O := .sh (pD p)
@[simp] theorem pureL_pO (ps : List (Nat × Nat)) : O.pureL (ps.map pO) = true := pureL_map pO (fun _ => by simp) ps
def upTo (rs : List (List (List Nat))) (i : Nat) : List (Nat × Nat) := (List.range i).flatMap fun n => (List.range (rs.getD n []).length).map fun a => (n, a)
theorem upTo_succ (rs : List (List (List Nat))) (i : Nat) : upTo rs (i + 1) = upTo rs i ++ (List.range (rs.getD i []).length).map fun a => (i, a) := by
  unfold upTo
  rw [List.range_succ, List.flatMap_append]
  simp
theorem upTo_len (rs : List (List (List Nat))) (B : Nat) (h : ∀ r ∈ rs, r.length ≤ B) : ∀ i, (upTo rs i).length ≤ i * B
  | 0 => by simp [upTo]
  | i + 1 => by
    have := upTo_len rs B h i
    rw [upTo_succ, List.length_append, List.length_map, List.length_range]
    have : (rs.getD i []).length ≤ B := by
      by_cases c : i < rs.length
      · simp [c]
        exact h _ (List.getElem_mem _)
      · simp [c]
    rw [Nat.succ_mul]
    omega
theorem upTo_mem (rs : List (List (List Nat))) (i : Nat) (p : Nat × Nat) : p ∈ upTo rs i ↔ p.1 < i ∧ p.2 < (rs.getD p.1 []).length := by
  unfold upTo
  simp only [List.mem_flatMap, List.mem_range, List.mem_map]
  constructor
  · rintro ⟨n, h, a, h2, rfl⟩
    exact ⟨h, h2⟩
  · rintro ⟨h1, h2⟩
    exact ⟨p.1, h1, p.2, h2, rfl⟩
theorem all_in (rs : List (List (List Nat))) (i : Nat) (hi : i < rs.length) (n : Nat) (hn : n ≤ 1000) (ps : List (Nat × Nat)) (hp : ps.length ≤ 1000000) (x : Option O) :
    ∃ y : Option O, loopS (bName 3) b_law_all_1 ((List.range n).map fun k => .int ((k : Nat) : Int)) [some (.sh (.lst (rs.map rD))), some (.lst (ps.map pO)), some (.sh (.int i)), x] =
      some (.nx [some (.sh (.lst (rs.map rD))), some (.lst ((ps ++ (List.range n).map fun a => (i, a)).map pO)), some (.sh (.int i)), y]) := by
  obtain ⟨e2, h, y, he⟩ := loop_rng (b := bName 3) (body := b_law_all_1) (fun j e => ∃ y, e = [some (.sh (.lst (rs.map rD))), some (.lst ((ps ++ (List.range j).map fun a => (i, a)).map pO)), some (.sh (.int i)), y]) n (fun j hj e hI => by
    obtain ⟨y, rfl⟩ := hI
    refine ⟨_, _, rfl, .inl ?_, some (.sh (.int j)), rfl⟩
    simp [b_law_all_1, sizeL, List.range_succ, show ps.length + j < 16777216 by omega]) [some (.sh (.lst (rs.map rD))), some (.lst (ps.map pO)), some (.sh (.int i)), x] ⟨x, by simp⟩
  exact ⟨y, by rw [h, he]⟩
theorem m_all_eq (rs : List (List (List Nat))) (h1 : rs.length ≤ 900) (h2 : ∀ r ∈ rs, r.length ≤ 900) : m_law_all [.lst (rs.map rD)] = .ok (.lst ((upTo rs rs.length).map pO)) := by
  unfold m_law_all g_law_all
  have hr := rngD_of rs.length rfl (by omega)
  obtain ⟨e2, h, y, z, he⟩ := loop_rng (b := bName 2) (body := b_law_all_2) (fun i e => ∃ y z, e = [some (.sh (.lst (rs.map rD))), some (.lst ((upTo rs i).map pO)), y, z]) rs.length (fun i hi e hI => by
    obtain ⟨y, z, rfl⟩ := hI
    have hb := upTo_len rs 900 h2 i
    have hri : rs[i].length ≤ 900 := h2 _ (List.getElem_mem _)
    have e1 : atI (rs.map rD) (i : Int) = some (rD rs[i]) := atI_nat (by simp [hi])
    have hq := rngD_of rs[i].length rfl (by omega)
    obtain ⟨w, hw⟩ := all_in rs i hi rs[i].length (by omega) (upTo rs i) (by
      have : i * 900 ≤ 900 * 900 := Nat.mul_le_mul_right _ (by omega)
      omega) z
    refine ⟨_, _, rfl, .inl ?_, some (.sh (.int i)), w, rfl⟩
    have e3 : rs.getD i [] = rs[i] := by simp [hi]
    rw [upTo_succ, e3, ← hw]
    simp [b_law_all_2, e1, hq]) [some (.sh (.lst (rs.map rD))), some (.lst []), none, none] ⟨none, none, rfl⟩
  subst he
  simp [hr, h]
end Sh

namespace Sh
open PySem L2 Fu PyProof.Rows
open SX (S)
/-! ### the other drawn words and rows -/
theorem words1_in (one other size at_ : Int) (ws : O) (k : Int) (n : Nat) (hn : n ≤ 20) (x : Option O) (y : Option O) :
    ∃ w e8 e9, loopS (bName 8) b_law_words_1 ((List.range n).map fun k => .int ((k : Nat) : Int)) [some (.sh (.int one)), some (.sh (.int other)), some (.sh (.str c_SIGNS)), some (.sh (.int size)), some (.sh (.int at_)), some ws, some (.sh (.int k)), some (wO []), x, y] =
      some (.nx [some (.sh (.int one)), some (.sh (.int other)), some (.sh (.str c_SIGNS)), some (.sh (.int size)), some (.sh (.int at_)), some ws, some (.sh (.int k)), some (wO w), e8, e9]) ∧ w.all isS = true ∧ w.length = n := by
  obtain ⟨e2, h, w, e8, e9, he, hw1, hw2⟩ := loop_rng (b := bName 8) (body := b_law_words_1)
    (fun i e => ∃ w e8 e9, e = [some (.sh (.int one)), some (.sh (.int other)), some (.sh (.str c_SIGNS)), some (.sh (.int size)), some (.sh (.int at_)), some ws, some (.sh (.int k)), some (wO w), e8, e9] ∧ w.all isS = true ∧ w.length = i) n
    (fun a ha e i => by
      obtain ⟨w, e8, e9, rfl, h1, h2⟩ := i
      have hp := m_part_eq one (a + 2) 36 (by omega)
      have hq := m_part_eq other 20 2 (by omega)
      by_cases hat : (a : Int) = at_
      · subst hat
        by_cases h0 : part other 20 2 = 0
        · obtain ⟨c, hc, hs⟩ := pickS (part one (a + 2) 36 + k)
          refine ⟨_, _, rfl, .inl ?_, w ++ [c], some (.sh (.int a)), some (.sh (.int (part one (a + 2) 36 + k))), rfl, by simp [h1, hs], by simp; omega⟩
          simp [b_law_words_1, hp, hq, h0, hc, signs_len, sizeL, S_mk, S_add, show w.length + 1 ≤ 16777216 by omega]
        · obtain ⟨c, hc, hs⟩ := pickS (part one (a + 2) 36)
          refine ⟨_, _, rfl, .inl ?_, w ++ [c], some (.sh (.int a)), some (.sh (.int (part one (a + 2) 36))), rfl, by simp [h1, hs], by simp; omega⟩
          simp [b_law_words_1, hp, hq, h0, hc, signs_len, sizeL, S_mk, S_add, show w.length + 1 ≤ 16777216 by omega]
      · obtain ⟨c, hc, hs⟩ := pickS (part one (a + 2) 36)
        refine ⟨_, _, rfl, .inl ?_, w ++ [c], some (.sh (.int a)), some (.sh (.int (part one (a + 2) 36))), rfl, by simp [h1, hs], by simp; omega⟩
        simp [b_law_words_1, hp, hat, hc, signs_len, sizeL, S_mk, S_add, show w.length + 1 ≤ 16777216 by omega])
    [some (.sh (.int one)), some (.sh (.int other)), some (.sh (.str c_SIGNS)), some (.sh (.int size)), some (.sh (.int at_)), some ws, some (.sh (.int k)), some (wO []), x, y] ⟨[], x, y, rfl, rfl, rfl⟩
  exact ⟨w, e8, e9, by rw [h, he], hw1, hw2⟩
theorem words1_out (one other at_ : Int) (n : Nat) (hn : n ≤ 12) (h0 : 1 ≤ n) (e6 e7 e8 e9 : Option O) :
    ∃ (ws : List (List Nat)) (f6 f7 f8 f9 : Option O), loopS (bName 6) b_law_words_2 ((List.range 4).map fun k => .int ((k : Nat) : Int)) [some (.sh (.int one)), some (.sh (.int other)), some (.sh (.str c_SIGNS)), some (.sh (.int n)), some (.sh (.int at_)), some (.lst []), e6, e7, e8, e9] =
      some (.nx [some (.sh (.int one)), some (.sh (.int other)), some (.sh (.str c_SIGNS)), some (.sh (.int n)), some (.sh (.int at_)), some (.lst (ws.map wO)), f6, f7, f8, f9]) ∧ ws.length = 4 ∧ ∀ w ∈ ws, isW w := by
  have r12 := rngD_of (i := 12) 12 rfl (by omega)
  have hq := m_part_eq other 20 2 (by omega)
  obtain ⟨e2, h, ws, f6, f7, f8, f9, he, hl, hw⟩ := loop_rng (b := bName 6) (body := b_law_words_2)
    (fun i e => ∃ (ws : List (List Nat)) (f6 f7 f8 f9 : Option O), e = [some (.sh (.int one)), some (.sh (.int other)), some (.sh (.str c_SIGNS)), some (.sh (.int n)), some (.sh (.int at_)), some (.lst (List.map wO ws)), f6, f7, f8, f9] ∧ ws.length = i ∧ ∀ w ∈ ws, isW w) 4
    (fun a ha e i => by
      obtain ⟨ws, f6, f7, f8, f9, rfl, h1, h2⟩ := i
      obtain ⟨w, g8, g9, hw, w1, w2⟩ := words1_in one other n at_ (.lst (ws.map wO)) a 12 (by omega) f8 f9
      have tk : ∀ m : Nat, 1 ≤ m → m ≤ 12 → isW (w.take m) := fun m m1 m2 => by
        refine ⟨?_, by simp; omega, ?_⟩
        · rw [List.all_eq_true] at w1 ⊢
          exact fun x mm => w1 x (List.mem_of_mem_take mm)
        · intro e
          have := congrArg List.length e
          have h0 : ([] : List Nat).length = 0 := rfl
          rw [List.length_take, h0] at this
          omega
      have add : ∀ (m : Nat), 1 ≤ m → m ≤ 12 → ∀ v ∈ ws ++ [w.take m], isW v := fun m m1 m2 v mv => by
        rcases List.mem_append.mp mv with mv | mv
        · exact h2 v mv
        · have : v = w.take m := by simpa using mv
          subst this
          exact tk m m1 m2
      by_cases h0' : part other 20 2 = 0
      · refine ⟨_, _, rfl, .inl ?_, ws ++ [w.take n], some (.sh (.int a)), some (wO w), g8, g9, rfl, by simp [h1], add n h0 hn⟩
        simp [b_law_words_2, nil_S, r12, hq, h0', hw, sizeL, w2, cutS_to, show ws.length < 16777216 by omega]
      · obtain ⟨m, e, m1, m2⟩ : ∃ m : Nat, (1 : Int) + ((n : Int) + (a : Int)) % 12 = (m : Int) ∧ 1 ≤ m ∧ m ≤ 12 := ⟨1 + (n + a) % 12, by omega, by omega, by omega⟩
        refine ⟨_, _, rfl, .inl ?_, ws ++ [w.take m], some (.sh (.int a)), some (wO w), g8, g9, rfl, by simp [h1], add m m1 m2⟩
        simp [b_law_words_2, nil_S, r12, hq, h0', hw, sizeL, w2, e, cutS_to, show ws.length < 16777216 by omega])
    [some (.sh (.int one)), some (.sh (.int other)), some (.sh (.str c_SIGNS)), some (.sh (.int n)), some (.sh (.int at_)), some (.lst []), e6, e7, e8, e9] ⟨[], e6, e7, e8, e9, rfl, rfl, fun w m => by cases m⟩
  exact ⟨ws, f6, f7, f8, f9, by rw [← he]; exact h, hl, hw⟩
theorem m_words1_ex (one other : Int) : ∃ ws : List (List Nat), m_law_words [.int one, .int other] = .ok (.lst (ws.map wO)) ∧ ws.length = 4 ∧ ∀ w ∈ ws, isW w := by
  unfold m_law_words g_law_words
  have p1 := m_part_eq one 0 12 (by omega)
  have g1 := part_ge one 0 12 (by omega)
  have g2 := part_lt one 0 12 (by omega)
  obtain ⟨n, hn⟩ := Int.eq_ofNat_of_zero_le g1
  rw [hn] at p1 g2
  have p2 := m_part_eq other 1 (1 + n) (by omega)
  obtain ⟨ws, f6, f7, f8, f9, hl, l5, hw⟩ := words1_out one other (part other 1 (1 + n)) (n + 1) (by omega) (by omega) none none none none
  have e1 : ((n + 1 : Nat) : Int) = 1 + (n : Int) := by omega
  rw [e1] at hl
  have r4 := rngD_of (i := 4) 4 rfl (by omega)
  exact ⟨ws, by simp [p1, p2, signs_S, r4, hl], l5, hw⟩
theorem at5O (i : Int) (h0 : 0 ≤ i) (h1 : i < 5) : ∃ j : Nat, atI [O.sh (.int 0), .sh (.int 0), .sh (.int 1), .sh (.int 2), .sh (.int 3)] i = some (.sh (.int j)) ∧ j < 4 := by
  obtain ⟨n, rfl⟩ := Int.eq_ofNat_of_zero_le h0
  have : n < 5 := by omega
  match n, this with
  | 0, _ => exact ⟨0, rfl, by omega⟩
  | 1, _ => exact ⟨0, rfl, by omega⟩
  | 2, _ => exact ⟨1, rfl, by omega⟩
  | 3, _ => exact ⟨2, rfl, by omega⟩
  | 4, _ => exact ⟨3, rfl, by omega⟩
theorem rows1_loop (ws : List (List Nat)) (l4 : ws.length = 4) (cs : O) (l : List Int) (hl : l.length ≤ 1000) (x z : Option O) :
    ∃ (rs : List (List (List Nat))) (y y2 : Option O), loopS (bName 3) b_law_rows_1 (l.map D.int) [some (.sh (.lst (ws.map wD))), some cs, some (.lst [.lst []]), x, z] =
      some (.nx [some (.sh (.lst (ws.map wD))), some cs, some (.lst (rs.map rO)), y, y2]) ∧ inW ws rs ∧ rs ≠ [] ∧ rs.length ≤ 1 + l.length ∧ (∀ r ∈ rs, r.length ≤ l.length) ∧ (rs.map List.length).sum ≤ l.length := by
  have hinit : inW ws ([] ++ [[]]) := by
    intro q m w mw
    have : q = [] := by simpa using m
    subst this
    cases mw
  obtain ⟨e2, h, rs, r, y, y2, he, h1, h2, h3, h4⟩ := loop_ex (b := bName 3) (body := b_law_rows_1) (fun i : Int => D.int i)
    (fun k e => ∃ (rs : List (List (List Nat))) (r : List (List Nat)) (y y2 : Option O), e = [some (.sh (.lst (ws.map wD))), some cs, some (.lst (rs.map rO ++ [rO r])), y, y2] ∧ inW ws (rs ++ [r]) ∧ rs.length + 1 + k.length ≤ 1 + l.length ∧ (∀ q ∈ rs ++ [r], q.length + k.length ≤ l.length) ∧ ((rs ++ [r]).map List.length).sum + k.length ≤ l.length)
    (fun a k e i => by
      obtain ⟨rs, r, y, y2, rfl, h1, h2, h3, h4⟩ := i
      rw [List.length_cons] at h2 h4
      have p1 := m_part_eq a 21 6 (by omega)
      have g1 := part_ge a 21 6 (by omega)
      have hr : r.length + (k.length + 1) ≤ l.length := by simpa using h3 r (by simp)
      by_cases h0 : part a 21 6 < 5
      · obtain ⟨j, hj, lj⟩ := at5O (part a 21 6) g1 h0
        have ew : atI (ws.map wD) (j : Int) = some (wD (ws[j]'(by omega))) := atI_nat (by simp)
        refine ⟨_, _, rfl, .inl ?_, rs, r ++ [ws[j]'(by omega)], some (.sh (.int a)), some (.sh (.int (part a 21 6))), rfl, ?_, by omega, ?_, by simp at h4 ⊢; omega⟩
        · simp [b_law_rows_1, p1, h0, hj, ew, sizeL, get_last, set_last, show r.length < 16777216 by omega]
        · intro q m w mw
          rcases List.mem_append.mp m with m | m
          · exact h1 q (by simp [m]) w mw
          · have : q = r ++ [ws[j]'(by omega)] := by simpa using m
            subst this
            rcases List.mem_append.mp mw with mw | mw
            · exact h1 r (by simp) w mw
            · have : w = ws[j]'(by omega) := by simpa using mw
              subst this
              exact List.getElem_mem _
        · intro q m
          rcases List.mem_append.mp m with m | m
          · have := h3 q (by simp [m])
            simp at this
            omega
          · have : q = r ++ [ws[j]'(by omega)] := by simpa using m
            subst this
            simp
            omega
      · refine ⟨_, _, rfl, .inl ?_, rs ++ [r], [], some (.sh (.int a)), some (.sh (.int (part a 21 6))), rfl, ?_, by simp; omega, ?_, by simp at h4 ⊢; omega⟩
        · simp [b_law_rows_1, p1, h0, sizeL, show rs.length + 1 < 16777216 by omega]
        · intro q m w mw
          rcases List.mem_append.mp m with m | m
          · exact h1 q m w mw
          · have : q = [] := by simpa using m
            subst this
            cases mw
        · intro q m
          rcases List.mem_append.mp m with m | m
          · have := h3 q m
            simp at this
            omega
          · have : q = [] := by simpa using m
            subst this
            simp
            omega)
    l [some (.sh (.lst (ws.map wD))), some cs, some (.lst [.lst []]), x, z] ⟨[], [], x, z, rfl, hinit, by simp, by simp, by simp⟩
  refine ⟨rs ++ [r], y, y2, ?_, h1, by simp, by simpa [Nat.add_comm] using h2, fun q m => by simpa using h3 q m, by simpa using h4⟩
  rw [he] at h
  refine h.trans ?_
  simp
theorem m_rows1_ex (ws : List (List Nat)) (l4 : ws.length = 4) (l : List Int) (hl : l.length ≤ 1000) : ∃ rs : List (List (List Nat)), m_law_rows [.lst (ws.map wD), .lst (l.map D.int)] = .ok (.lst (rs.map rO)) ∧ inW ws rs ∧ rs ≠ [] ∧ rs.length ≤ 1 + l.length ∧ (∀ r ∈ rs, r.length ≤ l.length) ∧ (rs.map List.length).sum ≤ l.length := by
  unfold m_law_rows g_law_rows
  obtain ⟨rs, y, y2, h, h1, h2, h3, h4, h5⟩ := rows1_loop ws l4 (.sh (.lst (l.map D.int))) l hl none none
  exact ⟨rs, by simp [sizeL, h], h1, h2, h3, h4, h5⟩
end Sh

namespace Sh
open PySem L2 Fu PyProof.Rows
open SX (S)
/-! ### rstrip, rows shown -/
theorem tw_all {f : Nat → Bool} : ∀ {l : List Nat}, (∀ c ∈ l, f c = true) → l.takeWhile f = l
  | [], _ => rfl
  | c :: l, h => by
    rw [List.takeWhile_cons, if_pos (h c List.mem_cons_self), tw_all fun x m => h x (List.mem_cons_of_mem _ m)]
theorem rstrip_S (p q b : List Nat) (hq : ∀ c ∈ q, c ∈ b) (hp : ∀ c, p.getLast? = some c → c ∉ b) : Txt.rstripChars (S (p ++ q)) (S b) = S p := by
  have hc : ∀ c, (S b).cps.contains c = decide (c ∈ b) := fun c => by simp [S_cps]
  unfold Txt.rstripChars
  rw [stripBy_eq]
  have e0 : stripLo (S b).cps.contains false (S (p ++ q)) = 0 := rfl
  have e1 : stripHi (S b).cps.contains true (S (p ++ q)) 0 = p.length := by
    unfold stripHi
    rw [if_pos rfl, S_length, List.drop_zero, S_tl, List.reverse_append, List.takeWhile_append]
    have t1 : q.reverse.takeWhile (S b).cps.contains = q.reverse := by
      exact tw_all (fun c m => by
        rw [hc]
        exact decide_eq_true (hq c (List.mem_reverse.mp m)))
    have t2 : p.reverse.takeWhile (S b).cps.contains = [] := by
      cases e : p.reverse with
      | nil => rfl
      | cons c r =>
        have : p.getLast? = some c := by
          rw [← List.head?_reverse, e]
          rfl
        rw [List.takeWhile_cons, hc, if_neg (by simpa using hp c this)]
    rw [t1, if_pos rfl, t2]
    simp
  rw [e0, e1]
  apply TL.ext_tl
  rw [TL.tl_strSub]
  show ((p ++ q).drop 0).take (p.length - 0) = p
  simp
def lineL (r : List (List Nat)) : List Nat := TL.joinL [32] r
def showL (rs : List (List (List Nat))) : List Nat := TL.joinL [10] (rs.map lineL)
def wsum (r : List (List Nat)) : Nat := (r.map List.length).sum
theorem joinL_len (s : Nat) : ∀ r : List (List Nat), (TL.joinL [s] r).length ≤ wsum r + r.length
  | [] => by simp [TL.joinL, wsum]
  | [w] => by simp [TL.joinL, wsum]
  | w :: v :: r => by
    have := joinL_len s (v :: r)
    show (w ++ ([s] ++ TL.joinL [s] (v :: r))).length ≤ _
    simp [wsum] at this ⊢
    omega
theorem sJoin_S (a : Nat) (t : T) (ls : List (List Nat)) (h : t.data.seq = some (ls.map wD)) (hl : wsum ls + ls.length ≤ 16777216) : sJoin (S [a]) t = some (.o (.sh (.str (S (TL.joinL [a] ls))))) := by
  unfold sJoin
  rw [h]
  have e := strs_map (fun w => S w) ls
  have e1 : D.strs (ls.map wD) = some (ls.map S) := e
  simp only [e1]
  have e2 : ((ls.map S).map (·.length)).sum + (ls.map S).length * (S [a]).length = wsum ls + ls.length := by
    rw [SX.lens, List.length_map, S_length]
    simp [wsum]
  rw [if_pos (by rw [e2]; exact hl), SX.join_S]
  rfl
/-- the text is not too long to be shown -/
def tsum (rs : List (List (List Nat))) : Nat := (rs.map fun r => wsum r + r.length).sum + rs.length
theorem tsum_mem {rs : List (List (List Nat))} {r : List (List Nat)} (m : r ∈ rs) : wsum r + r.length ≤ tsum rs := by
  unfold tsum
  induction rs with
  | nil => cases m
  | cons q rs ih =>
    rcases List.mem_cons.mp m with m | m
    · subst m
      simp
      omega
    · have := ih m
      simp at this ⊢
      omega
theorem wsum_lines (rs : List (List (List Nat))) : wsum (rs.map lineL) + rs.length ≤ tsum rs := by
  unfold tsum wsum
  induction rs with
  | nil => simp
  | cons r rs ih =>
    have := joinL_len 32 r
    simp [lineL, wsum] at ih this ⊢
    omega
theorem m_show_eq (rs : List (List (List Nat))) (h : tsum rs ≤ 16777216) : m_show_rows [.lst (rs.map rD)] = .ok (.sh (.str (S (showL rs)))) := by
  unfold m_show_rows g_show_rows
  have hc := comp_map (i := 1) (e := q_show_rows_1) (env := [some (.o (.sh (.lst (rs.map rD)))), none]) (fun r : List (List Nat) => T.o (.sh (rD r))) (fun r => wO (lineL r)) rs (fun r m => by
    have hl := tsum_mem m
    have := sJoin_S 32 (.o (.sh (rD r))) r (by simp) (by omega)
    simp [q_show_rows_1, sp_S, this, lineL])
  have hw := wsum_lines rs
  have hlen : rs.length ≤ 16777216 := by omega
  have hj := sJoin_S 10 (.o (.lst (rs.map fun r => wO (lineL r)))) (rs.map lineL) (by simp [Function.comp_def]) (by rw [List.length_map]; omega)
  simp [Function.comp_def, hc, sizeL, hlen, nl_S, hj, showL]
/-! shown and read again -/
theorem signs_facts (c : Nat) (h : isS c = true) : lo1 c = c ∧ c ≠ 10 ∧ c ≠ 32 ∧ c < 128 := by
  have ha : c_SIGNS.cps.toList.all (fun c => decide (lo1 c = c ∧ c ≠ 10 ∧ c ≠ 32 ∧ c < 128)) = true := by decide +kernel
  have hm : c ∈ c_SIGNS.cps.toList := by simpa [isS] using h
  exact of_decide_eq_true (List.all_eq_true.mp ha c hm)
def goodW (w : List Nat) : Prop := w ≠ [] ∧ w.all isS = true
def goodR (r : List (List Nat)) : Prop := r ≠ [] ∧ ∀ w ∈ r, goodW w
theorem fold_word (D : List (List (List Nat))) (ws : List (List Nat)) : ∀ (w v : List Nat), w.all isS = true → w.foldl dstep (D, (ws, v)) = (D, (ws, v ++ w))
  | [], v, _ => by simp
  | c :: w, v, h => by
    rw [List.all_cons, Bool.and_eq_true] at h
    obtain ⟨f1, f2, f3, f4⟩ := signs_facts c h.1
    have e : dstep (D, (ws, v)) c = (D, (ws, v ++ [c])) := by
      unfold dstep wstep
      rw [if_neg f2, f1, h.1]
      rfl
    rw [List.foldl_cons, e, fold_word D ws w (v ++ [c]) h.2]
    simp
theorem step_sp (D : List (List (List Nat))) (ws : List (List Nat)) (w : List Nat) : dstep (D, (ws, w)) 32 = (D, (fin (ws, w), [])) := by
  have hs : isS (lo1 32) = false := by decide +kernel
  unfold dstep wstep fin
  rw [if_neg (by decide), hs]
  by_cases h : w = []
  · subst h; simp
  · simp [h]
theorem fold_line (D : List (List (List Nat))) : ∀ (r ws : List (List Nat)), (∀ w ∈ r, goodW w) → ∃ s, (lineL r).foldl dstep (D, (ws, [])) = (D, s) ∧ fin s = ws ++ r
  | [], ws, _ => ⟨(ws, []), rfl, by simp [fin]⟩
  | [w], ws, h => by
    obtain ⟨g1, g2⟩ := h w List.mem_cons_self
    refine ⟨(ws, w), ?_, by simp [fin, g1]⟩
    show w.foldl dstep (D, (ws, [])) = _
    rw [fold_word D ws w [] g2]
    simp
  | w :: v :: r, ws, h => by
    obtain ⟨g1, g2⟩ := h w List.mem_cons_self
    obtain ⟨s, h1, h2⟩ := fold_line D (v :: r) (ws ++ [w]) fun x m => h x (List.mem_cons_of_mem _ m)
    refine ⟨s, ?_, by rw [h2]; simp⟩
    show (w ++ ([32] ++ lineL (v :: r))).foldl dstep (D, (ws, [])) = _
    rw [List.foldl_append, fold_word D ws w [] g2, List.nil_append, List.foldl_append, List.foldl_cons, List.foldl_nil, step_sp]
    have : fin (ws, w) = ws ++ [w] := by simp [fin, g1]
    rw [this, h1]
theorem fold_show : ∀ (rs D : List (List (List Nat))), (∀ r ∈ rs, goodR r) → let d := (showL rs).foldl dstep (D, ([], [])); d.1 ++ cur d.2 = D ++ rs
  | [], D, _ => by
    show D ++ cur ([], []) = D ++ []
    rfl
  | [r], D, h => by
    obtain ⟨g1, g2⟩ := h r List.mem_cons_self
    obtain ⟨s, h1, h2⟩ := fold_line D r [] g2
    show (let d := (lineL r).foldl dstep (D, ([], [])); d.1 ++ cur d.2 = D ++ [r])
    rw [h1]
    show D ++ cur s = _
    rw [cur, h2]
    simp [g1]
  | r :: q :: rs, D, h => by
    obtain ⟨g1, g2⟩ := h r List.mem_cons_self
    obtain ⟨s, h1, h2⟩ := fold_line D r [] g2
    have ih := fold_show (q :: rs) (D ++ [r]) fun x m => h x (List.mem_cons_of_mem _ m)
    have e : (showL (r :: q :: rs)).foldl dstep (D, ([], [])) = (showL (q :: rs)).foldl dstep (D ++ [r], ([], [])) := by
      show (lineL r ++ ([10] ++ showL (q :: rs))).foldl dstep (D, ([], [])) = _
      rw [List.foldl_append, h1, List.foldl_append, List.foldl_cons, List.foldl_nil]
      congr 1
      show (D ++ cur s, _) = _
      rw [cur, h2]
      simp [g1]
    show (let d := (showL (r :: q :: rs)).foldl dstep (D, ([], [])); d.1 ++ cur d.2 = D ++ (r :: q :: rs))
    rw [e]
    refine ih.trans ?_
    simp
theorem rows_show (rs : List (List (List Nat))) (h : ∀ r ∈ rs, goodR r) : rows (showL rs) = rs := by
  rw [← due_rows]
  have := fold_show rs [] h
  simpa using this
theorem wstep_good (s : List (List Nat) × List Nat) (c : Nat) (h1 : ∀ w ∈ s.1, goodW w) (h2 : s.2.all isS = true) : (∀ w ∈ (wstep s c).1, goodW w) ∧ (wstep s c).2.all isS = true := by
  unfold wstep
  split
  · rename_i hc
    exact ⟨h1, by simp [h2, hc]⟩
  · split
    · exact ⟨h1, h2⟩
    · rename_i hn
      refine ⟨fun w m => ?_, rfl⟩
      rcases List.mem_append.mp m with m | m
      · exact h1 w m
      · have : w = s.2 := by simpa using m
        subst this
        exact ⟨hn, h2⟩
theorem fold_good : ∀ (l : List Nat) (s : List (List Nat) × List Nat), (∀ w ∈ s.1, goodW w) → s.2.all isS = true → (∀ w ∈ (l.foldl wstep s).1, goodW w) ∧ (l.foldl wstep s).2.all isS = true
  | [], s, h1, h2 => ⟨h1, h2⟩
  | c :: l, s, h1, h2 => by
    obtain ⟨a, b⟩ := wstep_good s c h1 h2
    exact fold_good l (wstep s c) a b
theorem words_good (l : List Nat) : ∀ w ∈ words l, goodW w := (fold_good _ ([], []) (fun w m => by cases m) rfl).1
theorem rows_good (t : List Nat) : ∀ r ∈ rows t, goodR r := by
  intro r m
  obtain ⟨h1, h2⟩ := List.mem_filter.mp m
  obtain ⟨p, _, rfl⟩ := List.mem_map.mp h1
  exact ⟨of_decide_eq_true h2, words_good p⟩
theorem word_chars {w : List Nat} (h : goodW w) : w.all (· < 128) = true := by
  have := h.2
  rw [List.all_eq_true] at this ⊢
  exact fun c m => decide_eq_true (signs_facts c (this c m)).2.2.2
theorem line_chars : ∀ r : List (List Nat), (∀ w ∈ r, goodW w) → (lineL r).all (· < 128) = true
  | [], _ => rfl
  | [w], h => word_chars (h w List.mem_cons_self)
  | w :: v :: r, h => by
    have h1 := word_chars (h w List.mem_cons_self)
    have h2 := line_chars (v :: r) (fun x m => h x (List.mem_cons_of_mem _ m))
    show (w ++ ([32] ++ lineL (v :: r))).all (· < 128) = true
    rw [List.all_append, List.all_append, h2, h1]
    rfl
theorem show_chars : ∀ rs : List (List (List Nat)), (∀ r ∈ rs, goodR r) → (showL rs).all (· < 128) = true
  | [], _ => rfl
  | [r], h => line_chars r (h r List.mem_cons_self).2
  | r :: q :: rs, h => by
    have h1 := line_chars r (h r List.mem_cons_self).2
    have h2 := show_chars (q :: rs) (fun x m => h x (List.mem_cons_of_mem _ m))
    show (lineL r ++ ([10] ++ showL (q :: rs))).all (· < 128) = true
    rw [List.all_append, List.all_append, h2, h1]
    rfl
end Sh

namespace Sh
open PySem L2 Fu PyProof.Rows
open SX (S)
/-! ### questions -/
inductive Pt where
  | word (w : List Nat) | begin_ (w : List Nat) | fin (w : List Nat) | any | upto (n : Nat) | inn (q : List (List Pt))
mutual
def Pt.d : Pt → D
  | .word w => .tup [.str (Str.ofString "word"), .str (S w)]
  | .begin_ w => .tup [.str (Str.ofString "begin"), .str (S w)]
  | .fin w => .tup [.str (Str.ofString "end"), .str (S w)]
  | .any => .tup [.str (Str.ofString "any")]
  | .upto n => .tup [.str (Str.ofString "upto"), .int n]
  | .inn q => .tup [.str (Str.ofString "in"), .lst (Pt.dQ q)]
def Pt.dQ : List (List Pt) → List D
  | [] => []
  | r :: q => .lst (Pt.dR r) :: Pt.dQ q
def Pt.dR : List Pt → List D
  | [] => []
  | p :: r => Pt.d p :: Pt.dR r
end
mutual
def Pt.o : Pt → O
  | .word w => .sh (.tup [.str (Str.ofString "word"), .str (S w)])
  | .begin_ w => .sh (.tup [.str (Str.ofString "begin"), .str (S w)])
  | .fin w => .sh (.tup [.str (Str.ofString "end"), .str (S w)])
  | .any => .sh (.tup [.str (Str.ofString "any")])
  | .upto n => .sh (.tup [.str (Str.ofString "upto"), .int n])
  | .inn q => .tup [.sh (.str (Str.ofString "in")), .lst (Pt.oQ q)]
def Pt.oQ : List (List Pt) → List O
  | [] => []
  | r :: q => .lst (Pt.oR r) :: Pt.oQ q
def Pt.oR : List Pt → List O
  | [] => []
  | p :: r => Pt.o p :: Pt.oR r
end
abbrev bar : List Nat := [32, 124, 32]
mutual
def Pt.tx : Pt → List Nat
  | .word w => w
  | .begin_ w => w ++ [42]
  | .fin w => 42 :: w
  | .any => [63]
  | .upto n => [46, 46, 48 + n]
  | .inn q => [40, 32] ++ TL.joinL bar (Pt.txQ q) ++ [32, 41]
def Pt.txQ : List (List Pt) → List (List Nat)
  | [] => []
  | r :: q => TL.joinL [32] (Pt.txR r) :: Pt.txQ q
def Pt.txR : List Pt → List (List Nat)
  | [] => []
  | p :: r => Pt.tx p :: Pt.txR r
end
mutual
def Pt.sz : Pt → Nat
  | .word w => w.length + 4
  | .begin_ w => w.length + 4
  | .fin w => w.length + 4
  | .any => 4
  | .upto n => 4
  | .inn q => Pt.szQ q + 4
def Pt.szQ : List (List Pt) → Nat
  | [] => 0
  | r :: q => Pt.szR r + 3 + Pt.szQ q
def Pt.szR : List Pt → Nat
  | [] => 0
  | p :: r => Pt.sz p + 1 + Pt.szR r
end
theorem dR_map (r : List Pt) : Pt.dR r = r.map Pt.d := by
  induction r with
  | nil => rw [Pt.dR]; rfl
  | cons p r ih => rw [Pt.dR, ih]; rfl
theorem dQ_map (q : List (List Pt)) : Pt.dQ q = q.map fun r => .lst (Pt.dR r) := by
  induction q with
  | nil => rw [Pt.dQ]; rfl
  | cons p r ih => rw [Pt.dQ, ih]; rfl
theorem oR_map (r : List Pt) : Pt.oR r = r.map Pt.o := by
  induction r with
  | nil => rw [Pt.oR]; rfl
  | cons p r ih => rw [Pt.oR, ih]; rfl
theorem oQ_map (q : List (List Pt)) : Pt.oQ q = q.map fun r => .lst (Pt.oR r) := by
  induction q with
  | nil => rw [Pt.oQ]; rfl
  | cons p r ih => rw [Pt.oQ, ih]; rfl
theorem txR_map (r : List Pt) : Pt.txR r = r.map Pt.tx := by
  induction r with
  | nil => rw [Pt.txR]; rfl
  | cons p r ih => rw [Pt.txR, ih]; rfl
theorem txQ_map (q : List (List Pt)) : Pt.txQ q = q.map fun r => TL.joinL [32] (Pt.txR r) := by
  induction q with
  | nil => rw [Pt.txQ]; rfl
  | cons p r ih => rw [Pt.txQ, ih]; rfl
theorem szR_app (r s : List Pt) : Pt.szR (r ++ s) = Pt.szR r + Pt.szR s := by
  induction r with
  | nil => simp [Pt.szR]
  | cons p r ih => simp [Pt.szR, ih]; omega
theorem szQ_app (r s : List (List Pt)) : Pt.szQ (r ++ s) = Pt.szQ r + Pt.szQ s := by
  induction r with
  | nil => simp [Pt.szQ]
  | cons p r ih => simp [Pt.szQ, ih]; omega
/-- good words -/
def wdS (w : List Nat) : Prop := w.all isS = true ∧ w.length ≤ 40 ∧ w ≠ []
/-- a good part: at most n brackets deep, no empty row -/
def okP : Nat → Pt → Prop
  | 0, .inn _ => False
  | n + 1, .inn q => q ≠ [] ∧ ∀ r ∈ q, r ≠ [] ∧ ∀ p ∈ r, okP n p
  | _, .word w => wdS w
  | _, .begin_ w => wdS w
  | _, .fin w => wdS w
  | _, .any => True
  | _, .upto k => k ≤ 9
def okR (n : Nat) (r : List Pt) : Prop := ∀ p ∈ r, okP n p
def okQ (n : Nat) (q : List (List Pt)) : Prop := q ≠ [] ∧ ∀ r ∈ q, r ≠ [] ∧ okR n r
theorem okP_up : ∀ (n : Nat) (p : Pt), okP n p → okP (n + 1) p := by
  intro n
  induction n with
  | zero => intro p h; cases p <;> first | exact h | exact h.elim
  | succ n ih =>
    intro p h
    cases p with
    | inn q => exact ⟨h.1, fun r m => ⟨(h.2 r m).1, fun p m2 => ih p ((h.2 r m).2 p m2)⟩⟩
    | _ => exact h
theorem okP_le {n m : Nat} (h : n ≤ m) (p : Pt) (k : okP n p) : okP m p := by
  induction h with
  | refl => exact k
  | step _ ih => exact okP_up _ _ ih
theorem okQ_le {n m : Nat} (h : n ≤ m) {q : List (List Pt)} (k : okQ n q) : okQ m q := ⟨k.1, fun r a => ⟨(k.2 r a).1, fun p b => okP_le h p ((k.2 r a).2 p b)⟩⟩
theorem okP_inn {n : Nat} {q : List (List Pt)} (h : okQ n q) : okP (n + 1) (.inn q) := h
/-! lengths -/
theorem lenR (r : List Pt) (h : ∀ p ∈ r, (Pt.tx p).length ≤ Pt.sz p) : wsum (Pt.txR r) + (Pt.txR r).length ≤ Pt.szR r := by
  induction r with
  | nil => simp [Pt.txR, Pt.szR, wsum]
  | cons p r ih =>
    have h1 := h p List.mem_cons_self
    have h2 := ih fun x m => h x (List.mem_cons_of_mem _ m)
    simp [Pt.txR, Pt.szR, wsum] at h2 ⊢
    omega
theorem lenQ (q : List (List Pt)) (h : ∀ r ∈ q, ∀ p ∈ r, (Pt.tx p).length ≤ Pt.sz p) : wsum (Pt.txQ q) + 3 * (Pt.txQ q).length ≤ Pt.szQ q := by
  induction q with
  | nil => simp [Pt.txQ, Pt.szQ, wsum]
  | cons r q ih =>
    have h1 := lenR r (h r List.mem_cons_self)
    have h2 := ih fun x m => h x (List.mem_cons_of_mem _ m)
    have h3 := joinL_len 32 (Pt.txR r)
    simp [Pt.txQ, Pt.szQ, wsum] at h1 h2 h3 ⊢
    omega
theorem joinB_len : ∀ r : List (List Nat), (TL.joinL bar r).length ≤ wsum r + 3 * r.length
  | [] => by simp [TL.joinL, wsum]
  | [w] => by simp [TL.joinL, wsum]
  | w :: v :: r => by
    have := joinB_len (v :: r)
    show (w ++ (bar ++ TL.joinL bar (v :: r))).length ≤ _
    simp [wsum] at this ⊢
    omega
theorem tx_len : ∀ (n : Nat) (p : Pt), okP n p → (Pt.tx p).length ≤ Pt.sz p := by
  intro n
  induction n with
  | zero => intro p h; cases p <;> first | (simp [Pt.tx, Pt.sz]; done) | (simp [Pt.tx, Pt.sz]; omega) | exact h.elim
  | succ n ih =>
    intro p h
    cases p with
    | inn q =>
      have h1 := lenQ q fun r m p m2 => ih p ((h.2 r m).2 p m2)
      have h2 := joinB_len (Pt.txQ q)
      simp [Pt.tx, Pt.sz] at h1 h2 ⊢
      omega
    | _ => first | (simp [Pt.tx, Pt.sz]; done) | (simp [Pt.tx, Pt.sz]; omega)
theorem sz_ge : ∀ p : Pt, 4 ≤ Pt.sz p := by intro p; cases p <;> simp [Pt.sz]
theorem szR_ge : ∀ r : List Pt, r.length ≤ Pt.szR r
  | [] => by simp
  | p :: r => by have := szR_ge r; simp [Pt.szR]; omega
theorem szQ_ge : ∀ r : List (List Pt), r.length ≤ Pt.szQ r
  | [] => by simp
  | p :: r => by have := szQ_ge r; simp [Pt.szQ]; omega
theorem szR_mem {r : List Pt} {p : Pt} (m : p ∈ r) : Pt.sz p ≤ Pt.szR r := by
  induction r with
  | nil => cases m
  | cons x r ih =>
    rcases List.mem_cons.mp m with m | m
    · subst m; simp [Pt.szR]; omega
    · have := ih m; simp [Pt.szR]; omega
theorem szQ_mem {q : List (List Pt)} {r : List Pt} (m : r ∈ q) : Pt.szR r ≤ Pt.szQ q := by
  induction q with
  | nil => cases m
  | cons x r ih =>
    rcases List.mem_cons.mp m with m | m
    · subst m; simp [Pt.szQ]; omega
    · have := ih m; simp [Pt.szQ]; omega
/-! the words that tell a part -/
section
theorem tg1 : (Str.ofString "word" == Str.ofString "any") = false := by decide +kernel
theorem tg2 : (Str.ofString "word" == Str.ofString "upto") = false := by decide +kernel
theorem tg3 : (Str.ofString "word" == Str.ofString "begin") = false := by decide +kernel
theorem tg4 : (Str.ofString "word" == Str.ofString "end") = false := by decide +kernel
theorem tg5 : (Str.ofString "word" == Str.ofString "in") = false := by decide +kernel
theorem tg6 : (Str.ofString "begin" == Str.ofString "any") = false := by decide +kernel
theorem tg7 : (Str.ofString "begin" == Str.ofString "upto") = false := by decide +kernel
theorem tg8 : (Str.ofString "end" == Str.ofString "any") = false := by decide +kernel
theorem tg9 : (Str.ofString "end" == Str.ofString "upto") = false := by decide +kernel
theorem tg10 : (Str.ofString "end" == Str.ofString "begin") = false := by decide +kernel
theorem tg11 : (Str.ofString "upto" == Str.ofString "any") = false := by decide +kernel
theorem tg12 : (Str.ofString "in" == Str.ofString "any") = false := by decide +kernel
theorem tg13 : (Str.ofString "in" == Str.ofString "upto") = false := by decide +kernel
theorem tg14 : (Str.ofString "in" == Str.ofString "begin") = false := by decide +kernel
theorem tg15 : (Str.ofString "in" == Str.ofString "end") = false := by decide +kernel
theorem tx1 : Str.ofString "?" = S [63] := by decide +kernel
theorem tx2 : Str.ofString ".." = S [46, 46] := by decide +kernel
theorem tx3 : Str.ofString "*" = S [42] := by decide +kernel
theorem tx4 : Str.ofString "( " = S [40, 32] := by decide +kernel
theorem tx5 : Str.ofString " )" = S [32, 41] := by decide +kernel
theorem tx6 : Str.ofString " | " = S bar := by decide +kernel
theorem tx7 : Str.ofString " " = S [32] := by decide +kernel
theorem tx8 : Str.ofString " |" = S [32, 124] := by decide +kernel
end
theorem toS_dig (n : Nat) (h : n ≤ 9) : D.toS (.int n) = some (.str (S [48 + n])) := by
  have : n = 0 ∨ n = 1 ∨ n = 2 ∨ n = 3 ∨ n = 4 ∨ n = 5 ∨ n = 6 ∨ n = 7 ∨ n = 8 ∨ n = 9 := by omega
  rcases this with rfl | rfl | rfl | rfl | rfl | rfl | rfl | rfl | rfl | rfl <;> rfl
theorem atI0 {α : Type} (a : α) (l : List α) : atI (a :: l) 0 = some a := by
  have := atI_nat (xs := a :: l) (j := 0) (v := a) rfl
  exact this
theorem atI1 {α : Type} (a b : α) (l : List α) : atI (a :: b :: l) 1 = some b := by
  have := atI_nat (xs := a :: b :: l) (j := 1) (v := b) rfl
  exact this
theorem show_plain (mp mq : List D → M O) (n : Nat) (p : Pt) (hp : okP n p) (hq : ∀ q, p ≠ .inn q) : run 1 (g_show_part mp mq) [p.d] = .ok (.sh (.str (S p.tx))) := by
  have hw : ∀ w, wdS w → w.length ≤ 40 := fun w h => h.2.1
  have h40 : ∀ w : List Nat, w.length ≤ 40 → w.length + 1 ≤ 16777216 := fun w h => by omega
  have h41 : ∀ w : List Nat, w.length ≤ 40 → 1 + w.length ≤ 16777216 := fun w h => by omega
  cases p with
  | word w => simp [g_show_part, Pt.d, Pt.tx, tg1, tg2, tg3, tg4, tg5, atI0, atI1]
  | begin_ w =>
    have : w.length ≤ 40 := by cases n <;> exact hp.2.1
    simp [g_show_part, Pt.d, Pt.tx, tg6, tg7, atI0, atI1, tx3, S_add, sizeL, h40 w this]
  | fin w =>
    have : w.length ≤ 40 := by cases n <;> exact hp.2.1
    simp [g_show_part, Pt.d, Pt.tx, tg8, tg9, tg10, atI0, atI1, tx3, S_add, sizeL, h41 w this]
  | any => simp [g_show_part, Pt.d, Pt.tx, atI0, atI1, tx1]
  | upto k =>
    have : k ≤ 9 := by cases n <;> exact hp
    simp [g_show_part, Pt.d, Pt.tx, tg11, atI0, atI1, tx2, toS_dig k this, S_add, sizeL]
  | inn q => exact absurd rfl (hq q)
theorem show_inn (mp mq : List D → M O) (q : List (List Pt)) (hz : (TL.joinL bar (Pt.txQ q)).length ≤ 1000000) (hq : mq [.lst (Pt.dQ q)] = .ok (.sh (.str (S (TL.joinL bar (Pt.txQ q)))))) :
    run 1 (g_show_part mp mq) [(Pt.inn q).d] = .ok (.sh (.str (S (Pt.inn q).tx))) := by
  rw [Pt.tx, Pt.d]
  generalize TL.joinL bar (Pt.txQ q) = t at hz hq
  generalize Pt.dQ q = dq at hq
  simp [g_show_part, tg12, tg13, tg14, tg15, atI0, atI1, hq, tx4, tx5, S_add, sizeL, show 2 + t.length ≤ 16777216 by omega, show t.length + 4 ≤ 16777216 by omega, show 2 + (t.length + 2) ≤ 16777216 by omega]
theorem show_row (mp mq : List D → M O) (env : En) (he : env.length = 4) : ∀ r : List Pt, (∀ p ∈ r, mp [p.d] = .ok (.sh (.str (S p.tx)))) →
    compL (cName 3) yesT (q_show_question_1 mp mq) env ((Pt.dR r).map fun d => .o (.sh d)) = some ((Pt.txR r).map wO)
  | [], _ => by simp [Pt.dR, Pt.txR, compL]
  | p :: r, h => by
    have h1 := h p List.mem_cons_self
    have h2 := show_row mp mq env he r fun x m => h x (List.mem_cons_of_mem _ m)
    rw [Pt.dR, Pt.txR, List.map_cons, compL]
    match env, he with
    | [a, b, c, d], _ =>
      simp [cName, q_show_question_1, yesT, h1] at h2 ⊢
      simp [h2]
theorem show_rows (mp mq : List D → M O) (dq : D) : ∀ (q : List (List Pt)) (done : List (List Nat)) (x y : Option O), (∀ r ∈ q, ∀ p ∈ r, mp [p.d] = .ok (.sh (.str (S p.tx)))) → (∀ r ∈ q, wsum (Pt.txR r) + r.length ≤ 1000000) → done.length + q.length ≤ 1000000 →
    ∃ x', loopS (bName 2) (b_show_question_2 mp mq) (Pt.dQ q) [some (.sh dq), some (.lst (done.map wO)), x, y] = some (.nx [some (.sh dq), some (.lst ((done ++ Pt.txQ q).map wO)), x', y])
  | [], done, x, y, _, _, _ => ⟨x, by simp [Pt.dQ, Pt.txQ, loopS]⟩
  | r :: q, done, x, y, h, hz, hl => by
    have hr := show_row mp mq [some (.o (.sh dq)), some (.o (.lst (done.map wO))), some (.o (.sh (.lst (Pt.dR r)))), none] rfl r (h r List.mem_cons_self)
    have hz1 := hz r List.mem_cons_self
    have lr : (Pt.txR r).length = r.length := by rw [txR_map]; simp
    have hj := sJoin_S 32 (.o (.lst ((Pt.txR r).map wO))) (Pt.txR r) (by simp) (by omega)
    simp at hl
    obtain ⟨x', hx⟩ := show_rows mp mq dq q (done ++ [TL.joinL [32] (Pt.txR r)]) (some (.sh (.lst (Pt.dR r)))) y (fun a b => h a (List.mem_cons_of_mem _ b)) (fun a b => hz a (List.mem_cons_of_mem _ b)) (by simp; omega)
    refine ⟨x', ?_⟩
    rw [Pt.dQ, Pt.txQ, loopS]
    have hl2 : r.length ≤ 16777216 := by omega
    have st : b_show_question_2 mp mq [some (.sh dq), some (.lst (done.map wO)), some (.sh (.lst (Pt.dR r))), y] = some (.nx [some (.sh dq), some (.lst ((done ++ [TL.joinL [32] (Pt.txR r)]).map wO)), some (.sh (.lst (Pt.dR r))), y]) := by
      unfold b_show_question_2
      generalize hR : (Pt.txR r).map wO = R at hr hj
      have lR : R.length ≤ 16777216 := by rw [← hR]; simp; omega
      simp [tx7, hr, lR, sizeL, hj, show done.length < 16777216 by omega]
    simp only [bName_eq, List.set, st]
    simpa using hx
theorem show_ok : ∀ n f : Nat, (2 * n + 1 ≤ f → ∀ p, okP n p → Pt.sz p ≤ 100000 → (rc_show_part f).1 [p.d] = .ok (.sh (.str (S p.tx)))) ∧
    (2 * n + 2 ≤ f → ∀ q, (∀ r ∈ q, r ≠ [] ∧ okR n r) → Pt.szQ q ≤ 100000 → (rc_show_part f).2 [.lst (Pt.dQ q)] = .ok (.sh (.str (S (TL.joinL bar (Pt.txQ q)))))) := by
  have both : ∀ f n : Nat, (2 * n + 1 ≤ f → ∀ p, okP n p → Pt.sz p ≤ 100000 → (rc_show_part f).1 [p.d] = .ok (.sh (.str (S p.tx)))) ∧
      (2 * n + 2 ≤ f → ∀ q, (∀ r ∈ q, r ≠ [] ∧ okR n r) → Pt.szQ q ≤ 100000 → (rc_show_part f).2 [.lst (Pt.dQ q)] = .ok (.sh (.str (S (TL.joinL bar (Pt.txQ q)))))) := by
    intro f
    induction f with
    | zero => intro n; exact ⟨fun h => absurd h (by omega), fun h => absurd h (by omega)⟩
    | succ f ih =>
      intro n
      refine ⟨fun hf p hp hz => ?_, fun hf q hq hz => ?_⟩
      · show run 1 (g_show_part (rc_show_part f).1 (rc_show_part f).2) [p.d] = _
        cases p with
        | inn q =>
          cases n with
          | zero => exact hp.elim
          | succ n =>
            have hz' : Pt.szQ q ≤ 100000 := by rw [Pt.sz] at hz; omega
            have h1 := (ih n).2 (by omega) q hp.2 hz'
            have h2 := lenQ q fun r m p m2 => tx_len n p ((hp.2 r m).2 p m2)
            have h3 := joinB_len (Pt.txQ q)
            exact show_inn _ _ q (by omega) h1
        | word w => exact show_plain _ _ n _ hp (by intro q e; cases e)
        | begin_ w => exact show_plain _ _ n _ hp (by intro q e; cases e)
        | fin w => exact show_plain _ _ n _ hp (by intro q e; cases e)
        | any => exact show_plain _ _ n _ hp (by intro q e; cases e)
        | upto k => exact show_plain _ _ n _ hp (by intro q e; cases e)
      · show run 4 (g_show_question (rc_show_part f).1 (rc_show_part f).2) [.lst (Pt.dQ q)] = _
        have h1 : ∀ r ∈ q, ∀ p ∈ r, (rc_show_part f).1 [p.d] = .ok (.sh (.str (S p.tx))) := fun r m p m2 => (ih n).1 (by omega) p ((hq r m).2 p m2) (by
          have := szQ_mem m; have := szR_mem m2; omega)
        have h2 : ∀ r ∈ q, wsum (Pt.txR r) + r.length ≤ 1000000 := fun r m => by
          have a := lenR r fun p m2 => tx_len n p ((hq r m).2 p m2)
          have b := szQ_mem m
          have c : (Pt.txR r).length = r.length := by rw [txR_map]; simp
          omega
        have h3 := szQ_ge q
        obtain ⟨x', hx⟩ := show_rows (rc_show_part f).1 (rc_show_part f).2 (.lst (Pt.dQ q)) q [] none none h1 h2 (by simp; omega)
        have h4 := lenQ q fun r m p m2 => tx_len n p ((hq r m).2 p m2)
        have hj : sJoin (S bar) (.bo (.lst ((Pt.txQ q).map wD))) = some (.o (.sh (.str (S (TL.joinL bar (Pt.txQ q)))))) := by
          unfold sJoin
          have e1 : D.strs ((Pt.txQ q).map wD) = some ((Pt.txQ q).map S) := strs_map (fun w => S w) (Pt.txQ q)
          simp only [data_bo, seq_lst, e1]
          rw [if_pos, SX.join_S]
          · rfl
          · rw [SX.lens, List.length_map, S_length]
            have e3 : ((Pt.txQ q).map List.length).sum = wsum (Pt.txQ q) := rfl
            rw [e3]
            show wsum (Pt.txQ q) + (Pt.txQ q).length * 3 ≤ _
            omega
        generalize TL.joinL bar (Pt.txQ q) = t at hj ⊢
        simp at hx
        simp [g_show_question, hx, tx6, hj, sizeL]
  exact fun n f => both f n
end Sh

namespace Sh
open PySem L2 Fu PyProof.Rows
open SX (S)
/-! ### the law's own text of a question -/
/-- neither end is a blank -/
def edge (t : List Nat) : Prop := t ≠ [] ∧ t.head? ≠ some 32 ∧ t.getLast? ≠ some 32
theorem isS_ne (c : Nat) (h : isS c = true) : c ≠ 32 := by
  intro e
  subst e
  exact absurd h (by decide +kernel)
theorem edge_word (w : List Nat) (h : wdS w) : edge w := by
  refine ⟨h.2.2, fun e => ?_, fun e => ?_⟩
  · have m := List.mem_of_mem_head? e
    exact isS_ne _ (List.all_eq_true.mp h.1 _ m) rfl
  · have m := List.mem_of_mem_getLast? e
    exact isS_ne _ (List.all_eq_true.mp h.1 _ m) rfl
theorem edge_join (s t u : List Nat) (h1 : edge s) (h2 : edge u) : edge (s ++ t ++ u) := by
  obtain ⟨a1, a2, a3⟩ := h1
  obtain ⟨b1, b2, b3⟩ := h2
  cases s with
  | nil => exact absurd rfl a1
  | cons c s =>
    refine ⟨by simp, by simpa using a2, ?_⟩
    rw [List.getLast?_append]
    cases e : u.getLast? with
    | none => exact absurd (List.getLast?_eq_none_iff.mp e) b1
    | some d => rw [e] at b3; simpa using b3
theorem edge_joinL (sep : List Nat) : ∀ ts : List (List Nat), ts ≠ [] → (∀ t ∈ ts, edge t) → edge (TL.joinL sep ts)
  | [], h, _ => absurd rfl h
  | [t], _, h => h t List.mem_cons_self
  | t :: u :: ts, _, h => by
    have h1 := h t List.mem_cons_self
    have h2 := edge_joinL sep (u :: ts) (by simp) fun x m => h x (List.mem_cons_of_mem _ m)
    show edge (t ++ (sep ++ TL.joinL sep (u :: ts)))
    rw [← List.append_assoc]
    exact edge_join t sep _ h1 h2
theorem edge_tx : ∀ (n : Nat) (p : Pt), okP n p → edge p.tx := by
  intro n
  have gen : ∀ p : Pt, okP n p → (∀ q, p ≠ .inn q) → edge p.tx := by
    intro p h hq
    cases p with
    | word w => exact edge_word w (by cases n <;> exact h)
    | begin_ w =>
      have := edge_word w (by cases n <;> exact h)
      simpa [Pt.tx] using edge_join w [] [42] this ⟨by simp, by simp, by simp⟩
    | fin w =>
      have := edge_word w (by cases n <;> exact h)
      simpa [Pt.tx] using edge_join [42] [] w ⟨by simp, by simp, by simp⟩ this
    | any => exact ⟨by simp [Pt.tx], by simp [Pt.tx], by simp [Pt.tx]⟩
    | upto k => exact ⟨by simp [Pt.tx], by simp [Pt.tx], by simp [Pt.tx]; omega⟩
    | inn q => exact absurd rfl (hq q)
  intro p h
  cases p with
  | inn q =>
    rw [Pt.tx]
    refine ⟨by simp, by simp, ?_⟩
    rw [List.getLast?_append]
    simp
  | _ => exact gen _ h (by intro q e; cases e)
theorem edge_row (n : Nat) (r : List Pt) (h0 : r ≠ []) (h : okR n r) : edge (TL.joinL [32] (Pt.txR r)) := by
  rw [txR_map]
  refine edge_joinL _ _ (by simpa using h0) fun t m => ?_
  obtain ⟨p, m2, rfl⟩ := List.mem_map.mp m
  exact edge_tx n p (h p m2)
theorem edge_q (n : Nat) (q : List (List Pt)) (h : okQ n q) : edge (TL.joinL bar (Pt.txQ q)) := by
  rw [txQ_map]
  refine edge_joinL _ _ (by simpa using h.1) fun t m => ?_
  obtain ⟨r, m2, rfl⟩ := List.mem_map.mp m
  exact edge_row n r (h.2 r m2).1 (h.2 r m2).2
theorem strip_blank (t : List Nat) (h : edge t) : Txt.stripChars (S (32 :: t)) (S [32]) = S t := by
  obtain ⟨h0, h1, h2⟩ := h
  have hc : ∀ c, (S [32]).cps.contains c = decide (c = 32) := fun c => by simp [S_cps]
  unfold Txt.stripChars
  rw [stripBy_eq]
  have e0 : stripLo (S [32]).cps.contains true (S (32 :: t)) = 1 := by
    unfold stripLo
    rw [if_pos rfl, S_tl, List.takeWhile_cons, hc, if_pos (by simp)]
    cases t with
    | nil => exact absurd rfl h0
    | cons c t =>
      rw [List.takeWhile_cons, hc, if_neg]
      · rfl
      · have : ¬ c = 32 := fun e => h1 (by rw [e]; rfl)
        simpa using this
  have e1 : stripHi (S [32]).cps.contains true (S (32 :: t)) 1 = t.length + 1 := by
    unfold stripHi
    rw [if_pos rfl, S_length, S_tl]
    show t.length + 1 - (List.takeWhile _ t.reverse).length = _
    cases e : t.reverse with
    | nil => simp
    | cons c r =>
      have : t.getLast? = some c := by rw [← List.head?_reverse, e]; rfl
      rw [List.takeWhile_cons, hc, if_neg]
      · rfl
      · have : ¬ c = 32 := fun e => h2 (by rw [this, e])
        simpa using this
  rw [e0, e1]
  apply TL.ext_tl
  rw [TL.tl_strSub]
  show ((32 :: t).drop 1).take (t.length + 1 - 1) = t
  simp
/-! the loops -/
def catR (r : List Pt) : List Nat := (Pt.txR r).flatMap fun t => 32 :: t
def catQ (acc : List Nat) : List (List Pt) → List Nat
  | [] => acc
  | r :: q => catQ ((if acc = [] then acc else acc ++ [32, 124]) ++ catR r) q
theorem catR_eq (r : List Pt) (h : r ≠ []) : catR r = 32 :: TL.joinL [32] (Pt.txR r) := by
  unfold catR
  rw [txR_map]
  induction r with
  | nil => exact absurd rfl h
  | cons p r ih =>
    cases r with
    | nil => simp [TL.joinL]
    | cons q r =>
      have := ih (by simp)
      simp only [List.map_cons, List.flatMap_cons] at this ⊢
      rw [this]
      simp [TL.joinL]
theorem catQ_eq : ∀ (q : List (List Pt)) (acc : List Nat), acc ≠ [] → (∀ r ∈ q, r ≠ []) → catQ acc q = acc ++ (Pt.txQ q).flatMap fun t => bar ++ t
  | [], acc, _, _ => by simp [catQ, Pt.txQ]
  | r :: q, acc, h, hq => by
    rw [catQ, if_neg h, Pt.txQ, catR_eq r (hq r List.mem_cons_self), catQ_eq q _ (by simp [h]) fun x m => hq x (List.mem_cons_of_mem _ m)]
    simp
theorem joinL_flat (sep t : List Nat) : ∀ ts : List (List Nat), TL.joinL sep (t :: ts) = t ++ ts.flatMap fun u => sep ++ u
  | [] => by simp [TL.joinL]
  | u :: ts => by
    show t ++ (sep ++ TL.joinL sep (u :: ts)) = _
    rw [joinL_flat sep u ts]
    simp
theorem catQ_all (q : List (List Pt)) (h : q ≠ []) (hq : ∀ r ∈ q, r ≠ []) : catQ [] q = 32 :: TL.joinL bar (Pt.txQ q) := by
  cases q with
  | nil => exact absurd rfl h
  | cons r q =>
    have h1 := hq r List.mem_cons_self
    rw [catQ, if_pos rfl, List.nil_append, catR_eq r h1, catQ_eq q _ (by simp) fun x m => hq x (List.mem_cons_of_mem _ m), Pt.txQ, joinL_flat]
    simp
theorem lt_row (mp mq : List D → M O) (o0 : Option O) (row : Option O) : ∀ (r : List Pt) (acc : List Nat) (y : Option O), (∀ p ∈ r, mp [p.d] = .ok (.sh (.str (S p.tx)))) → (∀ p ∈ r, p.tx.length ≤ p.sz) → acc.length + Pt.szR r ≤ 1000000 →
    ∃ y', loopS (bName 3) (b_law_text_v4_1 mp mq) (Pt.dR r) [o0, some (wO acc), row, y] = some (.nx [o0, some (wO (acc ++ catR r)), row, y'])
  | [], acc, y, _, _, _ => ⟨y, by simp [Pt.dR, loopS, catR, Pt.txR]⟩
  | p :: r, acc, y, h, hl, hz => by
    have h1 := h p List.mem_cons_self
    have h2 := hl p List.mem_cons_self
    rw [Pt.szR] at hz
    obtain ⟨y', hy⟩ := lt_row mp mq o0 row r (acc ++ (32 :: p.tx)) (some (.sh p.d)) (fun a m => h a (List.mem_cons_of_mem _ m)) (fun a m => hl a (List.mem_cons_of_mem _ m)) (by simp; omega)
    refine ⟨y', ?_⟩
    have st : b_law_text_v4_1 mp mq [o0, some (wO acc), row, some (.sh p.d)] = some (.nx [o0, some (wO (acc ++ (32 :: p.tx))), row, some (.sh p.d)]) := by
      unfold b_law_text_v4_1
      generalize p.d = pd at h1
      simp [tx7, h1, S_add, sizeL, show acc.length + 1 ≤ 16777216 by omega, show acc.length + (p.tx.length + 1) ≤ 16777216 by omega, show acc.length + 1 + p.tx.length ≤ 16777216 by omega]
    rw [Pt.dR, loopS]
    simp only [bName_eq, List.set, st]
    rw [hy]
    simp [catR, Pt.txR]
theorem lt_rows (mp mq : List D → M O) (o0 : Option O) : ∀ (q : List (List Pt)) (acc : List Nat) (x y : Option O), (∀ r ∈ q, ∀ p ∈ r, mp [p.d] = .ok (.sh (.str (S p.tx)))) → (∀ r ∈ q, ∀ p ∈ r, p.tx.length ≤ p.sz) → acc.length + Pt.szQ q ≤ 1000000 →
    ∃ x' y', loopS (bName 2) (b_law_text_v4_2 mp mq) (Pt.dQ q) [o0, some (wO acc), x, y] = some (.nx [o0, some (wO (catQ acc q)), x', y'])
  | [], acc, x, y, _, _, _ => ⟨x, y, by simp [Pt.dQ, loopS, catQ]⟩
  | r :: q, acc, x, y, h, hl, hz => by
    rw [Pt.szQ] at hz
    have hlr : ∀ (s : List Pt), (∀ p ∈ s, p.tx.length ≤ p.sz) → (catR s).length ≤ Pt.szR s := fun s => by
      induction s with
      | nil => intro _; simp [catR, Pt.txR]
      | cons p s ih =>
        intro k
        have a := ih fun a m => k a (List.mem_cons_of_mem _ m)
        have b := k p List.mem_cons_self
        simp [catR, Pt.txR, Pt.szR] at a ⊢
        omega
    have hc := hlr r (hl r List.mem_cons_self)
    obtain ⟨y1, hy⟩ := lt_row mp mq o0 (some (.sh (.lst (Pt.dR r)))) r (if acc = [] then acc else acc ++ [32, 124]) y (h r List.mem_cons_self) (hl r List.mem_cons_self) (by split <;> (try simp) <;> omega)
    obtain ⟨x', y', hx⟩ := lt_rows mp mq o0 q ((if acc = [] then acc else acc ++ [32, 124]) ++ catR r) (some (.sh (.lst (Pt.dR r)))) y1 (fun a m => h a (List.mem_cons_of_mem _ m)) (fun a m => hl a (List.mem_cons_of_mem _ m)) (by split <;> (try simp) <;> omega)
    refine ⟨x', y', ?_⟩
    have st : b_law_text_v4_2 mp mq [o0, some (wO acc), some (.sh (.lst (Pt.dR r))), y] = some (.nx [o0, some (wO ((if acc = [] then acc else acc ++ [32, 124]) ++ catR r)), some (.sh (.lst (Pt.dR r))), y1]) := by
      unfold b_law_text_v4_2
      by_cases e : acc = []
      · subst e
        simp at hy
        simp [nil_S, hy]
      · rw [if_neg e] at hy ⊢
        simp [nil_S, S_ne_nil, e, tx8, S_add, sizeL, show acc.length + 2 ≤ 16777216 by omega]
        simp at hy
        rw [hy]
    rw [Pt.dQ, loopS]
    simp only [bName_eq, List.set, st]
    rw [hx, catQ]
theorem catQ_len : ∀ (q : List (List Pt)) (acc : List Nat), (∀ r ∈ q, ∀ p ∈ r, p.tx.length ≤ p.sz) → (catQ acc q).length ≤ acc.length + Pt.szQ q
  | [], acc, _ => by simp [catQ]
  | r :: q, acc, h => by
    have hlr : ∀ (s : List Pt), (∀ p ∈ s, p.tx.length ≤ p.sz) → (catR s).length ≤ Pt.szR s := fun s => by
      induction s with
      | nil => intro _; simp [catR, Pt.txR]
      | cons p s ih =>
        intro k
        have a := ih fun a m => k a (List.mem_cons_of_mem _ m)
        have b := k p List.mem_cons_self
        simp [catR, Pt.txR, Pt.szR] at a ⊢
        omega
    have a := hlr r (h r List.mem_cons_self)
    have b := catQ_len q ((if acc = [] then acc else acc ++ [32, 124]) ++ catR r) fun x m => h x (List.mem_cons_of_mem _ m)
    rw [catQ, Pt.szQ]
    refine Nat.le_trans b ?_
    rw [List.length_append]
    split <;> (try simp) <;> omega
theorem dig_at (n : Nat) (h : n ≤ 9) : (D.str (Str.ofString "0123456789")).at (.int n) = some (.str (S [48 + n])) := by
  have : n = 0 ∨ n = 1 ∨ n = 2 ∨ n = 3 ∨ n = 4 ∨ n = 5 ∨ n = 6 ∨ n = 7 ∨ n = 8 ∨ n = 9 := by omega
  rcases this with rfl | rfl | rfl | rfl | rfl | rfl | rfl | rfl | rfl | rfl <;> rfl
theorem lt_plain (mp mq : List D → M O) (n : Nat) (p : Pt) (hp : okP n p) (hq : ∀ q, p ≠ .inn q) : run 1 (g_law_part_text mp mq) [p.d] = .ok (.sh (.str (S p.tx))) := by
  have h40 : ∀ w : List Nat, w.length ≤ 40 → w.length + 1 ≤ 16777216 := fun w h => by omega
  have h41 : ∀ w : List Nat, w.length ≤ 40 → 1 + w.length ≤ 16777216 := fun w h => by omega
  cases p with
  | word w => simp [g_law_part_text, Pt.d, Pt.tx, tg1, tg2, tg3, tg4, tg5, atI0, atI1]
  | begin_ w =>
    have : w.length ≤ 40 := by cases n <;> exact hp.2.1
    simp [g_law_part_text, Pt.d, Pt.tx, tg6, tg7, atI0, atI1, tx3, S_add, sizeL, h40 w this]
  | fin w =>
    have : w.length ≤ 40 := by cases n <;> exact hp.2.1
    simp [g_law_part_text, Pt.d, Pt.tx, tg8, tg9, tg10, atI0, atI1, tx3, S_add, sizeL, h41 w this]
  | any => simp [g_law_part_text, Pt.d, Pt.tx, atI0, atI1, tx1]
  | upto k =>
    have : k ≤ 9 := by cases n <;> exact hp
    simp [g_law_part_text, Pt.d, Pt.tx, tg11, atI0, atI1, tx2, dig_at k this, S_add, sizeL, -at_str]
  | inn q => exact absurd rfl (hq q)
theorem lt_inn (mp mq : List D → M O) (q : List (List Pt)) (hz : (TL.joinL bar (Pt.txQ q)).length ≤ 1000000) (hq : mq [.lst (Pt.dQ q)] = .ok (.sh (.str (S (TL.joinL bar (Pt.txQ q)))))) :
    run 1 (g_law_part_text mp mq) [(Pt.inn q).d] = .ok (.sh (.str (S (Pt.inn q).tx))) := by
  rw [Pt.tx, Pt.d]
  generalize TL.joinL bar (Pt.txQ q) = t at hz hq
  generalize Pt.dQ q = dq at hq
  simp [g_law_part_text, tg12, tg13, tg14, tg15, atI0, atI1, hq, tx4, tx5, S_add, sizeL, show 2 + t.length ≤ 16777216 by omega, show t.length + 4 ≤ 16777216 by omega, show 2 + (t.length + 2) ≤ 16777216 by omega]
theorem lt_ok : ∀ f n : Nat, (2 * n + 1 ≤ f → ∀ p, okP n p → Pt.sz p ≤ 100000 → (rc_law_part_text f).1 [p.d] = .ok (.sh (.str (S p.tx)))) ∧
    (2 * n + 2 ≤ f → ∀ q, okQ n q → Pt.szQ q ≤ 100000 → (rc_law_part_text f).2 [.lst (Pt.dQ q)] = .ok (.sh (.str (S (TL.joinL bar (Pt.txQ q)))))) := by
  intro f
  induction f with
  | zero => intro n; exact ⟨fun h => absurd h (by omega), fun h => absurd h (by omega)⟩
  | succ f ih =>
    intro n
    refine ⟨fun hf p hp hz => ?_, fun hf q hq hz => ?_⟩
    · show run 1 (g_law_part_text (rc_law_part_text f).1 (rc_law_part_text f).2) [p.d] = _
      cases p with
      | inn q =>
        cases n with
        | zero => exact hp.elim
        | succ n =>
          have hz' : Pt.szQ q ≤ 100000 := by rw [Pt.sz] at hz; omega
          have h1 := (ih n).2 (by omega) q hp hz'
          have h2 := lenQ q fun r m p m2 => tx_len n p ((hp.2 r m).2 p m2)
          have h3 := joinB_len (Pt.txQ q)
          exact lt_inn _ _ q (by omega) h1
      | word w => exact lt_plain _ _ n _ hp (by intro q e; cases e)
      | begin_ w => exact lt_plain _ _ n _ hp (by intro q e; cases e)
      | fin w => exact lt_plain _ _ n _ hp (by intro q e; cases e)
      | any => exact lt_plain _ _ n _ hp (by intro q e; cases e)
      | upto k => exact lt_plain _ _ n _ hp (by intro q e; cases e)
    · show run 4 (g_law_text_v4 (rc_law_part_text f).1 (rc_law_part_text f).2) [.lst (Pt.dQ q)] = _
      have h1 : ∀ r ∈ q, ∀ p ∈ r, (rc_law_part_text f).1 [p.d] = .ok (.sh (.str (S p.tx))) := fun r m p m2 => (ih n).1 (by omega) p ((hq.2 r m).2 p m2) (by
        have := szQ_mem m; have := szR_mem m2; omega)
      have h2 : ∀ r ∈ q, ∀ p ∈ r, p.tx.length ≤ p.sz := fun r m p m2 => tx_len n p ((hq.2 r m).2 p m2)
      obtain ⟨x', y', hx⟩ := lt_rows (rc_law_part_text f).1 (rc_law_part_text f).2 (some (.sh (.lst (Pt.dQ q)))) q [] none none h1 h2 (by simp; omega)
      have h4 := catQ_len q [] h2
      rw [catQ_all q hq.1 fun r m => (hq.2 r m).1] at hx h4
      have h5 := strip_blank _ (edge_q n q hq)
      generalize TL.joinL bar (Pt.txQ q) = t at hx h4 h5 ⊢
      have h6 : t.length ≤ 16777215 := by simp at h4; omega
      have e0 : Str.ofString "" = S [] := nil_S
      simp [g_law_text_v4, e0, hx, tx7, sStr, sStripC, sizeL, h6, h5]
end Sh

namespace Sh
open PySem L2 Fu PyProof.Rows
open SX (S)
/-! ### a drawn question -/
theorem m_word_ex (c : Int) : ∃ w, m_law_word [.int c] = .ok (.sh (.str (S w))) ∧ wdS w := by
  unfold m_law_word g_law_word
  have p1 := m_part_eq c 1 3 (by omega)
  have g1 := part_ge c 1 3 (by omega)
  have g2 := part_lt c 1 3 (by omega)
  have loop : ∀ (n : Nat) (hn : n ≤ 40) (x : Option O), ∃ w y, loopS (bName 3) b_law_word_1 ((List.range n).map fun k => .int ((k : Nat) : Int)) [some (.sh (.int c)), some (.sh (.str c_SIGNS)), some (wO []), x] =
      some (.nx [some (.sh (.int c)), some (.sh (.str c_SIGNS)), some (wO w), y]) ∧ w.all isS = true ∧ w.length = n := by
    intro n hn x
    obtain ⟨e2, h, w, y, he, hw1, hw2⟩ := loop_ex (b := bName 3) (body := b_law_word_1) (fun k : Nat => D.int k)
      (fun l e => ∃ w y, e = [some (.sh (.int c)), some (.sh (.str c_SIGNS)), some (wO w), y] ∧ w.all isS = true ∧ w.length + l.length = n)
      (fun a l e i => by
        obtain ⟨w, y, rfl, h1, h2⟩ := i
        rw [List.length_cons] at h2
        have hp := m_part_eq c (a + 2) 36 (by omega)
        obtain ⟨d, hd, hs⟩ := pickS (part c (a + 2) 36)
        have hm : part c (a + 2) 36 % 36 = part c (a + 2) 36 := Int.emod_eq_of_lt (part_ge _ _ _ (by omega)) (part_lt _ _ _ (by omega))
        rw [hm] at hd
        refine ⟨_, _, rfl, .inl ?_, w ++ [d], some (.sh (.int a)), rfl, by simp [h1, hs], by simp; omega⟩
        simp [b_law_word_1, hp, hd, signs_len, sizeL, S_mk, S_add, show w.length + 1 ≤ 16777216 by omega])
      (List.range n) [some (.sh (.int c)), some (.sh (.str c_SIGNS)), some (wO []), x] ⟨[], x, rfl, rfl, by simp⟩
    exact ⟨w, y, by rw [h, he], hw1, by simpa using hw2⟩
  have mm : ∀ m : Nat, 1 ≤ m → m ≤ 40 → ∃ n : Nat, 1 + part c 0 m = (n : Int) ∧ 1 ≤ n ∧ n ≤ 40 := fun m h1 h2 => by
    have a := part_ge c 0 m (by omega)
    have b := part_lt c 0 m (by omega)
    exact ⟨(1 + part c 0 m).toNat, by omega, by omega, by omega⟩
  have pick : ∃ m : Nat, 1 ≤ m ∧ m ≤ 40 ∧ atI [O.sh (.int 3), O.sh (.int 14), O.sh (.int 40)] (part c 1 3) = some (.sh (.int m)) := by
    have : part c 1 3 = 0 ∨ part c 1 3 = 1 ∨ part c 1 3 = 2 := by omega
    rcases this with e | e | e <;> rw [e]
    · exact ⟨3, by omega, by omega, rfl⟩
    · exact ⟨14, by omega, by omega, rfl⟩
    · exact ⟨40, by omega, by omega, rfl⟩
  obtain ⟨m, m1, m2, hm⟩ := pick
  obtain ⟨n, hn, n1, n2⟩ := mm m m1 m2
  have p0 := m_part_eq c 0 m (by omega)
  obtain ⟨w, y, hw, w1, w2⟩ := loop n n2 none
  have e0 : Str.ofString "abcdefghijklmnopqrstuvwxyz0123456789" = c_SIGNS := rfl
  have hr := rngD_of n rfl (by omega)
  refine ⟨w, ?_, w1, by omega, fun e => by rw [e] at w2; simp at w2; omega⟩
  simp [e0, p1, hm, p0, hn, hr, nil_S, hw, sizeL]
theorem m_single_ex (c : Int) : ∃ p, m_law_single [.int c] = .ok (Pt.o p) ∧ okP 0 p := by
  unfold m_law_single g_law_single
  have p1 := m_part_eq c 50 7 (by omega)
  obtain ⟨w, hw, w1⟩ := m_word_ex c
  by_cases a : part c 50 7 < 3
  · exact ⟨.word w, by simp [p1, a, hw, Pt.o, mkTup, sizeL], w1⟩
  by_cases b : part c 50 7 = 3
  · exact ⟨.begin_ w, by simp [p1, b, hw, Pt.o, mkTup, sizeL], w1⟩
  by_cases d : part c 50 7 = 4
  · exact ⟨.fin w, by simp [p1, d, hw, Pt.o, mkTup, sizeL], w1⟩
  by_cases e : part c 50 7 = 5
  · exact ⟨.any, by simp [p1, e, Pt.o, mkTup, sizeL], trivial⟩
  have p2 := m_part_eq c 51 10 (by omega)
  have g1 := part_ge c 51 10 (by omega)
  have g2 := part_lt c 51 10 (by omega)
  obtain ⟨k, hk⟩ := Int.eq_ofNat_of_zero_le g1
  rw [hk] at p2
  exact ⟨.upto k, by simp [p1, a, b, d, e, p2, Pt.o, mkTup, sizeL], by show k ≤ 9; omega⟩
end Sh

namespace Sh
open PySem L2 Fu PyProof.Rows
open SX (S)
/-! ### a drawn question of many cells -/
/-- an open question: its rows, and the last row -/
abbrev OQ := List (List Pt) × List Pt
def OQ.q (x : OQ) : List (List Pt) := x.1 ++ [x.2]
def OQ.o (x : OQ) : O := .lst (Pt.oQ x.1 ++ [.lst (Pt.oR x.2)])
theorem oQ_q (x : OQ) : O.lst (Pt.oQ x.q) = x.o := by
  unfold OQ.o OQ.q
  rw [oQ_map, oQ_map, List.map_append]
  rfl
def OQ.sz (x : OQ) : Nat := Pt.szQ x.1 + Pt.szR x.2 + 8
def gq (n : Nat) (x : OQ) : Prop := (∀ r ∈ x.1, r ≠ [] ∧ okR n r) ∧ okR n x.2
def gs : List OQ → Prop
  | [] => True
  | x :: st => gq (20 - st.length) x ∧ gs st
def ssz (st : List OQ) : Nat := (st.map OQ.sz).sum
def GoodQ (st : List OQ) (x : OQ) (N : Nat) : Prop := st.length ≤ 20 ∧ gs st ∧ gq (20 - st.length) x ∧ ssz st + x.sz ≤ N
theorem gq_ok {n : Nat} {x : OQ} (h : gq n x) (h0 : x.2 ≠ []) : okQ n x.q := by
  refine ⟨by simp [OQ.q], fun r m => ?_⟩
  rcases List.mem_append.mp m with m | m
  · exact h.1 r m
  · have : r = x.2 := by simpa using m
    subst this
    exact ⟨h0, h.2⟩
theorem dataO : ∀ (n : Nat) (p : Pt), okP n p → (Pt.o p).data = p.d := by
  intro n
  have gen : ∀ p : Pt, (∀ q, p ≠ .inn q) → (Pt.o p).data = p.d := by
    intro p hq
    cases p <;> first | (simp [Pt.o, Pt.d]; done) | exact absurd rfl (hq _)
  induction n with
  | zero =>
    intro p h
    cases p with
    | inn q => exact h.elim
    | _ => exact gen _ (by intro q e; cases e)
  | succ n ih =>
    intro p h
    cases p with
    | inn q =>
      rw [Pt.o, Pt.d]
      have hq : O.dataL (Pt.oQ q) = Pt.dQ q := by
        rw [oQ_map, dQ_map, odataL_map, List.map_map]
        refine List.map_congr_left fun r m => ?_
        have hr : O.dataL (Pt.oR r) = Pt.dR r := by
          rw [oR_map, dR_map, odataL_map, List.map_map]
          exact List.map_congr_left fun p m2 => ih p ((h.2 r m).2 p m2)
        simp [hr]
      simp [hq]
    | _ => exact gen _ (by intro q e; cases e)
theorem dataR {n : Nat} {r : List Pt} (h : okR n r) : O.dataL (Pt.oR r) = Pt.dR r := by
  rw [oR_map, dR_map, odataL_map, List.map_map]
  exact List.map_congr_left fun p m2 => dataO n p (h p m2)
theorem dataQ {n : Nat} {q : List (List Pt)} (h : ∀ r ∈ q, r ≠ [] ∧ okR n r) : O.dataL (Pt.oQ q) = Pt.dQ q := by
  rw [oQ_map, dQ_map, odataL_map, List.map_map]
  exact List.map_congr_left fun r m => by simp [dataR (h r m).2]
theorem pureO : ∀ (n : Nat) (p : Pt), okP n p → (Pt.o p).pure = true := by
  intro n
  have gen : ∀ p : Pt, (∀ q, p ≠ .inn q) → (Pt.o p).pure = true := by
    intro p hq
    cases p <;> first | (simp [Pt.o, D.flat, D.flatL]; done) | exact absurd rfl (hq _)
  induction n with
  | zero =>
    intro p h
    cases p with
    | inn q => exact h.elim
    | _ => exact gen _ (by intro q e; cases e)
  | succ n ih =>
    intro p h
    cases p with
    | inn q =>
      rw [Pt.o]
      have hq : O.pureL (Pt.oQ q) = true := by
        rw [oQ_map, O.pureL_all, List.all_map]
        refine List.all_eq_true.mpr fun r m => ?_
        have hr : O.pureL (Pt.oR r) = true := by
          rw [oR_map, O.pureL_all, List.all_map]
          exact List.all_eq_true.mpr fun p m2 => ih p ((h.2 r m).2 p m2)
        simp [O.pure, hr]
      simp [O.pure, O.pureL, hq]
    | _ => exact gen _ (by intro q e; cases e)
theorem pureQ {n : Nat} {q : List (List Pt)} (h : ∀ r ∈ q, r ≠ [] ∧ okR n r) : (O.lst (Pt.oQ q)).pure = true := by
  rw [O.pure, oQ_map, O.pureL_all, List.all_map]
  refine List.all_eq_true.mpr fun r m => ?_
  have hr : O.pureL (Pt.oR r) = true := by
    rw [oR_map, O.pureL_all, List.all_map]
    exact List.all_eq_true.mpr fun p m2 => pureO n p ((h r m).2 p m2)
  simp [O.pure, hr]
theorem dl_app (as : List O) (b : O) : O.dataL (as ++ [b]) = O.dataL as ++ [b.data] := by
  rw [odataL_map, odataL_map, List.map_append]
  rfl
theorem dl_len (as : List O) : (O.dataL as).length = as.length := by rw [odataL_map]; simp
theorem eq_empty (n : Nat) (as : List O) : D.eqb (n + 1) (.lst (O.dataL as)) (.lst []) = some (decide (as = [])) := by
  cases as with
  | nil => rfl
  | cons a as => simp
theorem oR_nil (l : List Pt) : (Pt.oR l = []) = (l = []) := by
  cases l <;> simp [Pt.oR]
/-- one part more -/
def OQ.add (x : OQ) (p : Pt) : OQ := (x.1, x.2 ++ [p])
def OQ.row (x : OQ) : OQ := (x.1 ++ [x.2], [])
theorem oR_app (l : List Pt) (p : Pt) : Pt.oR (l ++ [p]) = Pt.oR l ++ [p.o] := by rw [oR_map, oR_map, List.map_append]; rfl
theorem oQ_app (l : List (List Pt)) (p : List Pt) : Pt.oQ (l ++ [p]) = Pt.oQ l ++ [.lst (Pt.oR p)] := by rw [oQ_map, oQ_map, List.map_append]; rfl
theorem oR_len (l : List Pt) : (Pt.oR l).length = l.length := by rw [oR_map]; simp
theorem oQ_len (l : List (List Pt)) : (Pt.oQ l).length = l.length := by rw [oQ_map]; simp
theorem add_o (x : OQ) (p : Pt) : (x.add p).o = .lst (Pt.oQ x.1 ++ [.lst (Pt.oR x.2 ++ [p.o])]) := by rw [OQ.add, OQ.o, oR_app]
theorem row_o (x : OQ) : x.row.o = .lst (Pt.oQ x.1 ++ [.lst (Pt.oR x.2)] ++ [.lst []]) := by
  rw [OQ.row, OQ.o, oQ_app]
  rfl
def osO (st : List OQ) : O := .lst (st.reverse.map OQ.o)
theorem len_st (st : List OQ) : (O.dataL (st.reverse.map OQ.o)).length = st.length := by rw [dl_len]; simp
theorem eq_st (n : Nat) (st : List OQ) : D.eqb (n + 1) (.lst (O.dataL (st.reverse.map OQ.o))) (.lst []) = some (decide (st = [])) := by
  rw [eq_empty]
  simp
theorem last_ne (n : Nat) (x : OQ) : D.eqb (n + 1) (.lst (O.dataL (Pt.oR x.2))) (.lst []) = some (decide (x.2 = [])) := by
  rw [eq_empty, decide_eq_decide.mpr (Eq.to_iff (oR_nil x.2))]
theorem q_open (st : List OQ) (x : OQ) (c : Int) (o0 w i : Option O) (h1 : part c 52 9 = 0) (h2 : st.length < 20) :
    b_law_question_1 [o0, some (osO st), some x.o, some (.sh (.int c)), w, i] = some (.nx [o0, some (osO (x :: st)), some (OQ.o ([], [])), some (.sh (.int c)), some (.sh (.int (part c 52 9))), i]) := by
  have p1 := m_part_eq c 52 9 (by omega)
  unfold b_law_question_1 osO
  have e : (x :: st).reverse.map OQ.o = st.reverse.map OQ.o ++ [x.o] := by simp
  rw [e]
  have l1 : (st.reverse.map OQ.o).length = st.length := by simp
  have l2 := len_st st
  generalize st.reverse.map OQ.o = so at l1 l2
  generalize x.o = xo
  simp [p1, h1, l1, l2, show (st.length : Int) < 20 by omega, sizeL, show st.length < 16777216 by omega, OQ.o, Pt.oQ, Pt.oR]
theorem q_row (st : List OQ) (x : OQ) (c : Int) (o0 w i : Option O) (h1 : part c 52 9 = 1) (h2 : x.2 ≠ []) (h3 : x.1.length < 1000000) :
    b_law_question_1 [o0, some (osO st), some x.o, some (.sh (.int c)), w, i] = some (.nx [o0, some (osO st), some x.row.o, some (.sh (.int c)), some (.sh (.int (part c 52 9))), i]) := by
  have p1 := m_part_eq c 52 9 (by omega)
  have e1 := last_ne 100 x
  rw [row_o]
  unfold b_law_question_1 OQ.o
  generalize osO st = so
  have l1 := oQ_len x.1
  generalize Pt.oQ x.1 = A at l1
  generalize Pt.oR x.2 = B at e1
  simp [p1, h1, e1, h2, sizeL, l1, show x.1.length + 1 < 16777216 by omega, show x.1.length + 1 ≤ 16777216 by omega, -eqb_lst]
theorem q_add_mid (st : List OQ) (x : OQ) (c : Int) (o0 w i : Option O) (p : Pt) (hs : m_law_single [.int c] = .ok p.o) (h1 : ¬ (part c 52 9 = 0 ∧ st.length < 20)) (h2 : ¬ (part c 52 9 = 1 ∧ x.2 ≠ [])) (h3 : ¬ (part c 52 9 < 4 ∧ x.2 ≠ [] ∧ st ≠ []))
    (hl : x.2.length < 1000000) :
    b_law_question_1 [o0, some (osO st), some x.o, some (.sh (.int c)), w, i] = some (.nx [o0, some (osO st), some (x.add p).o, some (.sh (.int c)), some (.sh (.int (part c 52 9))), i]) := by
  have p1 := m_part_eq c 52 9 (by omega)
  have e1 := last_ne 100 x
  have e2 := eq_st 100 st
  have l3 : (st.reverse.map OQ.o).length = st.length := by simp
  rw [add_o]
  unfold b_law_question_1 OQ.o osO
  have l1 := oQ_len x.1
  have l2 := oR_len x.2
  generalize Pt.oQ x.1 = A at l1
  generalize Pt.oR x.2 = B at e1 l2
  generalize st.reverse.map OQ.o = so at e2 l3
  generalize p.o = po at hs
  have fin : ∀ w' : Option O, mutS "list" (pAt (pVar 2) (eUn tNeg (eC (.int 1)))) (eCall m_law_single (aCons (eVar 3) aNil)) opAppend [o0, some (.lst so), some (.lst (A ++ [.lst B])), some (.sh (.int c)), w', i] =
      some (.nx [o0, some (.lst so), some (.lst (A ++ [.lst (B ++ [po])])), some (.sh (.int c)), w', i]) := fun w' => by
    simp [hs, l2, sizeL, show x.2.length < 16777216 by omega]
  have k2 : ((20 : Int) ≤ st.length) ↔ ¬ st.length < 20 := by omega
  have k3 : ((st.length : Int) < 20) ↔ st.length < 20 := by omega
  by_cases a : part c 52 9 = 0 <;> by_cases a1 : part c 52 9 = 1 <;> by_cases a4 : part c 52 9 < 4 <;> by_cases l : x.2 = [] <;> by_cases s : st = [] <;> by_cases t : st.length < 20 <;>
    first
    | omega
    | (exfalso; rw [s] at t; exact t (by decide))
    | (exfalso; exact h1 (And.intro a t))
    | (exfalso; exact h2 (And.intro a1 l))
    | (exfalso; exact h3 (And.intro a4 (And.intro l s)))
    | (simp only [seqS_eq, asgS_eq, ifS_eq, tAndG_eq, asB_eq]
       simp [p1, a, a1, a4, l, s, l3, e1, e2, sizeL, k2, k3, t, fin, -mutS_eq, -eqb_lst])
theorem inn_o (x : OQ) : Pt.o (.inn x.q) = .tup [.sh (.str (Str.ofString "in")), x.o] := by
  rw [Pt.o, oQ_q]
theorem closing (so : List O) (y x : OQ) (o0 c w i : Option O) (hl : y.2.length < 1000000) :
    (seqS (setMvS 5 2) (seqS (popS (pVar 1) (bName 2)) (appTupS (pAt (pVar 2) (eUn tNeg (eC (.int 1)))) (eC (.str "in")) 5))) [o0, some (.lst (so ++ [y.o])), some x.o, c, w, i] =
      some (.nx [o0, some (.lst so), some (y.add (.inn x.q)).o, c, w, none]) := by
  rw [add_o, inn_o]
  have hi : x.o.isSh = false := rfl
  generalize x.o = xo at hi
  unfold OQ.o
  have l2 := oR_len y.2
  generalize Pt.oQ y.1 = A
  generalize Pt.oR y.2 = B at l2
  simp [sizeL, l2, show y.2.length < 16777216 by omega, mkTup, hi]
theorem q_close (st : List OQ) (y x : OQ) (c : Int) (o0 w i : Option O) (h1 : ¬ (part c 52 9 = 0 ∧ (y :: st).length < 20)) (h2 : ¬ (part c 52 9 = 1)) (h3 : part c 52 9 < 4) (h4 : x.2 ≠ []) (hl : y.2.length < 1000000) :
    b_law_question_1 [o0, some (osO (y :: st)), some x.o, some (.sh (.int c)), w, i] = some (.nx [o0, some (osO st), some (y.add (.inn x.q)).o, some (.sh (.int c)), some (.sh (.int (part c 52 9))), none]) := by
  have p1 := m_part_eq c 52 9 (by omega)
  have e1 := last_ne 100 x
  have e2 := eq_st 100 (y :: st)
  have l3 : ((y :: st).reverse.map OQ.o).length = (y :: st).length := by simp
  have e : (y :: st).reverse.map OQ.o = st.reverse.map OQ.o ++ [y.o] := by simp
  have cl := closing (st.reverse.map OQ.o) y x o0 (some (.sh (.int c))) (some (.sh (.int (part c 52 9)))) i hl
  have k2 : ((20 : Int) ≤ (y :: st).length) ↔ ¬ (y :: st).length < 20 := by omega
  have k3 : (((y :: st).length : Int) < 20) ↔ (y :: st).length < 20 := by omega
  rw [← e] at cl
  unfold b_law_question_1 osO
  have xe : x.o = .lst (Pt.oQ x.1 ++ [.lst (Pt.oR x.2)]) := rfl
  generalize (y.add (.inn x.q)).o = z at cl ⊢
  generalize st.reverse.map OQ.o = so' at cl ⊢
  have s0 : decide ((y :: st) = []) = false := by simp
  rw [s0] at e2
  generalize (y :: st).reverse.map OQ.o = so at e2 l3 cl ⊢
  generalize (y :: st).length = L at l3 k2 k3 h1
  rw [xe] at cl ⊢
  generalize Pt.oQ x.1 = A at cl
  generalize Pt.oR x.2 = B at e1 cl
  by_cases a : part c 52 9 = 0
  · have t : ¬ L < 20 := fun t => h1 ⟨a, t⟩
    rw [a] at cl p1
    simp only [seqS_eq, asgS_eq, ifS_eq, tAndG_eq, asB_eq]
    simp only [seqS_eq] at cl
    simp [p1, a, l3, e1, e2, h4, sizeL, k2, k3, t, cl, -eqb_lst, -setMvS_eq, -popS_eq, -appTupS_eq]
  · simp only [seqS_eq, asgS_eq, ifS_eq, tAndG_eq, asB_eq]
    simp only [seqS_eq] at cl
    simp [p1, a, h2, h3, l3, e1, e2, h4, sizeL, k2, k3, cl, -eqb_lst, -setMvS_eq, -popS_eq, -appTupS_eq]
theorem sz_le45 (p : Pt) (h : okP 0 p) : Pt.sz p ≤ 45 := by
  cases p <;> first | exact h.elim | (simp [Pt.sz]; done) | (have := h.2.1; simp [Pt.sz]; omega)
theorem gs_top {y : OQ} {st : List OQ} (h : gs (y :: st)) : gq (20 - st.length) y ∧ gs st := h
theorem okR_add {n : Nat} {r : List Pt} {p : Pt} (h : okR n r) (k : okP n p) : okR n (r ++ [p]) := fun x m => by
  rcases List.mem_append.mp m with m | m
  · exact h x m
  · have : x = p := by simpa using m
    rw [this]
    exact k
theorem good_add {st : List OQ} {x : OQ} {N : Nat} (g : GoodQ st x N) (p : Pt) (h : okP 0 p) : GoodQ st (x.add p) (N + 50) := by
  obtain ⟨g1, g2, g3, g4⟩ := g
  have := sz_le45 p h
  refine ⟨g1, g2, ⟨g3.1, okR_add g3.2 (okP_le (Nat.zero_le _) p h)⟩, ?_⟩
  simp only [OQ.sz, OQ.add, szR_app, Pt.szR] at g4 ⊢
  omega
theorem good_row {st : List OQ} {x : OQ} {N : Nat} (g : GoodQ st x N) (h : x.2 ≠ []) : GoodQ st x.row (N + 50) := by
  obtain ⟨g1, g2, g3, g4⟩ := g
  refine ⟨g1, g2, ⟨fun r m => ?_, fun p m => by cases m⟩, ?_⟩
  · rcases List.mem_append.mp m with m | m
    · exact g3.1 r m
    · have : r = x.2 := by simpa using m
      subst this
      exact ⟨h, g3.2⟩
  · simp only [OQ.sz, OQ.row, szQ_app, Pt.szR, Pt.szQ] at g4 ⊢
    omega
theorem good_open {st : List OQ} {x : OQ} {N : Nat} (g : GoodQ st x N) (h : st.length < 20) : GoodQ (x :: st) ([], []) (N + 50) := by
  obtain ⟨g1, g2, g3, g4⟩ := g
  refine ⟨by simp; omega, ⟨g3, g2⟩, ⟨fun r m => (by cases m), fun p m => by cases m⟩, ?_⟩
  simp only [OQ.sz, ssz, List.map_cons, List.sum_cons, Pt.szR, Pt.szQ] at g4 ⊢
  omega
theorem good_close {st : List OQ} {y x : OQ} {N : Nat} (g : GoodQ (y :: st) x N) (h : x.2 ≠ []) : GoodQ st (y.add (.inn x.q)) N := by
  obtain ⟨g1, g2, g3, g4⟩ := g
  obtain ⟨g5, g6⟩ := gs_top g2
  simp only [List.length_cons] at g1 g3
  have hq := gq_ok g3 h
  have hp : okP (20 - st.length) (.inn x.q) := by
    have := okP_inn hq
    rw [show 20 - st.length = 20 - (st.length + 1) + 1 by omega]
    exact this
  refine ⟨by omega, g6, ⟨g5.1, okR_add g5.2 hp⟩, ?_⟩
  simp only [OQ.sz, OQ.add, OQ.q, ssz, List.map_cons, List.sum_cons, szR_app, szQ_app, Pt.szR, Pt.szQ, Pt.sz] at g4 ⊢
  omega
theorem good_len {st : List OQ} {x : OQ} {N : Nat} (g : GoodQ st x N) : x.1.length ≤ N ∧ x.2.length ≤ N ∧ (∀ y ∈ st, y.2.length ≤ N) := by
  obtain ⟨g1, g2, g3, g4⟩ := g
  have a := szQ_ge x.1
  have b := szR_ge x.2
  simp only [OQ.sz] at g4
  refine ⟨by omega, by omega, fun y m => ?_⟩
  have c := szR_ge y.2
  have d : y.sz ≤ ssz st := by
    unfold ssz
    clear g1 g2 g3 g4
    induction st with
    | nil => cases m
    | cons z st ih =>
      rcases List.mem_cons.mp m with m | m
      · subst m; simp
      · have := ih m; simp at this ⊢; omega
  simp only [OQ.sz] at d
  omega
theorem q_step (st : List OQ) (x : OQ) (N : Nat) (c : Int) (o0 w i : Option O) (g : GoodQ st x N) (hN : N ≤ 100000) :
    ∃ st' x' w' i', b_law_question_1 [o0, some (osO st), some x.o, some (.sh (.int c)), w, i] = some (.nx [o0, some (osO st'), some (OQ.o x'), some (.sh (.int c)), w', i']) ∧ GoodQ st' x' (N + 50) := by
  obtain ⟨l1, l2, l3⟩ := good_len g
  by_cases a : part c 52 9 = 0 ∧ st.length < 20
  · exact ⟨_, _, _, _, q_open st x c o0 w i a.1 a.2, good_open g a.2⟩
  by_cases b : part c 52 9 = 1 ∧ x.2 ≠ []
  · exact ⟨_, _, _, _, q_row st x c o0 w i b.1 b.2 (by omega), good_row g b.2⟩
  by_cases d : part c 52 9 < 4 ∧ x.2 ≠ [] ∧ st ≠ []
  · cases st with
    | nil => exact absurd rfl d.2.2
    | cons y st =>
      have := l3 y List.mem_cons_self
      have h := good_close g d.2.1
      exact ⟨_, _, _, _, q_close st y x c o0 w i a (fun z => b ⟨z, d.2.1⟩) d.1 d.2.1 (by omega), h.1, h.2.1, h.2.2.1, Nat.le_trans h.2.2.2 (by omega)⟩
  · obtain ⟨p, hs, hp⟩ := m_single_ex c
    exact ⟨_, _, _, _, q_add_mid st x c o0 w i p hs a b d (by omega), good_add g p hp⟩
theorem q_loop (o0 : Option O) (cells : List Int) (hc : cells.length ≤ 100) : ∃ st x d w i, loopS (bName 3) b_law_question_1 (cells.map D.int) [o0, some (osO []), some (OQ.o ([], [])), none, none, none] = some (.nx [o0, some (osO st), some (OQ.o x), d, w, i]) ∧ GoodQ st x 6000 := by
  have h0 : GoodQ [] ([], []) 8 := ⟨by simp, trivial, ⟨fun r m => (by cases m), fun p m => by cases m⟩, by simp [ssz, OQ.sz, Pt.szQ, Pt.szR]⟩
  obtain ⟨e2, h, st, x, d, w, i, he, hg⟩ := loop_ex (b := bName 3) (body := b_law_question_1) D.int
    (fun l e => ∃ st x d w i, e = [o0, some (osO st), some (OQ.o x), d, w, i] ∧ GoodQ st x (8 + 50 * (cells.length - l.length)) ∧ l.length ≤ cells.length)
    (fun a l e k => by
      obtain ⟨st, x, d, w, i, rfl, hg, hl⟩ := k
      simp at hl
      obtain ⟨st', x', w', i', h1, h2⟩ := q_step st x _ a o0 w i hg (by simp; omega)
      refine ⟨_, _, rfl, .inl h1, st', x', _, w', i', rfl, ?_, by omega⟩
      rw [show 8 + 50 * (cells.length - l.length) = 8 + 50 * (cells.length - (a :: l).length) + 50 by simp; omega]
      exact h2)
    cells _ ⟨[], ([], []), none, none, none, rfl, by simpa using h0, by simp⟩
  refine ⟨st, x, d, w, i, by rw [h, he], ?_⟩
  obtain ⟨g1, g2, g3, g4⟩ := hg.1
  exact ⟨g1, g2, g3, Nat.le_trans g4 (by simp; omega)⟩
/-! closing what is open -/
theorem w_test (st : List OQ) (x : OQ) (o0 d w i : Option O) : t_law_question_2 (up [o0, some (osO st), some x.o, d, w, i]) = .ok (!(decide (st = []) && decide (x.2 ≠ []))) := by
  have e1 := last_ne 100 x
  have e2 := eq_st 100 st
  unfold t_law_question_2 osO
  generalize st.reverse.map OQ.o = so at e2 ⊢
  unfold OQ.o
  generalize Pt.oQ x.1 = A
  generalize Pt.oR x.2 = B at e1
  by_cases a : st = [] <;> by_cases b : x.2 = [] <;> simp [e1, e2, a, b, -eqb_lst]
theorem any_o : Pt.o .any = .sh (.tup [.str (Str.ofString "any")]) := by rw [Pt.o]
theorem w_any (st : List OQ) (x : OQ) (o0 d w i : Option O) (h : x.2 = []) : b_law_question_3 [o0, some (osO st), some x.o, d, w, i] = some (.nx [o0, some (osO st), some (x.add .any).o, d, w, i]) := by
  have e1 := last_ne 100 x
  rw [add_o, any_o]
  unfold b_law_question_3 OQ.o
  have l2 := oR_len x.2
  generalize osO st = so
  generalize Pt.oQ x.1 = A
  generalize Pt.oR x.2 = B at e1 l2
  rw [h] at l2
  simp [e1, h, sizeL, l2, mkTup, O.isSh, -eqb_lst]
theorem w_close (st : List OQ) (y x : OQ) (o0 d w i : Option O) (h : x.2 ≠ []) (hl : y.2.length < 1000000) : b_law_question_3 [o0, some (osO (y :: st)), some x.o, d, w, i] = some (.nx [o0, some (osO st), some (y.add (.inn x.q)).o, d, w, none]) := by
  have e1 := last_ne 100 x
  have cl := closing (st.reverse.map OQ.o) y x o0 d w i hl
  have e : (y :: st).reverse.map OQ.o = st.reverse.map OQ.o ++ [y.o] := by simp
  unfold b_law_question_3 osO
  rw [e]
  generalize (y.add (.inn x.q)).o = z at cl ⊢
  generalize st.reverse.map OQ.o ++ [y.o] = so at cl ⊢
  generalize st.reverse.map OQ.o = so' at cl ⊢
  have xe : x.o = .lst (Pt.oQ x.1 ++ [.lst (Pt.oR x.2)]) := rfl
  rw [xe] at cl ⊢
  generalize Pt.oQ x.1 = A at cl ⊢
  generalize Pt.oR x.2 = B at e1 cl ⊢
  simp only [seqS_eq] at cl
  simp [e1, h, cl, -eqb_lst, -setMvS_eq, -popS_eq, -appTupS_eq]
theorem w_loop (o0 d w : Option O) : ∀ (n : Nat) (st : List OQ) (x : OQ) (N : Nat) (i : Option O), st.length + (if x.2 = [] then 1 else 0) = n → GoodQ st x N → N + 50 * n ≤ 100000 →
    ∃ y i', wloop t_law_question_2 b_law_question_3 (n + 1) [o0, some (osO st), some x.o, d, w, i] = some (.nx [o0, some (osO []), some (OQ.o y), d, w, i']) ∧ GoodQ [] y (N + 50 * n) ∧ y.2 ≠ []
  | 0, st, x, N, i, hn, g, hN => by
    have h1 : st = [] := by cases st with
      | nil => rfl
      | cons y st => simp at hn
    have h2 : ¬ x.2 = [] := fun e => by rw [if_pos e] at hn; omega
    subst h1
    refine ⟨x, i, ?_, by simpa using g, h2⟩
    rw [wloop, w_test]
    simp [h2]
  | n + 1, st, x, N, i, hn, g, hN => by
    obtain ⟨l1, l2, l3⟩ := good_len g
    by_cases h : x.2 = []
    · rw [if_pos h] at hn
      have g' := good_add g .any trivial
      have ne : (x.add .any).2 ≠ [] := by simp [OQ.add]
      obtain ⟨y, i', h1, h2, h3⟩ := w_loop o0 d w n st (x.add .any) (N + 50) i (by rw [if_neg ne]; omega) g' (by omega)
      refine ⟨y, i', ?_, ?_, h3⟩
      · rw [wloop, w_test, w_any st x o0 d w i h]
        simp [h, h1]
      · rw [show N + 50 * (n + 1) = N + 50 + 50 * n by omega]; exact h2
    · rw [if_neg h] at hn
      cases st with
      | nil => simp at hn
      | cons y st =>
        have g' := good_close g h
        have := l3 y List.mem_cons_self
        have ne : (y.add (.inn x.q)).2 ≠ [] := by simp [OQ.add]
        obtain ⟨z, i', h1, h2, h3⟩ := w_loop o0 d w n st (y.add (.inn x.q)) N none (by rw [if_neg ne]; simp at hn; omega) g' (by omega)
        refine ⟨z, i', ?_, ?_, h3⟩
        · rw [wloop, w_test, w_close st y x o0 d w i h (by omega)]
          simp [h1]
        · exact ⟨h2.1, h2.2.1, h2.2.2.1, Nat.le_trans h2.2.2.2 (by omega)⟩
theorem m_question_ex (cells : List Int) (hc : cells.length ≤ 100) : ∃ q, m_law_question [.lst (cells.map D.int)] = .ok (.lst (Pt.oQ q)) ∧ okQ 20 q ∧ Pt.szQ q ≤ 10000 := by
  obtain ⟨st, x, d, w, i, h1, g⟩ := q_loop (some (.sh (.lst (cells.map D.int)))) cells hc
  have hn : st.length + (if x.2 = [] then 1 else 0) ≤ 21 := by have := g.1; split <;> omega
  obtain ⟨y, i', h2, g2, h3⟩ := w_loop (some (.sh (.lst (cells.map D.int)))) d w _ st x 6000 i rfl g (by omega)
  have h4 := whileS_of h2
  have hq := gq_ok g2.2.2.1 h3
  refine ⟨y.q, ?_, hq, ?_⟩
  · have pu := pureQ hq.2
    rw [oQ_q] at pu ⊢
    have z1 : osO [] = .lst [] := rfl
    have z2 : OQ.o ([], []) = .lst [.lst []] := by simp [OQ.o, Pt.oQ, Pt.oR]
    rw [z1, z2] at h1
    unfold m_law_question g_law_question
    simp [h1, h4, sizeL, pu]
  · have := g2.2.2.2
    simp only [ssz, OQ.sz, OQ.q, szQ_app, Pt.szQ, List.map_nil, List.sum_nil] at this ⊢
    omega
theorem cmpP : ∀ (n m : Nat) (p : Pt), okP n p → D.cmp (3 * n + 1 + m) p.d = true := by
  intro n
  have gen : ∀ (k : Nat) (p : Pt), (∀ q, p ≠ .inn q) → D.cmp (k + 1) p.d = true := by
    intro k p hq
    cases p <;> first | (simp [Pt.d, D.cmp, D.cmpL]; done) | exact absurd rfl (hq _)
  induction n with
  | zero =>
    intro m p h
    rw [show 3 * 0 + 1 + m = m + 1 by omega]
    cases p with
    | inn q => exact h.elim
    | _ => exact gen _ _ (by intro q e; cases e)
  | succ n ih =>
    intro m p h
    cases p with
    | inn q =>
      rw [show 3 * (n + 1) + 1 + m = 3 * n + 1 + m + 1 + 1 + 1 by omega, Pt.d, D.cmp, D.cmpL, D.cmpL, D.cmpL, D.cmp, dQ_map]
      simp only [Bool.true_and, Bool.and_true]
      show D.cmp (3 * n + 1 + m + 1 + 1) _ = true
      rw [D.cmp, cmpL_all, List.all_map]
      refine List.all_eq_true.mpr fun r m2 => ?_
      show D.cmp _ (.lst (Pt.dR r)) = true
      rw [D.cmp, dR_map, cmpL_all, List.all_map]
      exact List.all_eq_true.mpr fun p m3 => ih m p ((h.2 r m2).2 p m3)
    | _ =>
      rw [show 3 * (n + 1) + 1 + m = 3 * n + 3 + m + 1 by omega]
      exact gen _ _ (by intro q e; cases e)
theorem cmpQ (n m : Nat) (q : List (List Pt)) (h : ∀ r ∈ q, r ≠ [] ∧ okR n r) : D.cmp (3 * n + 3 + m) (.lst (Pt.dQ q)) = true := by
  rw [show 3 * n + 3 + m = 3 * n + 1 + m + 1 + 1 by omega, D.cmp, dQ_map, cmpL_all, List.all_map]
  refine List.all_eq_true.mpr fun r m2 => ?_
  show D.cmp _ (.lst (Pt.dR r)) = true
  rw [D.cmp, dR_map, cmpL_all, List.all_map]
  exact List.all_eq_true.mpr fun p m3 => cmpP n m p ((h r m2).2 p m3)
theorem eqbQ (n : Nat) (hn : n ≤ 30) (q : List (List Pt)) (h : ∀ r ∈ q, r ≠ [] ∧ okR n r) : D.eqb 101 (.lst (Pt.dQ q)) (.lst (Pt.dQ q)) = some true := by
  refine eqb_self _ _ ?_
  have := cmpQ n (101 - (3 * n + 3)) q h
  rwa [show 3 * n + 3 + (101 - (3 * n + 3)) = 101 by omega] at this
theorem plain_o (p : Pt) (h : okP 0 p) : p.o = .sh p.d ∧ p.d.flat = true := by
  cases p <;> first | exact h.elim | (simp [Pt.o, Pt.d, D.flat, D.flatL])
end Sh

namespace K31
open PySem L2 Fu PyProof.Rows
def top (i : Nat) : Stmt := PySem.Challenge.pw_besidewords_k31_a_question_shown.main.body.getD i (.Pass ⟨0, 0, 0, 0⟩)
/-! _law_cell_at -/
abbrev s_law_cell_at : Stmt := top 4
abbrev n_law_cell_at : List Str := ["_law_script", "_law_k"]
abbrev p_law_cell_at : List Str := ["_law_script", "_law_k"]
/-! _law_part -/
abbrev s_law_part : Stmt := top 5
abbrev n_law_part : List Str := ["_law_cell", "_law_k", "_law_many"]
abbrev p_law_part : List Str := ["_law_cell", "_law_k", "_law_many"]
/-! _law_word -/
abbrev s_law_word : Stmt := top 6
abbrev n_law_word : List Str := ["_law_cell", "_law_signs", "_law_word_here", "_law_k"]
abbrev p_law_word : List Str := ["_law_cell"]
/-! _law_single -/
abbrev s_law_single : Stmt := top 7
abbrev n_law_single : List Str := ["_law_cell", "_law_way"]
abbrev p_law_single : List Str := ["_law_cell"]
/-! _law_question -/
abbrev s_law_question : Stmt := top 8
abbrev n_law_question : List Str := ["_law_cells", "_law_opened", "_law_question_here", "_law_cell", "_law_way", "_law_inner"]
abbrev p_law_question : List Str := ["_law_cells"]
/-! show_part -/
abbrev s_show_part : Stmt := top 1
abbrev n_show_part : List Str := ["part"]
abbrev p_show_part : List Str := ["part"]
/-! show_question -/
abbrev s_show_question : Stmt := top 2
abbrev n_show_question : List Str := ["question", "rows", "row", "part"]
abbrev p_show_question : List Str := ["question"]
/-! _law_part_text -/
abbrev s_law_part_text : Stmt := top 9
abbrev n_law_part_text : List Str := ["_law_part_here"]
abbrev p_law_part_text : List Str := ["_law_part_here"]
/-! _law_text -/
abbrev s_law_text : Stmt := top 10
abbrev n_law_text : List Str := ["_law_question_here", "_law_text_here", "_law_row", "_law_part_here"]
abbrev p_law_text : List Str := ["_law_question_here"]
/-! law -/
abbrev s_law : Stmt := top 11
abbrev n_law : List Str := ["_law_script", "_law_cells", "_law_handed", "_law_text_here", "_law_part_here"]
abbrev p_law : List Str := ["_law_script"]
noncomputable def g_law : FS :=
  (seqS (asgS (bName 1) (eSl (eVar 0) (oSome (eC (.int 1))) (oSome (eC (.int 45)))))
  (seqS (asgS (bName 2) (eCall Sh.m_law_question (aCons (eVar 1) aNil)))
  (seqS (asgS (bName 3) (eCall Sh.m_show_question (aCons (eVar 2) aNil)))
  (seqS (ifS (tOrG (tNotG (asB (eIsa "str" (eVar 3)))) (tOrG (asB (eOp tNe (eVar 3) (eCall Sh.m_law_text_v4 (aCons (eCall Sh.m_law_question (aCons (eVar 1) aNil)) aNil)))) (asB (eOp tNe (eVar 2) (eCall Sh.m_law_question (aCons (eVar 1) aNil))))))
  (retS (eC (.bl false)))
  skipS)
  (seqS (asgS (bName 4) (eCall Sh.m_law_single (aCons (eCall Sh.m_law_cell_at (aCons (eVar 0) (aCons (eC (.int 0)) aNil))) aNil)))
  (seqS (asgS (bName 3) (eCall Sh.m_law_part_text (aCons (eVar 4) aNil)))
  (seqS (frzS 4 (ifS (tOrG (asB (eOp tNe (eCall Sh.m_show_question (aCons (eArgs dLst (aCons (eArgs dLst (aCons (eVar 4) aNil)) aNil)) aNil)) (eVar 3))) (asB (eOp tNe (eCall Sh.m_show_question (aCons (eArgs dLst (aCons (eArgs dLst (aCons (eArgs dTup (aCons (eC (.str "in")) (aCons (eArgs dLst (aCons (eArgs dLst (aCons (eVar 4) aNil)) aNil)) aNil))) aNil)) aNil)) aNil)) (eOp tAdd (eOp tAdd (eC (.str "( ")) (eVar 3)) (eC (.str " )"))))))
  (retS (eC (.bl false)))
  skipS))
  (retS (eOp tEq (eCall Sh.m_show_question (aCons (eArgs dLst (aCons (eArgs dLst (aCons (eVar 4) aNil)) (aCons (eArgs dLst (aCons (eArgs dTup (aCons (eC (.str "any")) aNil)) (aCons (eVar 4) aNil))) aNil))) aNil)) (eOp tAdd (eOp tAdd (eVar 3) (eC (.str " | ? "))) (eVar 3)))))))))))
noncomputable def m_law : List D → M O := run 5 g_law
end K31

namespace K31
open PySem L2 Fu PyProof.Rows
open SX (S)
open Sh (Pt okP okQ okR wO sizeL)
theorem law_true (ns : List Int) (hn : ns.length ≤ 63) : m_law [.rol (ns.map D.int)] = .ok (.sh (.bl true)) := by
  have hx : cutL (ns.map D.int) (some 1) (some 45) = (cutL ns (some 1) (some 45)).map D.int := by simp [cutL]
  have hl : (cutL ns (some 1) (some 45)).length ≤ 63 := by simp [cutL]; omega
  obtain ⟨q, mq, hq, hz⟩ := Sh.m_question_ex (cutL ns (some 1) (some 45)) (by omega)
  have sq : Sh.m_show_question [.lst (Pt.dQ q)] = _ := (Sh.show_ok 20 80).2 (by omega) q hq.2 (by omega)
  have tq : Sh.m_law_text_v4 [.lst (Pt.dQ q)] = _ := (Sh.lt_ok 80 20).2 (by omega) q hq (by omega)
  obtain ⟨p, mp, hp⟩ := Sh.m_single_ex (ns.getD 0 0)
  have c0 : Sh.m_law_cell_at [.rol (ns.map D.int), .int 0] = .ok (.sh (.int (ns.getD 0 0))) := Sh.cell_eq ns 0
  have zp := Sh.sz_le45 p hp
  have tp : Sh.m_law_part_text [p.d] = _ := (Sh.lt_ok 80 20).1 (by omega) p (Sh.okP_le (by omega) p hp) (by omega)
  obtain ⟨po, pf⟩ := Sh.plain_o p hp
  have dq := Sh.dataQ hq.2
  have eq := Sh.eqbQ 20 (by omega) q hq.2
  have lp := Sh.tx_len 0 p hp
  -- the three small questions
  have h1 : ∀ r ∈ [[p]], r ≠ [] ∧ okR 1 r := fun r m => by
    have : r = [p] := by simpa using m
    subst this
    exact ⟨by simp, fun x m2 => by have : x = p := by simpa using m2
                                   rw [this]; exact Sh.okP_up 0 p hp⟩
  have h0 : ∀ r ∈ [[p]], r ≠ [] ∧ okR 0 r := fun r m => by
    have : r = [p] := by simpa using m
    subst this
    exact ⟨by simp, fun x m2 => by have : x = p := by simpa using m2
                                   rw [this]; exact hp⟩
  have h2 : ∀ r ∈ [[Pt.inn [[p]]]], r ≠ [] ∧ okR 1 r := fun r m => by
    have : r = [Pt.inn [[p]]] := by simpa using m
    subst this
    exact ⟨by simp, fun x m2 => by have : x = Pt.inn [[p]] := by simpa using m2
                                   rw [this]; exact ⟨by simp, h0⟩⟩
  have h3 : ∀ r ∈ [[p], [Pt.any, p]], r ≠ [] ∧ okR 0 r := fun r m => by
    have : r = [p] ∨ r = [Pt.any, p] := by simpa using m
    rcases this with rfl | rfl
    · exact ⟨by simp, fun x m2 => by have : x = p := by simpa using m2
                                     rw [this]; exact hp⟩
    · exact ⟨by simp, fun x m2 => by
        have : x = Pt.any ∨ x = p := by simpa using m2
        rcases this with rfl | rfl
        · trivial
        · exact hp⟩
  have s1 : Sh.m_show_question [.lst (Pt.dQ [[p]])] = _ := (Sh.show_ok 20 80).2 (by omega) [[p]] (fun r m => ⟨(h0 r m).1, fun x m2 => Sh.okP_le (by omega) x ((h0 r m).2 x m2)⟩) (by simp [Pt.szQ, Pt.szR]; omega)
  have s2 : Sh.m_show_question [.lst (Pt.dQ [[Pt.inn [[p]]]])] = _ := (Sh.show_ok 20 80).2 (by omega) [[Pt.inn [[p]]]] (fun r m => ⟨(h2 r m).1, fun x m2 => Sh.okP_le (by omega) x ((h2 r m).2 x m2)⟩) (by simp [Pt.szQ, Pt.szR, Pt.sz]; omega)
  have s3 : Sh.m_show_question [.lst (Pt.dQ [[p], [Pt.any, p]])] = _ := (Sh.show_ok 20 80).2 (by omega) [[p], [Pt.any, p]] (fun r m => ⟨(h3 r m).1, fun x m2 => Sh.okP_le (by omega) x ((h3 r m).2 x m2)⟩) (by simp [Pt.szQ, Pt.szR, Pt.sz]; omega)
  simp [Pt.dQ, Pt.dR, Pt.d, Pt.txQ, Pt.txR, Pt.tx, TL.joinL] at s1 s2 s3
  generalize Pt.dQ q = dQ at *
  generalize TL.joinL Sh.bar (Pt.txQ q) = tQ at *
  rw [po] at mp
  generalize p.d = pd at *
  generalize hpt : p.tx = pt at *
  generalize Pt.oQ q = oQ at *
  have l1 : pt.length ≤ 45 := by omega
  have e1 : Str.ofString " | ? " = S [32, 124, 32, 63, 32] := by decide +kernel
  generalize ns.getD 0 0 = n0 at c0 mp
  unfold m_law g_law
  simp [hx, mq, dq, sq, tq, eq, c0, mp, tp, pf, s1, s2, s3, isaB, sizeL, mkTup, O.isSh, Sh.tx4, Sh.tx5, e1, S_add, Function.comp_def, show 2 + pt.length ≤ 16777216 by omega, show pt.length + 4 ≤ 16777216 by omega, show pt.length + 5 ≤ 16777216 by omega, show 2 + (pt.length + 2) ≤ 16777216 by omega, show pt.length + 5 + pt.length ≤ 16777216 by omega, show pt.length + (pt.length + 5) ≤ 16777216 by omega, -eqb_lst]
end K31

namespace K31
open PySem L2 Fu PyProof.Rows
structure FnAt (K : PySem.W.Frag) (mg : Mg) (x : Str) (st : Stmt) (ps : List Str) (f : Addr) (fd : FuncData) : Prop where
  F : Fun K x x st f fd
  m : mg x = some (.ref f)
  b : Binds K fd ps []
structure Tx (K : PySem.W.Frag) (mg : Mg) where
  a_law_cell_at : Addr
  d_law_cell_at : FuncData
  law_cell_at : FnAt K mg "_law_cell_at" s_law_cell_at p_law_cell_at a_law_cell_at d_law_cell_at
  a_law_part : Addr
  d_law_part : FuncData
  law_part : FnAt K mg "_law_part" s_law_part p_law_part a_law_part d_law_part
  a_law_word : Addr
  d_law_word : FuncData
  law_word : FnAt K mg "_law_word" s_law_word p_law_word a_law_word d_law_word
  a_law_single : Addr
  d_law_single : FuncData
  law_single : FnAt K mg "_law_single" s_law_single p_law_single a_law_single d_law_single
  a_law_question : Addr
  d_law_question : FuncData
  law_question : FnAt K mg "_law_question" s_law_question p_law_question a_law_question d_law_question
  a_show_part : Addr
  d_show_part : FuncData
  show_part : FnAt K mg "show_part" s_show_part p_show_part a_show_part d_show_part
  a_show_question : Addr
  d_show_question : FuncData
  show_question : FnAt K mg "show_question" s_show_question p_show_question a_show_question d_show_question
  a_law_part_text : Addr
  d_law_part_text : FuncData
  law_part_text : FnAt K mg "_law_part_text" s_law_part_text p_law_part_text a_law_part_text d_law_part_text
  a_law_text : Addr
  d_law_text : FuncData
  law_text : FnAt K mg "_law_text" s_law_text p_law_text a_law_text d_law_text
  a_law : Addr
  d_law : FuncData
  law : FnAt K mg "law" s_law p_law a_law d_law
  b_isinstance : mg "isinstance" = none
  b_len : mg "len" = none
  b_range : mg "range" = none
  b_str : mg "str" = none
section
variable {P : Program} {w : World} {K : PySem.W.Frag} {mg : Mg} {base : Heap}
theorem sc_law_cell_at : FnScope n_law_cell_at p_law_cell_at (defScope s_law_cell_at) := ⟨rfl, rfl, rfl, by decide +kernel, rfl, by decide +kernel, by decide +kernel⟩
theorem ok_law_cell_at (T : Tx K mg) : FnOk P w K mg base (L2.CX P w) 1 T.a_law_cell_at T.d_law_cell_at p_law_cell_at (spF K mg 2 Sh.m_law_cell_at) :=
  fn_F (k := 0) (n := 2) (np := 2) (g := Sh.g_law_cell_at) (N := n_law_cell_at) (ps := p_law_cell_at) rfl rfl T.law_cell_at.F sc_law_cell_at fun cdv A outer s H E hr => by
    have nd := (sc_law_cell_at).nd
    have hu : (A.deeper (envOfC "_law_cell_at" (defScope s_law_cell_at) s.heap.objs.size T.a_law_cell_at cdv)).units + 150 < cLine := by have := hr.un; omega
    have tk : Takes (cxOf (L2.CX P w) P w K mg base n_law_cell_at "_law_cell_at" (defScope s_law_cell_at) T.a_law_cell_at cdv A outer s H E) (fun cls d _ H => E cls d H) := takes_of rfl rfl rfl rfl
    have hp : PassesOwn (model P w) (A.deeper (envOfC "_law_cell_at" (defScope s_law_cell_at) s.heap.objs.size T.a_law_cell_at cdv)) (cxOf (L2.CX P w) P w K mg base n_law_cell_at "_law_cell_at" (defScope s_law_cell_at) T.a_law_cell_at cdv A outer s H E).env (cxOf (L2.CX P w) P w K mg base n_law_cell_at "_law_cell_at" (defScope s_law_cell_at) T.a_law_cell_at cdv A outer s H E).xe := passes_of rfl
    exact ⟨_, (rb_cons (rs_if (rt_cmp (op_ltF hu) ov_lt (re_var 1) (re_len (by rfl) T.b_len (ra_cons (re_var 0) ra_nil)) (nomark _))
  (rb_one (rs_ret (re_at hu (re_var 0) (re_var 1))))
  rb_nil)
  (rb_one (rs_ret re_int)))⟩
theorem sc_law_part : FnScope n_law_part p_law_part (defScope s_law_part) := ⟨rfl, rfl, rfl, by decide +kernel, rfl, by decide +kernel, by decide +kernel⟩
theorem ok_law_part (T : Tx K mg) : FnOk P w K mg base (L2.CX P w) 1 T.a_law_part T.d_law_part p_law_part (spF K mg 3 Sh.m_law_part) :=
  fn_F (k := 0) (n := 3) (np := 3) (g := Sh.g_law_part) (N := n_law_part) (ps := p_law_part) rfl rfl T.law_part.F sc_law_part fun cdv A outer s H E hr => by
    have nd := (sc_law_part).nd
    have hu : (A.deeper (envOfC "_law_part" (defScope s_law_part) s.heap.objs.size T.a_law_part cdv)).units + 150 < cLine := by have := hr.un; omega
    have tk : Takes (cxOf (L2.CX P w) P w K mg base n_law_part "_law_part" (defScope s_law_part) T.a_law_part cdv A outer s H E) (fun cls d _ H => E cls d H) := takes_of rfl rfl rfl rfl
    have hp : PassesOwn (model P w) (A.deeper (envOfC "_law_part" (defScope s_law_part) s.heap.objs.size T.a_law_part cdv)) (cxOf (L2.CX P w) P w K mg base n_law_part "_law_part" (defScope s_law_part) T.a_law_part cdv A outer s H E).env (cxOf (L2.CX P w) P w K mg base n_law_part "_law_part" (defScope s_law_part) T.a_law_part cdv A outer s H E).xe := passes_of rfl
    exact ⟨_, (rb_one (rs_ret (re_mod (re_mod (re_mul (re_mod (re_mul (re_add (re_mod (re_var 0) re_int) re_int) (re_add re_int (re_mul re_int (re_var 1)))) re_int) (re_add (re_var 1) re_int)) re_int) (re_var 2))))⟩
theorem sc_law_word : FnScope n_law_word p_law_word (defScope s_law_word) := ⟨rfl, rfl, rfl, by decide +kernel, rfl, by decide +kernel, by decide +kernel⟩
theorem ok_law_word (T : Tx K mg) : FnOk P w K mg base (L2.CX P w) 2 T.a_law_word T.d_law_word p_law_word (spF K mg 1 Sh.m_law_word) :=
  fn_F (k := 1) (n := 4) (np := 1) (g := Sh.g_law_word) (N := n_law_word) (ps := p_law_word) rfl rfl T.law_word.F sc_law_word fun cdv A outer s H E hr => by
    have nd := (sc_law_word).nd
    have hu : (A.deeper (envOfC "_law_word" (defScope s_law_word) s.heap.objs.size T.a_law_word cdv)).units + 150 < cLine := by have := hr.un; omega
    have tk : Takes (cxOf (L2.CX P w) P w K mg base n_law_word "_law_word" (defScope s_law_word) T.a_law_word cdv A outer s H E) (fun cls d _ H => E cls d H) := takes_of rfl rfl rfl rfl
    have hp : PassesOwn (model P w) (A.deeper (envOfC "_law_word" (defScope s_law_word) s.heap.objs.size T.a_law_word cdv)) (cxOf (L2.CX P w) P w K mg base n_law_word "_law_word" (defScope s_law_word) T.a_law_word cdv A outer s H E).env (cxOf (L2.CX P w) P w K mg base n_law_word "_law_word" (defScope s_law_word) T.a_law_word cdv A outer s H E).xe := passes_of rfl
    exact ⟨_, (rb_cons (rs_set 1 nd re_str)
  (rb_cons (rs_set 2 nd re_str)
  (rb_cons (rs_for hp rfl (ri_range1 (by rfl) T.b_range (ra_cons (re_add re_int (re_call tk (ok_law_part T) (hr.mono (by decide)) (by rfl) T.law_part.m T.law_part.F.kp T.law_part.b (ra_cons (re_var 0) (ra_cons re_int (ra_cons (re_at hu (re_lst (ra_cons re_int (ra_cons re_int (ra_cons re_int ra_nil)))) (re_call tk (ok_law_part T) (hr.mono (by decide)) (by rfl) T.law_part.m T.law_part.F.kp T.law_part.b (ra_cons (re_var 0) (ra_cons re_int (ra_cons re_int ra_nil))) rfl (aCons_len (aCons_len (aCons_len aNil_len))))) ra_nil))) rfl (aCons_len (aCons_len (aCons_len aNil_len))))) ra_nil)) (rg_name 3 nd)
  (rb_one (rs_set 2 nd (re_add (re_var 2) (re_at hu (re_var 1) (re_call tk (ok_law_part T) (hr.mono (by decide)) (by rfl) T.law_part.m T.law_part.F.kp T.law_part.b (ra_cons (re_var 0) (ra_cons (re_add (re_var 3) re_int) (ra_cons re_int ra_nil))) rfl (aCons_len (aCons_len (aCons_len aNil_len)))))))))
  (rb_one (rs_retMv 2)))))⟩
theorem sc_law_single : FnScope n_law_single p_law_single (defScope s_law_single) := ⟨rfl, rfl, rfl, by decide +kernel, rfl, by decide +kernel, by decide +kernel⟩
theorem ok_law_single (T : Tx K mg) : FnOk P w K mg base (L2.CX P w) 3 T.a_law_single T.d_law_single p_law_single (spF K mg 1 Sh.m_law_single) :=
  fn_F (k := 2) (n := 2) (np := 1) (g := Sh.g_law_single) (N := n_law_single) (ps := p_law_single) rfl rfl T.law_single.F sc_law_single fun cdv A outer s H E hr => by
    have nd := (sc_law_single).nd
    have hu : (A.deeper (envOfC "_law_single" (defScope s_law_single) s.heap.objs.size T.a_law_single cdv)).units + 150 < cLine := by have := hr.un; omega
    have tk : Takes (cxOf (L2.CX P w) P w K mg base n_law_single "_law_single" (defScope s_law_single) T.a_law_single cdv A outer s H E) (fun cls d _ H => E cls d H) := takes_of rfl rfl rfl rfl
    have hp : PassesOwn (model P w) (A.deeper (envOfC "_law_single" (defScope s_law_single) s.heap.objs.size T.a_law_single cdv)) (cxOf (L2.CX P w) P w K mg base n_law_single "_law_single" (defScope s_law_single) T.a_law_single cdv A outer s H E).env (cxOf (L2.CX P w) P w K mg base n_law_single "_law_single" (defScope s_law_single) T.a_law_single cdv A outer s H E).xe := passes_of rfl
    exact ⟨_, (rb_cons (rs_set 1 nd (re_call tk (ok_law_part T) (hr.mono (by decide)) (by rfl) T.law_part.m T.law_part.F.kp T.law_part.b (ra_cons (re_var 0) (ra_cons re_int (ra_cons re_int ra_nil))) rfl (aCons_len (aCons_len (aCons_len aNil_len)))))
  (rb_cons (rs_if (rt_cmp (op_ltF hu) ov_lt (re_var 1) re_int (nomark _))
  (rb_one (rs_ret (re_tup (ra_cons re_str (ra_cons (re_call tk (ok_law_word T) (hr.mono (by decide)) (by rfl) T.law_word.m T.law_word.F.kp T.law_word.b (ra_cons (re_var 0) ra_nil) rfl (aCons_len aNil_len)) ra_nil)))))
  rb_nil)
  (rb_cons (rs_if (rt_cmp (op_eqF hu) ov_eq (re_var 1) re_int (nomark _))
  (rb_one (rs_ret (re_tup (ra_cons re_str (ra_cons (re_call tk (ok_law_word T) (hr.mono (by decide)) (by rfl) T.law_word.m T.law_word.F.kp T.law_word.b (ra_cons (re_var 0) ra_nil) rfl (aCons_len aNil_len)) ra_nil)))))
  rb_nil)
  (rb_cons (rs_if (rt_cmp (op_eqF hu) ov_eq (re_var 1) re_int (nomark _))
  (rb_one (rs_ret (re_tup (ra_cons re_str (ra_cons (re_call tk (ok_law_word T) (hr.mono (by decide)) (by rfl) T.law_word.m T.law_word.F.kp T.law_word.b (ra_cons (re_var 0) ra_nil) rfl (aCons_len aNil_len)) ra_nil)))))
  rb_nil)
  (rb_cons (rs_if (rt_cmp (op_eqF hu) ov_eq (re_var 1) re_int (nomark _))
  (rb_one (rs_ret (re_tup (ra_cons re_str ra_nil))))
  rb_nil)
  (rb_one (rs_ret (re_tup (ra_cons re_str (ra_cons (re_call tk (ok_law_part T) (hr.mono (by decide)) (by rfl) T.law_part.m T.law_part.F.kp T.law_part.b (ra_cons (re_var 0) (ra_cons re_int (ra_cons re_int ra_nil))) rfl (aCons_len (aCons_len (aCons_len aNil_len)))) ra_nil))))))))))⟩
theorem sc_law_question : FnScope n_law_question p_law_question (defScope s_law_question) := ⟨rfl, rfl, rfl, by decide +kernel, rfl, by decide +kernel, by decide +kernel⟩
theorem ok_law_question (T : Tx K mg) : FnOk P w K mg base (L2.CX P w) 4 T.a_law_question T.d_law_question p_law_question (spF K mg 1 Sh.m_law_question) :=
  fn_F (k := 3) (n := 6) (np := 1) (g := Sh.g_law_question) (N := n_law_question) (ps := p_law_question) rfl rfl T.law_question.F sc_law_question fun cdv A outer s H E hr => by
    have nd := (sc_law_question).nd
    have hu : (A.deeper (envOfC "_law_question" (defScope s_law_question) s.heap.objs.size T.a_law_question cdv)).units + 150 < cLine := by have := hr.un; omega
    have tk : Takes (cxOf (L2.CX P w) P w K mg base n_law_question "_law_question" (defScope s_law_question) T.a_law_question cdv A outer s H E) (fun cls d _ H => E cls d H) := takes_of rfl rfl rfl rfl
    have hp : PassesOwn (model P w) (A.deeper (envOfC "_law_question" (defScope s_law_question) s.heap.objs.size T.a_law_question cdv)) (cxOf (L2.CX P w) P w K mg base n_law_question "_law_question" (defScope s_law_question) T.a_law_question cdv A outer s H E).env (cxOf (L2.CX P w) P w K mg base n_law_question "_law_question" (defScope s_law_question) T.a_law_question cdv A outer s H E).xe := passes_of rfl
    exact ⟨_, (rb_cons (rs_set 1 nd (re_lst ra_nil))
  (rb_cons (rs_set 2 nd (re_lst (ra_cons (re_lst ra_nil) ra_nil)))
  (rb_cons (rs_for hp rfl (ri_seq (re_var 0)) (rg_name 3 nd)
  (rb_cons (rs_set 4 nd (re_call tk (ok_law_part T) (hr.mono (by decide)) (by rfl) T.law_part.m T.law_part.F.kp T.law_part.b (ra_cons (re_var 3) (ra_cons re_int (ra_cons re_int ra_nil))) rfl (aCons_len (aCons_len (aCons_len aNil_len)))))
  (rb_one (rs_if ((rw_and (rt_cmp (op_eqF hu) ov_eq (re_var 4) re_int (nomark _)) (rw_and1 (rt_cmp (op_ltF hu) ov_lt (re_len (by rfl) T.b_len (ra_cons (re_var 1) ra_nil)) re_int (nomark _))))).rt
  (rb_cons (rs_appendMv (rp_var 1) 2)
  (rb_one (rs_set 2 nd (re_lst (ra_cons (re_lst ra_nil) ra_nil)))))
  (rb_one (rs_if ((rw_and (rt_cmp (op_eqF hu) ov_eq (re_var 4) re_int (nomark _)) (rw_and1 (rt_cmp (op_neF hu) ov_ne (re_at hu (re_var 2) (re_neg re_int)) (re_lst ra_nil) (nomark _))))).rt
  (rb_one (rs_append (rp_var 2) (re_lst ra_nil)))
  (rb_one (rs_if ((rw_and (rt_cmp (op_ltF hu) ov_lt (re_var 4) re_int (nomark _)) (rw_and (rt_cmp (op_neF hu) ov_ne (re_at hu (re_var 2) (re_neg re_int)) (re_lst ra_nil) (nomark _)) (rw_and1 (rt_cmp (op_neF hu) ov_ne (re_var 1) (re_lst ra_nil) (nomark _)))))).rt
  (rb_cons (rs_setMv 5 2 nd)
  (rb_cons (rs_pop (rp_var 1) (rg_name 2 nd))
  (rb_one (rs_appendTup (rp_at hu (rp_var 2) (re_neg re_int)) re_str 5))))
  (rb_one (rs_append (rp_at hu (rp_var 2) (re_neg re_int)) (re_call tk (ok_law_single T) (hr.mono (by decide)) (by rfl) T.law_single.m T.law_single.F.kp T.law_single.b (ra_cons (re_var 3) ra_nil) rfl (aCons_len aNil_len))))))))))))
  (rb_cons (rs_while hp ((rw_or (rt_cmp (op_neF hu) ov_ne (re_var 1) (re_lst ra_nil) (nomark _)) (rw_or1 (rt_cmp (op_eqF hu) ov_eq (re_at hu (re_var 2) (re_neg re_int)) (re_lst ra_nil) (nomark _))))).rt
  (rb_one (rs_if (rt_cmp (op_eqF hu) ov_eq (re_at hu (re_var 2) (re_neg re_int)) (re_lst ra_nil) (nomark _))
  (rb_one (rs_append (rp_at hu (rp_var 2) (re_neg re_int)) (re_tup (ra_cons re_str ra_nil))))
  (rb_cons (rs_setMv 5 2 nd)
  (rb_cons (rs_pop (rp_var 1) (rg_name 2 nd))
  (rb_one (rs_appendTup (rp_at hu (rp_var 2) (re_neg re_int)) re_str 5)))))))
  (rb_one (rs_retMv 2))))))⟩
theorem sc_show_part : FnScope n_show_part p_show_part (defScope s_show_part) := ⟨rfl, rfl, rfl, by decide +kernel, rfl, by decide +kernel, by decide +kernel⟩
theorem sc_show_question : FnScope n_show_question p_show_question (defScope s_show_question) := ⟨rfl, rfl, rfl, by decide +kernel, rfl, by decide +kernel, by decide +kernel⟩
theorem rok_show_part (T : Tx K mg) : ∀ k : Nat, FnOk P w K mg base (L2.CX P w) (1 + k) T.a_show_part T.d_show_part p_show_part (spF K mg 1 (Sh.rc_show_part k).1) ∧ FnOk P w K mg base (L2.CX P w) (1 + k) T.a_show_question T.d_show_question p_show_question (spF K mg 1 (Sh.rc_show_part k).2)
  | 0 => ⟨Fu.FnOk.spec (show FnOk P w K mg base (L2.CX P w) 1 T.a_show_part T.d_show_part p_show_part (spF K mg 1 (run 1 deadS)) from fn_F (k := 0) (n := 1) (np := 1) (g := deadS) (N := n_show_part) (ps := p_show_part) rfl rfl T.show_part.F sc_show_part fun cdv A outer s H E hr => ⟨_, rb_dead⟩) fun _ _ => .inr rfl, Fu.FnOk.spec (show FnOk P w K mg base (L2.CX P w) 1 T.a_show_question T.d_show_question p_show_question (spF K mg 1 (run 4 deadS)) from fn_F (k := 0) (n := 4) (np := 1) (g := deadS) (N := n_show_question) (ps := p_show_question) rfl rfl T.show_question.F sc_show_question fun cdv A outer s H E hr => ⟨_, rb_dead⟩) fun _ _ => .inr rfl⟩
  | k + 1 => by
    obtain ⟨ih_show_part, ih_show_question⟩ := rok_show_part T k
    refine ⟨?_, ?_⟩
    · show FnOk P w K mg base (L2.CX P w) (1 + k + 1) T.a_show_part T.d_show_part p_show_part (spF K mg 1 (run 1 (Sh.g_show_part (Sh.rc_show_part k).1 (Sh.rc_show_part k).2)))
      exact fn_F (k := 1 + k) (n := 1) (np := 1) (g := (Sh.g_show_part (Sh.rc_show_part k).1 (Sh.rc_show_part k).2)) (N := n_show_part) (ps := p_show_part) rfl rfl T.show_part.F sc_show_part fun cdv A outer s H E hr => by
        have nd := (sc_show_part).nd
        have hu : (A.deeper (envOfC "show_part" (defScope s_show_part) s.heap.objs.size T.a_show_part cdv)).units + 150 < cLine := by have := hr.un; omega
        have tk : Takes (cxOf (L2.CX P w) P w K mg base n_show_part "show_part" (defScope s_show_part) T.a_show_part cdv A outer s H E) (fun cls d _ H => E cls d H) := takes_of rfl rfl rfl rfl
        have hp : PassesOwn (model P w) (A.deeper (envOfC "show_part" (defScope s_show_part) s.heap.objs.size T.a_show_part cdv)) (cxOf (L2.CX P w) P w K mg base n_show_part "show_part" (defScope s_show_part) T.a_show_part cdv A outer s H E).env (cxOf (L2.CX P w) P w K mg base n_show_part "show_part" (defScope s_show_part) T.a_show_part cdv A outer s H E).xe := passes_of rfl
        exact ⟨_, (rb_cons (rs_if (rt_cmp (op_eqF hu) ov_eq (re_at hu (re_var 0) re_int) re_str (nomark _))
  (rb_one (rs_ret re_str))
  rb_nil)
  (rb_cons (rs_if (rt_cmp (op_eqF hu) ov_eq (re_at hu (re_var 0) re_int) re_str (nomark _))
  (rb_one (rs_ret (re_add re_str (re_strI (by rfl) T.b_str (ra_cons (re_at hu (re_var 0) re_int) ra_nil)))))
  rb_nil)
  (rb_cons (rs_if (rt_cmp (op_eqF hu) ov_eq (re_at hu (re_var 0) re_int) re_str (nomark _))
  (rb_one (rs_ret (re_add (re_at hu (re_var 0) re_int) re_str)))
  rb_nil)
  (rb_cons (rs_if (rt_cmp (op_eqF hu) ov_eq (re_at hu (re_var 0) re_int) re_str (nomark _))
  (rb_one (rs_ret (re_add re_str (re_at hu (re_var 0) re_int))))
  rb_nil)
  (rb_cons (rs_if (rt_cmp (op_eqF hu) ov_eq (re_at hu (re_var 0) re_int) re_str (nomark _))
  (rb_one (rs_ret (re_add (re_add re_str (re_call tk ih_show_question (hr.mono (by omega)) (by rfl) T.show_question.m T.show_question.F.kp T.show_question.b (ra_cons (re_at hu (re_var 0) re_int) ra_nil) rfl (aCons_len aNil_len))) re_str)))
  rb_nil)
  (rb_one (rs_ret (re_at hu (re_var 0) re_int))))))))⟩
    · show FnOk P w K mg base (L2.CX P w) (1 + k + 1) T.a_show_question T.d_show_question p_show_question (spF K mg 1 (run 4 (Sh.g_show_question (Sh.rc_show_part k).1 (Sh.rc_show_part k).2)))
      exact fn_F (k := 1 + k) (n := 4) (np := 1) (g := (Sh.g_show_question (Sh.rc_show_part k).1 (Sh.rc_show_part k).2)) (N := n_show_question) (ps := p_show_question) rfl rfl T.show_question.F sc_show_question fun cdv A outer s H E hr => by
        have nd := (sc_show_question).nd
        have hu : (A.deeper (envOfC "show_question" (defScope s_show_question) s.heap.objs.size T.a_show_question cdv)).units + 150 < cLine := by have := hr.un; omega
        have tk : Takes (cxOf (L2.CX P w) P w K mg base n_show_question "show_question" (defScope s_show_question) T.a_show_question cdv A outer s H E) (fun cls d _ H => E cls d H) := takes_of rfl rfl rfl rfl
        have hp : PassesOwn (model P w) (A.deeper (envOfC "show_question" (defScope s_show_question) s.heap.objs.size T.a_show_question cdv)) (cxOf (L2.CX P w) P w K mg base n_show_question "show_question" (defScope s_show_question) T.a_show_question cdv A outer s H E).env (cxOf (L2.CX P w) P w K mg base n_show_question "show_question" (defScope s_show_question) T.a_show_question cdv A outer s H E).xe := passes_of rfl
        exact ⟨_, (rb_cons (rs_set 1 nd (re_lst ra_nil))
  (rb_cons (rs_for hp rfl (ri_seq (re_var 0)) (rg_name 2 nd)
  (rb_one (rs_append (rp_var 1) (re_join re_str (re_comp (own := [("part", 3)]) rfl nd (ric_seq (re_var 2)) (blkOk_by (own := [("part", 3)]) (N := n_show_question) (sc := defScope s_show_question) (by decide +kernel)) (fun _ _ _ _ _ => by exact (rgc_name 3 nd)) (fun _ _ _ _ _ => by exact rts_nil) (fun _ _ _ _ _ => by exact (re_call takes0 ih_show_part (hr.mono (by omega)) (by rfl) T.show_part.m T.show_part.F.kp T.show_part.b (ra_cons (re_var 3) ra_nil) rfl (aCons_len aNil_len))) (by decide))))))
  (rb_one (rs_ret (re_join re_str (re_var 1))))))⟩
theorem ok_show_part (T : Tx K mg) : FnOk P w K mg base (L2.CX P w) 81 T.a_show_part T.d_show_part p_show_part (spF K mg 1 Sh.m_show_part) := (rok_show_part T 80).1
theorem ok_show_question (T : Tx K mg) : FnOk P w K mg base (L2.CX P w) 81 T.a_show_question T.d_show_question p_show_question (spF K mg 1 Sh.m_show_question) := (rok_show_part T 80).2
theorem sc_law_part_text : FnScope n_law_part_text p_law_part_text (defScope s_law_part_text) := ⟨rfl, rfl, rfl, by decide +kernel, rfl, by decide +kernel, by decide +kernel⟩
theorem sc_law_text : FnScope n_law_text p_law_text (defScope s_law_text) := ⟨rfl, rfl, rfl, by decide +kernel, rfl, by decide +kernel, by decide +kernel⟩
theorem rok_law_part_text (T : Tx K mg) : ∀ k : Nat, FnOk P w K mg base (L2.CX P w) (1 + k) T.a_law_part_text T.d_law_part_text p_law_part_text (spF K mg 1 (Sh.rc_law_part_text k).1) ∧ FnOk P w K mg base (L2.CX P w) (1 + k) T.a_law_text T.d_law_text p_law_text (spF K mg 1 (Sh.rc_law_part_text k).2)
  | 0 => ⟨Fu.FnOk.spec (show FnOk P w K mg base (L2.CX P w) 1 T.a_law_part_text T.d_law_part_text p_law_part_text (spF K mg 1 (run 1 deadS)) from fn_F (k := 0) (n := 1) (np := 1) (g := deadS) (N := n_law_part_text) (ps := p_law_part_text) rfl rfl T.law_part_text.F sc_law_part_text fun cdv A outer s H E hr => ⟨_, rb_dead⟩) fun _ _ => .inr rfl, Fu.FnOk.spec (show FnOk P w K mg base (L2.CX P w) 1 T.a_law_text T.d_law_text p_law_text (spF K mg 1 (run 4 deadS)) from fn_F (k := 0) (n := 4) (np := 1) (g := deadS) (N := n_law_text) (ps := p_law_text) rfl rfl T.law_text.F sc_law_text fun cdv A outer s H E hr => ⟨_, rb_dead⟩) fun _ _ => .inr rfl⟩
  | k + 1 => by
    obtain ⟨ih_law_part_text, ih_law_text⟩ := rok_law_part_text T k
    refine ⟨?_, ?_⟩
    · show FnOk P w K mg base (L2.CX P w) (1 + k + 1) T.a_law_part_text T.d_law_part_text p_law_part_text (spF K mg 1 (run 1 (Sh.g_law_part_text (Sh.rc_law_part_text k).1 (Sh.rc_law_part_text k).2)))
      exact fn_F (k := 1 + k) (n := 1) (np := 1) (g := (Sh.g_law_part_text (Sh.rc_law_part_text k).1 (Sh.rc_law_part_text k).2)) (N := n_law_part_text) (ps := p_law_part_text) rfl rfl T.law_part_text.F sc_law_part_text fun cdv A outer s H E hr => by
        have nd := (sc_law_part_text).nd
        have hu : (A.deeper (envOfC "_law_part_text" (defScope s_law_part_text) s.heap.objs.size T.a_law_part_text cdv)).units + 150 < cLine := by have := hr.un; omega
        have tk : Takes (cxOf (L2.CX P w) P w K mg base n_law_part_text "_law_part_text" (defScope s_law_part_text) T.a_law_part_text cdv A outer s H E) (fun cls d _ H => E cls d H) := takes_of rfl rfl rfl rfl
        have hp : PassesOwn (model P w) (A.deeper (envOfC "_law_part_text" (defScope s_law_part_text) s.heap.objs.size T.a_law_part_text cdv)) (cxOf (L2.CX P w) P w K mg base n_law_part_text "_law_part_text" (defScope s_law_part_text) T.a_law_part_text cdv A outer s H E).env (cxOf (L2.CX P w) P w K mg base n_law_part_text "_law_part_text" (defScope s_law_part_text) T.a_law_part_text cdv A outer s H E).xe := passes_of rfl
        exact ⟨_, (rb_cons (rs_if (rt_cmp (op_eqF hu) ov_eq (re_at hu (re_var 0) re_int) re_str (nomark _))
  (rb_one (rs_ret re_str))
  rb_nil)
  (rb_cons (rs_if (rt_cmp (op_eqF hu) ov_eq (re_at hu (re_var 0) re_int) re_str (nomark _))
  (rb_one (rs_ret (re_add re_str (re_at hu re_str (re_at hu (re_var 0) re_int)))))
  rb_nil)
  (rb_cons (rs_if (rt_cmp (op_eqF hu) ov_eq (re_at hu (re_var 0) re_int) re_str (nomark _))
  (rb_one (rs_ret (re_add (re_at hu (re_var 0) re_int) re_str)))
  rb_nil)
  (rb_cons (rs_if (rt_cmp (op_eqF hu) ov_eq (re_at hu (re_var 0) re_int) re_str (nomark _))
  (rb_one (rs_ret (re_add re_str (re_at hu (re_var 0) re_int))))
  rb_nil)
  (rb_cons (rs_if (rt_cmp (op_eqF hu) ov_eq (re_at hu (re_var 0) re_int) re_str (nomark _))
  (rb_one (rs_ret (re_add (re_add re_str (re_call tk ih_law_text (hr.mono (by omega)) (by rfl) T.law_text.m T.law_text.F.kp T.law_text.b (ra_cons (re_at hu (re_var 0) re_int) ra_nil) rfl (aCons_len aNil_len))) re_str)))
  rb_nil)
  (rb_one (rs_ret (re_at hu (re_var 0) re_int))))))))⟩
    · show FnOk P w K mg base (L2.CX P w) (1 + k + 1) T.a_law_text T.d_law_text p_law_text (spF K mg 1 (run 4 (Sh.g_law_text_v4 (Sh.rc_law_part_text k).1 (Sh.rc_law_part_text k).2)))
      exact fn_F (k := 1 + k) (n := 4) (np := 1) (g := (Sh.g_law_text_v4 (Sh.rc_law_part_text k).1 (Sh.rc_law_part_text k).2)) (N := n_law_text) (ps := p_law_text) rfl rfl T.law_text.F sc_law_text fun cdv A outer s H E hr => by
        have nd := (sc_law_text).nd
        have hu : (A.deeper (envOfC "_law_text" (defScope s_law_text) s.heap.objs.size T.a_law_text cdv)).units + 150 < cLine := by have := hr.un; omega
        have tk : Takes (cxOf (L2.CX P w) P w K mg base n_law_text "_law_text" (defScope s_law_text) T.a_law_text cdv A outer s H E) (fun cls d _ H => E cls d H) := takes_of rfl rfl rfl rfl
        have hp : PassesOwn (model P w) (A.deeper (envOfC "_law_text" (defScope s_law_text) s.heap.objs.size T.a_law_text cdv)) (cxOf (L2.CX P w) P w K mg base n_law_text "_law_text" (defScope s_law_text) T.a_law_text cdv A outer s H E).env (cxOf (L2.CX P w) P w K mg base n_law_text "_law_text" (defScope s_law_text) T.a_law_text cdv A outer s H E).xe := passes_of rfl
        exact ⟨_, (rb_cons (rs_set 1 nd re_str)
  (rb_cons (rs_for hp rfl (ri_seq (re_var 0)) (rg_name 2 nd)
  (rb_cons (rs_if (rt_cmp (op_neF hu) ov_ne (re_var 1) re_str (nomark _))
  (rb_one (rs_set 1 nd (re_add (re_var 1) re_str)))
  rb_nil)
  (rb_one (rs_freeze 2 (rs_for hp rfl (ri_seq (re_var 2)) (rg_name 3 nd)
  (rb_one (rs_set 1 nd (re_add (re_add (re_var 1) re_str) (re_call tk ih_law_part_text (hr.mono (by omega)) (by rfl) T.law_part_text.m T.law_part_text.F.kp T.law_part_text.b (ra_cons (re_var 3) ra_nil) rfl (aCons_len aNil_len))))))))))
  (rb_one (rs_ret (re_stripC (re_var 1) re_str)))))⟩
theorem ok_law_part_text (T : Tx K mg) : FnOk P w K mg base (L2.CX P w) 81 T.a_law_part_text T.d_law_part_text p_law_part_text (spF K mg 1 Sh.m_law_part_text) := (rok_law_part_text T 80).1
theorem ok_law_text (T : Tx K mg) : FnOk P w K mg base (L2.CX P w) 81 T.a_law_text T.d_law_text p_law_text (spF K mg 1 Sh.m_law_text_v4) := (rok_law_part_text T 80).2
theorem sc_law : FnScope n_law p_law (defScope s_law) := ⟨rfl, rfl, rfl, by decide +kernel, rfl, by decide +kernel, by decide +kernel⟩
theorem ok_law (T : Tx K mg) : FnOk P w K mg base (L2.CX P w) 82 T.a_law T.d_law p_law (spF K mg 1 m_law) :=
  fn_F (k := 81) (n := 5) (np := 1) (g := g_law) (N := n_law) (ps := p_law) rfl rfl T.law.F sc_law fun cdv A outer s H E hr => by
    have nd := (sc_law).nd
    have hu : (A.deeper (envOfC "law" (defScope s_law) s.heap.objs.size T.a_law cdv)).units + 150 < cLine := by have := hr.un; omega
    have tk : Takes (cxOf (L2.CX P w) P w K mg base n_law "law" (defScope s_law) T.a_law cdv A outer s H E) (fun cls d _ H => E cls d H) := takes_of rfl rfl rfl rfl
    have hp : PassesOwn (model P w) (A.deeper (envOfC "law" (defScope s_law) s.heap.objs.size T.a_law cdv)) (cxOf (L2.CX P w) P w K mg base n_law "law" (defScope s_law) T.a_law cdv A outer s H E).env (cxOf (L2.CX P w) P w K mg base n_law "law" (defScope s_law) T.a_law cdv A outer s H E).xe := passes_of rfl
    exact ⟨_, (rb_cons (rs_set 1 nd (re_slice (re_var 0) (ro_some re_int) (ro_some re_int)))
  (rb_cons (rs_set 2 nd (re_call tk (ok_law_question T) (hr.mono (by decide)) (by rfl) T.law_question.m T.law_question.F.kp T.law_question.b (ra_cons (re_var 1) ra_nil) rfl (aCons_len aNil_len)))
  (rb_cons (rs_set 3 nd (re_call tk (ok_show_question T) (hr.mono (by decide)) (by rfl) T.show_question.m T.show_question.F.kp T.show_question.b (ra_cons (re_var 2) ra_nil) rfl (aCons_len aNil_len)))
  (rb_cons (rs_if ((rw_or (rt_not (rt_val (re_isi (n := "str") isa_str (by rfl) T.b_isinstance (by rfl) T.b_str (by first | exact PySem.boot_str | exact PyProof.Rows.boot_str | decide +kernel) (re_var 3)))) (rw_or (rt_cmp (op_neF hu) ov_ne (re_var 3) (re_call tk (ok_law_text T) (hr.mono (by decide)) (by rfl) T.law_text.m T.law_text.F.kp T.law_text.b (ra_cons (re_call tk (ok_law_question T) (hr.mono (by decide)) (by rfl) T.law_question.m T.law_question.F.kp T.law_question.b (ra_cons (re_var 1) ra_nil) rfl (aCons_len aNil_len)) ra_nil) rfl (aCons_len aNil_len)) (nomark _)) (rw_or1 (rt_cmp (op_neF hu) ov_ne (re_var 2) (re_call tk (ok_law_question T) (hr.mono (by decide)) (by rfl) T.law_question.m T.law_question.F.kp T.law_question.b (ra_cons (re_var 1) ra_nil) rfl (aCons_len aNil_len)) (nomark _)))))).rt
  (rb_one (rs_ret re_bl))
  rb_nil)
  (rb_cons (rs_set 4 nd (re_call tk (ok_law_single T) (hr.mono (by decide)) (by rfl) T.law_single.m T.law_single.F.kp T.law_single.b (ra_cons (re_call tk (ok_law_cell_at T) (hr.mono (by decide)) (by rfl) T.law_cell_at.m T.law_cell_at.F.kp T.law_cell_at.b (ra_cons (re_var 0) (ra_cons re_int ra_nil)) rfl (aCons_len (aCons_len aNil_len))) ra_nil) rfl (aCons_len aNil_len)))
  (rb_cons (rs_set 3 nd (re_call tk (ok_law_part_text T) (hr.mono (by decide)) (by rfl) T.law_part_text.m T.law_part_text.F.kp T.law_part_text.b (ra_cons (re_var 4) ra_nil) rfl (aCons_len aNil_len)))
  (rb_cons (rs_freeze 4 (rs_if ((rw_or (rt_cmp (op_neF hu) ov_ne (re_call tk (ok_show_question T) (hr.mono (by decide)) (by rfl) T.show_question.m T.show_question.F.kp T.show_question.b (ra_cons (re_lst (ra_cons (re_lst (ra_cons (re_var 4) ra_nil)) ra_nil)) ra_nil) rfl (aCons_len aNil_len)) (re_var 3) (nomark _)) (rw_or1 (rt_cmp (op_neF hu) ov_ne (re_call tk (ok_show_question T) (hr.mono (by decide)) (by rfl) T.show_question.m T.show_question.F.kp T.show_question.b (ra_cons (re_lst (ra_cons (re_lst (ra_cons (re_tup (ra_cons re_str (ra_cons (re_lst (ra_cons (re_lst (ra_cons (re_var 4) ra_nil)) ra_nil)) ra_nil))) ra_nil)) ra_nil)) ra_nil) rfl (aCons_len aNil_len)) (re_add (re_add re_str (re_var 3)) re_str) (nomark _))))).rt
  (rb_one (rs_ret re_bl))
  rb_nil))
  (rb_one (rs_ret (re_cmp (op_eqF hu) ov_eq (re_call tk (ok_show_question T) (hr.mono (by decide)) (by rfl) T.show_question.m T.show_question.F.kp T.show_question.b (ra_cons (re_lst (ra_cons (re_lst (ra_cons (re_var 4) ra_nil)) (ra_cons (re_lst (ra_cons (re_tup (ra_cons re_str ra_nil)) (ra_cons (re_var 4) ra_nil))) ra_nil))) ra_nil) rfl (aCons_len aNil_len)) (re_add (re_add (re_var 3) re_str) (re_var 3)) (nomark _)))))))))))⟩
end
theorem all_mk {l : PySem.W.OpenLaw} {w : World} {K : PySem.W.Frag} {h : Heap} {mg : Mg} {fa : Addr} (X : K.In h) (G : h.Ns mainGlobals mg) (hfa : mg "law" = some (.ref fa))
    {f0 f1 f2 f3 f4 f5 f6 f7 f8 f9 : Addr} {od0 an0 od1 an1 od2 an2 od3 an3 od4 an4 od5 an5 od6 an6 od7 an7 od8 an8 od9 an9 : Option Addr} {sl0 sl1 sl2 sl3 sl4 sl5 sl6 sl7 sl8 sl9 : Array (Option Value)} {oc0 kV0 dc0 pm0 cd0 ct0 oc1 kV1 dc1 pm1 cd1 ct1 oc2 kV2 dc2 pm2 cd2 ct2 oc3 kV3 dc3 pm3 cd3 ct3 oc4 kV4 dc4 pm4 cd4 ct4 oc5 kV5 dc5 pm5 cd5 ct5 oc6 kV6 dc6 pm6 cd6 ct6 oc7 kV7 dc7 pm7 cd7 ct7 oc8 kV8 dc8 pm8 cd8 ct8 oc9 kV9 dc9 pm9 cd9 ct9 : Value}
    (a0 : PySem.W.nsIn K mainGlobals "_law_cell_at" = some (some (.ref f0))) (l0 : K.lookup f0 = some ⟨oc0, od0, .func (PySem.W.fnOf "_law_cell_at" "_law_cell_at" (defArgs s_law_cell_at) (defBody s_law_cell_at) (defScope s_law_cell_at) .none kV0 dc0 pm0 an0 cd0 ct0), sl0⟩) (c0 : PySem.W.codeIn K cd0 "_law_cell_at" = true) (k0 : PySem.W.keepIn K (.ref f0) = true)
    (a1 : PySem.W.nsIn K mainGlobals "_law_part" = some (some (.ref f1))) (l1 : K.lookup f1 = some ⟨oc1, od1, .func (PySem.W.fnOf "_law_part" "_law_part" (defArgs s_law_part) (defBody s_law_part) (defScope s_law_part) .none kV1 dc1 pm1 an1 cd1 ct1), sl1⟩) (c1 : PySem.W.codeIn K cd1 "_law_part" = true) (k1 : PySem.W.keepIn K (.ref f1) = true)
    (a2 : PySem.W.nsIn K mainGlobals "_law_word" = some (some (.ref f2))) (l2 : K.lookup f2 = some ⟨oc2, od2, .func (PySem.W.fnOf "_law_word" "_law_word" (defArgs s_law_word) (defBody s_law_word) (defScope s_law_word) .none kV2 dc2 pm2 an2 cd2 ct2), sl2⟩) (c2 : PySem.W.codeIn K cd2 "_law_word" = true) (k2 : PySem.W.keepIn K (.ref f2) = true)
    (a3 : PySem.W.nsIn K mainGlobals "_law_single" = some (some (.ref f3))) (l3 : K.lookup f3 = some ⟨oc3, od3, .func (PySem.W.fnOf "_law_single" "_law_single" (defArgs s_law_single) (defBody s_law_single) (defScope s_law_single) .none kV3 dc3 pm3 an3 cd3 ct3), sl3⟩) (c3 : PySem.W.codeIn K cd3 "_law_single" = true) (k3 : PySem.W.keepIn K (.ref f3) = true)
    (a4 : PySem.W.nsIn K mainGlobals "_law_question" = some (some (.ref f4))) (l4 : K.lookup f4 = some ⟨oc4, od4, .func (PySem.W.fnOf "_law_question" "_law_question" (defArgs s_law_question) (defBody s_law_question) (defScope s_law_question) .none kV4 dc4 pm4 an4 cd4 ct4), sl4⟩) (c4 : PySem.W.codeIn K cd4 "_law_question" = true) (k4 : PySem.W.keepIn K (.ref f4) = true)
    (a5 : PySem.W.nsIn K mainGlobals "show_part" = some (some (.ref f5))) (l5 : K.lookup f5 = some ⟨oc5, od5, .func (PySem.W.fnOf "show_part" "show_part" (defArgs s_show_part) (defBody s_show_part) (defScope s_show_part) .none kV5 dc5 pm5 an5 cd5 ct5), sl5⟩) (c5 : PySem.W.codeIn K cd5 "show_part" = true) (k5 : PySem.W.keepIn K (.ref f5) = true)
    (a6 : PySem.W.nsIn K mainGlobals "show_question" = some (some (.ref f6))) (l6 : K.lookup f6 = some ⟨oc6, od6, .func (PySem.W.fnOf "show_question" "show_question" (defArgs s_show_question) (defBody s_show_question) (defScope s_show_question) .none kV6 dc6 pm6 an6 cd6 ct6), sl6⟩) (c6 : PySem.W.codeIn K cd6 "show_question" = true) (k6 : PySem.W.keepIn K (.ref f6) = true)
    (a7 : PySem.W.nsIn K mainGlobals "_law_part_text" = some (some (.ref f7))) (l7 : K.lookup f7 = some ⟨oc7, od7, .func (PySem.W.fnOf "_law_part_text" "_law_part_text" (defArgs s_law_part_text) (defBody s_law_part_text) (defScope s_law_part_text) .none kV7 dc7 pm7 an7 cd7 ct7), sl7⟩) (c7 : PySem.W.codeIn K cd7 "_law_part_text" = true) (k7 : PySem.W.keepIn K (.ref f7) = true)
    (a8 : PySem.W.nsIn K mainGlobals "_law_text" = some (some (.ref f8))) (l8 : K.lookup f8 = some ⟨oc8, od8, .func (PySem.W.fnOf "_law_text" "_law_text" (defArgs s_law_text) (defBody s_law_text) (defScope s_law_text) .none kV8 dc8 pm8 an8 cd8 ct8), sl8⟩) (c8 : PySem.W.codeIn K cd8 "_law_text" = true) (k8 : PySem.W.keepIn K (.ref f8) = true)
    (a9 : PySem.W.nsIn K mainGlobals "law" = some (some (.ref f9))) (l9 : K.lookup f9 = some ⟨oc9, od9, .func (PySem.W.fnOf "law" "law" (defArgs s_law) (defBody s_law) (defScope s_law) .none kV9 dc9 pm9 an9 cd9 ct9), sl9⟩) (c9 : PySem.W.codeIn K cd9 "law" = true) (k9 : PySem.W.keepIn K (.ref f9) = true)
    (b_isinstance : PySem.W.nsIn K mainGlobals "isinstance" = some none)
    (b_len : PySem.W.nsIn K mainGlobals "len" = some none)
    (b_range : PySem.W.nsIn K mainGlobals "range" = some none)
    (b_str : PySem.W.nsIn K mainGlobals "str" = some none)
    (true_ : ∀ ns : List Int, ns.length ≤ 63 → m_law [.rol (ns.map D.int)] = .ok (.sh (.bl true))) :
    ∃ (fd : FuncData) (cs : List (Addr × Addr)) (o : Obj), cs.map (·.2) = [] ∧ K.lookup fa = some o ∧ (∀ p ∈ cs, PySem.W.codeHdIn K p.1 p.2 = true ∧ K.lookup p.2 = none) ∧ (∀ (s : Shared) (v : Value), BindsTo s fd ⟨[v], []⟩ [("_law_script", v)]) ∧
      ∀ base : Heap, base.Ns mainGlobals mg → (∀ p ∈ cs, LamX.TabB base mg p.1 p.2) → FnOk l.prog w (mkK K fa []) mg base (L2.CX l.prog w) 82 fa fd ["_law_script"] (spLaw (mkK K fa [])) := by
  have e := hfa.symm.trans (PySem.W.mg_of X G a9)
  cases e
  have F0 := fun_mark (Ps := []) l9 (fun_mk (st := s_law_cell_at) l0 c0 k0)
  have B0 := F0.binds (ps := p_law_cell_at) fun _ _ _ _ _ _ us hl => match us, hl with | [_, _], _ => rfl
  have F1 := fun_mark (Ps := []) l9 (fun_mk (st := s_law_part) l1 c1 k1)
  have B1 := F1.binds (ps := p_law_part) fun _ _ _ _ _ _ us hl => match us, hl with | [_, _, _], _ => rfl
  have F2 := fun_mark (Ps := []) l9 (fun_mk (st := s_law_word) l2 c2 k2)
  have B2 := F2.binds (ps := p_law_word) fun _ _ _ _ _ _ us hl => match us, hl with | [_], _ => rfl
  have F3 := fun_mark (Ps := []) l9 (fun_mk (st := s_law_single) l3 c3 k3)
  have B3 := F3.binds (ps := p_law_single) fun _ _ _ _ _ _ us hl => match us, hl with | [_], _ => rfl
  have F4 := fun_mark (Ps := []) l9 (fun_mk (st := s_law_question) l4 c4 k4)
  have B4 := F4.binds (ps := p_law_question) fun _ _ _ _ _ _ us hl => match us, hl with | [_], _ => rfl
  have F5 := fun_mark (Ps := []) l9 (fun_mk (st := s_show_part) l5 c5 k5)
  have B5 := F5.binds (ps := p_show_part) fun _ _ _ _ _ _ us hl => match us, hl with | [_], _ => rfl
  have F6 := fun_mark (Ps := []) l9 (fun_mk (st := s_show_question) l6 c6 k6)
  have B6 := F6.binds (ps := p_show_question) fun _ _ _ _ _ _ us hl => match us, hl with | [_], _ => rfl
  have F7 := fun_mark (Ps := []) l9 (fun_mk (st := s_law_part_text) l7 c7 k7)
  have B7 := F7.binds (ps := p_law_part_text) fun _ _ _ _ _ _ us hl => match us, hl with | [_], _ => rfl
  have F8 := fun_mark (Ps := []) l9 (fun_mk (st := s_law_text) l8 c8 k8)
  have B8 := F8.binds (ps := p_law_text) fun _ _ _ _ _ _ us hl => match us, hl with | [_], _ => rfl
  have F9 := fun_mark (Ps := []) l9 (fun_mk (st := s_law) l9 c9 k9)
  have B9 := F9.binds (ps := p_law) fun _ _ _ _ _ _ us hl => match us, hl with | [_], _ => rfl
  let T : Tx (mkK K fa []) mg := { a_law_cell_at := f0, d_law_cell_at := _, law_cell_at := ⟨F0, PySem.W.mg_of X G a0, B0⟩, a_law_part := f1, d_law_part := _, law_part := ⟨F1, PySem.W.mg_of X G a1, B1⟩, a_law_word := f2, d_law_word := _, law_word := ⟨F2, PySem.W.mg_of X G a2, B2⟩, a_law_single := f3, d_law_single := _, law_single := ⟨F3, PySem.W.mg_of X G a3, B3⟩, a_law_question := f4, d_law_question := _, law_question := ⟨F4, PySem.W.mg_of X G a4, B4⟩, a_show_part := f5, d_show_part := _, show_part := ⟨F5, PySem.W.mg_of X G a5, B5⟩, a_show_question := f6, d_show_question := _, show_question := ⟨F6, PySem.W.mg_of X G a6, B6⟩, a_law_part_text := f7, d_law_part_text := _, law_part_text := ⟨F7, PySem.W.mg_of X G a7, B7⟩, a_law_text := f8, d_law_text := _, law_text := ⟨F8, PySem.W.mg_of X G a8, B8⟩, a_law := fa, d_law := _, law := ⟨F9, PySem.W.mg_of X G a9, B9⟩, b_isinstance := PySem.W.mg_none_of X G b_isinstance, b_len := PySem.W.mg_none_of X G b_len, b_range := PySem.W.mg_none_of X G b_range, b_str := PySem.W.mg_none_of X G b_str }
  refine ⟨T.d_law, [], _, rfl, l9, fun p hp => ?_, fun s v => .of_eq rfl, fun base G2 TB => ?_⟩
  · cases hp
  · exact (ok_law T).imp (law_imp true_)
end K31

open PySem PySem.W PyProof.Rows Fu
set_option maxRecDepth 100000 in
set_option maxHeartbeats 0 in
theorem PySem.Challenge.cw_besidewords_k31_a_question_shown_holds : PySem.Challenge.rw_besidewords_k31_a_question_shown.Holds := by
  w_on; o_law; k_head; (case hw => w_witness2)
  k_fill
  refine walk_mark (l := PySem.Challenge.rw_besidewords_k31_a_question_shown) (n := 63) (k := 82) (x := "_law_script") (Ps := []) rfl (by decide) rfl ⟨rfl, by decide, by decide⟩ (fun w h Y => PySem.W.kIn_of Y) (fun w h Y P m => nomatch m) ?F
  case F =>
    intro w mg fa h KX G hmg
    refine' K31.all_mk KX G hmg ?a0 ?l0 ?c0 ?k0 ?a1 ?l1 ?c1 ?k1 ?a2 ?l2 ?c2 ?k2 ?a3 ?l3 ?c3 ?k3 ?a4 ?l4 ?c4 ?k4 ?a5 ?l5 ?c5 ?k5 ?a6 ?l6 ?c6 ?k6 ?a7 ?l7 ?c7 ?k7 ?a8 ?l8 ?c8 ?k8 ?a9 ?l9 ?c9 ?k9 ?b_isinstance ?b_len ?b_range ?b_str K31.law_true
    (case a0 => k_is)
    (case l0 => k_is)
    (case c0 => k_is)
    (case k0 => k_is)
    (case a1 => k_is)
    (case l1 => k_is)
    (case c1 => k_is)
    (case k1 => k_is)
    (case a2 => k_is)
    (case l2 => k_is)
    (case c2 => k_is)
    (case k2 => k_is)
    (case a3 => k_is)
    (case l3 => k_is)
    (case c3 => k_is)
    (case k3 => k_is)
    (case a4 => k_is)
    (case l4 => k_is)
    (case c4 => k_is)
    (case k4 => k_is)
    (case a5 => k_is)
    (case l5 => k_is)
    (case c5 => k_is)
    (case k5 => k_is)
    (case a6 => k_is)
    (case l6 => k_is)
    (case c6 => k_is)
    (case k6 => k_is)
    (case a7 => k_is)
    (case l7 => k_is)
    (case c7 => k_is)
    (case k7 => k_is)
    (case a8 => k_is)
    (case l8 => k_is)
    (case c8 => k_is)
    (case k8 => k_is)
    (case a9 => k_is)
    (case l9 => k_is)
    (case c9 => k_is)
    (case k9 => k_is)
    (case b_isinstance => k_is)
    (case b_len => k_is)
    (case b_range => k_is)
    (case b_str => k_is)
#print axioms PySem.Challenge.cw_besidewords_k31_a_question_shown_holds
