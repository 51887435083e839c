import PyProof.Rows.All
import Wide.All
import OpenK.AllK
import Wide.FinOn
import HandS.ForMost
import HandS.Walk
import HandS.HeadHook2
import HandS.HeadHook4
import HandS.Lambda
import HandS.Exc
import HandS.SlotsVar
import HandS.TupAny
import HandS.Style
import HandS.Deep
import HandS.Conv
import HandS.Wide
import HandS.Codes
import HandS.WordsExc
import HandS.Defaults
import HandS.Zip
import HandS.IsInst
import HandS.StrMore
import HandS.RaiseMore
import HandS.WordsDict
import HandS.Star
import HandS.Property
import KE.GoesEnum
import HandS.HeadEnd
import HandS.EndBits
import PyProof.ReprReads
import HandS.SortInts
import KE.KSortTupG
import PyProof.ReprRoads
import HandS.HeadHook3
import HandS.More
import KE.KDictList
import HandS.ExcField
import HandS.ExcIs
import KE.KExcSuper
import KE.KExcInit
import HandS.ExcValue
import HandS.EndTab
import KE.KNestM
import PySem.Challenge.RW_meetturn_k02_the_first_wrong_line
import KE.KStateDown
import Lean
import HandS.Head0
import HandS.Head1
import HandS.Head2
import KE.KDictZip
import KE.KOpsOwn
import PyProof.InstNe
import KE.IntTextLaws
import PyProof.ReprLen
import HandS.ReplaceLit
set_option Elab.async false
set_option linter.all false
set_option maxRecDepth 100000
namespace MT
open PySem L2
inductive D where
  | non | bl (b : Bool) | int (i : Int) | str (s : Str)
  | tup (xs : List D) | lst (xs : List D)
  | dct (ks : List Key) (xs : List D)
  | obj (c : Str) (ks : List Str) (xs : List D)
  | hnd (n : Nat) | ty (n : String) | glo (x : Str)
  | exc (c : Str) (x : D)
  | scr (ns : List Int)
  | slo (c : Str) (xs : List D)
inductive MO where
  | pot (a b c : Int)
  | ins (c : Str) (ks : List Str) (xs : List D)
  | tab (x : Str)
  | lst (xs : List D)
  | fn
  | slo (c : Str) (os : List (Option D))
abbrev Mem := List MO
inductive Sl where
  | no | fz (d : D) | own (ds : List D) | ownD (ks : List Key) (ds : List D)
abbrev En := List Sl
inductive Out (T : Type) where
  | stuck | ok (x : T) (m : Mem) | exc (c : Str) (d : D) (m : Mem)
def Out.bind {T U : Type} (o : Out T) (k : T → Mem → Out U) : Out U := match o with
  | .stuck => .stuck
  | .ok x m => k x m
  | .exc c d m => .exc c d m
inductive SOut where
  | stuck | next (r : En) (m : Mem) | ret (d : D) (m : Mem) | brk (r : En) (m : Mem) | exc (c : Str) (d : D) (m : Mem)
def ExD (cls : Value) (d a : Addr) : HO := .ext fun h => ∃ (oe : Obj) (vs : Array Value), h.get? a = some oe ∧ Zc cls (some d) oe ∧ oe.data = .fields vs
def tabA (K : PySem.W.Frag) (x : Str) : Addr := (He.cT K (x, none)).2
def lamQ (x : Str) : Str := x ++ ".<locals>." ++ "<lambda>"
section
variable (K : PySem.W.Frag) (A : List Addr) (F : Hp)
mutual
def Rep : D → V → Prop
  | .non, v => v = .non
  | .bl b, v => v = .bl b
  | .int i, v => v = .int i
  | .str s, v => v = .str s
  | .tup ds, v => ∃ a vs, v = .ref a ∧ SqT K F a vs ∧ Reps ds vs
  | .lst ds, v => ∃ a vs, v = .ref a ∧ F a = some (.lst vs) ∧ Reps ds vs
  | .dct ks ds, v => ∃ a vs, v = .ref a ∧ F a = some (.dK (ks.zip vs)) ∧ ks.length = ds.length ∧ ks.Nodup ∧ Reps ds vs
  | .obj c ks ds, v => ∃ a dx vs, v = .ref a ∧ F a = some (.ins (He.ga K c) dx (ks.zip vs)) ∧ ks.length = ds.length ∧ Reps ds vs
  | .hnd n, v => ∃ a, A[n]? = some a ∧ v = .ref a
  | .ty n, v => v = .ty n
  | .glo x, v => v = .ref (He.ga K x)
  | .exc c d, v => ∃ a dx u, v = .ref a ∧ F a = some (ExD (.ref (He.ga K c)) dx a) ∧ F dx = some (.xd [("value", u)]) ∧ Rep d u
  | .scr ns, v => ∃ a, v = .ref a ∧ SqL K F a (ns.map V.int)
  | .slo c ds, v => ∃ a dx vs, v = .ref a ∧ F a = some (SlO (He.ga K c) dx a (vs.map some)) ∧ F dx = some (.own a) ∧ dx ≠ a ∧ Reps ds vs
def Reps : List D → List V → Prop
  | [], vs => vs = []
  | d :: ds, vs => ∃ v r, vs = v :: r ∧ Rep d v ∧ Reps ds r
end
end
structure Fx (A : List Addr) (F : Hp) (A' : List Addr) (F' : Hp) : Prop where
  f : ∀ a o, F a = some o → F' a = some o
  pre : A <+: A'
theorem Fx.refl {A : List Addr} {F : Hp} : Fx A F A F := ⟨fun _ _ h => h, List.prefix_refl _⟩
theorem Fx.trans {A A1 A2 : List Addr} {F F1 F2 : Hp} (x : Fx A F A1 F1) (y : Fx A1 F1 A2 F2) : Fx A F A2 F2 := ⟨fun a o h => y.f a o (x.f a o h), x.pre.trans y.pre⟩
theorem rd_fx {F F' : Hp} (f : ∀ a o, F a = some o → F' a = some o) {a : Addr} {u : HO} (h : Rd F a u) : Rd F' a u := by
  rcases h with h | ⟨o, h⟩
  · exact .inl (f _ _ h)
  · exact .inr ⟨o, f _ _ h⟩
theorem sqT_fx {K : PySem.W.Frag} {F F' : Hp} (f : ∀ a o, F a = some o → F' a = some o) {a : Addr} {vs : List V} (h : SqT K F a vs) : SqT K F' a vs := h.imp (rd_fx f) id
theorem sqL_fx {K : PySem.W.Frag} {F F' : Hp} (f : ∀ a o, F a = some o → F' a = some o) {a : Addr} {vs : List V} (h : SqL K F a vs) : SqL K F' a vs := h.imp (rd_fx f) id
section
variable {K : PySem.W.Frag} {A A' : List Addr} {F F' : Hp}
theorem pre_get {A A' : List Addr} (p : A <+: A') {n : Nat} {a : Addr} (h : A[n]? = some a) : A'[n]? = some a := by
  obtain ⟨t, rfl⟩ := p
  rw [List.getElem?_append_left (List.getElem?_eq_some_iff.mp h).1]
  exact h
mutual
theorem Rep.fx (x : Fx A F A' F') : ∀ {d : D} {v : V}, Rep K A F d v → Rep K A' F' d v
  | .non, v, h => by simp only [Rep] at h ⊢; exact h
  | .bl b, v, h => by simp only [Rep] at h ⊢; exact h
  | .int i, v, h => by simp only [Rep] at h ⊢; exact h
  | .str s, v, h => by simp only [Rep] at h ⊢; exact h
  | .ty n, v, h => by simp only [Rep] at h ⊢; exact h
  | .glo n, v, h => by simp only [Rep] at h ⊢; exact h
  | .exc c d, v, h => by
    simp only [Rep] at h ⊢
    obtain ⟨a, dx, u, e, h1, h2, r⟩ := h
    exact ⟨a, dx, u, e, x.f _ _ h1, x.f _ _ h2, Rep.fx x r⟩
  | .scr ns, v, h => by
    simp only [Rep] at h ⊢
    obtain ⟨a, h1, h2⟩ := h
    exact ⟨a, h1, sqL_fx x.f h2⟩
  | .hnd n, v, h => by
    simp only [Rep] at h ⊢
    obtain ⟨a, h1, h2⟩ := h
    exact ⟨a, pre_get x.pre h1, h2⟩
  | .slo c ds, v, h => by
    simp only [Rep] at h ⊢
    obtain ⟨a, dx, vs, e, s, l, n, r⟩ := h
    exact ⟨a, dx, vs, e, x.f _ _ s, x.f _ _ l, n, Reps.fx x r⟩
  | .tup ds, v, h => by
    simp only [Rep] at h ⊢
    obtain ⟨a, vs, e, s, r⟩ := h
    exact ⟨a, vs, e, sqT_fx x.f s, Reps.fx x r⟩
  | .lst ds, v, h => by
    simp only [Rep] at h ⊢
    obtain ⟨a, vs, e, s, r⟩ := h
    exact ⟨a, vs, e, x.f _ _ s, Reps.fx x r⟩
  | .dct ks ds, v, h => by
    simp only [Rep] at h ⊢
    obtain ⟨a, vs, e, s, l, n, r⟩ := h
    exact ⟨a, vs, e, x.f _ _ s, l, n, Reps.fx x r⟩
  | .obj c ks ds, v, h => by
    simp only [Rep] at h ⊢
    obtain ⟨a, dx, vs, e, s, l, r⟩ := h
    exact ⟨a, dx, vs, e, x.f _ _ s, l, Reps.fx x r⟩
theorem Reps.fx (x : Fx A F A' F') : ∀ {ds : List D} {vs : List V}, Reps K A F ds vs → Reps K A' F' ds vs
  | [], vs, h => by simp only [Reps] at h ⊢; exact h
  | d :: ds, vs, h => by
    simp only [Reps] at h ⊢
    obtain ⟨v, r, e, h1, h2⟩ := h
    exact ⟨v, r, e, Rep.fx x h1, Reps.fx x h2⟩
end
theorem Reps.nil : Reps K A F [] [] := by simp only [Reps]
theorem Reps.cons {d : D} {ds : List D} {v : V} {vs : List V} (h : Rep K A F d v) (r : Reps K A F ds vs) : Reps K A F (d :: ds) (v :: vs) := by
  simp only [Reps]
  exact ⟨v, vs, rfl, h, r⟩
theorem Reps.length : ∀ {ds : List D} {vs : List V}, Reps K A F ds vs → ds.length = vs.length
  | [], vs, h => by simp only [Reps] at h; subst h; rfl
  | d :: ds, vs, h => by
    simp only [Reps] at h
    obtain ⟨v, r, rfl, _, h2⟩ := h
    simp [Reps.length h2]
theorem Reps.append : ∀ {ds es : List D} {vs us : List V}, Reps K A F ds vs → Reps K A F es us → Reps K A F (ds ++ es) (vs ++ us)
  | [], es, vs, us, h, g => by simp only [Reps] at h; rw [h]; exact g
  | d :: ds, es, vs, us, h, g => by
    simp only [Reps] at h
    obtain ⟨v, r, rfl, h1, h2⟩ := h
    exact Reps.cons h1 (Reps.append h2 g)
theorem Reps.get : ∀ {ds : List D} {vs : List V} {i : Nat} {v : V}, Reps K A F ds vs → vs[i]? = some v → ∃ d, ds[i]? = some d ∧ Rep K A F d v
  | [], vs, i, v, h, e => by simp only [Reps] at h; subst h; simp at e
  | d :: ds, vs, i, v, h, e => by
    simp only [Reps] at h
    obtain ⟨u, r, rfl, h1, h2⟩ := h
    cases i with
    | zero =>
      simp at e; subst e
      exact ⟨d, rfl, h1⟩
    | succ i =>
      simp at e
      obtain ⟨x, e1, e2⟩ := Reps.get h2 e
      exact ⟨x, by simpa using e1, e2⟩
theorem Reps.getD : ∀ {ds : List D} {vs : List V} {i : Nat} {d : D}, Reps K A F ds vs → ds[i]? = some d → ∃ v, vs[i]? = some v ∧ Rep K A F d v
  | [], vs, i, v, h, e => by simp at e
  | d :: ds, vs, i, x, h, e => by
    simp only [Reps] at h
    obtain ⟨u, r, rfl, h1, h2⟩ := h
    cases i with
    | zero =>
      simp at e; subst e
      exact ⟨u, rfl, h1⟩
    | succ i =>
      simp at e
      obtain ⟨w, e1, e2⟩ := Reps.getD h2 e
      exact ⟨w, by simpa using e1, e2⟩
theorem Reps.take : ∀ {ds : List D} {vs : List V} (n : Nat), Reps K A F ds vs → Reps K A F (ds.take n) (vs.take n)
  | _, _, 0, _ => by simp [Reps]
  | [], vs, n + 1, h => by simp only [Reps] at h; subst h; simp [Reps]
  | d :: ds, vs, n + 1, h => by
    simp only [Reps] at h
    obtain ⟨u, r, rfl, h1, h2⟩ := h
    exact Reps.cons h1 (Reps.take n h2)
theorem Reps.drop : ∀ {ds : List D} {vs : List V} (n : Nat), Reps K A F ds vs → Reps K A F (ds.drop n) (vs.drop n)
  | _, _, 0, h => h
  | [], vs, n + 1, h => by simp only [Reps] at h; subst h; simp [Reps]
  | d :: ds, vs, n + 1, h => by
    simp only [Reps] at h
    obtain ⟨u, r, rfl, h1, h2⟩ := h
    exact Reps.drop n h2
theorem Reps.set : ∀ {ds : List D} {vs : List V} {d : D} {v : V} (n : Nat), Reps K A F ds vs → Rep K A F d v → Reps K A F (ds.set n d) (vs.set n v)
  | [], vs, d, v, n, h, g => by simp only [Reps] at h; subst h; simp [Reps]
  | e :: ds, vs, d, v, n, h, g => by
    simp only [Reps] at h
    obtain ⟨u, r, rfl, h1, h2⟩ := h
    cases n with
    | zero => exact Reps.cons g h2
    | succ n => exact Reps.cons h1 (Reps.set n h2 g)
theorem Reps.reverse : ∀ {ds : List D} {vs : List V}, Reps K A F ds vs → Reps K A F ds.reverse vs.reverse
  | [], vs, h => by simp only [Reps] at h; subst h; simp [Reps]
  | e :: ds, vs, h => by
    simp only [Reps] at h
    obtain ⟨u, r, rfl, h1, h2⟩ := h
    rw [List.reverse_cons, List.reverse_cons]
    exact Reps.append (Reps.reverse h2) (Reps.cons h1 Reps.nil)
end
def RepsO (K : PySem.W.Frag) (A : List Addr) (F : Hp) : List (Option D) → List (Option V) → Prop
  | [], vs => vs = []
  | none :: os, vs => ∃ r, vs = none :: r ∧ RepsO K A F os r
  | some d :: os, vs => ∃ u r, vs = some u :: r ∧ Rep K A F d u ∧ RepsO K A F os r
theorem RepsO.fx {K : PySem.W.Frag} {A A' : List Addr} {F F' : Hp} (x : Fx A F A' F') : ∀ {os : List (Option D)} {vs : List (Option V)}, RepsO K A F os vs → RepsO K A' F' os vs
  | [], vs, h => h
  | none :: os, vs, h => let ⟨r, e, h2⟩ := h; ⟨r, e, RepsO.fx x h2⟩
  | some d :: os, vs, h => let ⟨u, r, e, h1, h2⟩ := h; ⟨u, r, e, h1.fx x, RepsO.fx x h2⟩
def MoOk (K : PySem.W.Frag) (A : List Addr) (F : Hp) (ad : Addr) : MO → Option HO → Prop
  | .pot a b c, h => h = some (.lst [.int a, .int b, .int c])
  | .ins c ks ds, h => ∃ dx vs, h = some (.ins (He.ga K c) dx (ks.zip vs)) ∧ ks.length = ds.length ∧ Reps K A F ds vs
  | .tab x, h => ad = tabA K x ∧ ∃ ps : Array Value, h = some (.tbl ps) ∧ TriplesOk ps.toList ∧ ∀ (pos : Pos) (cv : Value), codeAmong pos ps.toList = some cv → ∃ c, cv = .ref c ∧ F c = some (LamX.CodeO c (lamQ x))
  | .lst ds, h => ∃ vs, h = some (.lst vs) ∧ Reps K A F ds vs
  | .fn, h => ∃ o P, h = some (.frz o (.ext P))
  | .slo c os, h => ∃ dx vs, (h = some (SlO (He.ga K c) dx ad vs) ∨ (vs = [] ∧ h = some (.ins (He.ga K c) dx []))) ∧ F dx = some (.own ad) ∧ dx ≠ ad ∧ RepsO K A F os vs
theorem MoOk.fx {K : PySem.W.Frag} {A A' : List Addr} {F F' : Hp} {ad : Addr} (x : Fx A F A' F') {m : MO} {h : Option HO} (g : MoOk K A F ad m h) : MoOk K A' F' ad m h := by
  cases m with
  | pot a b c => exact g
  | ins c ks ds =>
    obtain ⟨dx, vs, e, l, r⟩ := g
    exact ⟨dx, vs, e, l, r.fx x⟩
  | tab x' =>
    obtain ⟨e, ps, h1, h2, h3⟩ := g
    exact ⟨e, ps, h1, h2, fun pos cv hc => let ⟨c, e1, e2⟩ := h3 pos cv hc; ⟨c, e1, x.f _ _ e2⟩⟩
  | lst ds =>
    obtain ⟨vs, e, r⟩ := g
    exact ⟨vs, e, r.fx x⟩
  | fn => exact g
  | slo c os =>
    obtain ⟨dx, vs, e, n, l, r⟩ := g
    exact ⟨dx, vs, e, x.f _ _ n, l, r.fx x⟩
structure Ok (K : PySem.W.Frag) (A : List Addr) (F H : Hp) (m : Mem) : Prop where
  sub : ∀ a o, F a = some o → H a = some o
  nd : A.Nodup
  len : A.length = m.length
  mem : ∀ (n : Nat) (a : Addr) (x : MO), A[n]? = some a → m[n]? = some x → MoOk K A F a x (H a)
  sep : ∀ a, a ∈ A → F a = none
structure Gr (A : List Addr) (F H : Hp) (A' : List Addr) (F' H' : Hp) : Prop where
  fx : Fx A F A' F'
  new : ∀ a o, F' a = some o → F a = some o ∨ H a = none
  stay : ∀ a o, H a = some o → a ∉ A → H' a = some o
  keep : ∀ a, H' a = none → H a = none
  mnew : ∀ a, a ∈ A' → a ∈ A ∨ H a = none
  frz : ∀ a ob P, H a = some (.frz ob P) → H' a = some (.frz ob P)
theorem nofz {H : Hp} {a : Addr} {u : HO} (h : H a = some u) (hu : ∀ ob P, u ≠ .frz ob P := by intro _ _ z; cases z) : ∀ ob P, H a ≠ some (.frz ob P) := fun ob P e => hu ob P (Option.some.inj (h.symm.trans e))
theorem Gr.refl {A : List Addr} {F H : Hp} : Gr A F H A F H := ⟨.refl, fun _ _ h => .inl h, fun _ _ h _ => h, fun _ h => h, fun _ h => .inl h, fun _ _ _ h => h⟩
theorem Gr.trans {A A1 A2 : List Addr} {F F1 F2 H H1 H2 : Hp} (x : Gr A F H A1 F1 H1) (y : Gr A1 F1 H1 A2 F2 H2) : Gr A F H A2 F2 H2 where
  fx := x.fx.trans y.fx
  new := fun a o h => (y.new a o h).elim (fun h => x.new a o h) fun h => .inr (x.keep a h)
  stay := fun a o h n => y.stay a o (x.stay a o h n) fun hm => (x.mnew a hm).elim n fun e => by rw [e] at h; cases h
  keep := fun a h => x.keep a (y.keep a h)
  mnew := fun a h => (y.mnew a h).elim (fun h => x.mnew a h) fun e => .inr (x.keep a e)
  frz := fun a ob P h => y.frz a ob P (x.frz a ob P h)
structure Slots (K : PySem.W.Frag) (H0 : Hp) (A : List Addr) (F H : Hp) (s : St) (r : En) : Prop where
  len : s.length = r.length
  fz : ∀ (i : Nat) (d : D), r[i]? = some (.fz d) → ∃ v, s[i]? = some (some v) ∧ Rep K A F d v
  own : ∀ (i : Nat) (ds : List D), r[i]? = some (.own ds) → ∃ a vs, s[i]? = some (some (.ref a)) ∧ H a = some (.lst vs) ∧ F a = none ∧ a ∉ A ∧ H0 a = none ∧ Reps K A F ds vs
  ownD : ∀ (i : Nat) (ks : List Key) (ds : List D), r[i]? = some (.ownD ks ds) → ∃ a vs, s[i]? = some (some (.ref a)) ∧ H a = some (.dK (ks.zip vs)) ∧ F a = none ∧ a ∉ A ∧ H0 a = none ∧ ks.length = ds.length ∧ ks.Nodup ∧ Reps K A F ds vs
  inj : ∀ (i j : Nat) (a : Addr), ((∃ ds, r[i]? = some (.own ds)) ∨ ∃ ks ds, r[i]? = some (.ownD ks ds)) → ((∃ ds, r[j]? = some (.own ds)) ∨ ∃ ks ds, r[j]? = some (.ownD ks ds)) → s[i]? = some (some (.ref a)) → s[j]? = some (some (.ref a)) → i = j
theorem gr_free {A A' : List Addr} {F F' H H' : Hp} (g : Gr A F H A' F' H') {a : Addr} {o : HO} (h : H a = some o) (f : F a = none) (n : a ∉ A) : H' a = some o ∧ F' a = none ∧ a ∉ A' := by
  refine ⟨g.stay a o h n, ?_, fun hm => ?_⟩
  · cases e : F' a with
    | none => rfl
    | some u =>
      rcases g.new a u e with q | q
      · rw [f] at q; cases q
      · rw [h] at q; cases q
  · rcases g.mnew a hm with q | q
    · exact n q
    · rw [h] at q; cases q
theorem Slots.gr {K : PySem.W.Frag} {H0 : Hp} {A A' : List Addr} {F F' H H' : Hp} {s : St} {r : En} (x : Slots K H0 A F H s r) (g : Gr A F H A' F' H') : Slots K H0 A' F' H' s r where
  len := x.len
  fz := fun i d e => let ⟨v, e1, e2⟩ := x.fz i d e; ⟨v, e1, e2.fx g.fx⟩
  own := fun i ds e => by
    obtain ⟨a, vs, e1, e2, e3, e4, e5, e6⟩ := x.own i ds e
    obtain ⟨f1, f2, f3⟩ := gr_free g e2 e3 e4
    exact ⟨a, vs, e1, f1, f2, f3, e5, e6.fx g.fx⟩
  ownD := fun i ks ds e => by
    obtain ⟨a, vs, e1, e2, e3, e4, e5, e6, e7, e8⟩ := x.ownD i ks ds e
    obtain ⟨f1, f2, f3⟩ := gr_free g e2 e3 e4
    exact ⟨a, vs, e1, f1, f2, f3, e5, e6, e7, e8.fx g.fx⟩
  inj := x.inj
def XC (K : PySem.W.Frag) (E : XK) (A : List Addr) (F H : Hp) (c : Str) (d : D) (m : Mem) : Prop :=
  ∀ v dx A' F' H', Gr A F H A' F' H' → Ok K A' F' H' m → Rep K A' F' d v → H' dx = some (.xd [("value", v)]) → H dx = none → F' dx = none → dx ∉ A' → E (.ref (He.ga K c)) (some dx) H'
abbrev RP (T U : Type) := List Addr → Hp → Hp → T → U → Prop
def Post {T U : Type} (rp : RP T U) (K : PySem.W.Frag) (E : XK) (A : List Addr) (F H : Hp) (o : Out T) (R : T → Mem → U → List Addr → Hp → Hp → Prop) : Prop := match o with
  | .stuck => False
  | .ok d m => ∀ v A' F' H', Gr A F H A' F' H' → Ok K A' F' H' m → rp A' F' H' d v → R d m v A' F' H'
  | .exc c d m => XC K E A F H c d m
section
variable {T T' U U' : Type} {rp : RP T U} {rp' : RP T' U'} {K : PySem.W.Frag} {E : XK} {A A1 : List Addr} {F H F1 H1 : Hp} {o : Out T} {R R' : T → Mem → U → List Addr → Hp → Hp → Prop}
theorem XC.gr {c : Str} {d : D} {m : Mem} (h : XC K E A F H c d m) (g : Gr A F H A1 F1 H1) : XC K E A1 F1 H1 c d m := fun v dx A' F' H' g' k r x n => h v dx A' F' H' (g.trans g') k r x (g.keep dx n)
theorem Post.gr (h : Post rp K E A F H o R) (g : Gr A F H A1 F1 H1) : Post rp K E A1 F1 H1 o R := by
  cases o with
  | stuck => exact h
  | ok d m => exact fun v A' F' H' g' => h v A' F' H' (g.trans g')
  | exc c d m => exact XC.gr h g
theorem Post.mono (h : Post rp K E A F H o R) (q : ∀ d m v A' F' H', Gr A F H A' F' H' → Ok K A' F' H' m → rp A' F' H' d v → R d m v A' F' H' → R' d m v A' F' H') : Post rp K E A F H o R' := by
  cases o with
  | stuck => exact h
  | ok d m => exact fun v A' F' H' g k r => q d m v A' F' H' g k r (h v A' F' H' g k r)
  | exc c d m => exact h
theorem Post.bind {k : T → Mem → Out T'} {R : T' → Mem → U' → List Addr → Hp → Hp → Prop} (h : Post rp' K E A F H (o.bind k) R) : Post rp K E A F H o (fun d m _ A' F' H' => Post rp' K E A' F' H' (k d m) R) := by
  cases o with
  | stuck => exact h
  | ok d m => exact fun v A' F' H' g _ _ => Post.gr (show Post rp' K E A F H (k d m) R from h) g
  | exc c d m => exact h
end
def RepW (K : PySem.W.Frag) (A : List Addr) (F H : Hp) (d : D) (v : V) : Prop := Rep K A F d v ∨
  (∃ a vs ds, v = .ref a ∧ d = .lst ds ∧ H a = some (.lst vs) ∧ F a = none ∧ a ∉ A ∧ Reps K A F ds vs) ∨ (∃ a ks vs ds, v = .ref a ∧ d = .dct ks ds ∧ H a = some (.dK (ks.zip vs)) ∧ F a = none ∧ a ∉ A ∧ ks.length = ds.length ∧ ks.Nodup ∧ Reps K A F ds vs)
abbrev RE (K : PySem.W.Frag) : RP D V := fun A F _ d v => Rep K A F d v
abbrev RL (K : PySem.W.Frag) : RP (List D) (List V) := fun A F _ d v => Reps K A F d v
abbrev RB : RP Bool Bool := fun _ _ _ b c => b = c
theorem RepW.gr {K : PySem.W.Frag} {A A' : List Addr} {F H F' H' : Hp} {d : D} {v : V} (x : RepW K A F H d v) (g : Gr A F H A' F' H') : RepW K A' F' H' d v := by
  rcases x with x | ⟨a, vs, ds, e1, e2, e3, e4, e5, e6⟩ | ⟨a, ks, vs, ds, e1, e2, e3, e4, e5, e6, e7, e8⟩
  · exact .inl (x.fx g.fx)
  · obtain ⟨f1, f2, f3⟩ := gr_free g e3 e4 e5
    exact .inr (.inl ⟨a, vs, ds, e1, e2, f1, f2, f3, e6.fx g.fx⟩)
  · obtain ⟨f1, f2, f3⟩ := gr_free g e3 e4 e5
    exact .inr (.inr ⟨a, ks, vs, ds, e1, e2, f1, f2, f3, e6, e7, e8.fx g.fx⟩)
def LX {T U : Type} (rp : RP T U) (K : PySem.W.Frag) (E : XK) (f : En → Mem → Out T) : St → Hp → (U → Hp → Prop) → Prop := fun s H Q =>
  ∃ H0 A F r m, Ok K A F H m ∧ Slots K H0 A F H s r ∧ Post rp K E A F H (f r m) (fun _ _ v _ _ H' => Q v H')
abbrev LE (K : PySem.W.Frag) (E : XK) (f : En → Mem → Out D) : TE := LX (RE K) K E f
abbrev LW (K : PySem.W.Frag) (E : XK) (f : En → Mem → Out D) : TE := LX (RepW K) K E f
abbrev LA (K : PySem.W.Frag) (E : XK) (f : En → Mem → Out (List D)) : TA := LX (RL K) K E f
abbrev LT (K : PySem.W.Frag) (E : XK) (f : En → Mem → Out Bool) : TT := LX RB K E f
theorem PE.imp {X : Cx} {e : Expr} {t t' : TE} (h : PE X e t) (i : ∀ s H Q, t' s H Q → t s H Q) : PE X e t' := ⟨fun p s σ H Q I q => h.run p s σ H Q I (i σ H Q q)⟩
theorem PT.imp {X : Cx} {e : Expr} {t t' : TT} (h : PT X e t) (i : ∀ s H Q, t' s H Q → t s H Q) : PT X e t' := ⟨fun p s σ H Q I q => h.run p s σ H Q I (i σ H Q q)⟩
theorem PA.imp {X : Cx} {es : List Expr} {t t' : TA} (h : PA X es t) (i : ∀ s H Q, t' s H Q → t s H Q) : PA X es t' := ⟨fun ps p s σ H Q I q => h.run ps p s σ H Q I (i σ H Q q)⟩
theorem PS.imp {X : Cx} {e : Stmt} {t t' : TS} (h : PS X e t) (i : ∀ D s H, t' D s H → t D s H) : PS X e t' := ⟨fun p s σ H D I q => h.run p s σ H D I (i D σ H q)⟩
theorem PSs.imp {X : Cx} {e : List Stmt} {t t' : TS} (h : PSs X e t) (i : ∀ D s H, t' D s H → t D s H) : PSs X e t' := ⟨fun p s σ H D I q => h.run p s σ H D I (i D σ H q)⟩
theorem wk {X : Cx} {e : Expr} {K : PySem.W.Frag} {E : XK} {f : En → Mem → Out D} (h : PE X e (LE K E f)) : PE X e (LW K E f) := PE.imp h fun s H Q ⟨H0, A, F, r, m, o, sl, p⟩ => ⟨H0, A, F, r, m, o, sl, by
  cases q : f r m with
  | stuck => rw [q] at p; exact p
  | exc c d m => rw [q] at p; exact p
  | ok d m => rw [q] at p; exact fun v A' F' H' g k r => p v A' F' H' g k (.inl r)⟩
section
variable {K : PySem.W.Frag} {E : XK} {T T' U U' V' W' : Type} {rp : RP T U} {rp' : RP T' U'} {rp2 : RP V' W'} {f : En → Mem → Out T} {g : En → Mem → Out T'} {k : T → T' → Mem → Out V'}
def bind1 (f : En → Mem → Out T) (k : T → Mem → Out V') : En → Mem → Out V' := fun r m => (f r m).bind k
def bind2 (f : En → Mem → Out T) (g : En → Mem → Out T') (k : T → T' → Mem → Out V') : En → Mem → Out V' := fun r m => (f r m).bind fun x m => (g r m).bind (k x)
theorem LX.un {k : T → Mem → Out V'} {s : St} {H : Hp} {Q : W' → Hp → Prop} (h : LX rp2 K E (bind1 f k) s H Q) {R : U → Hp → Prop}
    (go : ∀ H0 A F r m d v H1, Ok K A F H1 m → Slots K H0 A F H1 s r → rp A F H1 d v → Post rp2 K E A F H1 (k d m) (fun _ _ v _ _ H' => Q v H') → R v H1) : LX rp K E f s H R := by
  obtain ⟨H0, A, F, r, m, o, sl, p⟩ := h
  exact ⟨H0, A, F, r, m, o, sl, (Post.bind p).mono fun d m v A' F' H' g k r q => go H0 A' F' _ m d v H' k (sl.gr g) r q⟩
theorem LX.bin {s : St} {H : Hp} {Q : W' → Hp → Prop} (h : LX rp2 K E (bind2 f g k) s H Q) {R : U → U' → Hp → Prop} (mono : ∀ {A F H d v A' F' H'}, Gr A F H A' F' H' → rp A F H d v → rp A' F' H' d v)
    (go : ∀ H0 A F r m d d' v v' H1, Ok K A F H1 m → Slots K H0 A F H1 s r → rp A F H1 d v → rp' A F H1 d' v' → Post rp2 K E A F H1 (k d d' m) (fun _ _ v _ _ H' => Q v H') → R v v' H1) :
    LX rp K E f s H fun v H1 => LX rp' K E g s H1 fun v' H2 => R v v' H2 := by
  obtain ⟨H0, A, F, r, m, o, sl, p⟩ := h
  refine ⟨H0, A, F, r, m, o, sl, (Post.bind p).mono fun d m v A' F' H' g k r1 q => ?_⟩
  refine ⟨H0, A', F', r, m, k, sl.gr g, (Post.bind q).mono fun d' m' v' A2 F2 H2 g2 k2 r2 q2 => ?_⟩
  exact go H0 A2 F2 r m' d d' v v' H2 k2 ((sl.gr g).gr g2) (mono g2 r1) r2 q2
end
theorem monoE {K : PySem.W.Frag} {A A' : List Addr} {F H F' H' : Hp} {d : D} {v : V} (g : Gr A F H A' F' H') (h : RE K A F H d v) : RE K A' F' H' d v := Rep.fx g.fx h
theorem monoW {K : PySem.W.Frag} {A A' : List Addr} {F H F' H' : Hp} {d : D} {v : V} (g : Gr A F H A' F' H') (h : RepW K A F H d v) : RepW K A' F' H' d v := RepW.gr h g
end MT
set_option Elab.async false
set_option linter.all false
set_option maxRecDepth 100000
namespace MT
open PySem L2
section
variable {K : PySem.W.Frag} {E : XK} {A : List Addr} {F H : Hp} {m : Mem} {T U : Type} {rp : RP T U} {R : T → Mem → U → List Addr → Hp → Hp → Prop}
theorem Post.ret {d : T} {v : U} (p : Post rp K E A F H (.ok d m) R) (o : Ok K A F H m) (r : rp A F H d v) : R d m v A F H := p v A F H .refl o r
theorem Ok.out (o : Ok K A F H m) {p : Addr} (h : H p = none) : F p = none ∧ p ∉ A := by
  refine ⟨?_, fun hm => ?_⟩
  · cases e : F p with
    | none => rfl
    | some u => rw [o.sub p u e] at h; cases h
  · obtain ⟨n, hn, e⟩ := List.mem_iff_getElem.mp hm
    have hn' : n < m.length := by rw [← o.len]; exact hn
    have q := o.mem n p m[n] (by rw [List.getElem?_eq_getElem hn, e]) (List.getElem?_eq_getElem hn')
    rw [h] at q
    cases z : m[n] with
    | pot a b c => rw [z] at q; cases q
    | ins c ks ds => rw [z] at q; obtain ⟨_, _, q, _⟩ := q; cases q
    | tab x => rw [z] at q; obtain ⟨_, _, q, _⟩ := q; cases q
    | lst ds => rw [z] at q; obtain ⟨_, q, _⟩ := q; cases q
    | fn => rw [z] at q; obtain ⟨_, _, q⟩ := q; cases q
    | slo c os => rw [z] at q; obtain ⟨_, _, q, _⟩ := q; rcases q with q | ⟨_, q⟩ <;> cases q
theorem Ok.alloc (o : Ok K A F H m) {p : Addr} (h : H p = none) (x : HO) : Ok K A (upd F p x) (upd H p x) m ∧ Gr A F H A (upd F p x) (upd H p x) := by
  obtain ⟨hf, ha⟩ := o.out h
  have fx : Fx A F A (upd F p x) := ⟨fun a u e => by rw [upd_ne (ne_of_none e hf)]; exact e, List.prefix_refl _⟩
  refine ⟨⟨fun a u e => ?_, o.nd, o.len, fun n a y e1 e2 => ?_, fun a ha' => ?_⟩, fx, fun a u e => ?_, fun a u e _ => ?_, fun a e => ?_, fun a e => .inl e, fun a ob P e => by rw [upd_ne (ne_of_none e h)]; exact e⟩
  · by_cases q : a = p
    · subst q; rw [upd_same] at e ⊢; exact e
    · rw [upd_ne q] at e ⊢; exact o.sub a u e
  · have q : a ≠ p := fun z => ha (z ▸ List.mem_of_getElem? e1)
    rw [upd_ne q]
    exact (o.mem n a y e1 e2).fx fx
  · have q : a ≠ p := fun z => ha (z ▸ ha')
    rw [upd_ne q]; exact o.sep a ha'
  · by_cases q : a = p
    · subst q; exact .inr h
    · rw [upd_ne q] at e; exact .inl e
  · rw [upd_ne (ne_of_none e h)]; exact e
  · by_cases q : a = p
    · subst q; exact h
    · rw [upd_ne q] at e; exact e
theorem Reps.up {ds : List D} {vs : List V} (r : Reps K A F ds vs) {p : Addr} {x : HO} (h : F p = none) : Reps K A (upd F p x) ds vs := r.fx ⟨fun a u e => by rw [upd_ne (ne_of_none e h)]; exact e, List.prefix_refl _⟩
theorem Post.newT {ds : List D} {vs : List V} {R : D → Mem → V → List Addr → Hp → Hp → Prop} (p : Post (RE K) K E A F H (.ok (.tup ds) m) R) (o : Ok K A F H m) (r : Reps K A F ds vs) {q : Addr} (h : H q = none) : R (.tup ds) m (.ref q) A (upd F q (.tup vs)) (upd H q (.tup vs)) := by
  obtain ⟨o', g⟩ := o.alloc h (.tup vs)
  refine p _ _ _ _ g o' ?_
  simp only [RE, Rep]
  exact ⟨q, vs, rfl, .inl (.inl upd_same), r.up (o.out h).1⟩
theorem Post.newL {ds : List D} {vs : List V} {R : D → Mem → V → List Addr → Hp → Hp → Prop} (p : Post (RE K) K E A F H (.ok (.lst ds) m) R) (o : Ok K A F H m) (r : Reps K A F ds vs) {q : Addr} (h : H q = none) : R (.lst ds) m (.ref q) A (upd F q (.lst vs)) (upd H q (.lst vs)) := by
  obtain ⟨o', g⟩ := o.alloc h (.lst vs)
  refine p _ _ _ _ g o' ?_
  simp only [RE, Rep]
  exact ⟨q, vs, rfl, upd_same, r.up (o.out h).1⟩
end
section
variable {K : PySem.W.Frag} {A : List Addr} {F H : Hp} {v : V} {m : Mem}
theorem RepW.int {i : Int} (r : RepW K A F H (.int i) v) : v = .int i := by
  rcases r with r | ⟨_, _, _, _, e, _⟩ | ⟨_, _, _, _, _, e, _⟩
  · simpa only [Rep] using r
  · cases e
  · cases e
theorem RepW.str {i : Str} (r : RepW K A F H (.str i) v) : v = .str i := by
  rcases r with r | ⟨_, _, _, _, e, _⟩ | ⟨_, _, _, _, _, e, _⟩
  · simpa only [Rep] using r
  · cases e
  · cases e
theorem RepW.bl {i : Bool} (r : RepW K A F H (.bl i) v) : v = .bl i := by
  rcases r with r | ⟨_, _, _, _, e, _⟩ | ⟨_, _, _, _, _, e, _⟩
  · simpa only [Rep] using r
  · cases e
  · cases e
theorem RepW.non (r : RepW K A F H .non v) : v = .non := by
  rcases r with r | ⟨_, _, _, _, e, _⟩ | ⟨_, _, _, _, _, e, _⟩
  · simpa only [Rep] using r
  · cases e
  · cases e
theorem RepW.tup {ds : List D} (o : Ok K A F H m) (r : RepW K A F H (.tup ds) v) : ∃ a vs, v = .ref a ∧ SqT K H a vs ∧ SqT K F a vs ∧ Reps K A F ds vs := by
  rcases r with r | ⟨_, _, _, _, e, _⟩ | ⟨_, _, _, _, _, e, _⟩
  · simp only [Rep] at r
    obtain ⟨a, vs, e, s, q⟩ := r
    exact ⟨a, vs, e, sqT_fx o.sub s, s, q⟩
  · cases e
  · cases e
theorem RepW.lst {ds : List D} (o : Ok K A F H m) (r : RepW K A F H (.lst ds) v) : ∃ a vs, v = .ref a ∧ H a = some (.lst vs) ∧ Reps K A F ds vs := by
  rcases r with r | ⟨a, vs, es, e1, e2, e3, _, _, e4⟩ | ⟨_, _, _, _, _, e, _⟩
  · simp only [Rep] at r
    obtain ⟨a, vs, e, s, q⟩ := r
    exact ⟨a, vs, e, o.sub _ _ s, q⟩
  · cases e2
    exact ⟨a, vs, e1, e3, e4⟩
  · cases e
theorem Reps.nil_iff {ds : List D} {vs : List V} (r : Reps K A F ds vs) : ds = [] ↔ vs = [] := by
  have e := r.length
  constructor
  · rintro rfl
    exact List.length_eq_zero_iff.mp e.symm
  · rintro rfl
    exact List.length_eq_zero_iff.mp e
end
def kC (d : D) : En → Mem → Out D := fun _ m => .ok d m
def vF (i : Nat) : En → Mem → Out D := fun r m => match r[i]? with
  | some (.fz d) => .ok d m
  | _ => .stuck
def vW (i : Nat) : En → Mem → Out D := fun r m => match r[i]? with
  | some (.fz d) => .ok d m
  | some (.own ds) => .ok (.lst ds) m
  | some (.ownD ks ds) => .ok (.dct ks ds) m
  | _ => .stuck
section
variable {X : Cx} {E : XK} {e : Expr} {K : PySem.W.Frag}
theorem de_c {v : V} {d : D} (h : PE X e (tC v)) (r : ∀ A F, Rep K A F d v := by intro _ _; simp only [MT.Rep]) : PE X e (LE K E (kC d)) := PE.imp h fun s H Q ⟨H0, A, F, ρ, m, o, sl, p⟩ => p.ret o (r A F)
theorem de_v {i : Nat} (h : PE X e (tVar i)) : PE X e (LE K E (vF i)) := PE.imp h fun s H Q ⟨H0, A, F, ρ, m, o, sl, p⟩ => by
  unfold vF at p
  split at p
  · rename_i d q
    obtain ⟨v, e1, e2⟩ := sl.fz i d q
    exact ⟨v, e1, p.ret o e2⟩
  · exact p.elim
theorem de_w {i : Nat} (h : PE X e (tVar i)) : PE X e (LW K E (vW i)) := PE.imp h fun s H Q ⟨H0, A, F, ρ, m, o, sl, p⟩ => by
  unfold vW at p
  split at p
  · rename_i d q
    obtain ⟨v, e1, e2⟩ := sl.fz i d q
    exact ⟨v, e1, p.ret o (.inl e2)⟩
  · rename_i ds q
    obtain ⟨a, vs, e1, e2, e3, e4, e5, e6⟩ := sl.own i ds q
    exact ⟨.ref a, e1, p.ret o (.inr (.inl ⟨a, vs, ds, rfl, rfl, e2, e3, e4, e6⟩))⟩
  · rename_i ks ds q
    obtain ⟨a, vs, e1, e2, e3, e4, e5, e6, e7, e8⟩ := sl.ownD i ks ds q
    exact ⟨.ref a, e1, p.ret o (.inr (.inr ⟨a, ks, vs, ds, rfl, rfl, e2, e3, e4, e6, e7, e8⟩))⟩
  · exact p.elim
end
abbrev QE (Q : V → Hp → Prop) : D → Mem → V → List Addr → Hp → Hp → Prop := fun _ _ v _ _ H' => Q v H'
def Cp2 (K : PySem.W.Frag) (rr : R2) (g : D → D → Mem → Out D) : Prop := ∀ E A F H m x y vx vy Q, Ok K A F H m → RepW K A F H x vx → RepW K A F H y vy → Post (RE K) K E A F H (g x y m) (QE Q) → rr vx vy H Q
def Cp1 (K : PySem.W.Frag) (rr : V → Hp → VK → Prop) (g : D → Mem → Out D) : Prop := ∀ E A F H m x vx Q, Ok K A F H m → RepW K A F H x vx → Post (RE K) K E A F H (g x m) (QE Q) → rr vx H Q
section
variable {X : Cx} {E : XK} {a b : Expr} {f h : En → Mem → Out D} {pos : Pos}
theorem de_op {op : Operator} {rr : R2} {g : D → D → Mem → Out D} (ho : OpR X (binaryOp op) rr) (c : Cp2 X.K rr g) (ha : PE X a (LW X.K E f)) (hb : PE X b (LW X.K E h)) : PE X (.BinOp a op b pos) (LE X.K E (bind2 f h g)) :=
  PE.imp (pe_op ho ha hb) fun s H Q q => LX.bin q monoW fun H0 A F r m d d' v v' H1 o sl r1 r2 p => c E A F H1 m d d' v v' Q o r1 r2 p
theorem de_un {op : UnaryOp} {rr : V → Hp → VK → Prop} {g : D → Mem → Out D} (ho : UnR X (unaryOp op) rr) (c : Cp1 X.K rr g) (ha : PE X a (LW X.K E f)) : PE X (.UnaryOp op a pos) (LE X.K E (bind1 f g)) :=
  PE.imp (pe_un ho ha) fun s H Q q => LX.un q fun H0 A F r m d v H1 o sl r1 p => c E A F H1 m d v Q o r1 p
theorem de_cmp {op : CmpOp} {rr : R2} {g : D → D → Mem → Out D} (ho : OpR X (compareOp op) rr) (c : Cp2 X.K rr g) (ha : PE X a (LW X.K E f)) (hb : PE X b (LW X.K E h)) (hm : behindInMarks op b = false) : PE X (.Compare a [op] [b] pos) (LE X.K E (bind2 f h g)) :=
  PE.imp (pe_cmpR ho ha hb hm) fun s H Q q => LX.bin q monoW fun H0 A F r m d d' v v' H1 o sl r1 r2 p => c E A F H1 m d d' v v' Q o r1 r2 p
end
def toB (f : En → Mem → Out D) : En → Mem → Out Bool := bind1 f fun d m => match d with
  | .bl b => .ok b m
  | _ => .stuck
section
variable {X : Cx} {E : XK} {a b c : Expr} {f g h : En → Mem → Out D} {pos : Pos} {K : PySem.W.Frag}
theorem bl_of {A : List Addr} {F H : Hp} {m : Mem} {d : D} {v : V} {Q : Bool → Hp → Prop} (o : Ok K A F H m) (r : RepW K A F H d v) (p : Post RB K E A F H ((fun (d : D) (m : Mem) => (match d with | .bl b => .ok b m | _ => .stuck : Out Bool)) d m) (fun _ _ v _ _ H' => Q v H')) : ∃ k, v = .bl k ∧ Q k H := by
  cases d with
  | bl b => exact ⟨b, r.bl, p.ret o rfl⟩
  | _ => exact p.elim
theorem LE_bl {s : St} {H : Hp} {Q : Bool → Hp → Prop} (q : LT K E (toB f) s H Q) : LE K E f s H fun x H' => ∃ k, x = .bl k ∧ Q k H' :=
  LX.un q fun H0 A F r m d v H1 o sl r1 p => bl_of o (.inl r1) p
theorem dt_val (h : PE X a (LE K E f)) (he : ∀ whole, isTrue a X.env whole = (do let v ← whole; standAt a.pos; holding [v] (truthy v)) := by intro _; rfl) : PT X a (LT K E (toB f)) := PT.imp (pt_val h he) fun s H Q q => LE_bl q
theorem dt_cmp {op : CmpOp} {rr : R2} {g : D → D → Mem → Out D} (ho : OpR X (compareOp op) rr) (c : Cp2 X.K rr g) (ha : PE X a (LW X.K E f)) (hb : PE X b (LW X.K E h)) (hm : behindInMarks op b = false) : PT X (.Compare a [op] [b] pos) (LT X.K E (toB (bind2 f h g))) :=
  PT.imp (pt_cmpR ho ha hb hm) fun s H Q q => by
    have q2 : LE X.K E (bind2 f h g) s H fun x H' => ∃ k, x = .bl k ∧ Q k H' := LE_bl q
    exact LX.bin q2 monoW fun H0 A F r m d d' v v' H1 o sl r1 r2 p => c E A F H1 m d d' v v' _ o r1 r2 p
end
section
variable {X : Cx} {E : XK} {a b c : Expr} {rest : List Expr} {pos : Pos} {K : PySem.W.Frag}
def andB (f g : En → Mem → Out Bool) : En → Mem → Out Bool := fun r m => (f r m).bind fun x m => if x then g r m else .ok false m
def orB (f g : En → Mem → Out Bool) : En → Mem → Out Bool := fun r m => (f r m).bind fun x m => if x then .ok true m else g r m
def notB (f : En → Mem → Out Bool) : En → Mem → Out Bool := bind1 f fun x m => .ok (!x) m
def ifE {T : Type} (c : En → Mem → Out Bool) (f g : En → Mem → Out T) : En → Mem → Out T := fun r m => (c r m).bind fun x m => if x then f r m else g r m
def ofB (f : En → Mem → Out Bool) : En → Mem → Out D := bind1 f fun b m => .ok (.bl b) m
variable {f g : En → Mem → Out Bool}
theorem LX.cond {T U : Type} {rp : RP T U} {c : En → Mem → Out Bool} {f g : En → Mem → Out T} {s : St} {H : Hp} {Q : U → Hp → Prop} (h : LX rp K E (ifE c f g) s H Q) :
    LT K E c s H fun x H1 => if x = true then LX rp K E f s H1 Q else LX rp K E g s H1 Q := by
  obtain ⟨H0, A, F, r, m, o, sl, p⟩ := h
  refine ⟨H0, A, F, r, m, o, sl, (Post.bind p).mono fun d m v A' F' H' gr k e q => ?_⟩
  have e' : d = v := e
  subst e'
  cases d with
  | true => exact iteT ⟨H0, A', F', r, m, k, sl.gr gr, q⟩
  | false => exact iteF ⟨H0, A', F', r, m, k, sl.gr gr, q⟩
theorem LX.cond1 {c : En → Mem → Out Bool} {g : En → Mem → Out Bool} {s : St} {H : Hp} {Q : Bool → Hp → Prop} (h : LT K E (andB c g) s H Q) :
    LT K E c s H fun x H1 => if x = true then LT K E g s H1 Q else Q false H1 := by
  obtain ⟨H0, A, F, r, m, o, sl, p⟩ := h
  refine ⟨H0, A, F, r, m, o, sl, (Post.bind p).mono fun d m v A' F' H' gr k e q => ?_⟩
  have e' : d = v := e
  subst e'
  cases d with
  | true => exact iteT ⟨H0, A', F', r, m, k, sl.gr gr, q⟩
  | false => exact iteF (q.ret k rfl)
theorem LX.cond2 {c : En → Mem → Out Bool} {g : En → Mem → Out Bool} {s : St} {H : Hp} {Q : Bool → Hp → Prop} (h : LT K E (orB c g) s H Q) :
    LT K E c s H fun x H1 => if x = true then Q true H1 else LT K E g s H1 Q := by
  obtain ⟨H0, A, F, r, m, o, sl, p⟩ := h
  refine ⟨H0, A, F, r, m, o, sl, (Post.bind p).mono fun d m v A' F' H' gr k e q => ?_⟩
  have e' : d = v := e
  subst e'
  cases d with
  | true => exact iteT (q.ret k rfl)
  | false => exact iteF ⟨H0, A', F', r, m, k, sl.gr gr, q⟩
theorem PW.imp {e : Expr} {t t' : TT} (h : PW X e t) (i : ∀ s H Q, t' s H Q → t s H Q) : PW X e t' := ⟨fun w p s σ H Q I q => h.run w p s σ H Q I (i σ H Q q)⟩
theorem dw_and (ha : PT X a (LT K E f)) (hb : PW X (.BoolOp .And (b :: rest) pos) (LT K E g)) : PW X (.BoolOp .And (a :: b :: rest) pos) (LT K E (andB f g)) := PW.imp (pw_and ha hb) fun _ _ _ q => q.cond1
theorem dw_or (ha : PT X a (LT K E f)) (hb : PW X (.BoolOp .Or (b :: rest) pos) (LT K E g)) : PW X (.BoolOp .Or (a :: b :: rest) pos) (LT K E (orB f g)) := PW.imp (pw_or ha hb) fun _ _ _ q => q.cond2
theorem dt_not (ha : PT X a (LT K E f)) : PT X (.UnaryOp .Not a pos) (LT K E (notB f)) := PT.imp (pt_not ha) fun s H Q q => LX.un q fun H0 A F r m d v H1 o sl r1 p => by
  have e' : d = v := r1
  subst e'
  exact p.ret o rfl
theorem de_if {x y : En → Mem → Out D} (hc : PT X c (LT K E f)) (ha : PE X a (LE K E x)) (hb : PE X b (LE K E y)) : PE X (.IfExp c a b pos) (LE K E (ifE f x y)) := PE.imp (pe_ifExp hc ha hb) fun _ _ _ q => q.cond
def andV (f g : En → Mem → Out D) : En → Mem → Out D := ifE (toB f) g (kC (.bl false))
def orV (f g : En → Mem → Out D) : En → Mem → Out D := ifE (toB f) (kC (.bl true)) g
def notV (f : En → Mem → Out D) : En → Mem → Out D := ofB (notB (toB f))
theorem kC_ret {d : D} {v : V} {s : St} {H : Hp} {Q : V → Hp → Prop} (q : LE K E (kC d) s H Q) (r : ∀ A F, Rep K A F d v) : Q v H := by
  obtain ⟨H0, A, F, ρ, m, o, sl, p⟩ := q
  exact p.ret o (r A F)
theorem LE.mono {T U : Type} {rp : RP T U} {f : En → Mem → Out T} {s : St} {H : Hp} {Q Q' : U → Hp → Prop} (h : LX rp K E f s H Q) (i : ∀ v H, Q v H → Q' v H) : LX rp K E f s H Q' := by
  obtain ⟨H0, A, F, ρ, m, o, sl, p⟩ := h
  exact ⟨H0, A, F, ρ, m, o, sl, p.mono fun _ _ v _ _ H' _ _ _ q => i v H' q⟩
variable {x y : En → Mem → Out D}
theorem de_and (ha : PE X a (LE K E x)) (hb : PE X (.BoolOp .And (b :: rest) pos) (LE K E y)) : PE X (.BoolOp .And (a :: b :: rest) pos) (LE K E (andV x y)) := PE.imp (pe_and ha hb) fun s H Q q => by
  refine LE.mono (LE_bl (f := x) (LX.cond q)) fun v H1 ⟨k, e, q⟩ => ⟨k, e, ?_⟩
  cases k with
  | true => exact q
  | false => rw [if_neg Bool.false_ne_true] at q ⊢; exact kC_ret q fun _ _ => by simp only [Rep]
theorem de_or (ha : PE X a (LE K E x)) (hb : PE X (.BoolOp .Or (b :: rest) pos) (LE K E y)) : PE X (.BoolOp .Or (a :: b :: rest) pos) (LE K E (orV x y)) := PE.imp (pe_or ha hb) fun s H Q q => by
  refine LE.mono (LE_bl (f := x) (LX.cond q)) fun v H1 ⟨k, e, q⟩ => ⟨k, e, ?_⟩
  cases k with
  | true => rw [if_pos rfl] at q ⊢; exact kC_ret q fun _ _ => by simp only [Rep]
  | false => exact q
theorem de_one {op : BoolOp} (ha : PE X a (LE K E x)) : PE X (.BoolOp op [a] pos) (LE K E x) := pe_one ha
end
def aNil : En → Mem → Out (List D) := fun _ m => .ok [] m
def aCons (f : En → Mem → Out D) (g : En → Mem → Out (List D)) : En → Mem → Out (List D) := bind2 f g fun x xs m => .ok (x :: xs) m
def mkT (g : En → Mem → Out (List D)) : En → Mem → Out D := bind1 g fun xs m => if xs.length ≤ sizeLine then .ok (.tup xs) m else .stuck
def mkL (g : En → Mem → Out (List D)) : En → Mem → Out D := bind1 g fun xs m => if xs.length ≤ sizeLine then .ok (.lst xs) m else .stuck
section
variable {X : Cx} {E : XK} {e : Expr} {es : List Expr} {pos : Pos} {K : PySem.W.Frag} {f : En → Mem → Out D} {g : En → Mem → Out (List D)}
theorem da_nil : PA X [] (LA K E aNil) := PA.imp pa_nil fun s H Q ⟨H0, A, F, ρ, m, o, sl, p⟩ => p.ret o Reps.nil
theorem da_cons (ha : PE X e (LE K E f)) (hr : PA X es (LA K E g)) (hs : starEach (e :: es) X.env = (false, eval e X.env) :: starEach es X.env := by rfl) : PA X (e :: es) (LA K E (aCons f g)) :=
  PA.imp (pa_cons ha hr hs) fun s H Q q => LX.bin q monoE fun H0 A F r m d ds v vs H1 o sl r1 r2 p => p.ret o (Reps.cons r1 r2)
theorem de_tup {x1 : Nat} (h : PA X es (LA K E g)) : PE X (.Tuple es x1 pos) (LE K E (mkT g)) := PE.imp (pe_tup h) fun s H Q q => LX.un q fun H0 A F r m ds vs H1 o sl r1 p => by
  by_cases c : ds.length ≤ sizeLine
  · rw [if_pos c] at p
    exact ⟨by rw [← r1.length]; exact c, fun q hq => p.newT o r1 hq⟩
  · rw [if_neg c] at p; exact p.elim
theorem de_lst (h : PA X es (LA K E g)) : PE X (.List es pos) (LE K E (mkL g)) := PE.imp (pe_lst h) fun s H Q q => LX.un q fun H0 A F r m ds vs H1 o sl r1 p => by
  by_cases c : ds.length ≤ sizeLine
  · rw [if_pos c] at p
    exact ⟨by rw [← r1.length]; exact c, fun q hq => p.newL o r1 hq⟩
  · rw [if_neg c] at p; exact p.elim
end
end MT
set_option Elab.async false
set_option linter.all false
set_option maxRecDepth 100000
namespace MT
open PySem L2
def addD : D → D → Mem → Out D
  | .int i, .int j, m => .ok (.int (i + j)) m
  | .str a, .str b, m => if a.length + b.length ≤ sizeLine then .ok (.str (a ++ b)) m else .stuck
  | .lst a, .lst b, m => if a.length + b.length ≤ sizeLine then .ok (.lst (a ++ b)) m else .stuck
  | .tup a, .tup b, m => if a.length + b.length ≤ sizeLine then .ok (.tup (a ++ b)) m else .stuck
  | _, _, _ => .stuck
def subD : D → D → Mem → Out D
  | .int i, .int j, m => .ok (.int (i - j)) m
  | _, _, _ => .stuck
def mulD : D → D → Mem → Out D
  | .int i, .int j, m => if (-(2 ^ 64) < i ∧ i < 2 ^ 64) ∨ (-(2 ^ 64) < j ∧ j < 2 ^ 64) then .ok (.int (i * j)) m else .stuck
  | .lst a, .int k, m => if -(2 ^ 63) ≤ k ∧ k < 2 ^ 63 ∧ a.length * k.toNat ≤ sizeLine then .ok (.lst (List.replicate k.toNat a).flatten) m else .stuck
  | _, _, _ => .stuck
def fdivD : D → D → Mem → Out D
  | .int i, .int j, m => if 0 < j ∧ j.natAbs.log2 < 9000 then .ok (.int (i / j)) m else .stuck
  | _, _, _ => .stuck
def modD : D → D → Mem → Out D
  | .int i, .int j, m => if 0 < j then .ok (.int (i % j)) m else .stuck
  | _, _, _ => .stuck
def powD : D → D → Mem → Out D
  | .int i, .int j, m => if 0 ≤ j ∧ (Builtin.Int.intBits i : Int) * j ≤ 2 ^ 27 then .ok (.int (i ^ j.toNat)) m else .stuck
  | _, _, _ => .stuck
def negD : D → Mem → Out D
  | .int i, m => .ok (.int (-i)) m
  | _, _ => .stuck
def ltD : D → D → Mem → Out D
  | .int i, .int j, m => .ok (.bl (decide (i < j))) m
  | .str i, .str j, m => .ok (.bl (decide (i.cps.toList < j.cps.toList))) m
  | _, _, _ => .stuck
def leD : D → D → Mem → Out D
  | .int i, .int j, m => .ok (.bl (decide (i ≤ j))) m
  | _, _, _ => .stuck
def gtD : D → D → Mem → Out D
  | .int i, .int j, m => .ok (.bl (decide (j < i))) m
  | _, _, _ => .stuck
def geD : D → D → Mem → Out D
  | .int i, .int j, m => .ok (.bl (decide (j ≤ i))) m
  | _, _, _ => .stuck
def isNon : D → Bool
  | .non => true
  | _ => false
def isD : D → D → Mem → Out D
  | x, .non, m => .ok (.bl (isNon x)) m
  | .bl a, .bl b, m => .ok (.bl (decide (a = b))) m
  | _, _, _ => .stuck
def isntD : D → D → Mem → Out D
  | x, .non, m => .ok (.bl (!isNon x)) m
  | .bl a, .bl b, m => .ok (.bl (!decide (a = b))) m
  | _, _, _ => .stuck
section
variable {K : PySem.W.Frag} {X : Cx}
theorem rep_int {A : List Addr} {F : Hp} {i : Int} : Rep K A F (.int i) (.int i) := by simp only [Rep]
theorem rep_bl {A : List Addr} {F : Hp} {i : Bool} : Rep K A F (.bl i) (.bl i) := by simp only [Rep]
theorem rep_str {A : List Addr} {F : Hp} {i : Str} : Rep K A F (.str i) (.str i) := by simp only [Rep]
def rAddD (K : PySem.W.Frag) : R2 := fun x y H Q => (rI0 fun i j => .int (i + j)) x y H Q ∨ (∃ i j, x = .str i ∧ y = .str j ∧ i.length + j.length ≤ sizeLine ∧ Q (.str (i ++ j)) H) ∨ rCat x y H Q ∨ rCatA K x y H Q
theorem op_addD : OpR X (binaryOp .Add) (rAddD X.K) := op_add.or (op_add_str.or (op_cat.or op_catA))
theorem cp_add : Cp2 K (rAddD K) addD := by
  intro E A F H m x y vx vy Q o rx ry p
  cases x <;> cases y <;> first | exact p.elim | skip
  · rw [rx.int, ry.int]
    exact .inl ⟨_, _, rfl, rfl, p.ret o rep_int⟩
  · rename_i a b
    rw [rx.str, ry.str]
    simp only [addD] at p
    by_cases c : a.length + b.length ≤ sizeLine
    · rw [if_pos c] at p
      exact .inr (.inl ⟨a, b, rfl, rfl, c, p.ret o rep_str⟩)
    · rw [if_neg c] at p; exact p.elim
  · rename_i a b
    obtain ⟨u, us, rfl, h1, h2, r1⟩ := rx.tup o
    obtain ⟨w, ws, rfl, h3, h4, r2⟩ := ry.tup o
    simp only [addD] at p
    by_cases c : a.length + b.length ≤ sizeLine
    · rw [if_pos c] at p
      refine .inr (.inr (.inr ⟨u, w, us, ws, rfl, rfl, h1, h3, by rw [← r1.length, ← r2.length]; exact c, fun e => ?_, fun _ e => ?_, fun _ _ q hq => p.newT o (r1.append r2) hq⟩))
      · rw [(r1.nil_iff).mpr e, List.nil_append] at p
        exact p.ret o (by simp only [RE, Rep]; exact ⟨w, ws, rfl, h4, r2⟩)
      · rw [(r2.nil_iff).mpr e, List.append_nil] at p
        exact p.ret o (by simp only [RE, Rep]; exact ⟨u, us, rfl, h2, r1⟩)
    · rw [if_neg c] at p; exact p.elim
  · rename_i a b
    obtain ⟨u, us, rfl, h1, r1⟩ := rx.lst o
    obtain ⟨w, ws, rfl, h3, r2⟩ := ry.lst o
    simp only [addD] at p
    by_cases c : a.length + b.length ≤ sizeLine
    · rw [if_pos c] at p
      exact .inr (.inr (.inl ⟨u, w, us, ws, rfl, rfl, h1, h3, by rw [← r1.length, ← r2.length]; exact c, fun q hq => p.newL o (r1.append r2) hq⟩))
    · rw [if_neg c] at p; exact p.elim
theorem cp_sub : Cp2 K (rI0 fun i j => .int (i - j)) subD := by
  intro E A F H m x y vx vy Q o rx ry p
  cases x <;> cases y <;> first | exact p.elim | skip
  rw [rx.int, ry.int]
  exact ⟨_, _, rfl, rfl, p.ret o rep_int⟩
theorem Reps.rep : ∀ {k : Nat} {A : List Addr} {F : Hp} {ds : List D} {vs : List V}, Reps K A F ds vs → Reps K A F (List.replicate k ds).flatten (List.replicate k vs).flatten
  | 0, _, _, _, _, _ => by simp [Reps]
  | k + 1, _, _, _, _, r => by rw [List.replicate_succ, List.replicate_succ, List.flatten_cons, List.flatten_cons]; exact r.append r.rep
def rMulD : R2 := fun x y H Q => (rI CMul fun i j => .int (i * j)) x y H Q ∨ rRep x y H Q
theorem op_mulD : OpR X (binaryOp .Mult) rMulD := op_mul.or op_rep
theorem cp_mul : Cp2 K rMulD mulD := by
  intro E A F H m x y vx vy Q o rx ry p
  cases x <;> cases y <;> first | exact p.elim | skip
  · rename_i i j
    rw [rx.int, ry.int]
    simp only [mulD] at p
    split at p
    · rename_i c
      exact .inl ⟨_, _, rfl, rfl, c, p.ret o rep_int⟩
    · exact p.elim
  · rename_i a j
    obtain ⟨u, us, rfl, h1, r1⟩ := rx.lst o
    rw [ry.int]
    simp only [mulD] at p
    split at p
    · rename_i c
      exact .inr ⟨u, j, us, rfl, rfl, h1, c.1, c.2.1, by rw [← r1.length]; exact c.2.2, fun q hq => p.newL o r1.rep hq⟩
    · exact p.elim
theorem cp_fdiv : Cp2 K (rI CDivW fun i j => .int (i / j)) fdivD := by
  intro E A F H m x y vx vy Q o rx ry p
  cases x <;> cases y <;> first | exact p.elim | skip
  rw [rx.int, ry.int]
  simp only [fdivD] at p
  split at p
  · rename_i c
    exact ⟨_, _, rfl, rfl, c, p.ret o rep_int⟩
  · exact p.elim
theorem cp_mod : Cp2 K (rI (fun _ j => 0 < j) fun i j => .int (i % j)) modD := by
  intro E A F H m x y vx vy Q o rx ry p
  cases x <;> cases y <;> first | exact p.elim | skip
  rw [rx.int, ry.int]
  simp only [modD] at p
  split at p
  · rename_i c
    exact ⟨_, _, rfl, rfl, c, p.ret o rep_int⟩
  · exact p.elim
def CPowX (i j : Int) : Prop := 0 ≤ j ∧ (Builtin.Int.intBits i : Int) * j ≤ 2 ^ 27
theorem op_powX : OpR X (binaryOp .Pow) (rI CPowX fun i j => .int (i ^ j.toNat)) := opI fun _ _ _ _ _ _ _ hc q => PyProof.Rows.pow_int hc.1 hc.2 q
theorem cp_pow : Cp2 K (rI CPowX fun i j => .int (i ^ j.toNat)) powD := by
  intro E A F H m x y vx vy Q o rx ry p
  cases x <;> cases y <;> first | exact p.elim | skip
  rw [rx.int, ry.int]
  simp only [powD] at p
  split at p
  · rename_i c
    exact ⟨_, _, rfl, rfl, c, p.ret o rep_int⟩
  · exact p.elim
theorem cp_neg : Cp1 K (rU fun i => .int (-i)) negD := by
  intro E A F H m x vx Q o rx p
  cases x <;> first | exact p.elim | skip
  rw [rx.int]
  exact ⟨_, rfl, p.ret o rep_int⟩
def rLtD : R2 := fun x y H Q => (rI0 fun i j => .bl (decide (i < j))) x y H Q ∨ (∃ i j, x = .str i ∧ y = .str j ∧ Q (.bl (decide (i.cps.toList < j.cps.toList))) H)
theorem op_ltD : OpR X (compareOp .Lt) rLtD := op_lt.or op_lt_str
theorem cp_lt : Cp2 K rLtD ltD := by
  intro E A F H m x y vx vy Q o rx ry p
  cases x <;> cases y <;> first | exact p.elim | skip
  · rw [rx.int, ry.int]
    exact .inl ⟨_, _, rfl, rfl, p.ret o rep_bl⟩
  · rw [rx.str, ry.str]
    exact .inr ⟨_, _, rfl, rfl, p.ret o rep_bl⟩
theorem cp_le : Cp2 K (rI0 fun i j => .bl (decide (i ≤ j))) leD := by
  intro E A F H m x y vx vy Q o rx ry p
  cases x <;> cases y <;> first | exact p.elim | skip
  rw [rx.int, ry.int]
  exact ⟨_, _, rfl, rfl, p.ret o rep_bl⟩
theorem cp_gt : Cp2 K (rI0 fun i j => .bl (decide (j < i))) gtD := by
  intro E A F H m x y vx vy Q o rx ry p
  cases x <;> cases y <;> first | exact p.elim | skip
  rw [rx.int, ry.int]
  exact ⟨_, _, rfl, rfl, p.ret o rep_bl⟩
theorem cp_ge : Cp2 K (rI0 fun i j => .bl (decide (j ≤ i))) geD := by
  intro E A F H m x y vx vy Q o rx ry p
  cases x <;> cases y <;> first | exact p.elim | skip
  rw [rx.int, ry.int]
  exact ⟨_, _, rfl, rfl, p.ret o rep_bl⟩
theorem non_iff {A : List Addr} {F H : Hp} {x : D} {v : V} (r : RepW K A F H x v) : decide (v = .non) = isNon x := by
  have h : v = .non ↔ x = .non := by
    constructor
    · rintro rfl
      rcases r with r | ⟨_, _, _, e, _⟩ | ⟨_, _, _, _, e, _⟩
      · cases x <;> simp only [Rep] at r <;> first | rfl | exact nomatch r | (obtain ⟨_, _, _, e, _⟩ := r; exact nomatch e) | (obtain ⟨_, _, e, _⟩ := r; exact nomatch e) | (obtain ⟨_, _, e⟩ := r; exact nomatch e)
      · cases e
      · cases e
    · rintro rfl
      exact r.non
  by_cases c : v = .non
  · rw [decide_eq_true c, h.mp c]; rfl
  · rw [decide_eq_false c]
    cases x <;> first | rfl | exact absurd (h.mpr rfl) c
def rIsD : R2 := fun x y H Q => (y = .non ∧ Q (.bl (decide (x = .non))) H) ∨ rIsB x y H Q
def rIsntD : R2 := fun x y H Q => (y = .non ∧ Q (.bl (!decide (x = .non))) H) ∨ rNotB x y H Q
theorem op_isD : OpR X (compareOp .Is) rIsD := op_isN.or op_isBl
theorem op_isntD : OpR X (compareOp .IsNot) rIsntD := op_notN.or op_notBl
theorem cp_is : Cp2 K rIsD isD := by
  intro E A F H m x y vx vy Q o rx ry p
  cases y with
  | non =>
    have p' : Post (RE K) K E A F H (.ok (.bl (isNon x)) m) (QE Q) := by cases x <;> exact p
    refine .inl ⟨ry.non, ?_⟩
    rw [non_iff rx]
    exact p'.ret o rep_bl
  | bl b =>
    cases x <;> first | exact p.elim | skip
    exact .inr ⟨_, _, rx.bl, ry.bl, p.ret o rep_bl⟩
  | _ => cases x <;> exact p.elim
theorem cp_isnt : Cp2 K rIsntD isntD := by
  intro E A F H m x y vx vy Q o rx ry p
  cases y with
  | non =>
    have p' : Post (RE K) K E A F H (.ok (.bl (!isNon x)) m) (QE Q) := by cases x <;> exact p
    refine .inl ⟨ry.non, ?_⟩
    rw [non_iff rx]
    exact p'.ret o rep_bl
  | bl b =>
    cases x <;> first | exact p.elim | skip
    exact .inr ⟨_, _, rx.bl, ry.bl, p.ret o rep_bl⟩
  | _ => cases x <;> exact p.elim
end
end MT
set_option Elab.async false
set_option linter.all false
set_option maxRecDepth 100000
namespace MT
open PySem L2
mutual
def eqB : D → D → Bool
  | .non, .non => true
  | .bl a, .bl b => a == b
  | .bl a, .int j => (if a then 1 else 0) == j
  | .int i, .bl b => i == (if b then 1 else 0)
  | .int i, .int j => i == j
  | .str x, .str y => x == y
  | .lst xs, .lst ys => eqBs xs ys
  | .tup xs, .tup ys => eqBs xs ys
  | _, _ => false
def eqBs : List D → List D → Bool
  | [], [] => true
  | x :: xs, y :: ys => eqB x y && eqBs xs ys
  | _, _ => false
end
mutual
def toPy : D → PyData
  | .bl b => .bool b
  | .int i => .int i
  | .str x => .str x
  | .lst xs => .list (toPys xs)
  | .tup xs => .tuple (toPys xs)
  | _ => .none
def toPys : List D → List PyData
  | [] => []
  | x :: xs => toPy x :: toPys xs
end
mutual
def isDat : D → Bool
  | .non => true
  | .bl _ => true
  | .int _ => true
  | .str x => PyData.strOk x
  | .lst xs => isDats xs
  | .tup xs => isDats xs
  | _ => false
def isDats : List D → Bool
  | [] => true
  | x :: xs => isDat x && isDats xs
end
mutual
def dep : D → Nat
  | .lst xs => deps xs + 1
  | .tup xs => deps xs + 1
  | _ => 0
def deps : List D → Nat
  | [] => 0
  | x :: xs => max (dep x) (deps xs)
end
def scl : D → Bool
  | .non => true
  | .bl _ => true
  | .int _ => true
  | .str _ => true
  | _ => false
def datOk (d : D) : Bool := isDat d && decide (dep d ≤ 64)
section
mutual
theorem lay_py : ∀ d : D, isDat d = true → PyData.canLay0 (toPy d) = true
  | .non, _ => by simp only [toPy, PyData.canLay0]
  | .bl _, _ => by simp only [toPy, PyData.canLay0]
  | .int _, _ => by simp only [toPy, PyData.canLay0]
  | .str x, h => by simp only [toPy, PyData.canLay0]; simpa only [isDat] using h
  | .lst xs, h => by simp only [toPy, PyData.canLay0]; exact lay_pys xs (by simpa only [isDat] using h)
  | .tup xs, h => by simp only [toPy, PyData.canLay0]; exact lay_pys xs (by simpa only [isDat] using h)
  | .dct _ _, h => by simp [isDat] at h
  | .obj _ _ _, h => by simp [isDat] at h
  | .hnd _, h => by simp [isDat] at h
  | .ty _, h => by simp [isDat] at h
  | .glo _, h => by simp [isDat] at h
  | .exc _ _, h => by simp [isDat] at h
  | .scr _, h => by simp [isDat] at h
theorem lay_pys : ∀ ds : List D, isDats ds = true → PyData.canLayAll0 (toPys ds) = true
  | [], _ => by simp only [toPys, PyData.canLayAll0]
  | d :: ds, h => by
    simp only [isDats, Bool.and_eq_true] at h
    simp only [toPys, PyData.canLayAll0, Bool.and_eq_true]
    exact ⟨lay_py d h.1, lay_pys ds h.2⟩
end
mutual
theorem dep_py : ∀ d : D, isDat d = true → PyData.depth (toPy d) = dep d
  | .non, _ => by simp only [toPy, PyData.depth, dep]
  | .bl _, _ => by simp only [toPy, PyData.depth, dep]
  | .int _, _ => by simp only [toPy, PyData.depth, dep]
  | .str x, h => by simp only [toPy, PyData.depth, dep]
  | .lst xs, h => by simp only [toPy, PyData.depth, dep]; rw [dep_pys xs (by simpa only [isDat] using h)]
  | .tup xs, h => by simp only [toPy, PyData.depth, dep]; rw [dep_pys xs (by simpa only [isDat] using h)]
  | .dct _ _, h => by simp [isDat] at h
  | .obj _ _ _, h => by simp [isDat] at h
  | .hnd _, h => by simp [isDat] at h
  | .ty _, h => by simp [isDat] at h
  | .glo _, h => by simp [isDat] at h
  | .exc _ _, h => by simp [isDat] at h
  | .scr _, h => by simp [isDat] at h
theorem dep_pys : ∀ ds : List D, isDats ds = true → PyData.depthAll (toPys ds) = deps ds
  | [], _ => by simp only [toPys, PyData.depthAll, deps]
  | d :: ds, h => by
    simp only [isDats, Bool.and_eq_true] at h
    simp only [toPys, PyData.depthAll, deps]
    rw [dep_py d h.1, dep_pys ds h.2]
end
mutual
theorem eqv_py : ∀ d e : D, isDat d = true → isDat e = true → PyData.eqv (toPy d) (toPy e) = eqB d e
  | .non, e, h, g => by cases e <;> first | (simp [isDat] at g; done) | simp only [toPy, PyData.eqv, eqB]
  | .bl _, e, h, g => by cases e <;> first | (simp [isDat] at g; done) | simp only [toPy, PyData.eqv, eqB]
  | .int _, e, h, g => by cases e <;> first | (simp [isDat] at g; done) | simp only [toPy, PyData.eqv, eqB]
  | .str x, e, h, g => by cases e <;> first | simp only [toPy, PyData.eqv, eqB] | (simp [isDat] at g; done)
  | .lst xs, e, h, g => by
    cases e with
    | lst ys => simp only [toPy, PyData.eqv, eqB]; exact eqv_pys xs ys (by simpa only [isDat] using h) (by simpa only [isDat] using g)
    | _ => first | simp only [toPy, PyData.eqv, eqB] | (simp [isDat] at g; done)
  | .tup xs, e, h, g => by
    cases e with
    | tup ys => simp only [toPy, PyData.eqv, eqB]; exact eqv_pys xs ys (by simpa only [isDat] using h) (by simpa only [isDat] using g)
    | _ => first | simp only [toPy, PyData.eqv, eqB] | (simp [isDat] at g; done)
  | .dct _ _, _, h, _ => by simp [isDat] at h
  | .obj _ _ _, _, h, _ => by simp [isDat] at h
  | .hnd _, _, h, _ => by simp [isDat] at h
  | .ty _, _, h, _ => by simp [isDat] at h
  | .glo _, _, h, _ => by simp [isDat] at h
  | .exc _ _, _, h, _ => by simp [isDat] at h
  | .scr _, _, h, _ => by simp [isDat] at h
theorem eqv_pys : ∀ ds es : List D, isDats ds = true → isDats es = true → PyData.eqvAll (toPys ds) (toPys es) = eqBs ds es
  | [], [], _, _ => by simp only [toPys, PyData.eqvAll, eqBs]
  | [], _ :: _, _, _ => by simp only [toPys, PyData.eqvAll, eqBs]
  | _ :: _, [], _, _ => by simp only [toPys, PyData.eqvAll, eqBs]
  | d :: ds, e :: es, h, g => by
    simp only [isDats, Bool.and_eq_true] at h g
    simp only [toPys, PyData.eqvAll, eqBs]
    rw [eqv_py d e h.1 g.1, eqv_pys ds es h.2 g.2]
end
mutual
theorem dp_of {K : PySem.W.Frag} {A : List Addr} {F : Hp} : ∀ {d : D} {v : V}, isDat d = true → Rep K A F d v → Dp K F v (toPy d)
  | .non, v, _, r => by simp only [Rep] at r; subst r; simp only [toPy]; exact .non
  | .bl b, v, _, r => by simp only [Rep] at r; subst r; simp only [toPy]; exact .bl b
  | .int i, v, _, r => by simp only [Rep] at r; subst r; simp only [toPy]; exact .int i
  | .str x, v, _, r => by simp only [Rep] at r; subst r; simp only [toPy]; exact .str x
  | .lst xs, v, h, r => by
    simp only [Rep] at r
    obtain ⟨a, vs, rfl, s, q⟩ := r
    simp only [toPy]
    exact .lst (.inl (.inl s)) (dps_of (by simpa only [isDat] using h) q)
  | .tup xs, v, h, r => by
    simp only [Rep] at r
    obtain ⟨a, vs, rfl, s, q⟩ := r
    simp only [toPy]
    exact .tup s (dps_of (by simpa only [isDat] using h) q)
  | .dct _ _, _, h, _ => by simp [isDat] at h
  | .obj _ _ _, _, h, _ => by simp [isDat] at h
  | .hnd _, _, h, _ => by simp [isDat] at h
  | .ty _, _, h, _ => by simp [isDat] at h
  | .glo _, _, h, _ => by simp [isDat] at h
  | .exc _ _, _, h, _ => by simp [isDat] at h
  | .scr _, _, h, _ => by simp [isDat] at h
theorem dps_of {K : PySem.W.Frag} {A : List Addr} {F : Hp} : ∀ {ds : List D} {vs : List V}, isDats ds = true → Reps K A F ds vs → DpAll K F vs (toPys ds)
  | [], vs, _, r => by simp only [Reps] at r; subst r; simp only [toPys]; exact .nil
  | d :: ds, vs, h, r => by
    simp only [Reps] at r
    obtain ⟨v, r', rfl, h1, h2⟩ := r
    simp only [isDats, Bool.and_eq_true] at h
    simp only [toPys]
    exact .cons (dp_of h.1 h1) (dps_of h.2 h2)
end
mutual
theorem dp_fx {K : PySem.W.Frag} {F F' : Hp} (f : ∀ a o, F a = some o → F' a = some o) : ∀ {v : V} {d : PyData}, Dp K F v d → Dp K F' v d
  | _, _, .non => .non
  | _, _, .bl b => .bl b
  | _, _, .int i => .int i
  | _, _, .str x => .str x
  | _, _, .lst s q => .lst (sqL_fx f s) (dps_fx f q)
  | _, _, .tup s q => .tup (sqT_fx f s) (dps_fx f q)
theorem dps_fx {K : PySem.W.Frag} {F F' : Hp} (f : ∀ a o, F a = some o → F' a = some o) : ∀ {v : List V} {d : List PyData}, DpAll K F v d → DpAll K F' v d
  | _, _, .nil => .nil
  | _, _, .cons h t => .cons (dp_fx f h) (dps_fx f t)
end
theorem RepW.dp {K : PySem.W.Frag} {A : List Addr} {F H : Hp} {m : Mem} {d : D} {v : V} (o : Ok K A F H m) (h : isDat d = true) (r : RepW K A F H d v) : Dp K H v (toPy d) := by
  rcases r with r | ⟨a, vs, ds, rfl, rfl, e3, _, _, e4⟩ | ⟨_, _, _, _, _, rfl, _⟩
  · exact dp_fx o.sub (dp_of h r)
  · simp only [toPy]
    exact .lst (.inl (.inl e3)) (dps_fx o.sub (dps_of (by simpa only [isDat] using h) e4))
  · simp [isDat] at h
theorem shaped_py {d : D} (h : datOk d = true) : SeqAt.shaped (toPy d) = true := by
  simp only [datOk, Bool.and_eq_true, decide_eq_true_eq] at h
  simp only [SeqAt.shaped, Bool.and_eq_true, decide_eq_true_eq]
  exact ⟨lay_py d h.1, by rw [dep_py d h.1]; exact h.2⟩
end
def eqOk (x y : D) : Bool := (scl x && scl y) || (datOk x && datOk y)
def eqD (x y : D) (m : Mem) : Out D := if eqOk x y = true then .ok (.bl (eqB x y)) m else .stuck
def neD (x y : D) (m : Mem) : Out D := if eqOk x y = true then .ok (.bl (!eqB x y)) m else .stuck
def rEqA (K : PySem.W.Frag) : R2 := fun x y H Q => rEq x y H Q ∨ rEqD K x y H Q
def rNeA (K : PySem.W.Frag) : R2 := fun x y H Q => rNe x y H Q ∨ rNeD K x y H Q
section
variable {K : PySem.W.Frag} {X : Cx}
theorem op_eqA (hu : X.A.units + 64 < cLine) : OpR X (compareOp .Eq) (rEqA X.K) := op_eq.or (op_eqD hu)
theorem op_neA (hu : X.A.units + 64 < cLine) : OpR X (compareOp .NotEq) (rNeA X.K) := op_ne.or (op_neD hu)
theorem beq_dec {T : Type} [BEq T] [LawfulBEq T] [DecidableEq T] (a b : T) : decide (a = b) = (a == b) := by
  by_cases h : a = b
  · subst h; simp
  · simp [h]
theorem sc_eq {A : List Addr} {F H : Hp} {x y : D} {vx vy : V} (rx : RepW K A F H x vx) (ry : RepW K A F H y vy) (c : scl x = true) (c' : scl y = true) :
    (scal vx vy = true ∧ decide (vx = vy) = eqB x y) ∨ (isDat x = true ∧ isDat y = true ∧ dep x = 0 ∧ dep y = 0) := by
  cases x <;> first | (simp [scl] at c; done) | skip
  all_goals cases y <;> first | (simp [scl] at c'; done) | skip
  all_goals first | rw [rx.int] | rw [rx.str] | rw [rx.bl] | rw [rx.non]
  all_goals first | rw [ry.int] | rw [ry.str] | rw [ry.bl] | rw [ry.non]
  all_goals first
    | (refine .inl ⟨rfl, ?_⟩; simp only [eqB, V.str.injEq, V.int.injEq, V.bl.injEq]; exact beq_dec _ _)
    | (refine .inl ⟨rfl, ?_⟩; simp [eqB]; done)
    | (refine .inr ?_; simp [isDat, dep]; done)
theorem cp_eq : Cp2 K (rEqA K) eqD := by
  intro E A F H m x y vx vy Q o rx ry p
  unfold eqD at p
  by_cases c : eqOk x y = true
  · rw [if_pos c] at p
    have p' := p.ret (v := .bl (eqB x y)) o rep_bl
    have deep : datOk x = true → datOk y = true → rEqA K vx vy H Q := fun h1 h2 => by
      have d1 : isDat x = true := (Bool.and_eq_true_iff.mp h1).1
      have d2 : isDat y = true := (Bool.and_eq_true_iff.mp h2).1
      exact .inr ⟨toPy x, toPy y, rx.dp o d1, ry.dp o d2, shaped_py h1, shaped_py h2, by rw [eqv_py x y d1 d2]; exact p'⟩
    rcases Bool.or_eq_true_iff.mp c with c | c
    · obtain ⟨c1, c2⟩ := Bool.and_eq_true_iff.mp c
      rcases sc_eq rx ry c1 c2 with ⟨s, e⟩ | ⟨h1, h2, h3, h4⟩
      · exact .inl ⟨s, by rw [e]; exact p'⟩
      · exact deep (by simp [datOk, h1, h3]) (by simp [datOk, h2, h4])
    · obtain ⟨c1, c2⟩ := Bool.and_eq_true_iff.mp c
      exact deep c1 c2
  · rw [if_neg c] at p; exact p.elim
theorem cp_ne : Cp2 K (rNeA K) neD := by
  intro E A F H m x y vx vy Q o rx ry p
  unfold neD at p
  by_cases c : eqOk x y = true
  · rw [if_pos c] at p
    have p' := p.ret (v := .bl (!eqB x y)) o rep_bl
    have deep : datOk x = true → datOk y = true → rNeA K vx vy H Q := fun h1 h2 => by
      have d1 : isDat x = true := (Bool.and_eq_true_iff.mp h1).1
      have d2 : isDat y = true := (Bool.and_eq_true_iff.mp h2).1
      exact .inr ⟨toPy x, toPy y, rx.dp o d1, ry.dp o d2, shaped_py h1, shaped_py h2, by rw [eqv_py x y d1 d2]; exact p'⟩
    rcases Bool.or_eq_true_iff.mp c with c | c
    · obtain ⟨c1, c2⟩ := Bool.and_eq_true_iff.mp c
      rcases sc_eq rx ry c1 c2 with ⟨s, e⟩ | ⟨h1, h2, h3, h4⟩
      · exact .inl ⟨s, by rw [e]; exact p'⟩
      · exact deep (by simp [datOk, h1, h3]) (by simp [datOk, h2, h4])
    · obtain ⟨c1, c2⟩ := Bool.and_eq_true_iff.mp c
      exact deep c1 c2
  · rw [if_neg c] at p; exact p.elim
end
def ixD : D → D → Mem → Out D
  | .lst xs, .int i, m => match atI xs i with
    | some d => .ok d m
    | none => .stuck
  | .tup xs, .int i, m => match atI xs i with
    | some d => .ok d m
    | none => .stuck
  | .str z, .int i, m => if z.length ≤ sizeLine then (match atI z.cps.toList i with
    | some c => .ok (.str ⟨#[c]⟩) m
    | none => .stuck) else .stuck
  | _, _, _ => .stuck
section
variable {K : PySem.W.Frag} {X : Cx} {E : XK} {a b : Expr} {f h : En → Mem → Out D} {pos : Pos}
theorem atI_rep {A : List Addr} {F : Hp} {ds : List D} {vs : List V} {i : Int} {d : D} (r : Reps K A F ds vs) (e : atI ds i = some d) : ∃ v, atI vs i = some v ∧ Rep K A F d v := by
  unfold atI at e ⊢
  rw [← r.length]
  cases q : ixN ds.length i with
  | none => rw [q] at e; cases e
  | some j =>
    rw [q] at e
    obtain ⟨v, e1, e2⟩ := r.getD (i := j) (d := d) e
    exact ⟨v, e1, e2⟩
theorem cp_ix : Cp2 K (rIx K) ixD := by
  intro E A F H m x y vx vy Q o rx ry p
  cases x <;> cases y <;> first | exact p.elim | skip
  · rename_i z i
    rw [rx.str, ry.int]
    simp only [ixD] at p
    by_cases c : z.length ≤ sizeLine
    · rw [if_pos c] at p
      cases e : atI z.cps.toList i with
      | none => rw [e] at p; exact p.elim
      | some d =>
        rw [e] at p
        exact .inr (.inr ⟨z, i, d, rfl, rfl, c, e, p.ret o rep_str⟩)
    · rw [if_neg c] at p; exact p.elim
  · rename_i xs i
    obtain ⟨u, us, rfl, h1, h2, r1⟩ := rx.tup o
    rw [ry.int]
    simp only [ixD] at p
    cases e : atI xs i with
    | none => rw [e] at p; exact p.elim
    | some d =>
      rw [e] at p
      obtain ⟨v, e1, e2⟩ := atI_rep r1 e
      exact .inr (.inl ⟨u, us, i, v, rfl, rfl, h1, e1, p.ret o e2⟩)
  · rename_i xs i
    obtain ⟨u, us, rfl, h1, r1⟩ := rx.lst o
    rw [ry.int]
    simp only [ixD] at p
    cases e : atI xs i with
    | none => rw [e] at p; exact p.elim
    | some d =>
      rw [e] at p
      obtain ⟨v, e1, e2⟩ := atI_rep r1 e
      exact .inl ⟨u, us, i, v, rfl, rfl, .inl (.inl h1), e1, p.ret o e2⟩
theorem de_ix (ha : PE X a (LW X.K E f)) (hb : PE X b (LW X.K E h)) (hs : PlainIx b := by exact fun _ _ => rfl) : PE X (.Subscript a b pos) (LE X.K E (bind2 f h ixD)) :=
  PE.imp (pe_ix ix_seq ha hb hs) fun s H Q q => LX.bin q monoW fun H0 A F r m d d' v v' H1 o sl r1 r2 p => cp_ix E A F H1 m d d' v v' Q o r1 r2 p
def keyOf : D → Option Key
  | .int i => some (.inl i)
  | .str s => some (.inr s)
  | _ => none
def dgetD : D → D → Mem → Out D
  | .dct ks ds, k, m => match keyOf k with
    | some k => (match (ks.zip ds).find? fun kv => decide (kv.1 = k) with
      | some kv => .ok kv.2 m
      | none => .stuck)
    | none => .stuck
  | _, _, _ => .stuck
theorem RepW.dct {A : List Addr} {F H : Hp} {m : Mem} {v : V} {ks : List Key} {ds : List D} (o : Ok K A F H m) (r : RepW K A F H (.dct ks ds) v) : ∃ a vs, v = .ref a ∧ H a = some (.dK (ks.zip vs)) ∧ ks.length = ds.length ∧ ks.Nodup ∧ Reps K A F ds vs := by
  rcases r with r | ⟨_, _, _, _, e, _⟩ | ⟨a, ks', vs, ds', e1, e2, e3, _, _, e5, e6, e7⟩
  · simp only [Rep] at r
    obtain ⟨a, vs, e, s, q⟩ := r
    exact ⟨a, vs, e, o.sub _ _ s, q⟩
  · cases e
  · cases e2
    exact ⟨a, vs, e1, e3, e5, e6, e7⟩
theorem find_rep {A : List Addr} {F : Hp} {k : Key} : ∀ {ks : List Key} {ds : List D} {vs : List V}, Reps K A F ds vs → (∀ kv, ((ks.zip ds).find? fun kv => decide (kv.1 = k)) = some kv → ∃ v, valV (ks.zip vs) k = some v ∧ Rep K A F kv.2 v) ∧ (((ks.zip ds).find? fun kv => decide (kv.1 = k)) = none → valV (ks.zip vs) k = none)
  | [], ds, vs, r => ⟨fun kv e => by simp at e, fun _ => by simp [valV]⟩
  | k' :: ks, [], vs, r => by
    simp only [Reps] at r; subst r
    exact ⟨fun kv e => by simp at e, fun _ => by simp [valV]⟩
  | k' :: ks, d :: ds, vs, r => by
    simp only [Reps] at r
    obtain ⟨v, vs', rfl, h1, h2⟩ := r
    obtain ⟨i1, i2⟩ := find_rep (k := k) (ks := ks) h2
    simp only [List.zip_cons_cons, List.find?_cons]
    by_cases c : k' = k
    · simp only [c, decide_true]
      exact ⟨fun kv e => ⟨v, valV_pos rfl, by cases e; exact h1⟩, fun e => by cases e⟩
    · simp only [c, decide_false]
      exact ⟨fun kv e => by rw [valV_neg c]; exact i1 kv e, fun e => by rw [valV_neg c]; exact i2 e⟩
theorem keyV {A : List Addr} {F H : Hp} {d : D} {k : Key} {v : V} (e : keyOf d = some k) (r : RepW K A F H d v) : v = kV k := by
  cases d <;> simp only [keyOf, Option.some.injEq] at e <;> first | (subst e; first | exact r.int | exact r.str) | cases e
theorem de_dget (hu : X.A.units + 1 < cLine) (ha : PE X a (LW X.K E f)) (hb : PE X b (LW X.K E h)) (hs : NoSl b := by exact fun _ _ => rfl) : PE X (.Subscript a b pos) (LE X.K E (bind2 f h dgetD)) :=
  PE.imp (pe_dget hu ha hb hs) fun s H Q q => LX.bin q monoW fun H0 A F r m d d' v v' H1 o sl r1 r2 p => by
    cases d <;> first | exact p.elim | skip
    rename_i ks ds
    obtain ⟨a, vs, rfl, h1, h2, h3, h4⟩ := r1.dct o
    simp only [dgetD] at p
    cases e : keyOf d' with
    | none => rw [e] at p; exact p.elim
    | some k =>
      rw [e] at p
      dsimp only at p
      cases e2 : (ks.zip ds).find? fun kv => decide (kv.1 = k) with
      | none => rw [e2] at p; exact p.elim
      | some kv =>
        rw [e2] at p
        obtain ⟨w, q1, q2⟩ := (find_rep h4).1 kv e2
        rw [keyV e r2]
        refine ⟨a, w, rfl, ?_, p.ret o q2⟩
        rw [← q1]
        exact DGet.k h1
end
end MT
set_option Elab.async false
set_option linter.all false
set_option maxRecDepth 100000
namespace MT
open PySem PySem.Spec PyProof.Rows L2
def PostS (K : PySem.W.Frag) (E : XK) (A0 : List Addr) (F0 H0 : Hp) (A : List Addr) (F : Hp) (o : SOut) (D : Ends) : Prop := match o with
  | .stuck => False
  | .next r m => ∀ s A' F' H', Fx A F A' F' → Gr A0 F0 H0 A' F' H' → Ok K A' F' H' m → Slots K H0 A' F' H' s r → D.nx s H'
  | .brk r m => ∀ s A' F' H', Fx A F A' F' → Gr A0 F0 H0 A' F' H' → Ok K A' F' H' m → Slots K H0 A' F' H' s r → D.bk s H'
  | .ret d m => ∀ v A' F' H', Gr A0 F0 H0 A' F' H' → Ok K A' F' H' m → Rep K A' F' d v → D.rt v H'
  | .exc c d m => XC K E A0 F0 H0 c d m
def LS (K : PySem.W.Frag) (E : XK) (A0 : List Addr) (F0 H0 : Hp) (f : En → Mem → SOut) : TS := fun D s H =>
  ∃ A F r m, Gr A0 F0 H0 A F H ∧ Ok K A F H m ∧ Slots K H0 A F H s r ∧ PostS K E A0 F0 H0 A F (f r m) D
def sNil : En → Mem → SOut := fun r m => .next r m
def sSeq (f g : En → Mem → SOut) : En → Mem → SOut := fun r m => match f r m with
  | .next r m => g r m
  | o => o
def sOf {T : Type} (o : Out T) (k : T → Mem → SOut) : SOut := match o with
  | .stuck => .stuck
  | .ok x m => k x m
  | .exc c d m => .exc c d m
def sAsg (i : Nat) (f : En → Mem → Out D) : En → Mem → SOut := fun r m => sOf (f r m) fun d m => .next (r.set i (.fz d)) m
def sRet (f : En → Mem → Out D) : En → Mem → SOut := fun r m => sOf (f r m) fun d m => .ret d m
def sExp (f : En → Mem → Out D) : En → Mem → SOut := fun r m => sOf (f r m) fun _ m => .next r m
def sIf (c : En → Mem → Out Bool) (f g : En → Mem → SOut) : En → Mem → SOut := fun r m => sOf (c r m) fun b m => if b then f r m else g r m
def sBrk : En → Mem → SOut := fun r m => .brk r m
section
variable {K : PySem.W.Frag} {E : XK} {A0 A A1 : List Addr} {F0 H0 F F1 H : Hp} {o : SOut} {De : Ends}
theorem PostS.fx (h : PostS K E A0 F0 H0 A F o De) (g : Fx A F A1 F1) : PostS K E A0 F0 H0 A1 F1 o De := by
  cases o with
  | stuck => exact h
  | next r m => exact fun s A' F' H' x => h s A' F' H' (g.trans x)
  | brk r m => exact fun s A' F' H' x => h s A' F' H' (g.trans x)
  | ret d m => exact h
  | exc c d m => exact h
theorem LS.ex {T U : Type} {rp : RP T U} {f : En → Mem → Out T} {k : En → T → Mem → SOut} {s : L2.St} (h : LS K E A0 F0 H0 (fun r m => sOf (f r m) (k r)) De s H) {R : U → Hp → Prop}
    (go : ∀ A F r m d v H1, Gr A0 F0 H0 A F H1 → Ok K A F H1 m → Slots K H0 A F H1 s r → rp A F H1 d v → PostS K E A0 F0 H0 A F (k r d m) De → R v H1) : LX rp K E f s H R := by
  obtain ⟨A, F, r, m, g, o, sl, p⟩ := h
  refine ⟨H0, A, F, r, m, o, sl, ?_⟩
  cases e : f r m with
  | stuck =>
    have p' : PostS K E A0 F0 H0 A F (sOf (f r m) (k r)) De := p
    rw [e] at p'; exact p'
  | exc c d m' =>
    have p' : PostS K E A0 F0 H0 A F (sOf (f r m) (k r)) De := p
    rw [e] at p'
    exact XC.gr p' g
  | ok d m' =>
    have p' : PostS K E A0 F0 H0 A F (sOf (f r m) (k r)) De := p
    rw [e] at p'
    exact fun v A' F' H' g' k' r' => go A' F' r m' d v H' (g.trans g') k' (sl.gr g') r' (PostS.fx p' g'.fx)
end
section
variable {X : Cx} {E : XK} {K : PySem.W.Frag} {A0 : List Addr} {F0 H0 : Hp} {st : Stmt} {rest body els : List Stmt} {f g : En → Mem → SOut} {e : Expr} {h : En → Mem → Out D} {pos : Pos}
theorem ds_nil : PSs X [] (LS K E A0 F0 H0 sNil) := PSs.imp pss_nil fun D s H ⟨A, F, r, m, g, o, sl, p⟩ => p s A F H .refl g o sl
theorem ds_cons (h1 : PS X st (LS K E A0 F0 H0 f)) (h2 : PSs X rest (LS K E A0 F0 H0 g)) : PSs X (st :: rest) (LS K E A0 F0 H0 (sSeq f g)) := PSs.imp (pss_cons h1 h2) fun D s H ⟨A, F, r, m, gr, o, sl, p⟩ => by
  refine ⟨A, F, r, m, gr, o, sl, ?_⟩
  unfold sSeq at p
  cases e : f r m with
  | next r1 m1 =>
    rw [e] at p
    exact fun s1 A1 F1 H1 x g1 o1 sl1 => ⟨A1, F1, r1, m1, g1, o1, sl1, PostS.fx p x⟩
  | stuck => rw [e] at p; exact p
  | brk r1 m1 => rw [e] at p; exact p
  | ret d m1 => rw [e] at p; exact p
  | exc c d m1 => rw [e] at p; exact p
theorem ds_one (h1 : PS X st (LS K E A0 F0 H0 f)) : PSs X [st] (LS K E A0 F0 H0 f) := pss_one h1
theorem ds_ret (he : PE X e (LE K E h)) : PS X (.Return (some e) pos) (LS K E A0 F0 H0 (sRet h)) := PS.imp (ps_ret he) fun D s H q => LS.ex q fun A F r m d v H1 g o sl r1 p => p v A F H1 g o r1
theorem ds_if {c : Expr} {cb : En → Mem → Out Bool} (hc : PT X c (LT K E cb)) (ha : PSs X body (LS K E A0 F0 H0 f)) (hb : PSs X els (LS K E A0 F0 H0 g)) : PS X (.If c body els pos) (LS K E A0 F0 H0 (sIf cb f g)) := PS.imp (ps_if hc ha hb) fun D s H q =>
  LS.ex q fun A F r m d v H1 gr o sl r1 p => by
    have e' : d = v := r1
    subst e'
    cases d with
    | true => exact iteT ⟨A, F, r, m, gr, o, sl, p⟩
    | false => exact iteF ⟨A, F, r, m, gr, o, sl, p⟩
theorem Slots.set {A : List Addr} {F H : Hp} {s : L2.St} {r : En} {i : Nat} {d : D} {v : V} (sl : Slots K H0 A F H s r) (rp : Rep K A F d v) : Slots K H0 A F H (s.set i (some v)) (r.set i (.fz d)) where
  len := by simpa using sl.len
  fz := fun j d' e => by
    by_cases hj : i = j
    · subst hj
      rw [List.getElem?_set] at e
      simp only [if_true] at e
      split at e
      · rename_i hl
        cases e
        exact ⟨v, by rw [List.getElem?_set_self (by rw [sl.len]; exact hl)], rp⟩
      · cases e
    · rw [List.getElem?_set_ne hj] at e
      obtain ⟨w, e1, e2⟩ := sl.fz j d' e
      exact ⟨w, by rw [List.getElem?_set_ne hj]; exact e1, e2⟩
  own := fun j ds e => by
    by_cases hj : i = j
    · subst hj
      rw [List.getElem?_set] at e
      simp only [if_true] at e
      split at e <;> cases e
    · rw [List.getElem?_set_ne hj] at e
      obtain ⟨a, vs, e1, e2⟩ := sl.own j ds e
      exact ⟨a, vs, by rw [List.getElem?_set_ne hj]; exact e1, e2⟩
  ownD := fun j ks ds e => by
    by_cases hj : i = j
    · subst hj
      rw [List.getElem?_set] at e
      simp only [if_true] at e
      split at e <;> cases e
    · rw [List.getElem?_set_ne hj] at e
      obtain ⟨a, vs, e1, e2⟩ := sl.ownD j ks ds e
      exact ⟨a, vs, by rw [List.getElem?_set_ne hj]; exact e1, e2⟩
  inj := fun j l a h1 h2 e1 e2 => by
    have nj : ∀ {j : Nat}, ((∃ ds, (r.set i (.fz d))[j]? = some (.own ds)) ∨ ∃ ks ds, (r.set i (.fz d))[j]? = some (.ownD ks ds)) → i ≠ j := by
      rintro j h rfl
      rcases h with ⟨ds, e⟩ | ⟨ks, ds, e⟩ <;> (rw [List.getElem?_set] at e; simp only [if_true] at e; split at e <;> cases e)
    have n1 := nj h1
    have n2 := nj h2
    rw [List.getElem?_set_ne n1] at h1 e1
    rw [List.getElem?_set_ne n2] at h2 e2
    exact sl.inj j l a h1 h2 e1 e2
theorem ds_asg {i : Nat} {x : Str} {pos' : Pos} (hN : X.N.Nodup) (hi : X.N[i]? = some x) (hx : Loc X.env.scope x) (he : PE X e (LE K E h)) (hs : swapsWith e (some (.Name x pos')) pos.line X.env = pure false := by rfl) (hf : X.fn x = true ∨ X.env.scope.names.lookup x = some .local := by first | exact .inl rfl | exact .inr rfl | assumption) :
    PS X (.Assign [.Name x pos'] e pos) (LS K E A0 F0 H0 (sAsg i h)) := PS.imp (ps_set hN hi hx he hs hf) fun D s H q => LS.ex q fun A F r m d v H1 g o sl r1 p => p _ A F H1 .refl g o (sl.set r1)
end
def enOf (n : Nat) (ds : List D) : En := ds.map .fz ++ List.replicate (n - ds.length) .no
def runF (k n : Nat) (b : En → Mem → SOut) (ds : List D) (m : Mem) : Out D := if ds.length = k then (match b (enOf n ds) m with
  | .ret d m => .ok d m
  | .next _ m => .ok .non m
  | .exc c d m => .exc c d m
  | _ => .stuck) else .stuck
def SpF (K : PySem.W.Frag) (f : List D → Mem → Out D) : Sp := fun vs H Q E => ∃ A F ds m, Ok K A F H m ∧ Reps K A F ds vs ∧ Post (RE K) K E A F H (f ds m) (QE Q)
theorem slots_start {K : PySem.W.Frag} {A : List Addr} {F H : Hp} {N : List Str} {ds : List D} {vs : List V} (r : Reps K A F ds vs) : Slots K H A F H (L2.start N vs) (enOf N.length ds) := by
  have hl := r.length
  have key : ∀ (i : Nat) (x : Sl), (enOf N.length ds)[i]? = some x → x = .no ∨ ∃ d, x = .fz d ∧ ds[i]? = some d := fun i x e => by
    unfold enOf at e
    by_cases h : i < ds.length
    · rw [List.getElem?_append_left (by simpa using h), List.getElem?_map] at e
      cases q : ds[i]? with
      | none => rw [q] at e; cases e
      | some d => rw [q] at e; exact .inr ⟨d, (Option.some.inj e).symm, rfl⟩
    · rw [List.getElem?_append_right (by simpa using h), List.getElem?_replicate] at e
      split at e
      · exact .inl (Option.some.inj e).symm
      · cases e
  refine ⟨by simp [L2.start, enOf, hl], fun i d e => ?_, fun i ds' e => ?_, fun i ks ds' e => ?_, fun i j a h1 => ?_⟩
  · rcases key i _ e with z | ⟨d', z, e'⟩
    · cases z
    · cases z
      obtain ⟨v, e1, e2⟩ := r.getD e'
      refine ⟨v, ?_, e2⟩
      unfold L2.start
      rw [List.getElem?_append_left (by simpa using (List.getElem?_eq_some_iff.mp e1).1), List.getElem?_map, e1]
      rfl
  · rcases key i _ e with z | ⟨d', z, e'⟩ <;> cases z
  · rcases key i _ e with z | ⟨d', z, e'⟩ <;> cases z
  · rcases h1 with ⟨ds', e⟩ | ⟨ks, ds', e⟩ <;> (rcases key i _ e with z | ⟨d', z, e'⟩ <;> cases z)
theorem fn_ok {P : Program} {w : World} {K : PySem.W.Frag} {mg : Str → Option Value} {base : Heap} {CX : CXT} {x qual : Str} {params : Arguments} {body : List Stmt} {scope : Scope} {dvs : List V} {kws : List (Str × V)} {f : Addr} {fd : FuncData} {N ps : List Str} {k : Nat} {b : En → Mem → SOut}
    (F : FunD K x qual params body scope dvs kws f fd) (S : FnScope N ps scope)
    (hb : ∀ (cdv : Value) (A : Around) (outer : List Env) (s : Shared) (H : Hp) (E : XK), Room k (A.deeper (envOfC qual scope s.heap.objs.size f cdv)) → ∀ (A0 : List Addr) (F0 : Hp), PSs (cxOf CX P w K mg base N qual scope f cdv A outer s H E) body (LS K E A0 F0 H b)) :
    FnOk P w K mg base CX (k + 1) f fd ps (SpF K (runF ps.length N.length b)) := by
  have key : ∀ vs H Q E, SpF K (runF ps.length N.length b) vs H Q E → vs.length = ps.length ∧ ∃ A F ds m, Ok K A F H m ∧ Reps K A F ds vs ∧ Post (RE K) K E A F H (match b (enOf N.length ds) m with
      | .ret d m => .ok d m
      | .next _ m => .ok .non m
      | .exc c d m => .exc c d m
      | _ => .stuck) (QE Q) := by
    rintro vs H Q E ⟨A, F, ds, m, o, r, p⟩
    unfold runF at p
    by_cases c : ds.length = ps.length
    · rw [if_pos c] at p
      exact ⟨r.length.symm.trans c, A, F, ds, m, o, r, p⟩
    · rw [if_neg c] at p; exact p.elim
  refine F.ok S (fun vs H Q E h => (key vs H Q E h).1) fun cdv A outer s H vs Q E hr h => ?_
  obtain ⟨_, A0, F0, ds, m, o, r, p⟩ := key vs H Q E h
  refine ⟨_, hb cdv A outer s H E hr A0 F0, A0, F0, _, m, .refl, o, slots_start r, ?_⟩
  cases e : b (enOf N.length ds) m with
  | stuck => rw [e] at p; exact p
  | next r1 m1 =>
    rw [e] at p
    exact fun s1 A1 F1 H1 x g1 o1 sl1 => p .non A1 F1 H1 g1 o1 (by simp only [RE, Rep])
  | brk r1 m1 => rw [e] at p; exact p.elim
  | ret d m1 => rw [e] at p; exact fun v A1 F1 H1 g1 o1 r1 => p v A1 F1 H1 g1 o1 r1
  | exc c d m1 => rw [e] at p; exact p
def callF (f : List D → Mem → Out D) (g : En → Mem → Out (List D)) : En → Mem → Out D := bind1 g f
section
variable {X : Cx} {CX : CXT} {k : Nat} {f : Addr} {fd : FuncData} {ps : List Str} {ds : List Value} {dvs : List V} {dd : List D} {fm : List D → Mem → Out D} {E : XK} {x : Str} {p pos : Pos} {e : Expr} {es : List Expr} {g : En → Mem → Out (List D)}
theorem call_of {s : L2.St} {H : Hp} {Q : V → Hp → Prop} (hdd : ∀ A F, Reps X.K A F dd dvs) (q : LE X.K E (callF (fun xs m => fm (xs ++ dd) m) g) s H Q) : LA X.K E g s H fun vs H1 => SpF X.K fm (vs ++ dvs) H1 Q E :=
  LX.un q fun H0 A F r m xs vs H1 o sl r1 p => ⟨A, F, xs ++ dd, m, o, r1.append (hdd A F), p⟩
theorem de_call (F : FnOk X.prog X.w X.K X.mg X.base CX k f fd ps (SpF X.K fm)) (hr : Room k X.A) (hg : Gl X x) (hm : X.mg x = some (.ref f)) (hk : PySem.W.keepIn X.K (.ref f) = true) (hb : Binds X.K fd ps ds) (hd : Vals dvs ds) (hx : Passes CX X E)
    (hdd : ∀ A F, Reps X.K A F dd dvs) (ha : PA X (e :: es) (LA X.K E g)) (hdb : (x == ("__debug__" : Str)) = false := by decide) (he : starEach (e :: es) X.env = (false, eval e X.env) :: starEach es X.env := by rfl) (hpl : (backTo pos (starEach es X.env)).any (·.1) = false := by rfl) :
    PE X (.Call (.Name x p) (e :: es) [] pos) (LE X.K E (callF (fun xs m => fm (xs ++ dd) m) g)) :=
  PE.imp (pe_call F hr hg hm hk hb hd hx ha hdb he hpl) fun s H Q q => call_of hdd q
end
end MT
set_option Elab.async false
set_option linter.all false
set_option maxRecDepth 100000
namespace MT
open PySem PySem.Spec PyProof.Rows L2
structure WD (K : PySem.W.Frag) (A : List Addr) (F : Hp) (J : It) (ds : List D) : Prop where
  go : ∀ i H, i < ds.length → (∀ a o, F a = some o → H a = some o) → J.go i H
  stop : ∀ H, (∀ a o, F a = some o → H a = some o) → J.stop ds.length H
  yld : ∀ i H x H', i < ds.length → (∀ a o, F a = some o → H a = some o) → J.yld i H x H' →
    ∃ d, ds[i]? = some d ∧ ((H' = H ∧ Rep K A F d x) ∨ ∃ T ys es, x = .ref T ∧ H T = none ∧ H' = upd H T (.tup ys) ∧ d = .tup es ∧ Reps K A F es ys)
abbrev RI (K : PySem.W.Frag) : RP (List D) It := fun A F _ ds J => WD K A F J ds
abbrev LI (K : PySem.W.Frag) (E : XK) (f : En → Mem → Out (List D)) : TI := LX (RI K) K E f
theorem PI.imp {X : Cx} {tg e : Expr} {t t' : TI} (h : PI X tg e t) (i : ∀ s H Q, t' s H Q → t s H Q) : PI X tg e t' := ⟨fun p s σ H Q I q => h.run p s σ H Q I (i σ H Q q)⟩
structure TgC (K : PySem.W.Frag) (g : TG) (tg : D → En → Option En) (is : List Nat) : Prop where
  to : ∀ H0 A F H m s r d v r' Q, Ok K A F H m → Slots K H0 A F H s r → Rep K A F d v → tg d r = some r' → (∀ s', Slots K H0 A F H s' r' → s'.length = s.length → (∀ j, j ∉ is → s'[j]? = s[j]?) → Q s' H) → g v s H Q
structure TgsC (K : PySem.W.Frag) (g : TGs) (tg : List D → En → Option En) (is : List Nat) : Prop where
  to : ∀ H0 A F H m s r ds vs r' Q, Ok K A F H m → Slots K H0 A F H s r → Reps K A F ds vs → tg ds r = some r' → (∀ s', Slots K H0 A F H s' r' → s'.length = s.length → (∀ j, j ∉ is → s'[j]? = s[j]?) → Q s' H) → g vs s H Q
def tgN (i : Nat) : D → En → Option En := fun d r => some (r.set i (.fz d))
def tgNil : List D → En → Option En
  | [], r => some r
  | _, _ => none
def tgCons (t : D → En → Option En) (u : List D → En → Option En) : List D → En → Option En
  | d :: ds, r => (t d r).bind (u ds)
  | _, _ => none
def tgT (n : Nat) (u : List D → En → Option En) : D → En → Option En
  | .tup ds, r => if ds.length = n then u ds r else none
  | _, _ => none
section
variable {K : PySem.W.Frag}
theorem tc_name {i : Nat} : TgC K (gName i) (tgN i) [i] := ⟨fun H0 A F H m s r d v r' Q o sl rp e q => by
  cases e
  exact q _ (sl.set rp) (by simp) fun j hj => List.getElem?_set_ne (fun z => hj (by simp [z]))⟩
theorem tcs_nil : TgsC K gNil tgNil [] := ⟨fun H0 A F H m s r ds vs r' Q o sl rp e q => by
  cases ds with
  | nil =>
    cases e
    simp only [Reps] at rp
    exact ⟨rp, q s sl rfl fun _ _ => rfl⟩
  | cons d ds => cases e⟩
theorem tcs_cons {g : TG} {u : TGs} {t : D → En → Option En} {ts : List D → En → Option En} {is js : List Nat} (h1 : TgC K g t is) (h2 : TgsC K u ts js) : TgsC K (gCons g u) (tgCons t ts) (is ++ js) := ⟨fun H0 A F H m s r ds vs r' Q o sl rp e q => by
  cases ds with
  | nil => cases e
  | cons d ds =>
    simp only [Reps] at rp
    obtain ⟨v, vr, rfl, r1, r2⟩ := rp
    simp only [tgCons] at e
    cases e1 : t d r with
    | none => rw [e1] at e; cases e
    | some r1' =>
      rw [e1] at e
      refine ⟨v, vr, rfl, h1.to H0 A F H m s r d v r1' _ o sl r1 e1 fun s' sl' l1 k1 => ?_⟩
      exact h2.to H0 A F H m s' r1' ds vr r' Q o sl' r2 e fun s2 sl2 l2 k2 => q s2 sl2 (l2.trans l1) fun j hj => by
        simp only [List.mem_append, not_or] at hj
        rw [k2 j hj.2, k1 j hj.1]⟩
theorem tc_tup {u : TGs} {ts : List D → En → Option En} {n : Nat} {is : List Nat} (h : TgsC K u ts is) : TgC K (gTup K n u) (tgT n ts) is := ⟨fun H0 A F H m s r d v r' Q o sl rp e q => by
  cases d <;> first | (simp [tgT] at e; done) | skip
  rename_i ds
  simp only [tgT] at e
  split at e
  · rename_i c
    simp only [Rep] at rp
    obtain ⟨a, vs, rfl, s1, r1⟩ := rp
    exact ⟨a, vs, rfl, sqT_fx o.sub s1, r1.length.symm.trans c, h.to H0 A F H m s r ds vs r' Q o sl r1 e q⟩
  · cases e⟩
end
def forL (tg : D → En → Option En) (b : En → Mem → SOut) : List D → En → Mem → SOut
  | [], r, m => .next r m
  | d :: ds, r, m => match tg d r with
    | none => .stuck
    | some r1 => match b r1 m with
      | .next r2 m2 => forL tg b ds r2 m2
      | .brk r2 m2 => .next r2 m2
      | .stuck => .stuck
      | .ret x m2 => .ret x m2
      | .exc c x m2 => .exc c x m2
def sFor (fi : En → Mem → Out (List D)) (tg : D → En → Option En) (b : En → Mem → SOut) : En → Mem → SOut := fun r m => sOf (fi r m) fun ds m => forL tg b ds r m
theorem yld_step {K : PySem.W.Frag} {A : List Addr} {F H H' F1 : Hp} {A1 : List Addr} {m : Mem} {J : It} {ds : List D} (w : WD K A1 F1 J ds) (fx : Fx A1 F1 A F) (o : Ok K A F H m) {i : Nat} (hi : i < ds.length) {x : V} (y : J.yld i H x H') :
    ∃ d F', ds[i]? = some d ∧ Gr A F H A F' H' ∧ Ok K A F' H' m ∧ Rep K A F' d x := by
  obtain ⟨d, e, h⟩ := w.yld i H x H' hi (fun a ob q => o.sub _ _ (fx.f _ _ q)) y
  refine ⟨d, ?_⟩
  rcases h with ⟨rfl, rp⟩ | ⟨T, ys, es, rfl, hT, rfl, rfl, rp⟩
  · exact ⟨F, e, .refl, o, rp.fx fx⟩
  · obtain ⟨o', g⟩ := o.alloc hT (.tup ys)
    refine ⟨_, e, g, o', ?_⟩
    simp only [Rep]
    exact ⟨T, ys, rfl, .inl (.inl upd_same), (rp.fx fx).up (o.out hT).1⟩
section
variable {X : Cx} {E : XK} {K : PySem.W.Frag} {A0 : List Addr} {F0 H0 : Hp} {body : List Stmt} {b : En → Mem → SOut} {tg iter : Expr} {pos : Pos} {fi : En → Mem → Out (List D)} {g : TG} {tgm : D → En → Option En} {is : List Nat}
theorem ds_for (hp : PassesOwn (model X.prog X.w) X.A X.env X.xe) (hc : X.calm = true) (hi : PI X tg iter (LI K E fi)) (hg : PG X tg g) (tc : TgC K g tgm is) (hb : PSs X body (LS K E A0 F0 H0 b)) (hs : ∀ x, foldedSetIterable iter X.env x = pure x := by intro _; rfl) :
    PS X (.For tg iter body [] pos) (LS K E A0 F0 H0 (sFor fi tgm b)) := PS.imp (ps_for hp hc hi hg hb hs) fun D s H q =>
  LS.ex q fun A F r m ds J H1 gr o sl w p => by
    refine ⟨fun i n s H => n = ds.length - i ∧ i ≤ ds.length ∧ ∃ A' F' r' m', Fx A F A' F' ∧ Gr A0 F0 H0 A' F' H ∧ Ok K A' F' H m' ∧ Slots K H0 A' F' H s r' ∧ PostS K E A0 F0 H0 A' F' (forL tgm b (ds.drop i) r' m') D, ⟨ds.length, by simp, Nat.zero_le _, A, F, r, m, .refl, gr, o, sl, p⟩, ?_⟩
    rintro i n s H ⟨rfl, hi, A', F', r', m', fx, gr', o', sl', p'⟩
    by_cases hlt : i < ds.length
    · refine .inr ⟨w.go i H hlt fun a ob q => o'.sub _ _ (fx.f _ _ q), fun s2 H2 => ∃ A2 F2 r2 m2, Fx A F A2 F2 ∧ Gr A0 F0 H0 A2 F2 H2 ∧ Ok K A2 F2 H2 m2 ∧ Slots K H0 A2 F2 H2 s2 r2 ∧ PostS K E A0 F0 H0 A2 F2 (forL tgm b (ds.drop (i + 1)) r2 m2) D,
        fun s2 H2 h => ⟨ds.length - (i + 1), by omega, rfl, hlt, h⟩, fun x H' y => ?_⟩
      obtain ⟨d, F2, e, g2, o2, rp⟩ := yld_step w fx o' hlt y
      have hd : ds.drop i = d :: ds.drop (i + 1) := by
        rw [List.drop_eq_getElem_cons hlt]
        rw [List.getElem?_eq_getElem hlt] at e
        rw [Option.some.inj e]
      rw [hd] at p'
      unfold forL at p'
      cases et : tgm d r' with
      | none => rw [et] at p'; exact p'.elim
      | some r1 =>
        rw [et] at p'
        dsimp only at p'
        refine tc.to H0 A' F2 H' m' s r' d x r1 _ o2 (sl'.gr g2) rp et fun s3 sl3 _ _ => ?_
        refine ⟨A', F2, r1, m', gr'.trans g2, o2, sl3, ?_⟩
        cases eb : b r1 m' with
        | stuck => rw [eb] at p'; exact p'
        | next r4 m4 =>
          rw [eb] at p'
          exact fun s4 A4 F4 H4 x4 g4 o4 sl4 => ⟨A4, F4, r4, m4, (fx.trans g2.fx).trans x4, g4, o4, sl4, (PostS.fx p' g2.fx).fx x4⟩
        | brk r4 m4 =>
          rw [eb] at p'
          exact fun s4 A4 F4 H4 x4 g4 o4 sl4 => p' s4 A4 F4 H4 (g2.fx.trans x4) g4 o4 sl4
        | ret d4 m4 => rw [eb] at p'; exact p'
        | exc c d4 m4 => rw [eb] at p'; exact p'
    · have e : i = ds.length := by omega
      subst e
      rw [List.drop_length] at p'
      exact .inl ⟨w.stop H fun a ob q => o'.sub _ _ (fx.f _ _ q), p' s A' F' H .refl gr' o' sl'⟩
end
def wipeE (r : En) : List Nat → En
  | [] => r
  | v :: vs => (wipeE r vs).set v .no
def compL (tg : D → En → Option En) (ts : En → Mem → Out Bool) (el : En → Mem → Out D) (r : En) : List D → Mem → List D → Out (List D)
  | [], m, acc => .ok acc m
  | d :: ds, m, acc => match tg d r with
    | none => .stuck
    | some r1 => match ts r1 m with
      | .ok true m1 => (match el r1 m1 with
        | .ok x m2 => compL tg ts el r ds m2 (acc ++ [x])
        | _ => .stuck)
      | .ok false m1 => compL tg ts el r ds m1 acc
      | _ => .stuck
def compF (fi : En → Mem → Out (List D)) (tg : D → En → Option En) (ts : En → Mem → Out Bool) (el : En → Mem → Out D) (vs : List Nat) : En → Mem → Out (List D) := fun r m => (fi r m).bind fun ds m => if ds.length ≤ sizeLine then compL tg ts el (wipeE r vs) ds m [] else .stuck
def kT : En → Mem → Out Bool := fun _ m => .ok true m
def ofL (f : En → Mem → Out (List D)) : En → Mem → Out D := bind1 f fun xs m => .ok (.lst xs) m
section
variable {K : PySem.W.Frag}
theorem Slots.no {H0 : Hp} {A : List Addr} {F H : Hp} {s : L2.St} {r : En} {i : Nat} (sl : Slots K H0 A F H s r) : Slots K H0 A F H (s.set i none) (r.set i .no) where
  len := by simpa using sl.len
  fz := fun j d' e => by
    by_cases hj : i = j
    · subst hj
      rw [List.getElem?_set] at e
      simp only [if_true] at e
      split at e <;> cases e
    · rw [List.getElem?_set_ne hj] at e
      obtain ⟨w, e1, e2⟩ := sl.fz j d' e
      exact ⟨w, by rw [List.getElem?_set_ne hj]; exact e1, e2⟩
  own := fun j ds e => by
    by_cases hj : i = j
    · subst hj
      rw [List.getElem?_set] at e
      simp only [if_true] at e
      split at e <;> cases e
    · rw [List.getElem?_set_ne hj] at e
      obtain ⟨a, vs, e1, e2⟩ := sl.own j ds e
      exact ⟨a, vs, by rw [List.getElem?_set_ne hj]; exact e1, e2⟩
  ownD := fun j ks ds e => by
    by_cases hj : i = j
    · subst hj
      rw [List.getElem?_set] at e
      simp only [if_true] at e
      split at e <;> cases e
    · rw [List.getElem?_set_ne hj] at e
      obtain ⟨a, vs, e1, e2⟩ := sl.ownD j ks ds e
      exact ⟨a, vs, by rw [List.getElem?_set_ne hj]; exact e1, e2⟩
  inj := fun j l a h1 h2 e1 e2 => by
    have nj : ∀ {j : Nat}, ((∃ ds, (r.set i .no)[j]? = some (.own ds)) ∨ ∃ ks ds, (r.set i .no)[j]? = some (.ownD ks ds)) → i ≠ j := by
      rintro j h rfl
      rcases h with ⟨ds, e⟩ | ⟨ks, ds, e⟩ <;> (rw [List.getElem?_set] at e; simp only [if_true] at e; split at e <;> cases e)
    have n1 := nj h1
    have n2 := nj h2
    rw [List.getElem?_set_ne n1] at h1 e1
    rw [List.getElem?_set_ne n2] at h2 e2
    exact sl.inj j l a h1 h2 e1 e2
theorem Slots.wipe {H0 : Hp} {A : List Addr} {F H : Hp} {s : L2.St} {r : En} (sl : Slots K H0 A F H s r) : ∀ vs : List Nat, Slots K H0 A F H (L2.wipe s vs) (wipeE r vs)
  | [] => sl
  | _ :: vs => (sl.wipe vs).no
theorem wipe_get {s : L2.St} : ∀ {vs : List Nat} {j : Nat}, (L2.wipe s vs)[j]? = if j ∈ vs then (s[j]?.map fun _ => none) else s[j]?
  | [], j => by simp [L2.wipe]
  | v :: vs, j => by
    unfold L2.wipe
    by_cases h : v = j
    · subst h
      rw [List.getElem?_set]
      simp only [if_true, List.mem_cons, true_or]
      rw [wipe_length]
      split
      · rename_i hl; rw [List.getElem?_eq_getElem hl]; rfl
      · rename_i hl; rw [List.getElem?_eq_none (by omega)]; rfl
    · rw [List.getElem?_set_ne h, wipe_get (vs := vs)]
      simp only [List.mem_cons, show ¬ j = v from fun e => h e.symm, false_or]
theorem wipe_back {s s' : L2.St} {vs is : List Nat} (hl : s'.length = (L2.wipe s vs).length) (hk : ∀ j, j ∉ is → s'[j]? = (L2.wipe s vs)[j]?) (hs : ∀ j ∈ is, j ∈ vs) : L2.wipe s' vs = L2.wipe s vs := by
  apply List.ext_getElem?
  intro j
  rw [wipe_get, wipe_get]
  by_cases h : j ∈ vs
  · rw [if_pos h, if_pos h]
    rw [wipe_length] at hl
    by_cases hj : j < s.length
    · rw [List.getElem?_eq_getElem hj, List.getElem?_eq_getElem (by omega)]; rfl
    · rw [List.getElem?_eq_none (by omega), List.getElem?_eq_none (by omega)]
  · rw [if_neg h, if_neg h, hk j fun z => h (hs j z), wipe_get, if_neg h]
theorem Ok.upd {A : List Addr} {F H : Hp} {m : Mem} (o : Ok K A F H m) {L : Addr} {x : HO} (nF : F L = none) (nA : L ∉ A) : Ok K A F (L2.upd H L x) m :=
  ⟨fun a u e => by rw [upd_ne (ne_of_none e nF)]; exact o.sub a u e, o.nd, o.len, fun n a y e1 e2 => by
    have z : a ≠ L := by
      rintro rfl
      exact nA (List.mem_of_getElem? e1)
    rw [upd_ne z]; exact o.mem n a y e1 e2, o.sep⟩
theorem Gr.upd {A A' : List Addr} {F H F' H' : Hp} (g : Gr A F H A' F' H') {L : Addr} {x : HO} (fresh : H L = none) : Gr A F H A' F' (L2.upd H' L x) :=
  ⟨g.fx, g.new, fun a u e n => by rw [upd_ne (ne_of_none e fresh)]; exact g.stay a u e n, fun a e => by
    by_cases z : a = L
    · subst z; exact fresh
    · rw [upd_ne z] at e; exact g.keep a e, g.mnew, fun a ob P e => by rw [upd_ne (ne_of_none e fresh)]; exact g.frz a ob P e⟩
variable {E : XK} {fi : En → Mem → Out (List D)} {g : TG} {tgm : D → En → Option En} {is : List Nat} {ts : En → Mem → Out Bool} {el : En → Mem → Out D} {vs : List Nat}
theorem lc_of (tc : TgC K g tgm is) (hv : ∀ j ∈ is, j ∈ vs) {s : L2.St} {H : Hp} {Q : V → Hp → Prop} {R : List D → Mem → Addr → List V → List Addr → Hp → Hp → Prop}
    (H0 : Hp) (A : List Addr) (F : Hp) (r : En) (m : Mem) (o : Ok K A F H m) (sl : Slots K H0 A F H s r)
    (p : match compF fi tgm ts el vs r m with
      | .stuck => False
      | .ok ds m' => ∀ a us A' F' H', Gr A F H A' F' H' → Ok K A' F' H' m' → H a = none → H' a = some (.lst us) → F' a = none → a ∉ A' → Reps K A' F' ds us → Q (.ref a) H'
      | .exc c d m' => XC K E A F H c d m') :
    tLc (LI K E fi) g (LT K E0 ts) (LE K E0 el) vs s H Q := by
  unfold compF at p
  refine ⟨H0, A, F, r, m, o, sl, ?_⟩
  cases ef : fi r m with
  | stuck => rw [ef] at p; exact p
  | exc c d m' => rw [ef] at p; exact p
  | ok ds m1 =>
    rw [ef] at p
    simp only [Out.bind] at p
    intro J A1 F1 H1 g1 o1 w L hL
    by_cases c : ds.length ≤ sizeLine
    · rw [if_pos c] at p
      have fresh : H L = none := g1.keep L hL
      have out := o1.out hL
      have o1' : Ok K A1 F1 (upd H1 L (.lst [])) m1 := o1.upd out.1 out.2
      have g1' : Gr A F H A1 F1 (upd H1 L (.lst [])) := g1.upd fresh
      refine ⟨fun i n H2 => n = ds.length - i ∧ i ≤ ds.length ∧ ∃ A2 F2 m2 acc us, Fx A1 F1 A2 F2 ∧ Gr A F H A2 F2 H2 ∧ Ok K A2 F2 H2 m2 ∧ H2 L = some (.lst us) ∧ F2 L = none ∧ L ∉ A2 ∧ Reps K A2 F2 acc us ∧ acc.length ≤ i ∧
        (match compL tgm ts el (wipeE r vs) (ds.drop i) m2 acc with
          | .stuck => False
          | .ok ds m' => ∀ a us A' F' H', Gr A F H A' F' H' → Ok K A' F' H' m' → H a = none → H' a = some (.lst us) → F' a = none → a ∉ A' → Reps K A' F' ds us → Q (.ref a) H'
          | .exc c d m' => XC K E A F H c d m'), ⟨ds.length, by simp, Nat.zero_le _, A1, F1, m1, [], [], .refl, g1', o1', upd_same, out.1, out.2, Reps.nil, Nat.le_refl _, p⟩, ?_⟩
      rintro i n H2 ⟨rfl, hi, A2, F2, m2, acc, us, fx, g2, o2, hL2, nF, nA, ra, la, p2⟩
      by_cases hlt : i < ds.length
      · refine .inr ⟨w.go i H2 hlt fun a ob q => o2.sub _ _ (fx.f _ _ q), fun H3 => ∃ A2 F2 m2 acc us, Fx A1 F1 A2 F2 ∧ Gr A F H A2 F2 H3 ∧ Ok K A2 F2 H3 m2 ∧ H3 L = some (.lst us) ∧ F2 L = none ∧ L ∉ A2 ∧ Reps K A2 F2 acc us ∧ acc.length ≤ i + 1 ∧
          (match compL tgm ts el (wipeE r vs) (ds.drop (i + 1)) m2 acc with
            | .stuck => False
            | .ok ds m' => ∀ a us A' F' H', Gr A F H A' F' H' → Ok K A' F' H' m' → H a = none → H' a = some (.lst us) → F' a = none → a ∉ A' → Reps K A' F' ds us → Q (.ref a) H'
            | .exc c d m' => XC K E A F H c d m'), fun H3 h => ⟨ds.length - (i + 1), by omega, rfl, hlt, h⟩, fun x H3 y => ?_⟩
        obtain ⟨d, F3, e, g3, o3, rp⟩ := yld_step w fx o2 hlt y
        have hd : ds.drop i = d :: ds.drop (i + 1) := by
          rw [List.drop_eq_getElem_cons hlt]
          rw [List.getElem?_eq_getElem hlt] at e
          rw [Option.some.inj e]
        rw [hd] at p2
        unfold compL at p2
        obtain ⟨hL3, nF3, nA3⟩ := gr_free g3 hL2 nF nA
        cases et : tgm d (wipeE r vs) with
        | none => rw [et] at p2; exact p2.elim
        | some r1 =>
          rw [et] at p2
          dsimp only at p2
          have sw : Slots K H0 A2 F3 H3 (L2.wipe s vs) (wipeE r vs) := (((sl.gr g2).gr g3).wipe vs)
          refine tc.to H0 A2 F3 H3 m2 _ _ d x r1 _ o3 sw rp et fun s4 sl4 l4 k4 => ⟨wipe_back l4 k4 hv, ?_⟩
          refine ⟨H0, A2, F3, r1, m2, o3, sl4, ?_⟩
          cases eb : ts r1 m2 with
          | stuck => rw [eb] at p2; exact p2
          | exc c d m' => rw [eb] at p2; exact p2.elim
          | ok bb m3 =>
            rw [eb] at p2
            intro b' A5 F5 H5 g5 o5 eqb
            have eqb' : bb = b' := eqb
            subst eqb'
            obtain ⟨hL5, nF5, nA5⟩ := gr_free g5 hL3 nF3 nA3
            cases bb with
            | true =>
              dsimp only at p2
              refine iteT ⟨H0, A5, F5, r1, m3, o5, sl4.gr g5, ?_⟩
              cases ee : el r1 m3 with
              | stuck => rw [ee] at p2; exact p2
              | exc c d m' => rw [ee] at p2; exact p2.elim
              | ok z m4 =>
                rw [ee] at p2
                dsimp only at p2
                intro v6 A6 F6 H6 g6 o6 r6
                obtain ⟨hL6, nF6, nA6⟩ := gr_free g6 hL5 nF5 nA5
                have ra6 : Reps K A6 F6 acc us := ((ra.fx g3.fx).fx g5.fx).fx g6.fx
                refine ⟨us, hL6, ?_, A6, F6, m4, acc ++ [z], us ++ [v6], ((fx.trans g3.fx).trans g5.fx).trans g6.fx, ?_, ?_, upd_same, nF6, nA6, ra6.append (Reps.cons r6 Reps.nil), by simp; omega, p2⟩
                · rw [← ra6.length]; omega
                · exact (((g2.trans g3).trans g5).trans g6).upd fresh
                · exact o6.upd nF6 nA6
            | false =>
              dsimp only at p2
              exact iteF ⟨A5, F5, m3, acc, us, (fx.trans g3.fx).trans g5.fx, (g2.trans g3).trans g5, o5, hL5, nF5, nA5, (ra.fx g3.fx).fx g5.fx, by omega, p2⟩
      · have e : i = ds.length := by omega
        subst e
        rw [List.drop_length] at p2
        exact .inl ⟨w.stop H2 fun a ob q => o2.sub _ _ (fx.f _ _ q), p2 L us A2 F2 H2 g2 o2 fresh hL2 nF nA ra⟩
    · rw [if_neg c] at p; exact p.elim
theorem Ok.freeze {A : List Addr} {F H : Hp} {m : Mem} (o : Ok K A F H m) {a : Addr} {u : HO} (h : H a = some u) (nF : F a = none) (nA : a ∉ A) : Ok K A (L2.upd F a u) H m := by
  have fx : Fx A F A (L2.upd F a u) := ⟨fun b w e => by rw [upd_ne (ne_of_none e nF)]; exact e, List.prefix_refl _⟩
  exact ⟨fun b w e => by
    by_cases z : b = a
    · subst z; rw [upd_same] at e; rw [h]; exact e
    · rw [upd_ne z] at e; exact o.sub b w e, o.nd, o.len, fun n b y e1 e2 => (o.mem n b y e1 e2).fx fx, fun b hb => by rw [upd_ne (by rintro rfl; exact nA hb)]; exact o.sep b hb⟩
theorem Gr.freeze {A A' : List Addr} {F H F' H' : Hp} (g : Gr A F H A' F' H') {a : Addr} {u : HO} (h : H a = none) (nF : F' a = none) : Gr A F H A' (L2.upd F' a u) H' :=
  ⟨⟨fun b w e => by rw [upd_ne (ne_of_none (g.fx.f b w e) nF)]; exact g.fx.f b w e, g.fx.pre⟩, fun b w e => by
    by_cases z : b = a
    · subst z; exact .inr h
    · rw [upd_ne z] at e; exact g.new b w e, g.stay, g.keep, g.mnew, g.frz⟩
theorem lc_frz (tc : TgC K g tgm is) (hv : ∀ j ∈ is, j ∈ vs) {s : L2.St} {H : Hp} {Q : V → Hp → Prop} (q : LE K E (ofL (compF fi tgm ts el vs)) s H Q) : tLc (LI K E fi) g (LT K E0 ts) (LE K E0 el) vs s H Q := by
  obtain ⟨H0, A, F, r, m, o, sl, p⟩ := q
  refine lc_of (R := fun _ _ _ _ _ _ _ => True) tc hv H0 A F r m o sl ?_
  unfold ofL bind1 at p
  cases e : compF fi tgm ts el vs r m with
  | stuck => rw [e] at p; exact p
  | exc c d m' => rw [e] at p; exact p
  | ok ds m' =>
    rw [e] at p
    intro a us A' F' H' g' o' hn ha nF nA rp
    refine p (.ref a) A' (upd F' a (.lst us)) H' (g'.freeze hn nF) (o'.freeze ha nF nA) ?_
    simp only [RE, Rep]
    exact ⟨a, us, rfl, upd_same, rp.up nF⟩
end
section
variable {X : Cx} {E : XK} {tg iter elt : Expr} {ifs : List Expr} {scope : Scope} {own : List (Str × Nat)} {pos : Pos} {fi : En → Mem → Out (List D)} {g : TG} {tgm : D → En → Option En} {is : List Nat} {ts : En → Mem → Out Bool} {el : En → Mem → Out D}
theorem dts_nil {K : PySem.W.Frag} : PTs X [] (LT K E kT) := ⟨fun p s σ H Q I q => pts_nil.run p s σ H Q I (by
  obtain ⟨H0, A, F, r, m, o, sl, p⟩ := q
  exact p.ret o rfl)⟩
theorem de_lc (hc : X.calm = true) (hN : X.N.Nodup) (hi : PI X tg iter (LI X.K E fi)) (ok : BlkOk X.N X.env.scope scope own) (tc : TgC X.K g tgm is) (hv : ∀ j ∈ is, j ∈ own.map (·.2))
    (hg : ∀ (s : Shared) (H : Hp) (C : Addr) (cl : List (Str × Addr)) (fp : List Addr), PG (X.blk s H scope (compEnvC scope cl C X.env) fp) tg g) (ht : ∀ (s : Shared) (H : Hp) (C : Addr) (cl : List (Str × Addr)) (fp : List Addr), PTs (X.blk s H scope (compEnvC scope cl C X.env) fp) ifs (LT X.K E0 ts))
    (he : ∀ (s : Shared) (H : Hp) (C : Addr) (cl : List (Str × Addr)) (fp : List Addr), PE (X.blk s H scope (compEnvC scope cl C X.env) fp) elt (LE X.K E0 el)) (hs : ∀ x, foldedSetIterable iter X.env x = pure x := by intro _; rfl) :
    PE X (.ListComp elt [⟨tg, iter, ifs, 0⟩] scope pos) (LE X.K E (ofL (compF fi tgm ts el (own.map (·.2))))) := PE.imp (pe_lc hc hN hi ok hg ht he hs) fun s H Q q => lc_frz tc hv q
end
end MT
set_option Elab.async false
set_option linter.all false
set_option maxRecDepth 100000
namespace MT
open PySem PySem.Spec PyProof.Rows L2
section
variable {K : PySem.W.Frag} {A : List Addr} {F : Hp}
theorem wd_of {J : It} {n : Nat} {G : Hp → Prop} {xs : List V} {ds : List D} (w : Walk J n G (YAt xs)) (hn : n = ds.length) (hG : ∀ H, (∀ a o, F a = some o → H a = some o) → G H) (r : Reps K A F ds xs) : WD K A F J ds := by
  subst hn
  exact ⟨fun i H hi h => w.goes i H hi (hG H h), fun H h => w.stops H (hG H h), fun i H x H' hi h y => by
    obtain ⟨e1, e2⟩ := w.yields i H x H' hi (hG H h) y
    obtain ⟨d, e3, e4⟩ := r.get e2
    exact ⟨d, e3, .inl ⟨e1, e4⟩⟩⟩
theorem WD.lst {ds : List D} {vs : List V} {a : Addr} (h : F a = some (.lst vs)) (r : Reps K A F ds vs) : WD K A F (Itl K a) ds :=
  wd_of walk_list r.length.symm (fun H f => .inl (.inl (f _ _ h))) r
theorem WD.tup {ds : List D} {vs : List V} {a : Addr} (h : SqT K F a vs) (r : Reps K A F ds vs) : WD K A F (Itt K a) ds :=
  wd_of walk_tup r.length.symm (fun H f => sqT_fx f h) r
def chars (z : Str) : List D := z.cps.toList.map fun c => .str ⟨#[c]⟩
theorem WD.str {z : Str} : WD K A F (Its z) (chars z) := by
  have w := walk_str (z := z)
  have hl : z.cps.size = (chars z).length := by simp [chars]
  rw [hl] at w
  exact ⟨fun i H hi h => w.goes i H hi trivial, fun H h => w.stops H trivial, fun i H x H' hi h y => by
    obtain ⟨e1, c, e2, e3⟩ := w.yields i H x H' hi trivial y
    refine ⟨.str ⟨#[c]⟩, ?_, .inl ⟨e1, by rw [e3]; simp only [Rep]⟩⟩
    simp only [chars, List.getElem?_map, Array.getElem?_toList, e2, Option.map_some]⟩
def rangeD (lo hi : Int) : List D := (List.range (hi - lo).toNat).map fun (i : Nat) => .int (lo + (i : Int))
theorem rangeD_length (lo hi : Int) : (rangeD lo hi).length = (hi - lo).toNat := by simp [rangeD]
theorem WD.range {lo hi : Int} : WD K A F (Itr lo (hi - lo).toNat) (rangeD lo hi) := by
  have w := walk_range (lo := lo) (n := (hi - lo).toNat)
  rw [← rangeD_length lo hi] at w ⊢
  exact ⟨fun i H hi h => w.goes i H hi trivial, fun H h => w.stops H trivial, fun i H x H' hi' h y => by
    obtain ⟨e1, e2⟩ := w.yields i H x H' hi' trivial y
    refine ⟨.int (lo + i), ?_, .inl ⟨e1, by rw [e2]; simp only [Rep]⟩⟩
    rw [rangeD_length] at hi'
    simp [rangeD, hi']⟩
def enumD (ds : List D) : List D := (List.range ds.length).zipWith (fun (i : Nat) (d : D) => .tup [.int (i : Int), d]) ds
theorem enumD_length (ds : List D) : (enumD ds).length = ds.length := by simp [enumD]
theorem enumD_get {ds : List D} {i : Nat} {d : D} (h : ds[i]? = some d) : (enumD ds)[i]? = some (.tup [.int (i : Int), d]) := by
  have hl := (List.getElem?_eq_some_iff.mp h).1
  simp [enumD, List.getElem?_zipWith, h, hl]
  exact (List.getElem?_eq_some_iff.mp h).2
def zipD (ds es : List D) : List D := ds.zipWith (fun d e => .tup [d, e]) es
theorem zipD_length (ds es : List D) : (zipD ds es).length = min ds.length es.length := by simp [zipD]
theorem zipD_get {ds es : List D} {i : Nat} {d e : D} (h : ds[i]? = some d) (g : es[i]? = some e) : (zipD ds es)[i]? = some (.tup [d, e]) := by
  simp [zipD, List.getElem?_zipWith, h, g]
end
def seqI (f : En → Mem → Out D) : En → Mem → Out (List D) := bind1 f fun d m => match d with
  | .lst ds => .ok ds m
  | .tup ds => .ok ds m
  | .str z => .ok (chars z) m
  | _ => .stuck
def rngI1 (g : En → Mem → Out (List D)) : En → Mem → Out (List D) := bind1 g fun xs m => match xs with
  | [.int j] => if -(2 ^ 62) ≤ j ∧ j < 2 ^ 62 then .ok (rangeD 0 j) m else .stuck
  | _ => .stuck
def rngI2 (g : En → Mem → Out (List D)) : En → Mem → Out (List D) := bind1 g fun xs m => match xs with
  | [.int i, .int j] => if -(2 ^ 62) ≤ i ∧ i < 2 ^ 62 ∧ -(2 ^ 62) ≤ j ∧ j < 2 ^ 62 then .ok (rangeD i j) m else .stuck
  | _ => .stuck
section
variable {X : Cx} {E : XK} {tg e a b : Expr} {f : En → Mem → Out D} {g : En → Mem → Out (List D)} {p pos : Pos}
theorem PI.or {t t' : TI} (h : PI X tg e t) (h' : PI X tg e t') : PI X tg e (fun s H R => t s H R ∨ t' s H R) := ⟨fun p s σ H R I q => q.elim (h.run p s σ H R I) (h'.run p s σ H R I)⟩
theorem di_seq (h : PE X e (LE X.K E f)) : PI X tg e (LI X.K E (seqI f)) :=
  PI.imp (PI.or (pi_list (tg := tg) h) (PI.or (pi_tup (tg := tg) h) (pi_str (tg := tg) h))) fun s H R q => by
    obtain ⟨H0, A, F, r, m, o, sl, p⟩ := q
    unfold seqI bind1 at p
    cases e1 : f r m with
    | stuck => rw [e1] at p; exact p.elim
    | exc c d m' =>
      rw [e1] at p
      exact .inl ⟨H0, A, F, r, m, o, sl, by rw [e1]; exact p⟩
    | ok d m' =>
      rw [e1] at p
      simp only [Out.bind] at p
      cases d <;> first | exact p.elim | skip
      · refine .inr (.inr ⟨H0, A, F, r, m, o, sl, by
          rw [e1]
          intro v A' F' H' g' o' rp
          simp only [RE, Rep] at rp
          exact ⟨_, rp, p _ A' F' H' g' o' WD.str⟩⟩)
      · refine .inr (.inl ⟨H0, A, F, r, m, o, sl, by
          rw [e1]
          intro v A' F' H' g' o' rp
          simp only [RE, Rep] at rp
          obtain ⟨u, us, rfl, s1, r1⟩ := rp
          exact ⟨u, rfl, ⟨us, sqT_fx o'.sub s1⟩, p _ A' F' H' g' o' (WD.tup s1 r1)⟩⟩)
      · refine .inl ⟨H0, A, F, r, m, o, sl, by
          rw [e1]
          intro v A' F' H' g' o' rp
          simp only [RE, Rep] at rp
          obtain ⟨u, us, rfl, s1, r1⟩ := rp
          exact ⟨u, rfl, ⟨us, .inl (.inl (o'.sub _ _ s1))⟩, p _ A' F' H' g' o' (WD.lst s1 r1)⟩⟩
theorem di_range1 (hg : Gl X "range") (hm : X.mg "range" = none) (ha : PA X [a] (LA X.K E g)) (hs : starEach [a] X.env = [(false, eval a X.env)] := by rfl) : PI X tg (.Call (.Name "range" p) [a] [] pos) (LI X.K E (rngI1 g)) :=
  PI.imp (pi_range1 hg hm ha hs) fun s H R q => LX.un q fun H0 A F r m xs vs H1 o sl r1 p => by
    split at p
    · rename_i j
      simp only [RL, Reps, Rep] at r1
      obtain ⟨_, _, rfl, rfl, rfl⟩ := r1
      split at p
      · rename_i c
        refine ⟨j, rfl, c.1, c.2, p.ret o ?_⟩
        have w := WD.range (K := X.K) (A := A) (F := F) (lo := 0) (hi := j)
        rw [Int.sub_zero] at w
        exact w
      · exact p.elim
    · exact p.elim
end
end MT
set_option Elab.async false
set_option linter.all false
set_option maxRecDepth 100000
namespace MT
open PySem PySem.Spec PyProof.Rows L2
def RepsW (K : PySem.W.Frag) (A : List Addr) (F H : Hp) : List D → List V → Prop
  | [], vs => vs = []
  | d :: ds, vs => ∃ v r, vs = v :: r ∧ RepW K A F H d v ∧ RepsW K A F H ds r
abbrev RLW (K : PySem.W.Frag) : RP (List D) (List V) := RepsW K
abbrev LAW (K : PySem.W.Frag) (E : XK) (f : En → Mem → Out (List D)) : TA := LX (RLW K) K E f
theorem RepsW.gr {K : PySem.W.Frag} {A A' : List Addr} {F H F' H' : Hp} (g : Gr A F H A' F' H') : ∀ {ds : List D} {vs : List V}, RepsW K A F H ds vs → RepsW K A' F' H' ds vs
  | [], _, h => h
  | _ :: _, _, ⟨v, r, e, h1, h2⟩ => ⟨v, r, e, h1.gr g, RepsW.gr g h2⟩
section
variable {X : Cx} {E : XK} {K : PySem.W.Frag} {e : Expr} {es : List Expr} {f : En → Mem → Out D} {g : En → Mem → Out (List D)}
theorem wa_nil : PA X [] (LAW K E aNil) := PA.imp pa_nil fun s H Q ⟨H0, A, F, ρ, m, o, sl, p⟩ => p.ret o rfl
theorem wa_cons (ha : PE X e (LW K E f)) (hr : PA X es (LAW K E g)) (hs : starEach (e :: es) X.env = (false, eval e X.env) :: starEach es X.env := by rfl) : PA X (e :: es) (LAW K E (aCons f g)) :=
  PA.imp (pa_cons ha hr hs) fun s H Q q => LX.bin q monoW fun H0 A F r m d ds v vs H1 o sl r1 r2 p => p.ret o ⟨v, vs, rfl, r1, r2⟩
end
def CpA (K : PySem.W.Frag) (rr : List V → Hp → VK → Prop) (g : List D → Mem → Out D) : Prop := ∀ E A F H m xs vs Q, Ok K A F H m → RepsW K A F H xs vs → Post (RE K) K E A F H (g xs m) (QE Q) → rr vs H Q
section
variable {X : Cx} {E : XK} {x : Str} {p pos : Pos} {e : Expr} {es : List Expr} {id T : String} {rr : List V → Hp → VK → Prop} {fm : List D → Mem → Out D} {g : En → Mem → Out (List D)}
theorem de_callB (hc : CallR X (.builtin id) rr) (c : CpA X.K rr fm) (hg : Gl X x) (hm : X.mg x = none) (hv : bootBuiltins x = some (.builtin id)) (ha : PA X (e :: es) (LAW X.K E g)) (hn : x ≠ "__name__" := by decide) (hdb : (x == ("__debug__" : Str)) = false := by decide)
    (he : starEach (e :: es) X.env = (false, eval e X.env) :: starEach es X.env := by rfl) (hpl : (backTo pos (starEach es X.env)).any (·.1) = false := by rfl) : PE X (.Call (.Name x p) (e :: es) [] pos) (LE X.K E (bind1 g fm)) :=
  PE.imp (pe_callB hc hg hm hv ha hn hdb he hpl) fun s H Q q => LX.un q fun H0 A F r m xs vs H1 o sl r1 p => c E A F H1 m xs vs Q o r1 p
theorem de_callTy (hc : CallR X (.type T) rr) (c : CpA X.K rr fm) (hg : Gl X x) (hm : X.mg x = none) (hv : bootBuiltins x = some (.type T)) (ha : PA X (e :: es) (LAW X.K E g)) (hn : x ≠ "__name__" := by decide) (hdb : (x == ("__debug__" : Str)) = false := by decide)
    (he : starEach (e :: es) X.env = (false, eval e X.env) :: starEach es X.env := by rfl) (hpl : (backTo pos (starEach es X.env)).any (·.1) = false := by rfl) : PE X (.Call (.Name x p) (e :: es) [] pos) (LE X.K E (bind1 g fm)) :=
  PE.imp (pe_callTy hc hg hm hv ha hn hdb he hpl) fun s H Q q => LX.un q fun H0 A F r m xs vs H1 o sl r1 p => c E A F H1 m xs vs Q o r1 p
end
section
variable {K : PySem.W.Frag} {A : List Addr} {F H : Hp} {m : Mem} {vs : List V} {X : Cx}
theorem RepsW.one {d : D} (r : RepsW K A F H [d] vs) : ∃ v, vs = [v] ∧ RepW K A F H d v := by
  obtain ⟨v, _, rfl, h, rfl⟩ := r
  exact ⟨v, rfl, h⟩
theorem RepsW.two {d e : D} (r : RepsW K A F H [d, e] vs) : ∃ v w, vs = [v, w] ∧ RepW K A F H d v ∧ RepW K A F H e w := by
  obtain ⟨v, _, rfl, h, w, _, rfl, h', rfl⟩ := r
  exact ⟨v, w, rfl, h, h'⟩
def lenD : List D → Mem → Out D
  | [.lst ds], m => .ok (.int ds.length) m
  | [.tup ds], m => .ok (.int ds.length) m
  | [.str z], m => if z.length ≤ sizeLine then .ok (.int z.length) m else .stuck
  | [.dct ks _], m => .ok (.int ks.length) m
  | _, _ => .stuck
def rLenA (K : PySem.W.Frag) : List V → Hp → VK → Prop := fun xs H Q => (∃ x n, xs = [x] ∧ LenV K x H n ∧ Q (.int n) H) ∨ (∃ a kvs, xs = [V.ref a] ∧ H a = some (.dK kvs) ∧ Q (.int kvs.length) H)
theorem cr_lenA : CallR X (.builtin "len") (rLenA X.K) := call_len.or call_lenD
theorem cp_len : CpA K (rLenA K) lenD := by
  intro E A F H m xs vs Q o r p
  unfold lenD at p
  split at p
  · obtain ⟨v, rfl, r1⟩ := r.one
    obtain ⟨a, us, rfl, h1, h2⟩ := r1.lst o
    exact .inl ⟨_, us.length, rfl, .inl ⟨us, .inl (.inl h1), rfl⟩, by rw [← h2.length]; exact p.ret o rep_int⟩
  · obtain ⟨v, rfl, r1⟩ := r.one
    obtain ⟨a, us, rfl, h1, _, h2⟩ := r1.tup o
    exact .inl ⟨_, us.length, rfl, .inr ⟨us, h1, rfl⟩, by rw [← h2.length]; exact p.ret o rep_int⟩
  · obtain ⟨v, rfl, r1⟩ := r.one
    split at p
    · rename_i z c
      rw [r1.str]
      exact .inl ⟨_, z.length, rfl, ⟨c, rfl⟩, p.ret o rep_int⟩
    · exact p.elim
  · obtain ⟨v, rfl, r1⟩ := r.one
    rename_i ks ds
    obtain ⟨a, us, rfl, h1, h2, h3, h4⟩ := r1.dct o
    refine .inr ⟨a, _, rfl, h1, ?_⟩
    rw [List.length_zip, ← h4.length, ← h2, Nat.min_self]
    exact p.ret o rep_int
  · exact p.elim
def absD : List D → Mem → Out D
  | [.int i], m => .ok (.int (if i < 0 then -i else i)) m
  | _, _ => .stuck
theorem cp_abs : CpA K (fun xs H Q => ∃ i, xs = [.int i] ∧ Q (.int (if i < 0 then -i else i)) H) absD := by
  intro E A F H m xs vs Q o r p
  unfold absD at p
  split at p
  · obtain ⟨v, rfl, r1⟩ := r.one
    rw [r1.int]
    exact ⟨_, rfl, p.ret o rep_int⟩
  · exact p.elim
def max2D : List D → Mem → Out D
  | [.int i, .int j], m => .ok (.int (if j > i then j else i)) m
  | _, _ => .stuck
def min2D : List D → Mem → Out D
  | [.int i, .int j], m => .ok (.int (if j < i then j else i)) m
  | _, _ => .stuck
theorem cp_max2 : CpA K (fun xs H Q => ∃ i j, xs = [.int i, .int j] ∧ Q (.int (if j > i then j else i)) H) max2D := by
  intro E A F H m xs vs Q o r p
  unfold max2D at p
  split at p
  · obtain ⟨v, w, rfl, r1, r2⟩ := r.two
    rw [r1.int, r2.int]
    exact ⟨_, _, rfl, p.ret o rep_int⟩
  · exact p.elim
theorem cp_min2 : CpA K (fun xs H Q => ∃ i j, xs = [.int i, .int j] ∧ Q (.int (if j < i then j else i)) H) min2D := by
  intro E A F H m xs vs Q o r p
  unfold min2D at p
  split at p
  · obtain ⟨v, w, rfl, r1, r2⟩ := r.two
    rw [r1.int, r2.int]
    exact ⟨_, _, rfl, p.ret o rep_int⟩
  · exact p.elim
def intD : List D → Mem → Out D
  | [.int i], m => .ok (.int i) m
  | [.bl b], m => .ok (.int (if b then 1 else 0)) m
  | [.str z], m => if z.length ≤ 640 then (match PySem.intText? z with
    | some n => .ok (.int n) m
    | none => .stuck) else .stuck
  | _, _ => .stuck
def rIntA : List V → Hp → VK → Prop := fun xs H Q => ((∃ i, xs = [.int i] ∧ Q (.int i) H) ∨ ∃ k, xs = [.bl k] ∧ Q (.int (if k then 1 else 0)) H) ∨ (∃ a n, xs = [.str a] ∧ PySem.intText? a = some n ∧ a.length ≤ 640 ∧ Q (.int n) H)
theorem cr_intA : CallR X (.type "int") rIntA := call_int1.or call_int_str
theorem cp_int : CpA K rIntA intD := by
  intro E A F H m xs vs Q o r p
  unfold intD at p
  split at p
  · obtain ⟨v, rfl, r1⟩ := r.one
    rw [r1.int]
    exact .inl (.inl ⟨_, rfl, p.ret o rep_int⟩)
  · obtain ⟨v, rfl, r1⟩ := r.one
    rw [r1.bl]
    exact .inl (.inr ⟨_, rfl, p.ret o rep_int⟩)
  · obtain ⟨v, rfl, r1⟩ := r.one
    rename_i z
    rw [r1.str]
    split at p
    · rename_i c
      cases e : PySem.intText? z with
      | none => rw [e] at p; exact p.elim
      | some n => rw [e] at p; exact .inr ⟨z, n, rfl, e, c, p.ret o rep_int⟩
    · exact p.elim
  · exact p.elim
def strD : List D → Mem → Out D
  | [.int i], m => if i.natAbs.log2 < 1920 then .ok (.str (toString i)) m else .stuck
  | [.str z], m => .ok (.str z) m
  | _, _ => .stuck
def rStrA : List V → Hp → VK → Prop := fun xs H Q => (∃ i, xs = [.int i] ∧ i.natAbs.log2 < 1920 ∧ Q (.str (toString i)) H) ∨ (∃ a, xs = [.str a] ∧ Q (.str a) H)
theorem cr_strA : CallR X (.type "str") rStrA := call_str_int.or SkE.call_str_str
theorem cp_str : CpA K rStrA strD := by
  intro E A F H m xs vs Q o r p
  unfold strD at p
  split at p
  · obtain ⟨v, rfl, r1⟩ := r.one
    rw [r1.int]
    split at p
    · rename_i c
      exact .inl ⟨_, rfl, c, p.ret o rep_str⟩
    · exact p.elim
  · obtain ⟨v, rfl, r1⟩ := r.one
    rw [r1.str]
    exact .inr ⟨_, rfl, p.ret o rep_str⟩
  · exact p.elim
def listD : List D → Mem → Out D
  | [.lst ds], m => .ok (.lst ds) m
  | [.tup ds], m => .ok (.lst ds) m
  | _, _ => .stuck
def tupleD : List D → Mem → Out D
  | [.lst ds], m => .ok (.tup ds) m
  | [.tup ds], m => .ok (.tup ds) m
  | _, _ => .stuck
theorem cp_list : CpA K (fun xs H Q => ∃ p ys, xs = [.ref p] ∧ (SqL K H p ys ∨ SqT K H p ys) ∧ ∀ l, H l = none → Q (.ref l) (upd H l (.lst ys))) listD := by
  intro E A F H m xs vs Q o r p
  unfold listD at p
  split at p
  · obtain ⟨v, rfl, r1⟩ := r.one
    obtain ⟨a, us, rfl, h1, h2⟩ := r1.lst o
    exact ⟨a, us, rfl, .inl (.inl (.inl h1)), fun l hl => p.newL o h2 hl⟩
  · obtain ⟨v, rfl, r1⟩ := r.one
    obtain ⟨a, us, rfl, h1, _, h2⟩ := r1.tup o
    exact ⟨a, us, rfl, .inr h1, fun l hl => p.newL o h2 hl⟩
  · exact p.elim
theorem cp_tuple : CpA K (fun xs H Q => ∃ p ys, xs = [.ref p] ∧ ((SqL K H p ys ∧ ∀ l, H l = none → Q (.ref l) (upd H l (.tup ys))) ∨ (SqT K H p ys ∧ Q (.ref p) H))) tupleD := by
  intro E A F H m xs vs Q o r p
  unfold tupleD at p
  split at p
  · obtain ⟨v, rfl, r1⟩ := r.one
    obtain ⟨a, us, rfl, h1, h2⟩ := r1.lst o
    exact ⟨a, us, rfl, .inl ⟨.inl (.inl h1), fun l hl => p.newT o h2 hl⟩⟩
  · obtain ⟨v, rfl, r1⟩ := r.one
    obtain ⟨a, us, rfl, h1, h3, h2⟩ := r1.tup o
    exact ⟨a, us, rfl, .inr ⟨h1, p.ret o (by simp only [RE, Rep]; exact ⟨a, us, rfl, h3, h2⟩)⟩⟩
  · exact p.elim
def bools : List D → Option (List Bool)
  | [] => some []
  | .bl b :: ds => (bools ds).map (b :: ·)
  | _ :: _ => none
theorem bools_rep : ∀ {ds : List D} {bs : List Bool} {us : List V}, bools ds = some bs → Reps K A F ds us → us = bs.map V.bl
  | [], bs, us, e, r => by cases e; simp only [Reps] at r; rw [r]; rfl
  | d :: ds, bs, us, e, r => by
    simp only [Reps] at r
    obtain ⟨v, r', rfl, h1, h2⟩ := r
    cases d <;> first | (simp [bools] at e; done) | skip
    rename_i b
    simp only [bools] at e
    cases q : bools ds with
    | none => rw [q] at e; cases e
    | some cs =>
      rw [q] at e
      cases e
      simp only [Rep] at h1
      rw [h1, bools_rep q h2, List.map_cons]
def allD : List D → Mem → Out D
  | [.lst ds], m => match bools ds with
    | some bs => .ok (.bl (bs.all id)) m
    | none => .stuck
  | _, _ => .stuck
theorem cp_all : CpA K (rAll K) allD := by
  intro E A F H m xs vs Q o r p
  unfold allD at p
  split at p
  · obtain ⟨v, rfl, r1⟩ := r.one
    obtain ⟨a, us, rfl, h1, h2⟩ := r1.lst o
    split at p
    · rename_i bs e
      exact ⟨a, bs, rfl, .inl (.inl (by rw [← bools_rep e h2]; exact h1)), p.ret o rep_bl⟩
    · exact p.elim
  · exact p.elim
def tyN : D → Option String
  | .non => some "NoneType"
  | .bl _ => some "bool"
  | .int _ => some "int"
  | .str _ => some "str"
  | .tup _ => some "tuple"
  | .lst _ => some "list"
  | .dct _ _ => some "dict"
  | _ => none
theorem tyX_of {d : D} {t : String} {v : V} (o : Ok K A F H m) (e : tyN d = some t) (r : RepW K A F H d v) : TyX K H v (.type t) := by
  cases d <;> simp only [tyN, Option.some.injEq, reduceCtorEq] at e <;> subst e
  · rw [r.non]; exact .base .non
  · rw [r.bl]; exact .base (.bl _)
  · rw [r.int]; exact .base (.int _)
  · rw [r.str]; exact .base (.str _)
  · obtain ⟨a, us, rfl, h1, _, h2⟩ := r.tup o
    rcases h1 with (h | ⟨ob, h⟩) | ⟨ob, its, n, h, hc, _⟩
    · exact .base (.tup h)
    · exact .fTuple h
    · exact .kTuple h hc
  · obtain ⟨a, us, rfl, h1, h2⟩ := r.lst o
    exact .base (.lst h1)
  · obtain ⟨a, us, rfl, h1, h2⟩ := r.dct o
    exact .base (.dK h1)
def subT (t T : String) : Bool := t == T || (t == "bool" && T == "int")
def tysT : List String := ["int", "bool", "str", "tuple", "list", "dict"]
theorem kitB_sub : ∀ t ∈ ["NoneType", "bool", "int", "str", "tuple", "list", "dict"], ∀ T ∈ tysT, L2.kitB t T = some (subT t T) := by decide +kernel
theorem tyN_mem {d : D} {t : String} (e : tyN d = some t) : t ∈ ["NoneType", "bool", "int", "str", "tuple", "list", "dict"] := by
  cases d <;> simp only [tyN, Option.some.injEq, reduceCtorEq] at e <;> subst e <;> simp
def isiD : List D → Mem → Out D
  | [d, .ty T], m => match tyN d with
    | some t => if T ∈ tysT then .ok (.bl (subT t T)) m else .stuck
    | none => .stuck
  | _, _ => .stuck
theorem RepW.ty {v : V} {n : String} (r : RepW K A F H (.ty n) v) : v = .ty n := by
  rcases r with r | ⟨_, _, _, _, e, _⟩ | ⟨_, _, _, _, _, e, _⟩
  · simpa only [Rep] using r
  · cases e
  · cases e
theorem cp_isi : CpA K (rIsi K) isiD := by
  intro E A F H m xs vs Q o r p
  unfold isiD at p
  split at p
  · obtain ⟨v, w, rfl, r1, r2⟩ := r.two
    rename_i d T
    cases e : tyN d with
    | none => rw [e] at p; exact p.elim
    | some t =>
      rw [e] at p
      dsimp only at p
      split at p
      · rename_i c
        rw [r2.ty]
        exact ⟨v, .ty T, .type t, .type T, _, rfl, .ty T, tyX_of o e r1, kit_ty (kitB_sub t (tyN_mem e) T c), p.ret o rep_bl⟩
      · exact p.elim
  · exact p.elim
end
def cutD (xs : List D) (lo hi : Option Int) : List D := (xs.drop (HT.sIx xs.length 0 lo)).take (HT.sIx xs.length xs.length hi - HT.sIx xs.length 0 lo)
def slD : D → Option Int → Option Int → Mem → Out D
  | .lst ds, lo, hi, m => .ok (.lst (cutD ds lo hi)) m
  | .tup ds, lo, hi, m => .ok (.tup (cutD ds lo hi)) m
  | .str z, lo, hi, m => if z.length ≤ sizeLine then .ok (.str (cutS z lo hi)) m else .stuck
  | _, _, _, _ => .stuck
def oNone : En → Mem → Out (Option Int) := fun _ m => .ok none m
def oSome (f : En → Mem → Out D) : En → Mem → Out (Option Int) := bind1 f fun d m => match d with
  | .int i => .ok (some i) m
  | _ => .stuck
abbrev RO : RP (Option Int) (Option Int) := fun _ _ _ b c => b = c
abbrev LO (K : PySem.W.Frag) (E : XK) (f : En → Mem → Out (Option Int)) : TO := LX RO K E f
def bind3 {T U V' W' : Type} (f : En → Mem → Out T) (g : En → Mem → Out U) (h : En → Mem → Out V') (k : T → U → V' → Mem → Out W') : En → Mem → Out W' := fun r m => (f r m).bind fun x m => (g r m).bind fun y m => (h r m).bind (k x y)
section
variable {X : Cx} {E : XK} {K : PySem.W.Frag} {e : Expr} {lo hi : Option Expr} {f : En → Mem → Out D} {g h : En → Mem → Out (Option Int)} {pos p2 : Pos}
theorem PO.imp {e : Option Expr} {t t' : TO} (h : PO X e t) (i : ∀ s H Q, t' s H Q → t s H Q) : PO X e t' := ⟨fun p s σ H Q I q => h.run p s σ H Q I (i σ H Q q)⟩
theorem do_none : PO X none (LO K E oNone) := PO.imp po_none fun s H Q ⟨H0, A, F, ρ, m, o, sl, p⟩ => p.ret o rfl
theorem do_some (he : PE X e (LW K E f)) : PO X (some e) (LO K E (oSome f)) := PO.imp (po_some he) fun s H Q q => LX.un q fun H0 A F r m d v H1 o sl r1 p => by
  cases d <;> first | exact p.elim | skip
  rw [r1.int]
  exact ⟨_, rfl, p.ret o rfl⟩
theorem Reps.cut {A : List Addr} {F : Hp} {ds : List D} {vs : List V} (r : Reps K A F ds vs) (lo hi : Option Int) : Reps K A F (cutD ds lo hi) (cutV vs lo hi) := by
  unfold cutD cutV
  rw [r.length]
  exact (r.drop _).take _
theorem cut_all {ds : List D} {lo hi : Option Int} (h1 : HT.sIx ds.length 0 lo = 0) (h2 : HT.sIx ds.length ds.length hi = ds.length) : cutD ds lo hi = ds := by
  unfold cutD
  rw [h1, h2]
  simp
theorem LX.tri {T U V' W' T2 U2 V2 W2 : Type} {rp : RP T T2} {rp' : RP U U2} {rp2 : RP V' V2} {rp3 : RP W' W2} {f : En → Mem → Out T} {g : En → Mem → Out U} {h : En → Mem → Out V'} {k : T → U → V' → Mem → Out W'} {s : L2.St} {H : Hp} {Q : W2 → Hp → Prop} (q : LX rp3 K E (bind3 f g h k) s H Q) {R : T2 → U2 → V2 → Hp → Prop}
    (mono : ∀ {A F H d v A' F' H'}, Gr A F H A' F' H' → rp A F H d v → rp A' F' H' d v) (mono' : ∀ {A F H d v A' F' H'}, Gr A F H A' F' H' → rp' A F H d v → rp' A' F' H' d v)
    (go : ∀ H0 A F r m d d' d2 v v' v2 H1, Ok K A F H1 m → Slots K H0 A F H1 s r → rp A F H1 d v → rp' A F H1 d' v' → rp2 A F H1 d2 v2 → Post rp3 K E A F H1 (k d d' d2 m) (fun _ _ v _ _ H' => Q v H') → R v v' v2 H1) :
    LX rp K E f s H fun v H1 => LX rp' K E g s H1 fun v' H2 => LX rp2 K E h s H2 fun v2 H3 => R v v' v2 H3 := by
  obtain ⟨H0, A, F, r, m, o, sl, p⟩ := q
  refine ⟨H0, A, F, r, m, o, sl, (Post.bind p).mono fun d m v A' F' H' g k r1 q => ?_⟩
  refine ⟨H0, A', F', r, m, k, sl.gr g, (Post.bind q).mono fun d' m' v' A2 F2 H2 g2 k2 r2 q2 => ?_⟩
  refine ⟨H0, A2, F2, r, m', k2, (sl.gr g).gr g2, (Post.bind q2).mono fun d2 m2 v2 A3 F3 H3 g3 k3 r3 q3 => ?_⟩
  exact go H0 A3 F3 r m2 d d' d2 v v' v2 H3 k3 (((sl.gr g).gr g2).gr g3) (mono g3 (mono g2 r1)) (mono' g3 r2) r3 q3
def rSlD (K : PySem.W.Frag) : V → Option Int → Option Int → Hp → VK → Prop := fun x lo hi H Q => rSlL K x lo hi H Q ∨ rSlA K x lo hi H Q ∨ rSlS x lo hi H Q
theorem sl_all : SlR X (rSlD X.K) := sl_list.or (sl_tupA.or sl_str)
theorem de_slice (he : PE X e (LW X.K E f)) (hl : PO X lo (LO X.K E g)) (hu : PO X hi (LO X.K E h)) : PE X (.Subscript e (.Slice lo hi none p2) pos) (LE X.K E (bind3 f g h slD)) := PE.imp (pe_slice sl_all he hl hu) fun s H Q q =>
  LX.tri q monoW (fun _ z => z) fun H0 A F r m d l u v l' u' H1 o sl r1 e1 e2 p => by
    have e1' : l = l' := e1
    have e2' : u = u' := e2
    subst e1' e2'
    cases d <;> first | exact p.elim | skip
    · rename_i z
      simp only [slD] at p
      split at p
      · rename_i c
        rw [r1.str]
        exact .inr (.inr ⟨z, rfl, c, p.ret o rep_str⟩)
      · exact p.elim
    · rename_i ds
      obtain ⟨a, us, rfl, h1, h3, h2⟩ := r1.tup o
      refine .inr (.inl ⟨a, us, rfl, h1, fun c => ?_, fun _ q hq => p.newT o (h2.cut _ _) hq⟩)
      rw [← h2.length] at c
      have p' : Post (RE X.K) X.K E A F H1 (.ok (.tup (cutD ds l u)) m) (QE Q) := p
      rw [cut_all c.1 c.2] at p'
      exact p'.ret o (by simp only [RE, Rep]; exact ⟨a, us, rfl, h3, h2⟩)
    · obtain ⟨a, us, rfl, h1, h2⟩ := r1.lst o
      exact .inl ⟨a, us, rfl, .inl (.inl h1), fun q hq => p.newL o (h2.cut _ _) hq⟩
end
def strOnly (f : En → Mem → Out D) : En → Mem → Out D := bind1 f fun d m => match d with
  | .str z => .ok (.str z) m
  | _ => .stuck
def CpM (K : PySem.W.Frag) (rr : V → List V → Hp → VK → Prop) (g : D → List D → Mem → Out D) : Prop := ∀ E A F H m x vx xs vs Q, Ok K A F H m → RepW K A F H x vx → RepsW K A F H xs vs → Post (RE K) K E A F H (g x xs m) (QE Q) → rr vx vs H Q
section
variable {X : Cx} {E : XK} {o e : Expr} {es : List Expr} {name : Str} {apos cpos : Pos} {id : String} {rr : V → List V → Hp → VK → Prop} {fm : D → List D → Mem → Out D} {f : En → Mem → Out D} {g : En → Mem → Out (List D)}
theorem de_strm (slot : Slot "str" name id) (hty : typeOf (.builtin id) = pure (.type "method_descriptor")) (hm : MtR X id rr) (c : CpM X.K rr fm) (ho : PE X o (LW X.K E f)) (ha : PA X (e :: es) (LAW X.K E g))
    (hbase : attributeBase o name X.env (eval o X.env) = eval o X.env := by rfl)
    (hfew : ((backTo cpos (starEach (e :: es) X.env)).all (fun x => !x.1) && (backToKw cpos (keywordEach [] X.env)).all (fun x => x.1.isSome)
      && decide ((e :: es).length + ([] : List Keyword).length + (if ([] : List Keyword).isEmpty then 0 else 1) < 30)) = true := by rfl)
    (hline : (apos.endLine == cpos.line) = true := by rfl) (hs : starEach (e :: es) X.env = (false, eval e X.env) :: starEach es X.env := by rfl) (hplain : (backTo cpos (starEach es X.env)).any (·.1) = false := by rfl) :
    PE X (.Call (.Attribute o name apos) (e :: es) [] cpos) (LE X.K E (bind2 (strOnly f) g fm)) :=
  PE.imp (pe_bm PySem.F.plainAttrs_str slot hty hm ho ha hbase hfew hline hs hplain) fun s H Q q => by
    obtain ⟨H0, A, F, r, m, ok, sl, p⟩ := q
    refine ⟨H0, A, F, r, m, ok, sl, ?_⟩
    unfold bind2 strOnly bind1 at p
    cases ef : f r m with
    | stuck => rw [ef] at p; exact p
    | exc c d m' => rw [ef] at p; exact p
    | ok d m1 =>
      rw [ef] at p
      simp only [Out.bind] at p
      cases d <;> first | exact p.elim | skip
      rename_i z
      intro v A1 F1 H1 g1 o1 r1
      rw [r1.str]
      refine ⟨rfl, H0, A1, F1, r, m1, o1, sl.gr g1, ?_⟩
      have p' : Post (RE X.K) X.K E A F H ((g r m1).bind (fm (.str z))) (QE Q) := p
      refine (Post.bind (p'.gr g1)).mono fun xs m2 vs A2 F2 H2 g2 o2 r2 q2 => ?_
      exact c E A2 F2 H2 m2 (.str z) (.str z) xs vs Q o2 (.inl rep_str) r2 q2
end
section
variable {K : PySem.W.Frag} {X : Cx}
def strL : List D → Option (List Str)
  | [] => some []
  | .str b :: ds => (strL ds).map (b :: ·)
  | _ :: _ => none
theorem strL_rep {A : List Addr} {F : Hp} : ∀ {ds : List D} {bs : List Str} {us : List V}, strL ds = some bs → Reps K A F ds us → us = bs.map V.str
  | [], bs, us, e, r => by cases e; simp only [Reps] at r; rw [r]; rfl
  | d :: ds, bs, us, e, r => by
    simp only [Reps] at r
    obtain ⟨v, r', rfl, h1, h2⟩ := r
    cases d <;> first | (simp [strL] at e; done) | skip
    rename_i b
    simp only [strL] at e
    cases q : strL ds with
    | none => rw [q] at e; cases e
    | some cs =>
      rw [q] at e
      cases e
      simp only [Rep] at h1
      rw [h1, strL_rep q h2, List.map_cons]
theorem reps_strL {A : List Addr} {F : Hp} : ∀ (bs : List Str), Reps K A F (bs.map .str) (bs.map V.str)
  | [] => Reps.nil
  | _ :: bs => Reps.cons rep_str (reps_strL bs)
def splitD : D → List D → Mem → Out D
  | .str a, [.str b], m => if (b.length == 0) = false ∧ a.length + 2 ≤ sizeLine then .ok (.lst ((Txt.split a b).map .str)) m else .stuck
  | _, _, _ => .stuck
theorem cp_split : CpM K (fun x xs H Q => ∃ a b, x = .str a ∧ xs = [.str b] ∧ (b.length == 0) = false ∧ a.length + 2 ≤ sizeLine ∧ rNewStrs (Txt.split a b) H Q) splitD := by
  intro E A F H m x vx xs vs Q o r rs p
  unfold splitD at p
  split at p
  · obtain ⟨v, rfl, r1⟩ := rs.one
    rw [r.str, r1.str]
    split at p
    · rename_i a b c
      exact ⟨a, b, rfl, rfl, c.1, c.2, fun q hq => p.newL o (reps_strL _) hq⟩
    · exact p.elim
  · exact p.elim
def joinD : D → List D → Mem → Out D
  | .str a, [.lst ds], m => match strL ds with
    | some ys => if (ys.map (·.length)).sum + ys.length * a.length ≤ 16777216 then .ok (.str (Txt.join a ys)) m else .stuck
    | none => .stuck
  | _, _, _ => .stuck
theorem cp_join : CpM K (fun x xs H Q => ∃ a p, ∃ ys : List Str, x = .str a ∧ xs = [.ref p] ∧ (SqL K H p (ys.map V.str) ∨ SqT K H p (ys.map V.str)) ∧
    (ys.map (·.length)).sum + ys.length * a.length ≤ 16777216 ∧ Q (.str (Txt.join a ys)) H) joinD := by
  intro E A F H m x vx xs vs Q o r rs p
  unfold joinD at p
  split at p
  · obtain ⟨v, rfl, r1⟩ := rs.one
    obtain ⟨a, us, rfl, h1, h2⟩ := r1.lst o
    rw [r.str]
    split at p
    · rename_i ys e
      split at p
      · rename_i c
        exact ⟨_, a, ys, rfl, rfl, .inl (.inl (.inl (by rw [← strL_rep e h2]; exact h1))), c, p.ret o rep_str⟩
      · exact p.elim
    · exact p.elim
  · exact p.elim
def rmpD : D → List D → Mem → Out D
  | .str a, [.str b], m => if a.length ≤ sizeLine then .ok (.str (Txt.removeprefix a b)) m else .stuck
  | _, _, _ => .stuck
theorem cp_rmp : CpM K (fun x xs H Q => ∃ a b, x = .str a ∧ xs = [.str b] ∧ a.length ≤ sizeLine ∧ Q (.str (Txt.removeprefix a b)) H) rmpD := by
  intro E A F H m x vx xs vs Q o r rs p
  unfold rmpD at p
  split at p
  · obtain ⟨v, rfl, r1⟩ := rs.one
    rw [r.str, r1.str]
    split at p
    · rename_i c
      exact ⟨_, _, rfl, rfl, c, p.ret o rep_str⟩
    · exact p.elim
  · exact p.elim
end
def inD : D → D → Mem → Out D
  | x, .lst ds, m => if scl x && ds.all scl then .ok (.bl (ds.any fun y => eqB y x)) m else .stuck
  | x, .tup ds, m => if scl x && ds.all scl then .ok (.bl (ds.any fun y => eqB y x)) m else .stuck
  | .str a, .str b, m => .ok (.bl (!(Builtin.Str.occurrences b a 0 b.length 1).isEmpty)) m
  | _, _, _ => .stuck
def ninD : D → D → Mem → Out D
  | x, .lst ds, m => if scl x && ds.all scl then .ok (.bl (!ds.any fun y => eqB y x)) m else .stuck
  | x, .tup ds, m => if scl x && ds.all scl then .ok (.bl (!ds.any fun y => eqB y x)) m else .stuck
  | .str a, .str b, m => .ok (.bl (!(!(Builtin.Str.occurrences b a 0 b.length 1).isEmpty))) m
  | _, _, _ => .stuck
section
variable {K : PySem.W.Frag} {X : Cx}
theorem scl_flat {A : List Addr} {F H : Hp} {d : D} {v : V} (h : scl d = true) (r : RepW K A F H d v) : flatV v = true := by
  cases d <;> first | (simp [scl] at h; done) | skip
  · rw [r.non]; rfl
  · rw [r.bl]; rfl
  · rw [r.int]; rfl
  · rw [r.str]; rfl
theorem scl_eq {A : List Addr} {F H : Hp} {d e : D} {v w : V} (h : scl d = true) (h' : scl e = true) (r : RepW K A F H d v) (r' : RepW K A F H e w) : eqV v w = eqB d e := by
  cases d <;> first | (simp [scl] at h; done) | skip
  all_goals cases e <;> first | (simp [scl] at h'; done) | skip
  all_goals first | rw [r.non] | rw [r.bl] | rw [r.int] | rw [r.str]
  all_goals first | rw [r'.non] | rw [r'.bl] | rw [r'.int] | rw [r'.str]
  all_goals simp only [eqV, eqB]
theorem scls {A : List Addr} {F H : Hp} {x : D} {vx : V} (hx : scl x = true) (rx : RepW K A F H x vx) : ∀ {ds : List D} {vs : List V}, ds.all scl = true → Reps K A F ds vs → vs.all flatV = true ∧ inV vx vs = ds.any fun y => eqB y x
  | [], vs, _, r => by simp only [Reps] at r; subst r; exact ⟨rfl, rfl⟩
  | d :: ds, vs, h, r => by
    simp only [Reps] at r
    obtain ⟨v, r', rfl, h1, h2⟩ := r
    simp only [List.all_cons, Bool.and_eq_true] at h
    obtain ⟨i1, i2⟩ := scls hx rx h.2 h2
    have q := scl_eq (K := K) (A := A) (F := F) (H := H) h.1 hx (.inl h1) rx
    refine ⟨by simp only [List.all_cons, scl_flat (K := K) (A := A) (F := F) (H := H) h.1 (.inl h1), i1, Bool.and_self], ?_⟩
    unfold inV at i2 ⊢
    rw [List.any_cons, List.any_cons, q, i2]
def rInA (K : PySem.W.Frag) (neg : Bool) : R2 := fun x y H Q => rIn K neg x y H Q ∨ (∃ i j, x = .str i ∧ y = .str j ∧ Q (.bl (if neg then !(!(Builtin.Str.occurrences j i 0 j.length 1).isEmpty) else (!(Builtin.Str.occurrences j i 0 j.length 1).isEmpty))) H)
theorem op_inA : OpR X (compareOp .In) (rInA X.K false) := op_in_seq.or op_in_str
theorem op_ninA : OpR X (compareOp .NotIn) (rInA X.K true) := op_notIn_seq.or op_notin_str
theorem cp_in : Cp2 K (rInA K false) inD := by
  intro E A F H m x y vx vy Q o rx ry p
  cases y <;> first | (cases x <;> exact p.elim) | skip
  · cases x <;> first | exact p.elim | skip
    rw [rx.str, ry.str]
    exact .inr ⟨_, _, rfl, rfl, p.ret o rep_bl⟩
  · rename_i ds
    obtain ⟨a, us, rfl, h1, _, h2⟩ := ry.tup o
    have p' : Post (RE K) K E A F H (if scl x && ds.all scl then .ok (.bl (ds.any fun y => eqB y x)) m else .stuck) (QE Q) := by cases x <;> exact p
    split at p'
    · rename_i c
      simp only [Bool.and_eq_true] at c
      obtain ⟨i1, i2⟩ := scls c.1 rx c.2 h2
      exact .inl ⟨a, us, rfl, .inr h1, scl_flat c.1 rx, i1, by rw [if_neg Bool.false_ne_true, i2]; exact p'.ret o rep_bl⟩
    · exact p'.elim
  · rename_i ds
    obtain ⟨a, us, rfl, h1, h2⟩ := ry.lst o
    have p' : Post (RE K) K E A F H (if scl x && ds.all scl then .ok (.bl (ds.any fun y => eqB y x)) m else .stuck) (QE Q) := by cases x <;> exact p
    split at p'
    · rename_i c
      simp only [Bool.and_eq_true] at c
      obtain ⟨i1, i2⟩ := scls c.1 rx c.2 h2
      exact .inl ⟨a, us, rfl, .inl (.inl (.inl h1)), scl_flat c.1 rx, i1, by rw [if_neg Bool.false_ne_true, i2]; exact p'.ret o rep_bl⟩
    · exact p'.elim
theorem cp_nin : Cp2 K (rInA K true) ninD := by
  intro E A F H m x y vx vy Q o rx ry p
  cases y <;> first | (cases x <;> exact p.elim) | skip
  · cases x <;> first | exact p.elim | skip
    rw [rx.str, ry.str]
    exact .inr ⟨_, _, rfl, rfl, p.ret o rep_bl⟩
  · rename_i ds
    obtain ⟨a, us, rfl, h1, _, h2⟩ := ry.tup o
    have p' : Post (RE K) K E A F H (if scl x && ds.all scl then .ok (.bl (!ds.any fun y => eqB y x)) m else .stuck) (QE Q) := by cases x <;> exact p
    split at p'
    · rename_i c
      simp only [Bool.and_eq_true] at c
      obtain ⟨i1, i2⟩ := scls c.1 rx c.2 h2
      exact .inl ⟨a, us, rfl, .inr h1, scl_flat c.1 rx, i1, by rw [if_pos rfl, i2]; exact p'.ret o rep_bl⟩
    · exact p'.elim
  · rename_i ds
    obtain ⟨a, us, rfl, h1, h2⟩ := ry.lst o
    have p' : Post (RE K) K E A F H (if scl x && ds.all scl then .ok (.bl (!ds.any fun y => eqB y x)) m else .stuck) (QE Q) := by cases x <;> exact p
    split at p'
    · rename_i c
      simp only [Bool.and_eq_true] at c
      obtain ⟨i1, i2⟩ := scls c.1 rx c.2 h2
      exact .inl ⟨a, us, rfl, .inl (.inl (.inl h1)), scl_flat c.1 rx, i1, by rw [if_pos rfl, i2]; exact p'.ret o rep_bl⟩
    · exact p'.elim
end
end MT
set_option Elab.async false
set_option linter.all false
set_option maxRecDepth 100000
namespace MT
open PySem PySem.Spec PyProof.Rows L2
abbrev Owned (r : En) (i : Nat) : Prop := (∃ ds, r[i]? = some (.own ds)) ∨ ∃ ks ds, r[i]? = some (.ownD ks ds)
section
variable {K : PySem.W.Frag} {H0 : Hp} {A : List Addr} {F H : Hp} {s : L2.St} {r : En} {i : Nat} {a : Addr}
theorem get_set_eq {r : En} {i : Nat} {x y : Sl} (e : (r.set i x)[i]? = some y) : x = y := by
  rw [List.getElem?_set] at e
  simp only [if_true] at e
  split at e
  · exact Option.some.inj e
  · cases e
theorem Owned.lt {x : Sl} (h : (r.set i x)[i]? = none) : r.length ≤ i := by
  rw [List.getElem?_set] at h
  simp only [if_true] at h
  split at h
  · cases h
  · omega
theorem Slots.mutL (sl : Slots K H0 A F H s r) (ow : Owned r i) (ea : s[i]? = some (some (.ref a))) (nF : F a = none) (nA : a ∉ A) (n0 : H0 a = none) {ds : List D} {vs : List V} (rp : Reps K A F ds vs) : Slots K H0 A F (upd H a (.lst vs)) s (r.set i (.own ds)) where
  len := by simpa using sl.len
  fz := fun j d e => by
    by_cases hj : i = j
    · subst hj
      cases get_set_eq e
    · rw [List.getElem?_set_ne hj] at e
      exact sl.fz j d e
  own := fun j ds' e => by
    by_cases hj : i = j
    · subst hj
      cases get_set_eq e
      exact ⟨a, vs, ea, upd_same, nF, nA, n0, rp⟩
    · rw [List.getElem?_set_ne hj] at e
      obtain ⟨b, us, e1, e2, e3⟩ := sl.own j ds' e
      have ne : b ≠ a := by
        rintro rfl
        exact hj (sl.inj i j _ ow (.inl ⟨ds', e⟩) ea e1)
      exact ⟨b, us, e1, by rw [upd_ne ne]; exact e2, e3⟩
  ownD := fun j ks ds' e => by
    by_cases hj : i = j
    · subst hj
      cases get_set_eq e
    · rw [List.getElem?_set_ne hj] at e
      obtain ⟨b, us, e1, e2, e3⟩ := sl.ownD j ks ds' e
      have ne : b ≠ a := by
        rintro rfl
        exact hj (sl.inj i j _ ow (.inr ⟨ks, ds', e⟩) ea e1)
      exact ⟨b, us, e1, by rw [upd_ne ne]; exact e2, e3⟩
  inj := fun j l b h1 h2 => by
    have back : ∀ {j : Nat}, Owned (r.set i (.own ds)) j → Owned r j := fun {j} h => by
      by_cases hj : i = j
      · subst hj; exact ow
      · unfold Owned at h
        rw [List.getElem?_set_ne hj] at h
        exact h
    exact sl.inj j l b (back h1) (back h2)
theorem Slots.newOwn {x : Sl} {o : HO} (sl : Slots K H0 A F H s r) (hn : H a = none) (kind : (∃ ds vs, x = .own ds ∧ o = .lst vs ∧ Reps K A F ds vs) ∨ (∃ ks ds vs, x = .ownD ks ds ∧ o = .dK (ks.zip vs) ∧ ks.length = ds.length ∧ ks.Nodup ∧ Reps K A F ds vs))
    (nF : F a = none) (nA : a ∉ A) (n0 : H0 a = none) : Slots K H0 A F (upd H a o) (s.set i (some (.ref a))) (r.set i x) where
  len := by simpa using sl.len
  fz := fun j d e => by
    by_cases hj : i = j
    · subst hj
      rcases kind with ⟨ds, vs, e1, _⟩ | ⟨ks, ds, vs, e1, _⟩ <;> (rw [e1] at e; cases get_set_eq e)
    · rw [List.getElem?_set_ne hj] at e
      obtain ⟨v, e1, e2⟩ := sl.fz j d e
      exact ⟨v, by rw [List.getElem?_set_ne hj]; exact e1, e2⟩
  own := fun j ds' e => by
    by_cases hj : i = j
    · subst hj
      have hlt : i < s.length := by
        rw [sl.len]
        have := (List.getElem?_eq_some_iff.mp e).1
        simpa using this
      rcases kind with ⟨ds, vs, e1, e2, e3⟩ | ⟨ks, ds, vs, e1, _⟩
      · rw [e1] at e
        cases get_set_eq e
        exact ⟨a, vs, by rw [List.getElem?_set_self hlt], by rw [e2]; exact upd_same, nF, nA, n0, e3⟩
      · rw [e1] at e; cases get_set_eq e
    · rw [List.getElem?_set_ne hj] at e
      obtain ⟨b, us, e1, e2, e3⟩ := sl.own j ds' e
      exact ⟨b, us, by rw [List.getElem?_set_ne hj]; exact e1, by rw [upd_ne (ne_of_none e2 hn)]; exact e2, e3⟩
  ownD := fun j ks' ds' e => by
    by_cases hj : i = j
    · subst hj
      have hlt : i < s.length := by
        rw [sl.len]
        have := (List.getElem?_eq_some_iff.mp e).1
        simpa using this
      rcases kind with ⟨ds, vs, e1, _⟩ | ⟨ks, ds, vs, e1, e2, e3, e4, e5⟩
      · rw [e1] at e; cases get_set_eq e
      · rw [e1] at e
        cases get_set_eq e
        exact ⟨a, vs, by rw [List.getElem?_set_self hlt], by rw [e2]; exact upd_same, nF, nA, n0, e3, e4, e5⟩
    · rw [List.getElem?_set_ne hj] at e
      obtain ⟨b, us, e1, e2, e3⟩ := sl.ownD j ks' ds' e
      exact ⟨b, us, by rw [List.getElem?_set_ne hj]; exact e1, by rw [upd_ne (ne_of_none e2 hn)]; exact e2, e3⟩
  inj := fun j l b h1 h2 e1 e2 => by
    have at_ : ∀ {j : Nat} {b : Addr}, Owned (r.set i x) j → i ≠ j → (s.set i (some (.ref a)))[j]? = some (some (.ref b)) → Owned r j ∧ s[j]? = some (some (.ref b)) ∧ b ≠ a := fun {j b} h hj e => by
      unfold Owned at h
      rw [List.getElem?_set_ne hj] at h e
      refine ⟨h, e, ?_⟩
      rintro rfl
      rcases h with ⟨ds, q⟩ | ⟨ks, ds, q⟩
      · obtain ⟨c, us, q1, q2, _⟩ := sl.own j ds q
        rw [e] at q1; cases q1
        rw [hn] at q2; cases q2
      · obtain ⟨c, us, q1, q2, _⟩ := sl.ownD j ks ds q
        rw [e] at q1; cases q1
        rw [hn] at q2; cases q2
    have self : ∀ {b : Addr}, (s.set i (some (.ref a)))[i]? = some (some (V.ref b)) → b = a := fun {b} e => by
      rw [List.getElem?_set] at e
      simp only [if_true] at e
      split at e
      · cases e; rfl
      · cases e
    by_cases hj : i = j
    · by_cases hl : i = l
      · exact hj.symm.trans hl
      · subst hj
        exact absurd (self e1) (at_ h2 hl e2).2.2
    · by_cases hl : i = l
      · subst hl
        exact absurd (self e2) (at_ h1 hj e1).2.2
      · exact sl.inj j l b (at_ h1 hj e1).1 (at_ h2 hl e2).1 (at_ h1 hj e1).2.1 (at_ h2 hl e2).2.1
end
def fzAt (r : En) (i : Nat) : En := match r[i]? with
  | some (.own ds) => r.set i (.fz (.lst ds))
  | some (.ownD ks ds) => r.set i (.fz (.dct ks ds))
  | _ => r
def sFz (i : Nat) (f : En → Mem → SOut) : En → Mem → SOut := fun r m => f (fzAt r i) m
section
variable {K : PySem.W.Frag} {H0 : Hp} {A : List Addr} {F H : Hp} {s : L2.St} {r : En} {i : Nat} {a : Addr}
theorem Slots.frz (sl : Slots K H0 A F H s r) {o : HO} {d : D} (ow : Owned r i) (ea : s[i]? = some (some (.ref a))) (nF : F a = none) (rp : Rep K A (upd F a o) d (.ref a)) : Slots K H0 A (upd F a o) H s (r.set i (.fz d)) where
  len := by simpa using sl.len
  fz := fun j d' e => by
    by_cases hj : i = j
    · subst hj
      cases get_set_eq e
      exact ⟨_, ea, rp⟩
    · rw [List.getElem?_set_ne hj] at e
      obtain ⟨v, e1, e2⟩ := sl.fz j d' e
      exact ⟨v, e1, e2.fx ⟨fun b w q => by rw [upd_ne (ne_of_none q nF)]; exact q, List.prefix_refl _⟩⟩
  own := fun j ds' e => by
    by_cases hj : i = j
    · subst hj
      cases get_set_eq e
    · rw [List.getElem?_set_ne hj] at e
      obtain ⟨b, us, e1, e2, e3, e4, e5, e6⟩ := sl.own j ds' e
      have ne : b ≠ a := by
        rintro rfl
        exact hj (sl.inj i j _ ow (.inl ⟨ds', e⟩) ea e1)
      exact ⟨b, us, e1, e2, by rw [upd_ne ne]; exact e3, e4, e5, e6.up nF⟩
  ownD := fun j ks ds' e => by
    by_cases hj : i = j
    · subst hj
      cases get_set_eq e
    · rw [List.getElem?_set_ne hj] at e
      obtain ⟨b, us, e1, e2, e3, e4, e5, e6, e7, e8⟩ := sl.ownD j ks ds' e
      have ne : b ≠ a := by
        rintro rfl
        exact hj (sl.inj i j _ ow (.inr ⟨ks, ds', e⟩) ea e1)
      exact ⟨b, us, e1, e2, by rw [upd_ne ne]; exact e3, e4, e5, e6, e7, e8.up nF⟩
  inj := fun j l b h1 h2 => by
    have back : ∀ {j : Nat}, Owned (r.set i (.fz d)) j → Owned r j := fun {j} h => by
      by_cases hj : i = j
      · subst hj
        rcases h with ⟨ds, e⟩ | ⟨ks, ds, e⟩ <;> cases get_set_eq e
      · unfold Owned at h
        rw [List.getElem?_set_ne hj] at h
        exact h
    exact sl.inj j l b (back h1) (back h2)
variable {E : XK} {A0 : List Addr} {F0 : Hp} {f : En → Mem → SOut} {De : Ends}
theorem LS.frz (q : LS K E A0 F0 H0 (sFz i f) De s H) : LS K E A0 F0 H0 f De s H := by
  obtain ⟨A, F, r, m, gr, o, sl, p⟩ := q
  unfold sFz fzAt at p
  split at p
  · rename_i ds e
    obtain ⟨a, vs, e1, e2, e3, e4, e5, e6⟩ := sl.own i ds e
    refine ⟨A, upd F a (.lst vs), _, m, gr.freeze e5 e3, o.freeze e2 e3 e4, sl.frz (.inl ⟨ds, e⟩) e1 e3 ?_, PostS.fx p ⟨fun b w q => by rw [upd_ne (ne_of_none q e3)]; exact q, List.prefix_refl _⟩⟩
    simp only [Rep]
    exact ⟨a, vs, rfl, upd_same, e6.up e3⟩
  · rename_i ks ds e
    obtain ⟨a, vs, e1, e2, e3, e4, e5, e6, e7, e8⟩ := sl.ownD i ks ds e
    refine ⟨A, upd F a (.dK (ks.zip vs)), _, m, gr.freeze e5 e3, o.freeze e2 e3 e4, sl.frz (.inr ⟨ks, ds, e⟩) e1 e3 ?_, PostS.fx p ⟨fun b w q => by rw [upd_ne (ne_of_none q e3)]; exact q, List.prefix_refl _⟩⟩
    simp only [Rep]
    exact ⟨a, vs, rfl, upd_same, e6, e7, e8.up e3⟩
  · exact ⟨A, F, r, m, gr, o, sl, p⟩
end
def sOwn (i : Nat) (g : En → Mem → Out (List D)) : En → Mem → SOut := fun r m => sOf (g r m) fun ds m => if ds.length ≤ sizeLine then .next (r.set i (.own ds)) m else .stuck
def sApp (i : Nat) (f : En → Mem → Out D) : En → Mem → SOut := fun r m => match r[i]? with
  | some (.own ds) => sOf (f r m) fun d m => if ds.length < sizeLine then .next (r.set i (.own (ds ++ [d]))) m else .stuck
  | _ => .stuck
def sExt (i : Nat) (f : En → Mem → Out D) : En → Mem → SOut := fun r m => match r[i]? with
  | some (.own ds) => sOf (f r m) fun d m => (match d with
    | .lst es => if ds.length + es.length ≤ sizeLine then .next (r.set i (.own (ds ++ es))) m else .stuck
    | _ => .stuck)
  | _ => .stuck
section
variable {K : PySem.W.Frag} {E : XK} {A0 A A1 : List Addr} {F0 H0 F F1 H : Hp} {De : Ends}
theorem PostS.ex {T U : Type} {rp : RP T U} {f : En → Mem → Out T} {k : T → Mem → SOut} {s : L2.St} {r : En} {m : Mem} (g : Gr A0 F0 H0 A F H) (o : Ok K A F H m) (sl : Slots K H0 A F H s r) (p : PostS K E A0 F0 H0 A F (sOf (f r m) k) De) {R : U → Hp → Prop}
    (go : ∀ A1 F1 m1 d v H1, Gr A0 F0 H0 A1 F1 H1 → Gr A F H A1 F1 H1 → Ok K A1 F1 H1 m1 → Slots K H0 A1 F1 H1 s r → rp A1 F1 H1 d v → PostS K E A0 F0 H0 A1 F1 (k d m1) De → R v H1) : LX rp K E f s H R := by
  refine ⟨H0, A, F, r, m, o, sl, ?_⟩
  cases e : f r m with
  | stuck => rw [e] at p; exact p
  | exc c d m' => rw [e] at p; exact XC.gr p g
  | ok d m' =>
    rw [e] at p
    exact fun v A' F' H' g' k' r' => go A' F' m' d v H' (g.trans g') g' k' (sl.gr g') r' (PostS.fx p g'.fx)
end
section
variable {X : Cx} {E : XK} {A0 : List Addr} {F0 H0 : Hp} {e k : Expr} {es : List Expr} {sts : List Stmt} {st : Stmt} {f h : En → Mem → Out D} {g : En → Mem → Out (List D)} {b : En → Mem → SOut} {i : Nat} {x : Str} {pos pos' p2 p3 apos cpos : Pos} {K : PySem.W.Frag}
theorem ds_fz (hb : PSs X sts (LS K E A0 F0 H0 b)) : PSs X sts (LS K E A0 F0 H0 (sFz i b)) := PSs.imp hb fun D s H q => q.frz
theorem ds_ownL (hN : X.N.Nodup) (hi : X.N[i]? = some x) (hx : Loc X.env.scope x) (he : PA X es (LA K E g)) (hs : swapsWith (.List es p2) (some (.Name x pos')) pos.line X.env = pure false := by rfl) (hf : X.fn x = true ∨ X.env.scope.names.lookup x = some .local := by first | exact .inl rfl | exact .inr rfl | assumption) :
    PS X (.Assign [.Name x pos'] (.List es p2) pos) (LS K E A0 F0 H0 (sOwn i g)) := PS.imp (ps_set hN hi hx (pe_lst he) hs hf) fun D s H q =>
  LS.ex q fun A F r m ds vs H1 gr o sl r1 p => by
    by_cases c : ds.length ≤ sizeLine
    · rw [if_pos c] at p
      refine ⟨by rw [← r1.length]; exact c, fun q hq => ?_⟩
      obtain ⟨nF, nA⟩ := o.out hq
      have n0 := gr.keep q hq
      exact p _ A F _ .refl (gr.upd n0) (o.upd nF nA) (sl.newOwn hq (.inl ⟨ds, vs, rfl, rfl, r1⟩) nF nA n0)
    · rw [if_neg c] at p; exact p.elim
theorem ds_app (hv : PE X (.Name x p2) (tVar i)) (he : PE X e (LE X.K E f)) (hbase : attributeBase (.Name x p2) "append" X.env (eval (.Name x p2) X.env) = eval (.Name x p2) X.env := by rfl)
    (hfew : ((backTo cpos (starEach [e] X.env)).all (fun x => !x.1) && (backToKw cpos (keywordEach [] X.env)).all (fun x => x.1.isSome)
      && decide (([e] : List Expr).length + ([] : List Keyword).length + (if ([] : List Keyword).isEmpty then 0 else 1) < 30)) = true := by rfl)
    (hline : (apos.endLine == cpos.line) = true := by rfl) (hs : starEach [e] X.env = (false, eval e X.env) :: starEach [] X.env := by rfl) (hplain : (backTo cpos (starEach [] X.env)).any (·.1) = false := by rfl)
    (hsw : swapsWith (.Call (.Attribute (.Name x p2) "append" apos) [e] [] cpos) none pos.line X.env = pure false := by rfl) :
    PS X (.Expr (.Call (.Attribute (.Name x p2) "append" apos) [e] [] cpos) pos) (LS X.K E A0 F0 H0 (sApp i f)) :=
  PS.imp (ps_expr (pe_bm PySem.F.plainAttrs_list PySem.F.slot_list_append PySem.F.type_list_append mt_append hv (pa_cons he pa_nil hs) hbase hfew hline hs hplain) hsw) fun D s H q => by
    obtain ⟨A, F, r, m, gr, o, sl, p⟩ := q
    unfold sApp at p
    split at p
    · rename_i ds er
      obtain ⟨a, vs, e1, e2, e3, e4, e5, e6⟩ := sl.own i ds er
      refine ⟨.ref a, e1, .inl ⟨rfl, vs, .inl (.inl e2)⟩, ?_⟩
      refine PostS.ex gr o sl p fun A1 F1 m1 d v H1 gr1 g1 o1 sl1 rp p1 => ?_
      obtain ⟨a', vs', f1, f2, f3, f4, f5, f6⟩ := sl1.own i ds er
      rw [e1] at f1; cases f1
      split at p1
      · rename_i c
        refine ⟨a, vs', v, rfl, rfl, f2, by rw [← f6.length]; exact c, ?_⟩
        exact p1 s A1 F1 _ .refl (gr1.upd f5) (o1.upd f3 f4) (sl1.mutL (.inl ⟨ds, er⟩) e1 f3 f4 f5 (f6.append (Reps.cons rp Reps.nil)))
      · exact p1.elim
    · exact p.elim
end
end MT
set_option Elab.async false
set_option linter.all false
set_option maxRecDepth 100000
namespace MT
open PySem PySem.Spec PyProof.Rows L2
def chn (f g h : En → Mem → Out D) (k k' : D → D → Mem → Out D) : En → Mem → Out D := fun r m => (f r m).bind fun x m => (g r m).bind fun y m => (k x y m).bind fun z m => match z with
  | .bl true => (h r m).bind fun w m => k' y w m
  | .bl false => .ok (.bl false) m
  | _ => .stuck
section
variable {X : Cx} {E : XK} {a b c : Expr} {f g h : En → Mem → Out D} {pos : Pos} {op op' : CmpOp} {rr rr' : R2} {k k' : D → D → Mem → Out D}
theorem chain_of (c1 : Cp2 X.K rr k) (c2 : Cp2 X.K rr' k') {s : L2.St} {H : Hp} {Q : V → Hp → Prop} (q : LE X.K E (chn f g h k k') s H Q) : tChain rr rr' (LW X.K E f) (LW X.K E g) (LW X.K E h) s H Q := by
  obtain ⟨H0, A, F, r, m, o, sl, p⟩ := q
  refine ⟨H0, A, F, r, m, o, sl, (Post.bind p).mono fun x m1 vx A1 F1 H1 g1 o1 r1 p1 => ?_⟩
  refine ⟨H0, A1, F1, r, m1, o1, sl.gr g1, (Post.bind p1).mono fun y m2 vy A2 F2 H2 g2 o2 r2 p2 => ?_⟩
  refine c1 E A2 F2 H2 m2 x y vx vy _ o2 (r1.gr g2) r2 ((Post.bind p2).mono fun z m3 vz A3 F3 H3 g3 o3 r3 p3 => ?_)
  cases z <;> first | exact p3.elim | skip
  rename_i bb
  simp only [RE, Rep] at r3
  subst r3
  refine ⟨bb, rfl, ?_⟩
  cases bb with
  | true =>
    refine iteT ⟨H0, A3, F3, r, m3, o3, ((sl.gr g1).gr g2).gr g3, (Post.bind p3).mono fun w m4 vw A4 F4 H4 g4 o4 r4 p4 => ?_⟩
    exact c2 E A4 F4 H4 m4 y w vy vw Q o4 ((r2.gr g3).gr g4) r4 p4
  | false => exact iteF (p3.ret o3 rep_bl)
theorem dt_chain (ho : OpR X (compareOp op) rr) (c1 : Cp2 X.K rr k) (ho' : OpR X (compareOp op') rr') (c2 : Cp2 X.K rr' k') (ha : PE X a (LW X.K E f)) (hb : PE X b (LW X.K E g)) (hc : PE X c (LW X.K E h))
    (hm : lastMarks [op, op'] [b, c] = false := by with_unfolding_all rfl) : PT X (.Compare a [op, op'] [b, c] pos) (LT X.K E (toB (chn f g h k k'))) := PT.imp (pt_chain ho ho' ha hb hc hm) fun s H Q q => chain_of (Q := fun x H' => ∃ k, x = .bl k ∧ Q k H') c1 c2 (LE_bl q)
end
def aStar (f : En → Mem → Out D) (g : En → Mem → Out (List D)) : En → Mem → Out (List D) := fun r m => (f r m).bind fun x m => match x with
  | .tup ds => (g r m).bind fun xs m => .ok (ds ++ xs) m
  | .lst ds => (g r m).bind fun xs m => .ok (ds ++ xs) m
  | _ => .stuck
section
variable {X : Cx} {E : XK} {e : Expr} {es : List Expr} {p : Pos} {f : En → Mem → Out D} {g : En → Mem → Out (List D)}
end
def sTg (tg : D → En → Option En) (f : En → Mem → Out D) : En → Mem → SOut := fun r m => sOf (f r m) fun d m => match tg d r with
  | some r' => .next r' m
  | none => .stuck
section
variable {X : Cx} {E : XK} {A0 : List Addr} {F0 H0 : Hp} {tg iter elt : Expr} {ifs : List Expr} {scope : Scope} {own : List (Str × Nat)} {pos spos py : Pos} {fi : En → Mem → Out (List D)} {g : TG} {tgm : D → En → Option En} {is : List Nat} {ts : En → Mem → Out Bool} {el f : En → Mem → Out D} {i : Nat} {y : Str} {e : Expr}
theorem asg_of {te : TE} {K : PySem.W.Frag} (h : ∀ s H Q, LE K E f s H Q → te s H Q) {D : Ends} {s : L2.St} {H : Hp} (q : LS K E A0 F0 H0 (sAsg i f) D s H) : tAsg te (gName i) D s H :=
  h s H _ (LS.ex q fun A F r m d v H1 g o sl r1 p => p _ A F H1 .refl g o (sl.set r1))
theorem ds_asgLc (hc : X.calm = true) (hN : X.N.Nodup) (hy : X.N[i]? = some y) (hyl : X.env.scope.names.lookup y = some .local)
    (hsw : swapsWith (.ListComp elt [⟨tg, iter, ifs, 0⟩] scope pos) (some (.Name y py)) spos.line X.env = pure true) (hi : PI X tg iter (LI X.K E fi)) (ok : BlkOk X.N X.env.scope scope own) (tc : TgC X.K g tgm is) (hv : ∀ j ∈ is, j ∈ own.map (·.2))
    (hg : ∀ (s : Shared) (H : Hp) (C : Addr) (cl : List (Str × Addr)) (fp : List Addr), PG (X.blk s H scope (compEnvC scope cl C X.env) fp) tg g) (ht : ∀ (s : Shared) (H : Hp) (C : Addr) (cl : List (Str × Addr)) (fp : List Addr), PTs (X.blk s H scope (compEnvC scope cl C X.env) fp) ifs (LT X.K E0 ts))
    (he : ∀ (s : Shared) (H : Hp) (C : Addr) (cl : List (Str × Addr)) (fp : List Addr), PE (X.blk s H scope (compEnvC scope cl C X.env) fp) elt (LE X.K E0 el)) (hs : ∀ x, foldedSetIterable iter X.env x = pure x := by intro _; rfl) :
    PS X (.Assign [.Name y py] (.ListComp elt [⟨tg, iter, ifs, 0⟩] scope pos) spos) (LS X.K E A0 F0 H0 (sAsg i (ofL (compF fi tgm ts el (own.map (·.2)))))) :=
  PS.imp (ps_setLc hc hN hy hyl hsw hi ok hg ht he hs) fun D s H q => asg_of (fun s H Q q => lc_frz tc hv q) q
def sOwnC (i : Nat) (f : En → Mem → Out (List D)) : En → Mem → SOut := fun r m => sOf (f r m) fun ds m => .next (r.set i (.own ds)) m
theorem ds_unp {tge : Expr} (he : PE X e (LE X.K E f)) (hg : PG X tge g) (tc : TgC X.K g tgm is) (hs : swapsWithSole [tge] e pos.line X.env = pure false := by rfl) (hw : swappedStores [tge] e X.env = pure none := by rfl)
    (h1 : (assignEach [tge] X.env).map (·.2) = [assign tge X.env] := by rfl) : PS X (.Assign [tge] e pos) (LS X.K E A0 F0 H0 (sTg tgm f)) :=
  PS.imp (ps_asg he hg hs hw h1) fun D s H q => LS.ex q fun A F r m d v H1 gr o sl r1 p => by
    cases e1 : tgm d r with
    | none => rw [e1] at p; exact p.elim
    | some r' =>
      rw [e1] at p
      exact tc.to H0 A F H1 m s r d v r' _ o sl r1 e1 fun s' sl' _ _ => p s' A F H1 .refl gr o sl'
def sPar (i j : Nat) (g : En → Mem → Out (List D)) : En → Mem → SOut := fun r m => sOf (g r m) fun ds m => match ds with
  | [x, y] => .next ((r.set i (.fz x)).set j (.fz y)) m
  | _ => .stuck
def sPar3 (i j l : Nat) (g : En → Mem → Out (List D)) : En → Mem → SOut := fun r m => sOf (g r m) fun ds m => match ds with
  | [x, y, z] => .next (((r.set i (.fz x)).set j (.fz y)).set l (.fz z)) m
  | _ => .stuck
variable {x z : Str} {a b c : Expr} {ga : En → Mem → Out (List D)} {px pz pt : Pos} {j l kt k2 : Nat} {pt2 : Pos}
theorem ds_par (hc : X.calm = true) (hN : X.N.Nodup) (hi : X.N[i]? = some x) (hj : X.N[j]? = some y) (hij : i ≠ j)
    (hx : X.env.scope.names.lookup x = some .local) (hy : X.env.scope.names.lookup y = some .local) (ha : PA X [a, b] (LA X.K E ga))
    (hw : swappedStores [.Tuple [.Name x px, .Name y py] kt pt] (.Tuple [a, b] k2 pt2) X.env = pure (some [x, y]))
    (hs : swapsWithSole [.Tuple [.Name x px, .Name y py] kt pt] (.Tuple [a, b] k2 pt2) pos.line X.env = pure false := by rfl) :
    PS X (.Assign [.Tuple [.Name x px, .Name y py] kt pt] (.Tuple [a, b] k2 pt2) pos) (LS X.K E A0 F0 H0 (sPar i j ga)) :=
  PS.imp (ps_par hc hN hi hj hij hx hy ha hw hs) fun D s H q => LS.ex q fun A F r m ds vs H1 gr o sl r1 p => by
    split at p
    · simp only [RL, Reps] at r1
      obtain ⟨v, _, rfl, h1, w, _, rfl, h2, rfl⟩ := r1
      exact ⟨v, w, rfl, p _ A F H1 .refl gr o ((sl.set h1).set h2)⟩
    · exact p.elim
end
section
variable {X : Cx} {E : XK} {x : Str} {pos : Pos}
theorem de_gs {z : Str} (h : ∃ t, X.mg x = some (.str z t)) (hg : Gl X x := by rfl) (hd : (x == ("__debug__" : Str)) = false := by decide) : PE X (.Name x pos) (LE X.K E (kC (.str z))) := by
  obtain ⟨t, e⟩ := h
  exact de_c (pe_glob (v := .str z) hg e ⟨t, rfl⟩ hd)
theorem de_gi {z : Int} (h : ∃ t, X.mg x = some (.int z t)) (hg : Gl X x := by rfl) (hd : (x == ("__debug__" : Str)) = false := by decide) : PE X (.Name x pos) (LE X.K E (kC (.int z))) := by
  obtain ⟨t, e⟩ := h
  exact de_c (pe_glob (v := .int z) hg e ⟨t, rfl⟩ hd)
theorem de_go {d : D} {a : Addr} (h : X.mg x = some (.ref a)) (r : ∀ A F, Rep X.K A F d (.ref a)) (hg : Gl X x := by rfl) (hd : (x == ("__debug__" : Str)) = false := by decide) : PE X (.Name x pos) (LE X.K E (kC d)) :=
  de_c (pe_glob (v := .ref a) hg h rfl hd) r
theorem de_ty {T : String} (hm : X.mg x = none) (hv : bootBuiltins x = some (.type T)) (hg : Gl X x := by rfl) (hn : x ≠ "__name__" := by decide) (hd : (x == ("__debug__" : Str)) = false := by decide) : PE X (.Name x pos) (LE X.K E (kC (.ty T))) :=
  de_c (pe_bltn (v := .ty T) hg hm hv rfl hn hd)
end
def CallOk (P : Program) (w : World) (K : PySem.W.Frag) (mg : Str → Option Value) (base : Heap) (k : Nat) (x : Str) (fm : List D → Mem → Out D) : Prop :=
  ∃ f fd ps ds dvs dd f0, FnOk P w K mg base (L2.CX P w) k f fd ps (SpF K f0) ∧ mg x = some (.ref f) ∧ PySem.W.keepIn K (.ref f) = true ∧ Binds K fd ps ds ∧ Vals dvs ds ∧ (∀ A F, Reps K A F dd dvs) ∧ fm = fun xs m => f0 (xs ++ dd) m
section
variable {X : Cx} {E : XK} {k : Nat} {x : Str} {p pos : Pos} {e : Expr} {es : List Expr} {g : En → Mem → Out (List D)} {fm : List D → Mem → Out D}
theorem de_fn (C : CallOk X.prog X.w X.K X.mg X.base k x fm) (hr : Room k X.A) (hx : Passes (L2.CX X.prog X.w) X E) (ha : PA X (e :: es) (LA X.K E g)) (hg : Gl X x := by rfl) (hdb : (x == ("__debug__" : Str)) = false := by decide)
    (he : starEach (e :: es) X.env = (false, eval e X.env) :: starEach es X.env := by rfl) (hpl : (backTo pos (starEach es X.env)).any (·.1) = false := by rfl) : PE X (.Call (.Name x p) (e :: es) [] pos) (LE X.K E (bind1 g fm)) := by
  obtain ⟨f, fd, ps, ds, dvs, dd, f0, F, hm, hk, hb, hd, hdd, rfl⟩ := C
  exact de_call F hr hg hm hk hb hd hx hdd ha hdb he hpl
end
theorem passD {P : Program} {w : World} {K : PySem.W.Frag} {mg : Str → Option Value} {base : Heap} {N : List Str} {qual : Str} {scope : Scope} {f : Addr} {cdv : Value} {A : Around} {outer : List Env} {s : Shared} {H : Hp} {E : XK} :
    Passes (L2.CX P w) (cxOf (L2.CX P w) P w K mg base N qual scope f cdv A outer s H E) E := passes_call (W := fun cls d _ H => E cls d H) (takes_of rfl rfl rfl rfl) fun _ _ _ _ h => h
theorem passO {P : Program} {w : World} {K : PySem.W.Frag} {mg : Str → Option Value} {base : Heap} {N : List Str} {qual : Str} {scope : Scope} {f : Addr} {cdv : Value} {A : Around} {outer : List Env} {s : Shared} {H : Hp} {E : XK} :
    PassesOwn (model P w) (cxOf (L2.CX P w) P w K mg base N qual scope f cdv A outer s H E).A (cxOf (L2.CX P w) P w K mg base N qual scope f cdv A outer s H E).env (cxOf (L2.CX P w) P w K mg base N qual scope f cdv A outer s H E).xe := passes_of rfl
end MT
set_option Elab.async false
set_option linter.all false
set_option maxRecDepth 100000
namespace MT
open PySem PySem.Spec PyProof.Rows L2
structure TxB (fa : List He.Fa) (fn : List He.DefD) (K : PySem.W.Frag) (mg : Str → Option Value) : Prop where
  says : He.SaysD fa fn K
  glo : ∀ (i : Nat) {x : Str}, fa[i]? = some (.glo x) → mg x = some (.ref (He.ga K x))
  free : ∀ (i : Nat) {x : Str}, fa[i]? = some (.free x) → mg x = none
  int : ∀ (i : Nat) {x : Str} {z : Int}, fa[i]? = some (.int x z) → ∃ t, mg x = some (.int z t)
  str : ∀ (i : Nat) {x z : Str}, fa[i]? = some (.str x z) → ∃ t, mg x = some (.str z t)
theorem TxB.of {fa : List He.Fa} {fn : List He.DefD} {K : PySem.W.Frag} {mg : Str → Option Value} {h : Heap} (X : K.In h) (G : h.Ns mainGlobals mg) (c : He.SaysD fa fn K) : TxB fa fn K mg :=
  ⟨c, fun i _ e => He.glo_ok X G (c.fact i e), fun i _ e => He.free_ok X G (c.fact i e), fun i _ _ e => He.int_ok X G (c.fact i e), fun i _ _ e => He.str_ok X G (c.fact i e)⟩
section
variable {P : Program} {w : World} {fa : List He.Fa} {fn : List He.DefD} {K : PySem.W.Frag} {mg : Str → Option Value} {base : Heap} {x qual : Str} {params : Arguments} {body : List Stmt} {scope : Scope} {N ps : List Str} {k : Nat} {b : En → Mem → SOut}
end
end MT
set_option Elab.async false
set_option linter.all false
set_option maxRecDepth 100000
namespace MT
open PySem PySem.Spec PyProof.Rows L2
section
variable {K : PySem.W.Frag} {A : List Addr} {F H : Hp} {m : Mem}
theorem fx_app {q : Addr} : Fx A F (A ++ [q]) F := ⟨fun _ _ h => h, ⟨[q], rfl⟩⟩
theorem Ok.newH (o : Ok K A F H m) {q : Addr} (h : H q = none) {x : MO} {u : HO} (k : MoOk K (A ++ [q]) F q x (some u)) : Ok K (A ++ [q]) F (L2.upd H q u) (m ++ [x]) ∧ Gr A F H (A ++ [q]) F (L2.upd H q u) := by
  obtain ⟨nF, nA⟩ := o.out h
  refine ⟨⟨fun a w e => ?_, ?_, ?_, fun n a y e1 e2 => ?_, fun a ha => ?_⟩, fx_app, fun a w e => .inl e, fun a w e _ => ?_, fun a e => ?_, fun a ha => ?_, fun a ob P e => by rw [upd_ne (ne_of_none e h)]; exact e⟩
  · rw [upd_ne (ne_of_none e nF)]; exact o.sub a w e
  · rw [List.nodup_append]
    exact ⟨o.nd, by simp, fun a ha b hb => by rintro rfl; simp at hb; exact nA (hb ▸ ha)⟩
  · simp [o.len]
  · by_cases hn : n < A.length
    · rw [List.getElem?_append_left hn] at e1
      rw [List.getElem?_append_left (by rw [← o.len]; exact hn)] at e2
      have z : a ≠ q := by rintro rfl; exact nA (List.mem_of_getElem? e1)
      rw [upd_ne z]
      exact (o.mem n a y e1 e2).fx fx_app
    · have hn' : n = A.length := by
        have := (List.getElem?_eq_some_iff.mp e1).1
        simp at this; omega
      subst hn'
      simp at e1
      rw [o.len] at e2
      simp at e2
      subst e1 e2
      rw [upd_same]; exact k
  · simp at ha
    rcases ha with ha | rfl
    · exact o.sep a ha
    · exact nF
  · rw [upd_ne (ne_of_none e h)]; exact e
  · by_cases z : a = q
    · subst z; exact h
    · rw [upd_ne z] at e; exact e
  · simp at ha
    rcases ha with ha | rfl
    · exact .inl ha
    · exact .inr h
theorem getElem?_inj {A : List Addr} (nd : A.Nodup) {i j : Nat} {a : Addr} (h1 : A[i]? = some a) (h2 : A[j]? = some a) : i = j := by
  obtain ⟨l1, e1⟩ := List.getElem?_eq_some_iff.mp h1
  obtain ⟨l2, e2⟩ := List.getElem?_eq_some_iff.mp h2
  rcases Nat.lt_trichotomy i j with h | h | h
  · exact absurd (e1.trans e2.symm) (List.pairwise_iff_getElem.mp nd i j l1 l2 h)
  · exact h
  · exact absurd (e2.trans e1.symm) (List.pairwise_iff_getElem.mp nd j i l2 l1 h)
theorem Ok.setH (o : Ok K A F H m) {n : Nat} {a : Addr} (h : A[n]? = some a) {x : MO} {u : HO} (k : MoOk K A F a x (some u)) : Ok K A F (L2.upd H a u) (m.set n x) := by
  have nF : F a = none := o.sep a (List.mem_of_getElem? h)
  refine ⟨fun b w e => ?_, o.nd, by simpa using o.len, fun n' b y e1 e2 => ?_, o.sep⟩
  · rw [upd_ne (ne_of_none e nF)]; exact o.sub b w e
  · by_cases z : b = a
    · subst z
      have := getElem?_inj o.nd h e1
      subst this
      rw [List.getElem?_set_self (by rw [← o.len]; exact (List.getElem?_eq_some_iff.mp h).1)] at e2
      cases e2
      rw [upd_same]; exact k
    · rw [upd_ne z]
      have hne : n ≠ n' := by rintro rfl; rw [h] at e1; cases e1; exact z rfl
      rw [List.getElem?_set_ne hne] at e2
      exact o.mem n' b y e1 e2
theorem Gr.setH {A0 : List Addr} {F0 H0 : Hp} (g : Gr A0 F0 H0 A F H) {a : Addr} (h : a ∈ A) (hz : ∀ ob P, H a ≠ some (.frz ob P)) {u : HO} : Gr A0 F0 H0 A F (L2.upd H a u) :=
  ⟨g.fx, g.new, fun b w e n => by
    by_cases z : b = a
    · subst z
      rcases g.mnew b h with q | q
      · exact absurd q n
      · rw [q] at e; cases e
    · rw [upd_ne z]; exact g.stay b w e n, fun b e => by
    by_cases z : b = a
    · subst z; rw [upd_same] at e; cases e
    · rw [upd_ne z] at e; exact g.keep b e, g.mnew, fun b ob P e => by
    by_cases z : b = a
    · subst z; exact absurd (g.frz b ob P e) (hz ob P)
    · rw [upd_ne z]; exact g.frz b ob P e⟩
theorem Slots.setH {H0 : Hp} {s : L2.St} {r : En} (sl : Slots K H0 A F H s r) {a : Addr} (h : a ∈ A) (hz : ∀ ob P, H a ≠ some (.frz ob P)) {u : HO} : Slots K H0 A F (L2.upd H a u) s r :=
  sl.gr (Gr.setH .refl h hz)
theorem RepW.hnd {n : Nat} {v : V} (r : RepW K A F H (.hnd n) v) : ∃ a, v = .ref a ∧ A[n]? = some a := by
  rcases r with r | ⟨_, _, _, _, e, _⟩ | ⟨_, _, _, _, _, e, _⟩
  · simp only [Rep] at r
    obtain ⟨a, h1, h2⟩ := r
    exact ⟨a, h2, h1⟩
  · cases e
  · cases e
theorem RepW.obj {c : Str} {ks : List Str} {ds : List D} {v : V} (o : Ok K A F H m) (r : RepW K A F H (.obj c ks ds) v) : ∃ a dx vs, v = .ref a ∧ H a = some (.ins (He.ga K c) dx (ks.zip vs)) ∧ ks.length = ds.length ∧ Reps K A F ds vs := by
  rcases r with r | ⟨_, _, _, _, e, _⟩ | ⟨_, _, _, _, _, e, _⟩
  · simp only [Rep] at r
    obtain ⟨a, dx, vs, h1, h2, h3, h4⟩ := r
    exact ⟨a, dx, vs, h1, o.sub _ _ h2, h3, h4⟩
  · cases e
  · cases e
theorem RepW.scr {ns : List Int} {v : V} (o : Ok K A F H m) (r : RepW K A F H (.scr ns) v) : ∃ a, v = .ref a ∧ SqL K H a (ns.map V.int) := by
  rcases r with r | ⟨_, _, _, _, e, _⟩ | ⟨_, _, _, _, _, e, _⟩
  · simp only [Rep] at r
    obtain ⟨a, h1, h2⟩ := r
    exact ⟨a, h1, sqL_fx o.sub h2⟩
  · cases e
  · cases e
theorem Ok.pot (o : Ok K A F H m) {n : Nat} {a : Addr} (h : A[n]? = some a) {x y z : Int} (e : m[n]? = some (.pot x y z)) : H a = some (.lst [.int x, .int y, .int z]) := o.mem n a _ h e
theorem Ok.insM (o : Ok K A F H m) {n : Nat} {a : Addr} (h : A[n]? = some a) {c : Str} {ks : List Str} {ds : List D} (e : m[n]? = some (.ins c ks ds)) : ∃ dx vs, H a = some (.ins (He.ga K c) dx (ks.zip vs)) ∧ ks.length = ds.length ∧ Reps K A F ds vs := o.mem n a _ h e
end
def sRetPot (g : En → Mem → Out (List D)) : En → Mem → SOut := fun r m => sOf (g r m) fun ds m => match ds with
  | [.int a, .int b, .int c] => .ret (.hnd m.length) (m ++ [.pot a b c])
  | _ => .stuck
def pixD : D → D → Mem → Out D
  | .hnd n, .int i, m => match m[n]? with
    | some (.pot a b c) => (match atI [a, b, c] i with
      | some z => .ok (.int z) m
      | none => .stuck)
    | _ => .stuck
  | .scr ns, .int i, m => match atI ns i with
    | some z => .ok (.int z) m
    | none => .stuck
  | _, _, _ => .stuck
def sPutP (i : Nat) (f g : En → Mem → Out D) : En → Mem → SOut := fun r m => match r[i]? with
  | some (.fz (.hnd n)) => sOf (f r m) fun v m => sOf (g r m) fun k m => (match v, k with
    | .int v, .int k => (match m[n]? with
      | some (.pot a b c) => (match ixN 3 k with
        | some 0 => .next r (m.set n (.pot v b c))
        | some 1 => .next r (m.set n (.pot a v c))
        | some 2 => .next r (m.set n (.pot a b v))
        | _ => .stuck)
      | _ => .stuck)
    | _, _ => .stuck)
  | _ => .stuck
def slenD : List D → Mem → Out D
  | [.scr ns], m => .ok (.int ns.length) m
  | _, _ => .stuck
section
variable {X : Cx} {E : XK} {A0 : List Addr} {F0 H0 : Hp} {e k a b : Expr} {es : List Expr} {f h : En → Mem → Out D} {g : En → Mem → Out (List D)} {i : Nat} {x : Str} {pos p2 : Pos} {K : PySem.W.Frag}
theorem atI_map {T U : Type} {f : T → U} {l : List T} {i : Int} {z : T} (h : atI l i = some z) : atI (l.map f) i = some (f z) := by
  unfold atI at h ⊢
  rw [List.length_map]
  cases q : ixN l.length i with
  | none => rw [q] at h; cases h
  | some j =>
    rw [q] at h
    simp only [List.getElem?_map] at h ⊢
    have h' : l[j]? = some z := h
    show (l[j]?).map f = some (f z)
    rw [h']; rfl
theorem cp_pix : Cp2 K (rIx K) pixD := by
  intro E A F H m x y vx vy Q o rx ry p
  cases x <;> cases y <;> first | exact p.elim | skip
  · rename_i n i
    obtain ⟨a, rfl, ha⟩ := rx.hnd
    rw [ry.int]
    simp only [pixD] at p
    cases e : m[n]? with
    | none => rw [e] at p; exact p.elim
    | some mo =>
      rw [e] at p
      cases mo with
      | ins _ _ _ => exact p.elim
      | tab _ => exact p.elim
      | fn => exact p.elim
      | slo _ _ => exact p.elim
      | lst _ => exact p.elim
      | pot b c d =>
        have p' : Post (RE K) K E A F H (match atI [b, c, d] i with | some z => .ok (.int z) m | none => .stuck) (QE Q) := p
        cases e' : atI [b, c, d] i with
        | none => rw [e'] at p'; exact p'.elim
        | some z =>
          rw [e'] at p'
          exact .inl ⟨a, _, i, _, rfl, rfl, .inl (.inl (o.pot ha e)), atI_map (f := V.int) e', p'.ret o rep_int⟩
  · rename_i ns i
    obtain ⟨a, rfl, ha⟩ := rx.scr o
    rw [ry.int]
    simp only [pixD] at p
    cases e' : atI ns i with
    | none => rw [e'] at p; exact p.elim
    | some z =>
      rw [e'] at p
      exact .inl ⟨a, _, i, _, rfl, rfl, ha, atI_map (f := V.int) e', p.ret o rep_int⟩
theorem de_pix (ha : PE X a (LW X.K E f)) (hb : PE X b (LW X.K E h)) (hs : PlainIx b := by exact fun _ _ => rfl) : PE X (.Subscript a b pos) (LE X.K E (bind2 f h pixD)) :=
  PE.imp (pe_ix ix_seq ha hb hs) fun s H Q q => LX.bin q monoW fun H0 A F r m d d' v v' H1 o sl r1 r2 p => cp_pix E A F H1 m d d' v v' Q o r1 r2 p
theorem cp_slen : CpA K (rLenA K) slenD := by
  intro E A F H m xs vs Q o r p
  unfold slenD at p
  split at p
  · obtain ⟨v, rfl, r1⟩ := r.one
    obtain ⟨a, rfl, h1⟩ := r1.scr o
    rename_i ns
    exact .inl ⟨_, ns.length, rfl, .inl ⟨_, h1, by rw [List.length_map]⟩, p.ret o rep_int⟩
  · exact p.elim
theorem ds_retPot (he : PA X es (LA X.K E g)) : PS X (.Return (some (.List es p2)) pos) (LS X.K E A0 F0 H0 (sRetPot g)) := PS.imp (ps_ret (pe_lst he)) fun D s H q => LS.ex q fun A F r m ds vs H1 gr o sl r1 p => by
  split at p
  · rename_i a b c
    have e : vs = [.int a, .int b, .int c] := by
      simp only [RL, Reps, Rep] at r1
      obtain ⟨v, _, rfl, h1, w, _, rfl, h2, u, _, rfl, h3, rfl⟩ := r1
      rw [h1, h2, h3]
    subst e
    refine ⟨by rw [sizeLine_eq]; simp, fun q hq => ?_⟩
    obtain ⟨o', g'⟩ := o.newH hq (x := .pot a b c) (u := .lst [.int a, .int b, .int c]) rfl
    refine p _ _ _ _ (gr.trans g') o' ?_
    simp only [Rep]
    refine ⟨q, ?_, rfl⟩
    rw [← o.len, List.getElem?_append_right (Nat.le_refl _), Nat.sub_self]; rfl
  · exact p.elim
theorem ds_putP {px pk : Pos} (hv : PE X (.Name x px) (tVar i)) (he : PE X e (LE X.K E f)) (hk : PE X k (LE X.K E h)) (hs : swapsWithSole [.Subscript (.Name x px) k pk] e pos.line X.env = pure false := by rfl) (hw : swappedStores [.Subscript (.Name x px) k pk] e X.env = pure none := by rfl)
    (h1 : (assignEach [.Subscript (.Name x px) k pk] X.env).map (·.2) = [assign (.Subscript (.Name x px) k pk) X.env] := by rfl)
    (ha : ∀ v, assign (.Subscript (.Name x px) k pk) X.env v = (do
      let ov ← holding [v] (eval (.Name x px) X.env)
      let iv ← holding [v, ov] (eval k X.env)
      standAt pk
      holding [v, ov, iv] (setItem ov iv v)
      release [v, ov, iv] []) := by intro _; rfl) :
    PS X (.Assign [.Subscript (.Name x px) k pk] e pos) (LS X.K E A0 F0 H0 (sPutP i f h)) :=
  PS.imp (ps_asg he (pg_sub hv hk set_list ha) hs hw h1) fun D s H q => by
    obtain ⟨A, F, r, m, gr, o, sl, p⟩ := q
    unfold sPutP at p
    split at p
    · rename_i n er
      refine PostS.ex gr o sl p fun A1 F1 m1 d v H1 gr1 g1 o1 sl1 rp p1 => ?_
      obtain ⟨v', e1, e2⟩ := sl1.fz i _ er
      simp only [Rep] at e2
      obtain ⟨a, ea, rfl⟩ := e2
      refine ⟨.ref a, e1, ?_⟩
      refine PostS.ex gr1 o1 sl1 p1 fun A2 F2 m2 d2 v2 H2 gr2 g2 o2 sl2 rp2 p2 => ?_
      split at p2
      · rename_i vv kk
        simp only [RE, Rep] at rp rp2
        subst rp rp2
        have ea2 := pre_get g2.fx.pre ea
        cases em : m2[n]? with
        | none => rw [em] at p2; exact p2.elim
        | some mo =>
          rw [em] at p2
          cases mo with
          | ins _ _ _ => exact p2.elim
          | tab _ => exact p2.elim
          | fn => exact p2.elim
          | slo _ _ => exact p2.elim
          | lst _ => exact p2.elim
          | pot b c d =>
            have hH := o2.pot ea2 em
            have hmem := List.mem_of_getElem? ea2
            have p3 : PostS X.K E A0 F0 H0 A2 F2 (match ixN 3 kk with
              | some 0 => .next r (m2.set n (.pot vv c d))
              | some 1 => .next r (m2.set n (.pot b vv d))
              | some 2 => .next r (m2.set n (.pot b c vv))
              | _ => .stuck) D := p2
            split at p3
            · rename_i ej
              exact ⟨a, _, kk, 0, rfl, rfl, hH, ej, p3 s A2 F2 _ .refl (gr2.setH hmem (nofz hH)) (o2.setH ea2 (x := .pot vv c d) rfl) (sl2.setH hmem (nofz hH))⟩
            · rename_i ej
              exact ⟨a, _, kk, 1, rfl, rfl, hH, ej, p3 s A2 F2 _ .refl (gr2.setH hmem (nofz hH)) (o2.setH ea2 (x := .pot b vv d) rfl) (sl2.setH hmem (nofz hH))⟩
            · rename_i ej
              exact ⟨a, _, kk, 2, rfl, rfl, hH, ej, p3 s A2 F2 _ .refl (gr2.setH hmem (nofz hH)) (o2.setH ea2 (x := .pot b c vv) rfl) (sl2.setH hmem (nofz hH))⟩
            · exact p3.elim
      · exact p2.elim
    · exact p.elim
end
end MT
set_option Elab.async false
set_option linter.all false
set_option maxRecDepth 100000
namespace MT
open PySem PySem.Spec PyProof.Rows L2
def fldsOf (c : Str) (d : D) (m : Mem) : Option (List Str × List D) := match d with
  | .obj c' ks ds => if c' = c then some (ks, ds) else none
  | .hnd n => (match m[n]? with
    | some (.ins c' ks ds) => if c' = c then some (ks, ds) else none
    | _ => none)
  | _ => none
def fldD (c f : Str) (d : D) (m : Mem) : Out D := match fldsOf c d m with
  | some (ks, ds) => (match (ks.zip ds).lookup f with
    | some x => .ok x m
    | none => .stuck)
  | none => .stuck
def putK (f : Str) (d : D) : List Str → List D → List Str × List D
  | [], _ => ([f], [d])
  | k :: ks, ds => if k = f then (k :: ks, d :: ds.tail) else (k :: (putK f d ks ds.tail).1, ds.headD .non :: (putK f d ks ds.tail).2)
section
variable {K : PySem.W.Frag} {A : List Addr} {F H : Hp} {m : Mem}
theorem putK_rep : ∀ {ks : List Str} {ds : List D} {vs : List V} {f : Str} {d : D} {v : V}, ks.length = ds.length → Reps K A F ds vs → Rep K A F d v →
    ∃ us, putF f v (ks.zip vs) = (putK f d ks ds).1.zip us ∧ (putK f d ks ds).1.length = (putK f d ks ds).2.length ∧ Reps K A F (putK f d ks ds).2 us
  | [], ds, vs, f, d, v, l, r, h => ⟨[v], rfl, rfl, Reps.cons h Reps.nil⟩
  | k :: ks, [], vs, f, d, v, l, r, h => by cases l
  | k :: ks, x :: ds, vs, f, d, v, l, r, h => by
    simp only [Reps] at r
    obtain ⟨u, r', rfl, h1, h2⟩ := r
    simp only [List.length_cons, Nat.add_right_cancel_iff] at l
    simp only [List.zip_cons_cons, putF, putK, List.tail_cons, List.headD_cons]
    by_cases q : k = f
    · rw [if_pos q, if_pos q]
      exact ⟨v :: r', rfl, by simp [l], Reps.cons h h2⟩
    · rw [if_neg q, if_neg q]
      obtain ⟨us, e1, e2, e3⟩ := putK_rep (f := f) (d := d) (v := v) l h2 h
      exact ⟨u :: us, by rw [e1]; rfl, by simp [e2], Reps.cons h1 e3⟩
end
def sSetF (i : Nat) (c f : Str) (h : En → Mem → Out D) : En → Mem → SOut := fun r m => sOf (h r m) fun d m => match r[i]? with
  | some (.fz (.hnd n)) => (match m[n]? with
    | some (.ins c' ks ds) => if c' = c ∧ ks.length < 1000 then .next r (m.set n (.ins c (putK f d ks ds).1 (putK f d ks ds).2)) else .stuck
    | _ => .stuck)
  | _ => .stuck
section
variable {X : Cx} {E : XK} {A0 : List Addr} {F0 H0 : Hp} {e o value : Expr} {c f x : Str} {pos pos' p2 : Pos} {g h : En → Mem → Out D} {i : Nat}
theorem ds_setF (hc : Cls X.K (He.ga X.K c)) (hn : NoAttr X.K (He.ga X.K c) f) (hv : PE X (.Name x p2) (tVar i)) (he : PE X value (LE X.K E h)) (hs : swapsWith value (some (.Attribute (.Name x p2) f pos')) pos.line X.env = pure false := by rfl) :
    PS X (.Assign [.Attribute (.Name x p2) f pos'] value pos) (LS X.K E A0 F0 H0 (sSetF i c f h)) :=
  PS.imp (ps_fld hv he hs) fun D s H q => LS.ex q fun A F r m d v H1 gr o sl r1 p => by
    split at p
    · rename_i n er
      obtain ⟨u, e1, e2⟩ := sl.fz i _ er
      simp only [Rep] at e2
      obtain ⟨a, ha, rfl⟩ := e2
      refine ⟨.ref a, e1, ?_⟩
      split at p
      · rename_i c' ks ds em
        split at p
        · rename_i hc'
          obtain ⟨rfl, hl⟩ := hc'
          obtain ⟨dx, vs, h1, h2, h3⟩ := o.insM ha em
          obtain ⟨us, f1, f2, f3⟩ := putK_rep (f := f) h2 h3 r1
          have hmem := List.mem_of_getElem? ha
          refine ⟨a, _, dx, _, rfl, h1, hc, hn, by simp [List.length_zip]; omega, ?_⟩
          rw [f1]
          exact p s A F _ .refl (gr.setH hmem (nofz h1)) (o.setH ha ⟨dx, us, rfl, f2, f3⟩) (sl.setH hmem (nofz h1))
        · exact p.elim
      · exact p.elim
    · exact p.elim
end
mutual
def noH : D → Bool
  | .hnd _ => false
  | .tup xs => noHs xs
  | .lst xs => noHs xs
  | .dct _ xs => noHs xs
  | .obj _ _ xs => noHs xs
  | .exc _ x => noH x
  | .slo _ xs => noHs xs
  | _ => true
def noHs : List D → Bool
  | [] => true
  | x :: xs => noH x && noHs xs
end
def noHm : MO → Bool
  | .pot _ _ _ => true
  | .ins _ _ xs => noHs xs
  | .tab _ => true
  | .fn => true
  | .lst xs => noHs xs
  | .slo _ os => noHs (os.map fun o => o.getD .non)
section
variable {K : PySem.W.Frag} {A A' : List Addr} {F F' H : Hp} {m : Mem}
mutual
theorem Rep.any (f : ∀ a o, F a = some o → F' a = some o) : ∀ {d : D} {v : V}, noH d = true → Rep K A F d v → Rep K A' F' d v
  | .non, v, _, h => by simp only [Rep] at h ⊢; exact h
  | .bl b, v, _, h => by simp only [Rep] at h ⊢; exact h
  | .int i, v, _, h => by simp only [Rep] at h ⊢; exact h
  | .str s, v, _, h => by simp only [Rep] at h ⊢; exact h
  | .ty n, v, _, h => by simp only [Rep] at h ⊢; exact h
  | .glo n, v, _, h => by simp only [Rep] at h ⊢; exact h
  | .exc c d, v, n, h => by
    simp only [Rep] at h ⊢
    obtain ⟨a, dx, u, e, h1, h2, r⟩ := h
    exact ⟨a, dx, u, e, f _ _ h1, f _ _ h2, Rep.any f (by simpa only [noH] using n) r⟩
  | .scr ns, v, _, h => by
    simp only [Rep] at h ⊢
    obtain ⟨a, h1, h2⟩ := h
    exact ⟨a, h1, sqL_fx f h2⟩
  | .hnd n, v, n0, h => by simp [noH] at n0
  | .slo c ds, v, n0, h => by
    simp only [Rep] at h ⊢
    obtain ⟨a, dx, vs, e, s, l, n, r⟩ := h
    exact ⟨a, dx, vs, e, f _ _ s, f _ _ l, n, Reps.any f (by simpa only [noH] using n0) r⟩
  | .tup ds, v, n0, h => by
    simp only [Rep] at h ⊢
    obtain ⟨a, vs, e, s, r⟩ := h
    exact ⟨a, vs, e, sqT_fx f s, Reps.any f (by simpa only [noH] using n0) r⟩
  | .lst ds, v, n0, h => by
    simp only [Rep] at h ⊢
    obtain ⟨a, vs, e, s, r⟩ := h
    exact ⟨a, vs, e, f _ _ s, Reps.any f (by simpa only [noH] using n0) r⟩
  | .dct ks ds, v, n0, h => by
    simp only [Rep] at h ⊢
    obtain ⟨a, vs, e, s, l, n, r⟩ := h
    exact ⟨a, vs, e, f _ _ s, l, n, Reps.any f (by simpa only [noH] using n0) r⟩
  | .obj c ks ds, v, n0, h => by
    simp only [Rep] at h ⊢
    obtain ⟨a, dx, vs, e, s, l, r⟩ := h
    exact ⟨a, dx, vs, e, f _ _ s, l, Reps.any f (by simpa only [noH] using n0) r⟩
theorem Reps.any (f : ∀ a o, F a = some o → F' a = some o) : ∀ {ds : List D} {vs : List V}, noHs ds = true → Reps K A F ds vs → Reps K A' F' ds vs
  | [], vs, _, h => by simp only [Reps] at h ⊢; exact h
  | d :: ds, vs, n0, h => by
    simp only [Reps] at h ⊢
    simp only [noHs, Bool.and_eq_true] at n0
    obtain ⟨v, r, e, h1, h2⟩ := h
    exact ⟨v, r, e, Rep.any f n0.1 h1, Reps.any f n0.2 h2⟩
end
theorem RepsO.any (f : ∀ a o, F a = some o → F' a = some o) : ∀ {os : List (Option D)} {vs : List (Option V)}, noHs (os.map fun o => o.getD .non) = true → RepsO K A F os vs → RepsO K A' F' os vs
  | [], vs, _, h => h
  | none :: os, vs, n, h => by
    obtain ⟨r, e, h2⟩ := h
    simp only [List.map_cons, noHs, Bool.and_eq_true] at n
    exact ⟨r, e, RepsO.any f n.2 h2⟩
  | some d :: os, vs, n, h => by
    obtain ⟨u, r, e, h1, h2⟩ := h
    simp only [List.map_cons, noHs, Bool.and_eq_true] at n
    exact ⟨u, r, e, h1.any f n.1, RepsO.any f n.2 h2⟩
theorem Ok.pop {x : Addr} {c : Str} {ks : List Str} {ds : List D} (o : Ok K (A ++ [x]) F H (m ++ [.ins c ks ds])) (hm : m.all noHm = true) (hd : noHs ds = true) :
    ∃ u, H x = some u ∧ F x = none ∧ Ok K A (L2.upd F x u) H m ∧ Rep K A (L2.upd F x u) (.obj c ks ds) (.ref x) := by
  have hl : A.length = m.length := by have := o.len; simp at this; exact this
  have e1 : (A ++ [x])[A.length]? = some x := by simp
  have e2 : (m ++ [MO.ins c ks ds])[A.length]? = some (.ins c ks ds) := by rw [hl]; simp
  obtain ⟨dx, vs, h1, h2, h3⟩ := o.insM e1 e2
  have nF : F x = none := o.sep x (by simp)
  have sub : ∀ a w, F a = some w → L2.upd F x (.ins (He.ga K c) dx (ks.zip vs)) a = some w := fun a w e => by rw [upd_ne (ne_of_none e nF)]; exact e
  have nd := o.nd
  rw [List.nodup_append] at nd
  refine ⟨_, h1, nF, ⟨fun a w e => ?_, nd.1, hl, fun n a y f1 f2 => ?_, fun a ha => ?_⟩, ?_⟩
  · by_cases z : a = x
    · subst z; rw [upd_same] at e; rw [h1]; exact e
    · rw [upd_ne z] at e; exact o.sub a w e
  · have g1 : (A ++ [x])[n]? = some a := by rw [List.getElem?_append_left (List.getElem?_eq_some_iff.mp f1).1]; exact f1
    have g2 : (m ++ [MO.ins c ks ds])[n]? = some y := by rw [List.getElem?_append_left (List.getElem?_eq_some_iff.mp f2).1]; exact f2
    have q := o.mem n a y g1 g2
    have ny : noHm y = true := List.all_eq_true.mp hm y (List.mem_of_getElem? f2)
    cases y with
    | pot _ _ _ => exact q
    | tab x' =>
      obtain ⟨e, ps, q1, q2, q3⟩ := q
      exact ⟨e, ps, q1, q2, fun pos cv hc => let ⟨c, e1, e2⟩ := q3 pos cv hc; ⟨c, e1, sub _ _ e2⟩⟩
    | ins c' ks' ds' =>
      obtain ⟨dx', vs', q1, q2, q3⟩ := q
      exact ⟨dx', vs', q1, q2, q3.any sub (by simpa only [noHm] using ny)⟩
    | lst ds' =>
      obtain ⟨vs', q1, q3⟩ := q
      exact ⟨vs', q1, q3.any sub (by simpa only [noHm] using ny)⟩
    | fn => exact q
    | slo c os =>
      obtain ⟨dx', vs', q1, q2, q3, q4⟩ := q
      exact ⟨dx', vs', q1, sub _ _ q2, q3, q4.any sub (by simpa only [noHm] using ny)⟩
  · have z : a ≠ x := by
      rintro rfl
      exact nd.2.2 a ha a (by simp) rfl
    rw [upd_ne z]
    exact o.sep a (by simp [ha])
  · simp only [Rep]
    exact ⟨x, dx, vs, rfl, upd_same, h2, h3.any sub hd⟩
end
def mkO (c : Str) (f0 : List D → Mem → Out D) : List D → Mem → Out D := fun ds m => match f0 (.hnd m.length :: ds) (m ++ [.ins c [] []]) with
  | .ok .non m' => if m'.length = m.length + 1 then (match m'[m.length]? with
    | some (.ins c' ks es) => if c' = c ∧ noHs es = true ∧ (m'.take m.length).all noHm = true then .ok (.obj c ks es) (m'.take m.length) else .stuck
    | _ => .stuck) else .stuck
  | .exc c d m' => .exc c d m'
  | _ => .stuck
def MakeOk (P : Program) (w : World) (K : PySem.W.Frag) (mg : Str → Option Value) (base : Heap) (k : Nat) (c : Str) (fm : List D → Mem → Out D) : Prop :=
  ∃ f fd ps ds dvs dd f0, FnOk P w K mg base (L2.CX P w) k f fd ps (SpF K f0) ∧ mg c = some (.ref (He.ga K c)) ∧ Mk K (He.ga K c) f ∧ Binds K fd ps ds ∧ Vals dvs ds ∧ (∀ A F, Reps K A F dd dvs) ∧ fm = mkO c fun xs m => f0 (xs ++ dd) m
section
variable {X : Cx} {E : XK} {k : Nat} {c : Str} {p pos : Pos} {e : Expr} {es : List Expr} {g : En → Mem → Out (List D)} {fm f0 : List D → Mem → Out D} {K : PySem.W.Frag}
theorem mkO_ok {A : List Addr} {F H : Hp} {m : Mem} {xs dd : List D} {vs dvs : List V} {Q : V → Hp → Prop} (o : Ok K A F H m) (r : Reps K A F xs vs) (hdd : ∀ A F, Reps K A F dd dvs) (p : Post (RE K) K E A F H (mkO c (fun xs m => f0 (xs ++ dd) m) xs m) (QE Q))
    {x dx : Addr} (hx : H x = none) (hdx : H dx = none) (ne : dx ≠ x) : SpF K f0 (.ref x :: (vs ++ dvs)) (L2.upd (L2.upd H dx (.own x)) x (.ins (He.ga K c) dx [])) (fun v H2 => v = .non ∧ Q (.ref x) H2) E := by
  obtain ⟨nF, nA⟩ := o.out hdx
  have o1 := o.upd (x := .own x) nF nA
  have g1 : Gr A F H A F (L2.upd H dx (.own x)) := Gr.refl.upd hdx
  have hx1 : L2.upd H dx (.own x) x = none := by rw [upd_ne ne.symm]; exact hx
  obtain ⟨o2, g2⟩ := o1.newH hx1 (x := .ins c [] []) (u := .ins (He.ga K c) dx []) ⟨dx, [], rfl, rfl, Reps.nil⟩
  refine ⟨A ++ [x], F, .hnd m.length :: (xs ++ dd), _, o2, Reps.cons ?_ ((r.append (hdd A F)).fx (g1.trans g2).fx), ?_⟩
  · simp only [Rep]
    exact ⟨x, by rw [← o.len]; simp, rfl⟩
  · unfold mkO at p
    have e0 : (fun xs m => f0 (xs ++ dd) m) (D.hnd m.length :: xs) (m ++ [MO.ins c [] []]) = f0 (D.hnd m.length :: (xs ++ dd)) (m ++ [MO.ins c [] []]) := rfl
    rw [e0] at p
    cases q : f0 (D.hnd m.length :: (xs ++ dd)) (m ++ [.ins c [] []]) with
    | stuck => rw [q] at p; exact p
    | exc c' d m' => rw [q] at p; exact XC.gr p (g1.trans g2)
    | ok d m' =>
      rw [q] at p
      cases d <;> first | exact p.elim | skip
      have p' : Post (RE K) K E A F H (if m'.length = m.length + 1 then (match m'[m.length]? with
        | some (.ins c' ks es) => if c' = c ∧ noHs es = true ∧ (m'.take m.length).all noHm = true then .ok (.obj c ks es) (m'.take m.length) else .stuck
        | _ => .stuck) else .stuck) (QE Q) := p
      intro v A' F' H' g' o' rv
      simp only [RE, Rep] at rv
      refine ⟨rv, ?_⟩
      split at p'
      · rename_i hl
        split at p'
        · rename_i c' ks es em
          split at p'
          · rename_i hc
            obtain ⟨rfl, hn1, hn2⟩ := hc
            obtain ⟨t, ht⟩ := g'.fx.pre
            have hA : A' = A ++ [x] := by
              have l1 := o'.len
              rw [hl, ← ht, List.length_append, List.length_append, o.len] at l1
              have : t = [] := List.length_eq_zero_iff.mp (by simp only [List.length_cons, List.length_nil] at l1; omega)
              rw [← ht, this, List.append_nil]
            subst hA
            have hm' : m' = m'.take m.length ++ [.ins c' ks es] := by
              have h1 : m'.drop m.length = [.ins c' ks es] := by
                have hlt : m.length < m'.length := by omega
                rw [List.drop_eq_getElem_cons hlt]
                rw [List.getElem?_eq_getElem hlt] at em
                rw [Option.some.inj em, List.drop_eq_nil_iff.mpr (by omega)]
              conv => lhs; rw [← List.take_append_drop m.length m', h1]
            rw [hm'] at o'
            obtain ⟨u, hu, nFx, ok, rp⟩ := o'.pop hn2 hn1
            have gt := (g1.trans g2).trans g'
            refine p' _ A _ H' ⟨⟨fun a w e => by rw [upd_ne (ne_of_none (gt.fx.f a w e) nFx)]; exact gt.fx.f a w e, List.prefix_refl _⟩, fun a w e => ?_, gt.stay, gt.keep, fun a h => .inl h, gt.frz⟩ ok rp
            by_cases z : a = x
            · subst z; exact .inr hx
            · rw [upd_ne z] at e; exact gt.new a w e
          · exact p'.elim
        · exact p'.elim
      · exact p'.elim
theorem de_make (C : MakeOk X.prog X.w X.K X.mg X.base k c fm) (hr : Room (k + 1) X.A) (hx : Passes (L2.CX X.prog X.w) X E) (ha : PA X (e :: es) (LA X.K E g)) (hg : Gl X c := by rfl) (hdb : (c == ("__debug__" : Str)) = false := by decide)
    (he : starEach (e :: es) X.env = (false, eval e X.env) :: starEach es X.env := by rfl) (hpl : (backTo pos (starEach es X.env)).any (·.1) = false := by rfl) : PE X (.Call (.Name c p) (e :: es) [] pos) (LE X.K E (bind1 g fm)) := by
  obtain ⟨f, fd, ps, ds, dvs, dd, f0, F, hm, hk, hb, hd, hdd, rfl⟩ := C
  refine PE.imp (pe_make hk F hr hg hm hb hd hx ha hdb he hpl) fun s H Q q => LX.un q fun H0 A F r m xs vs H1 o sl r1 p => ?_
  exact fun x dx hx hdx ne => mkO_ok o r1 hdd p hx hdx ne
end
def MethOk (P : Program) (w : World) (K : PySem.W.Frag) (mg : Str → Option Value) (base : Heap) (k : Nat) (c n : Str) (fm : List D → Mem → Out D) : Prop :=
  ∃ f fd ps ds dvs dd f0, FnOk P w K mg base (L2.CX P w) k f fd ps (SpF K f0) ∧ Meth K (He.ga K c) n f ∧ Binds K fd ps ds ∧ Vals dvs ds ∧ (∀ A F, Reps K A F dd dvs) ∧ fm = fun xs m => f0 (xs ++ dd) m
def methD (c n : Str) (f : En → Mem → Out D) (g : En → Mem → Out (List D)) (fm : List D → Mem → Out D) : En → Mem → Out D := fun r m => (f r m).bind fun d m => match fldsOf c d m with
  | some (ks, _) => if n ∉ ks then (g r m).bind fun xs m => fm (d :: xs) m else .stuck
  | none => .stuck
def noX {T : Type} (o : Out T) : Out T := match o with
  | .exc _ _ _ => .stuck
  | o => o
def propD (c : Str) (fm : List D → Mem → Out D) (d : D) (m : Mem) : Out D := match fldsOf c d m with
  | some _ => noX (fm [d] m)
  | none => .stuck
section
variable {X : Cx} {E : XK} {k : Nat} {c n : Str} {p pos apos : Pos} {e o : Expr} {es : List Expr} {f : En → Mem → Out D} {g : En → Mem → Out (List D)} {fm : List D → Mem → Out D} {K : PySem.W.Frag}
end
end MT
set_option Elab.async false
set_option linter.all false
set_option maxRecDepth 100000
namespace MT
open PySem PySem.Spec PyProof.Rows L2
inductive Ad where
  | glo (x : Str) | meth (c m : Str) | prop (c f : Str)
def getterOf (K : PySem.W.Frag) (p : Addr) : Addr := match PySem.W.recIn K p "property" with
  | some (.ref g :: _) => g
  | _ => 0
def Ad.at (K : PySem.W.Frag) : Ad → Addr
  | .glo x => He.ga K x
  | .meth c m => He.ma K (He.ga K c) m
  | .prop c f => getterOf K (He.ma K (He.ga K c) f)
structure Df where
  at_ : Ad
  name : Str
  qual : Str
  params : Arguments
  body : List Stmt
  scope : Scope
  dfl : List He.Dv := []
def Df.val (d : Df) : He.FnW := some (d.name, d.qual, d.params, .stmts d.body, d.scope, mainGlobals, [], builtinsNs)
def Df.see (K : PySem.W.Frag) (d : Df) : He.FnW := match K.lookup (d.at_.at K) with
  | some ⟨_, _, .func fd, _⟩ => some (fd.name, fd.qualname, fd.params, fd.body, fd.scope, fd.globals, fd.closure, fd.builtins)
  | _ => none
def Df.dvs (K : PySem.W.Frag) (d : Df) : List V := d.dfl.map (He.Dv.v K)
def Df.ok (K : PySem.W.Frag) (d : Df) : Bool := PySem.W.keepIn K (.ref (d.at_.at K)) && (match K.lookup (d.at_.at K) with
  | some ⟨_, _, .func fd, _⟩ => PySem.W.codeIn K fd.code d.qual && He.dflB K fd.defaults (d.dvs K)
  | _ => false)
theorem Df.funD {K : PySem.W.Frag} {d : Df} (e : d.see K = d.val) (c : d.ok K = true) : ∃ fd, FunD K d.name d.qual d.params d.body d.scope (d.dvs K) [] (d.at_.at K) fd := by
  obtain ⟨kp, c2⟩ := He.ba c
  unfold Df.see at e
  cases q : K.lookup (d.at_.at K) with
  | none =>
    rw [q] at c2
    cases c2
  | some o =>
    obtain ⟨oc, od, dt, osl⟩ := o
    rw [q] at c2 e
    cases dt with
    | func fd =>
      obtain ⟨n1, n2, n3, n4, n5, n6, n7, n8, n9, n10, n11, n12, n13, n14, n15⟩ := fd
      have e2 : (some (n1, n2, n3, n4, n5, n6, n7, n15) : He.FnW) = some (d.name, d.qual, d.params, .stmts d.body, d.scope, mainGlobals, [], builtinsNs) := e
      simp only [Option.some.injEq, Prod.mk.injEq] at e2
      obtain ⟨h1, h2, h3, h4, h5, h6, h7, h8⟩ := e2
      subst h1 h2 h3 h4 h5 h6 h7 h8
      have c3 : (PySem.W.codeIn K n13 d.qual && He.dflB K n8 (d.dvs K)) = true := c2
      obtain ⟨k1, k3⟩ := He.ba c3
      exact ⟨_, ⟨oc, od, n8, n9, n10, n11, n12, n13, n14, osl, rfl, q, k1, He.dflB_ok k3, .inl rfl⟩, kp⟩
    | _ => cases c2
mutual
def datB (K : PySem.W.Frag) : D → Value → Bool
  | .non, .none => true
  | .bl b, .bool c => b == c
  | .int i, .int j _ => decide (i = j)
  | .str x, .str y _ => decide (x = y)
  | .tup ds, .ref a => (match K.lookup a with
    | some ⟨.type c, _, .seq its _, _⟩ => decide (c = "tuple") && (decide (its.size ≤ sizeLine) && datBs K ds its.toList)
    | _ => false)
  | _, _ => false
def datBs (K : PySem.W.Frag) : List D → List Value → Bool
  | [], [] => true
  | d :: ds, u :: us => datB K d u && datBs K ds us
  | _, _ => false
end
mutual
theorem datB_ok {K : PySem.W.Frag} : ∀ {d : D} {u : Value}, datB K d u = true → ∃ v, RelV v u ∧ ∀ A F, Rep K A F d v
  | .non, u, h => by
    cases u <;> first | (simp [datB] at h; done) | skip
    exact ⟨.non, rfl, fun _ _ => by simp only [Rep]⟩
  | .bl b, u, h => by
    cases u <;> first | (simp [datB] at h; done) | skip
    rename_i c
    simp only [datB] at h
    have e : b = c := eq_of_beq h
    subst e
    exact ⟨.bl b, rfl, fun _ _ => by simp only [Rep]⟩
  | .int i, u, h => by
    cases u <;> first | (simp [datB] at h; done) | skip
    rename_i c t
    simp only [datB, decide_eq_true_eq] at h
    subst h
    exact ⟨.int i, ⟨t, rfl⟩, fun _ _ => by simp only [Rep]⟩
  | .str i, u, h => by
    cases u <;> first | (simp [datB] at h; done) | skip
    rename_i c t
    simp only [datB, decide_eq_true_eq] at h
    subst h
    exact ⟨.str i, ⟨t, rfl⟩, fun _ _ => by simp only [Rep]⟩
  | .tup ds, u, h => by
    cases u <;> first | (simp [datB] at h; done) | skip
    rename_i a
    simp only [datB] at h
    split at h
    · rename_i c od its n sl q
      obtain ⟨h1, h2⟩ := He.ba h
      obtain ⟨h3, h4⟩ := He.ba h2
      obtain ⟨vs, r1, r2⟩ := datBs_ok h4
      refine ⟨.ref a, rfl, fun A F => ?_⟩
      simp only [Rep]
      exact ⟨a, vs, rfl, .inr ⟨_, its, n, q, congrArg Value.type (of_decide_eq_true h1), rfl, of_decide_eq_true h3, r1⟩, r2 A F⟩
    · cases h
  | .lst _, u, h => by cases u <;> simp [datB] at h
  | .dct _ _, u, h => by cases u <;> simp [datB] at h
  | .obj _ _ _, u, h => by cases u <;> simp [datB] at h
  | .hnd _, u, h => by cases u <;> simp [datB] at h
  | .ty _, u, h => by cases u <;> simp [datB] at h
  | .glo _, u, h => by cases u <;> simp [datB] at h
  | .exc _ _, u, h => by cases u <;> simp [datB] at h
  | .scr _, u, h => by cases u <;> simp [datB] at h
  | .slo _ _, u, h => by cases u <;> simp [datB] at h
theorem datBs_ok {K : PySem.W.Frag} : ∀ {ds : List D} {us : List Value}, datBs K ds us = true → ∃ vs, Vals vs us ∧ ∀ A F, Reps K A F ds vs
  | [], [], _ => ⟨[], .nil, fun _ _ => Reps.nil⟩
  | [], _ :: _, h => by simp [datBs] at h
  | _ :: _, [], h => by simp [datBs] at h
  | d :: ds, u :: us, h => by
    simp only [datBs, Bool.and_eq_true] at h
    obtain ⟨v, r1, r2⟩ := datB_ok h.1
    obtain ⟨vs, s1, s2⟩ := datBs_ok h.2
    exact ⟨v :: vs, .cons r1 s1, fun A F => Reps.cons (r2 A F) (s2 A F)⟩
end
inductive Fb where
  | old (f : He.Fa)
  | prop (c f : Str)
  | dat (x : Str) (d : D)
  | any (p : PySem.W.Frag → Bool)
def Fb.ok (K : PySem.W.Frag) : Fb → Bool
  | .old f => f.ok K
  | .prop c f => He.eqO (PySem.W.findIn K (.ref (He.ga K c)) f) (some (some (.ref (He.ma K (He.ga K c) f)))) && (He.eqO (PySem.W.specialIn K (.ref (He.ma K (He.ga K c) f)) "__get__") (some (some (.builtin "property.__get__"))) &&
    (decide (PySem.W.takesIn K (.ref (He.ma K (He.ga K c) f)) = some true) && (match PySem.W.recIn K (He.ma K (He.ga K c) f) "property" with
      | some (.ref _ :: _) => true
      | _ => false)))
  | .dat x d => (match PySem.W.nsIn K mainGlobals x with
    | some (some u) => datB K d u
    | _ => false)
  | .any p => p K
theorem dat_ok {K : PySem.W.Frag} {h : Heap} {mg : Str → Option Value} (X : K.In h) (G : h.Ns mainGlobals mg) {x : Str} {d : D} (c : (Fb.dat x d).ok K = true) : ∃ u v, mg x = some u ∧ RelV v u ∧ ∀ A F, Rep K A F d v := by
  have c2 : (match PySem.W.nsIn K mainGlobals x with
    | some (some u) => datB K d u
    | _ => false) = true := c
  cases e : PySem.W.nsIn K mainGlobals x with
  | none => rw [e] at c2; cases c2
  | some o =>
    rw [e] at c2
    cases o with
    | none => cases c2
    | some u =>
      obtain ⟨v, r1, r2⟩ := datB_ok c2
      exact ⟨u, v, PySem.W.mg_of X G e, r1, r2⟩
def obsM (fa : List Fb) (fn : List Df) (K : PySem.W.Frag) : He.AlD := ((fa.all fun f => f.ok K) && fn.all fun d => d.ok K, fn.map fun d => d.see K)
def valM (fn : List Df) : He.AlD := (true, fn.map Df.val)
def SaysM (fa : List Fb) (fn : List Df) (K : PySem.W.Frag) : Prop := obsM fa fn K = valM fn
def frN {α : Type} (n : Nat) (k : Nat → α) : α := match n with
  | 0 => k 0
  | m + 1 => k (m + 1)
def addN {β : Type} : List Addr → Nat → List Addr → (Nat → List Addr → β) → β
  | [], m, out, k => k m out
  | a :: r, m, out, k => match Nat.beq (Nat.mod (Nat.shiftRight m a) 2) 1 with
    | true => addN r m out k
    | false => frN (Nat.lor m (Nat.shiftLeft 1 a)) fun m => addN r m (a :: out) k
def bfsA (g : Addr → Option Obj) : Nat → List Addr → Nat → List Addr → List Addr
  | 0, _, _, all => all
  | n + 1, fr, m, all => addN (fr.flatMap fun a => match g a with
    | some o => He.refsD o
    | none => []) m [] fun m' new => bfsA g n new m' (all ++ new)
def asB (g : Addr → Option Obj) (n : Nat) : List Addr := bfsA g n [mainGlobals] (Nat.shiftLeft 1 mainGlobals) [mainGlobals]
section
variable {fa : List Fb} {fn : List Df} {K : PySem.W.Frag}
theorem SaysM.fact (c : SaysM fa fn K) (i : Nat) {f : Fb} (h : fa[i]? = some f) : f.ok K = true := by
  have c1 := (He.ba (show ((fa.all fun f => f.ok K) && fn.all fun d => d.ok K) = true from congrArg (fun z : He.AlD => z.1) c)).1
  exact List.all_eq_true.mp c1 f (List.mem_of_getElem? h)
theorem SaysM.def_ (c : SaysM fa fn K) (i : Nat) {d : Df} (h : fn[i]? = some d) : ∃ fd, FunD K d.name d.qual d.params d.body d.scope (d.dvs K) [] (d.at_.at K) fd := by
  have c2 := (He.ba (show ((fa.all fun f => f.ok K) && fn.all fun d => d.ok K) = true from congrArg (fun z : He.AlD => z.1) c)).2
  have e : fn.map (fun d => d.see K) = fn.map Df.val := congrArg (fun z : He.AlD => z.2) c
  have e2 : (fn.map fun d => d.see K)[i]? = (fn.map Df.val)[i]? := by rw [e]
  rw [List.getElem?_map, List.getElem?_map, h] at e2
  exact Df.funD (Option.some.inj e2) (List.all_eq_true.mp c2 d (List.mem_of_getElem? h))
end
structure Tx (fa : List Fb) (fn : List Df) (K : PySem.W.Frag) (mg : Str → Option Value) : Prop where
  says : SaysM fa fn K
  glo : ∀ (i : Nat) {x : Str}, fa[i]? = some (.old (.glo x)) → mg x = some (.ref (He.ga K x))
  free : ∀ (i : Nat) {x : Str}, fa[i]? = some (.old (.free x)) → mg x = none
  int : ∀ (i : Nat) {x : Str} {z : Int}, fa[i]? = some (.old (.int x z)) → ∃ t, mg x = some (.int z t)
  str : ∀ (i : Nat) {x z : Str}, fa[i]? = some (.old (.str x z)) → ∃ t, mg x = some (.str z t)
  dat : ∀ (i : Nat) {x : Str} {d : D}, fa[i]? = some (.dat x d) → ∃ u v, mg x = some u ∧ RelV v u ∧ ∀ A F, Rep K A F d v
theorem Tx.of {fa : List Fb} {fn : List Df} {K : PySem.W.Frag} {mg : Str → Option Value} {h : Heap} (X : K.In h) (G : h.Ns mainGlobals mg) (c : SaysM fa fn K) : Tx fa fn K mg :=
  ⟨c, fun i _ e => He.glo_ok X G (c.fact i e), fun i _ e => He.free_ok X G (c.fact i e), fun i _ _ e => He.int_ok X G (c.fact i e), fun i _ _ e => He.str_ok X G (c.fact i e), fun i _ _ e => dat_ok X G (c.fact i e)⟩
section
variable {P : Program} {w : World} {fa : List Fb} {fn : List Df} {K : PySem.W.Frag} {mg : Str → Option Value} {base : Heap} {x c n qual : Str} {params : Arguments} {body : List Stmt} {scope : Scope} {N ps : List Str} {k : Nat} {b : En → Mem → SOut} {ad : Ad}
theorem Tx.cls (T : Tx fa fn K mg) (i : Nat) (h : fa[i]? = some (.old (.cls c))) : Cls K (He.ga K c) := He.cls_ok (T.says.fact i h)
theorem Tx.any (T : Tx fa fn K mg) (i : Nat) {p : PySem.W.Frag → Bool} (h : fa[i]? = some (.any p)) : p K = true := T.says.fact i h
theorem Tx.noat (T : Tx fa fn K mg) (i : Nat) (h : fa[i]? = some (.old (.noat c n))) : NoAttr K (He.ga K c) n := He.noat_ok (T.says.fact i h)
abbrev Body (P : Program) (w : World) (K : PySem.W.Frag) (mg : Str → Option Value) (base : Heap) (N : List Str) (qual : Str) (scope : Scope) (body : List Stmt) (k : Nat) (b : En → Mem → SOut) : Prop :=
  ∀ (f : Addr) (cdv : Value) (A : Around) (outer : List Env) (s : Shared) (H : Hp) (E : XK), Room k (A.deeper (envOfC qual scope s.heap.objs.size f cdv)) → ∀ (A0 : List Addr) (F0 : Hp), PSs (cxOf (L2.CX P w) P w K mg base N qual scope f cdv A outer s H E) body (LS K E A0 F0 H b)
abbrev BindN (x qual : Str) (params : Arguments) (body : List Stmt) (scope : Scope) (ps : List Str) : Prop :=
  ∀ (kV doc pm : Value) (an : Option Addr) (cdv ct : Value) (us : List Value), us.length = ps.length → bindArgs (PySem.W.fnOf x qual params body scope .none kV doc pm an cdv ct) ⟨us, []⟩ = pure (ps.zip us)
theorem mk_fn (T : Tx fa fn K mg) (i : Nat) (hd : fn[i]? = some ⟨ad, x, qual, params, body, scope, []⟩) (S : FnScope N ps scope) (bind : BindN x qual params body scope ps) (hb : Body P w K mg base N qual scope body k b) :
    ∃ fd, FnOk P w K mg base (L2.CX P w) (k + 1) (ad.at K) fd ps (SpF K (runF ps.length N.length b)) ∧ PySem.W.keepIn K (.ref (ad.at K)) = true ∧ Binds K fd ps [] := by
  obtain ⟨fd, F⟩ := T.says.def_ i hd
  exact ⟨fd, fn_ok F S fun cdv A outer s H E hr A0 F0 => hb _ cdv A outer s H E hr A0 F0, F.kp, F.bindsN bind⟩
theorem nodd {f0 : List D → Mem → Out D} : f0 = fun xs m => f0 (xs ++ []) m := by funext xs m; rw [List.append_nil]
theorem mk_def (T : Tx fa fn K mg) (i j : Nat) (hd : fn[i]? = some ⟨.glo x, x, qual, params, body, scope, []⟩) (hg : fa[j]? = some (.old (.glo x))) (S : FnScope N ps scope) (bind : BindN x qual params body scope ps) (hb : Body P w K mg base N qual scope body k b) :
    CallOk P w K mg base (k + 1) x (runF ps.length N.length b) := by
  obtain ⟨fd, F, kp, bi⟩ := mk_fn T i hd S bind hb
  exact ⟨_, fd, ps, [], [], [], _, F, T.glo j hg, kp, bi, .nil, fun _ _ => Reps.nil, nodd⟩
theorem mk_make (T : Tx fa fn K mg) (i j l : Nat) (hd : fn[i]? = some ⟨.meth c "__init__", x, qual, params, body, scope, []⟩) (hg : fa[j]? = some (.old (.mkr c))) (hl : fa[l]? = some (.old (.glo c))) (S : FnScope N ps scope) (bind : BindN x qual params body scope ps) (hb : Body P w K mg base N qual scope body k b) :
    MakeOk P w K mg base (k + 1) c (mkO c (runF ps.length N.length b)) := by
  obtain ⟨fd, F, kp, bi⟩ := mk_fn T i hd S bind hb
  exact ⟨_, fd, ps, [], [], [], _, F, T.glo l hl, He.mkr_ok (T.says.fact j hg), bi, .nil, fun _ _ => Reps.nil, congrArg (mkO c) nodd⟩
variable {dfl : List He.Dv} {dd : List D}
end
section
variable {X : Cx} {E : XK} {x : Str} {pos : Pos}
end
end MT
set_option Elab.async false
set_option linter.all false
set_option maxRecDepth 100000
namespace MT
open PySem PySem.Spec PyProof.Rows L2
section
variable {X : Cx} {CX : CXT} {k : Nat} {f C a dx : Addr} {fs : List (Str × V)} {fd : FuncData} {ps : List Str} {sp : Sp} {E : XK}
end
def SpecOk (P : Program) (w : World) (K : PySem.W.Frag) (mg : Str → Option Value) (base : Heap) (k : Nat) (c n : Str) (fm : List D → Mem → Out D) : Prop :=
  ∃ f fd ps, FnOk P w K mg base (L2.CX P w) k f fd ps (SpF K fm) ∧ Meth K (He.ga K c) n f ∧ Binds K fd ps []
section
variable {P : Program} {w : World} {fa : List Fb} {fn : List Df} {K : PySem.W.Frag} {mg : Str → Option Value} {base : Heap} {x c n qual : Str} {params : Arguments} {body : List Stmt} {scope : Scope} {N ps : List Str} {k : Nat} {b : En → Mem → SOut} {fm : List D → Mem → Out D}
theorem SpecOk.meth (h : SpecOk P w K mg base k c n fm) : MethOk P w K mg base k c n fm := by
  obtain ⟨f, fd, ps, F, hm, hb⟩ := h
  exact ⟨f, fd, ps, [], [], [], fm, F, hm, hb, .nil, fun _ _ => Reps.nil, nodd⟩
end
def lenO (c : Str) (fm : List D → Mem → Out D) : List D → Mem → Out D
  | [d], m => match fldsOf c d m with
    | some _ => (match fm [d] m with
      | .ok (.int n) m => if 0 ≤ n ∧ n < 2 ^ 63 then .ok (.int n) m else .stuck
      | _ => .stuck)
    | none => .stuck
  | _, _ => .stuck
section
variable {X : Cx} {E : XK} {k : Nat} {c x : Str} {p pos : Pos} {e : Expr} {es : List Expr} {g : En → Mem → Out (List D)} {fm : List D → Mem → Out D}
end
end MT
set_option Elab.async false
set_option linter.all false
set_option maxRecDepth 100000
namespace MT
open PySem PySem.Spec PyProof.Rows L2
inductive Sk where
  | lst (a : Addr) | tup (a : Addr) | str (z : Str) (t : Tok)
def Sk.st (it : Addr) (i : Nat) (h : Heap) : Sk → Prop
  | .lst a => h.IsListIter it a i
  | .tup a => h.IsTupleIter it a i
  | .str z t => h.IsStrIter it (strIterType z) z t i
def Sk.has (K : PySem.W.Frag) (H : Hp) (xs : List V) : Sk → Prop
  | .lst a => SqL K H a xs
  | .tup a => SqT K H a xs
  | .str z _ => xs = z.cps.toList.map fun c => .str ⟨#[c]⟩
def Sk.below (N : Nat) : Sk → Prop
  | .lst a => (a : Nat) < N
  | .tup a => (a : Nat) < N
  | .str _ _ => True
theorem Sk.st_obj {sk : Sk} {it : Addr} {i : Nat} {h : Heap} (x : sk.st it i h) : ∃ o, h.get? it = some o ∧ ∀ v, o.data ≠ .cell v := by
  cases sk with
  | lst a =>
    obtain ⟨o, e, _, d⟩ := x
    exact ⟨o, e, fun v q => by rw [d] at q; cases q⟩
  | tup a =>
    obtain ⟨o, e, _, d⟩ := x
    exact ⟨o, e, fun v q => by rw [d] at q; cases q⟩
  | str z t =>
    obtain ⟨o, e, _, d⟩ := x
    exact ⟨o, e, fun v q => by rw [d] at q; cases q⟩
theorem Sk.st_keep {sk : Sk} {it : Addr} {i : Nat} {h h' : Heap} (x : sk.st it i h) (k : ∀ o, h.get? it = some o → h'.get? it = some o) : sk.st it i h' := by
  cases sk with
  | lst a =>
    obtain ⟨o, e, r⟩ := x
    exact ⟨o, k o e, r⟩
  | tup a =>
    obtain ⟨o, e, r⟩ := x
    exact ⟨o, k o e, r⟩
  | str z t =>
    obtain ⟨o, e, r⟩ := x
    exact ⟨o, k o e, r⟩
section
variable {X : Cx} {pins : List (Addr × Obj)} {σ : L2.St} {H : Hp} {s : Shared}
theorem Sk.inj (I : Inv X pins σ H s) {sk : Sk} {xs ys : List V} (h : sk.has X.K H xs) (h' : sk.has X.K H ys) : xs = ys := by
  cases sk with
  | lst a => exact I.list_inj h h'
  | tup a => exact I.tuple_inj h h'
  | str z t =>
    have e1 : xs = _ := h
    have e2 : ys = _ := h'
    rw [e1, e2]
theorem vals_at {xs : List V} {us : List Value} (r : Vals xs us) {i : Nat} {v : Value} (e : us[i]? = some v) : ∃ x, xs[i]? = some x ∧ RelV x v := by
  induction r generalizing i with
  | nil => cases e
  | cons h t ih =>
    cases i with
    | zero => cases e; exact ⟨_, rfl, h⟩
    | succ i => exact ih (i := i) (by simpa using e)
theorem Sk.draws (I : Inv X pins σ H s) (hc : X.calm = true) {sk : Sk} {xs : List V} (h : sk.has X.K H xs) (it : Addr) (N : Nat) (hb : sk.below N) (hN : N ≤ it) :
    ∃ (fp : List Addr) (P : Nat → Value → Prop) (St : Nat → Heap → Prop), Draws X.prog X.w X.A.in1 it (it :: fp) xs.length P St ∧ (∀ b ∈ fp, (b : Nat) < N) ∧ (∀ i, sk.st it i s.heap → St i s.heap) ∧ (∀ i h, St i h → sk.st it i h) ∧ ∀ i v, P i v → ∃ x, xs[i]? = some x ∧ RelV x v := by
  have hh : X.A.in1.handled = none := I.ok.hd hc
  cases sk with
  | lst a =>
    obtain ⟨its, r, p, _⟩ := I.list (show SqL X.K H a xs from h)
    have hb' : (a : Nat) < N := hb
    have hne : a ≠ it := Nat.ne_of_lt (Nat.lt_of_lt_of_le hb' hN)
    have D := Draws.list (prog := X.prog) (w := X.w) hh it a hne its.toArray
    refine ⟨[a], fun i v => its.toArray[i]? = some v, fun i h => h.IsListIter it a i ∧ h.IsList a its.toArray, ?_, fun b hb => by simp at hb; subst hb; exact hb', fun i x => ⟨x, p.isList⟩, fun i h x => x.1, fun i v e => vals_at r (by simpa using e)⟩
    have e : its.toArray.size = xs.length := by rw [List.size_toArray]; exact r.length.symm
    rw [e] at D
    exact D
  | tup a =>
    obtain ⟨its, r, p, _⟩ := I.tuple (show SqT X.K H a xs from h)
    have hb' : (a : Nat) < N := hb
    have hne : a ≠ it := Nat.ne_of_lt (Nat.lt_of_lt_of_le hb' hN)
    have D := Draws.tuple (prog := X.prog) (w := X.w) hh it a hne its.toArray
    refine ⟨[a], fun i v => its.toArray[i]? = some v, fun i h => h.IsTupleIter it a i ∧ h.IsTuple a its.toArray, ?_, fun b hb => by simp at hb; subst hb; exact hb', fun i x => ⟨x, p⟩, fun i h x => x.1, fun i v e => vals_at r (by simpa using e)⟩
    have e : its.toArray.size = xs.length := by rw [List.size_toArray]; exact r.length.symm
    rw [e] at D
    exact D
  | str z t =>
    have ex : xs = z.cps.toList.map fun c => V.str ⟨#[c]⟩ := h
    have D := Draws.text (prog := X.prog) (w := X.w) hh it z t
    refine ⟨[], fun i v => ∃ c u, z.cps[i]? = some c ∧ v = .str ⟨#[c]⟩ u, fun i h => h.IsStrIter it (strIterType z) z t i, ?_, fun b hb => by simp at hb, fun i x => x, fun i h x => x, fun i v e => ?_⟩
    · have e : z.cps.size = xs.length := by rw [ex]; simp
      rw [e] at D
      exact D
    · obtain ⟨c, u, e1, e2⟩ := e
      refine ⟨.str ⟨#[c]⟩, ?_, ⟨u, e2⟩⟩
      rw [ex, List.getElem?_map, Array.getElem?_toList, e1]
      rfl
end
def ItG (K : PySem.W.Frag) (a b : Sk) : It :=
  ⟨fun i H => ∃ xs ys : List V, a.has K H xs ∧ b.has K H ys ∧ i < min xs.length ys.length,
    fun i H v H' => ∃ T x y, v = .ref T ∧ H T = none ∧ H' = upd H T (.tup [x, y]) ∧ (∀ xs, a.has K H xs → xs[i]? = some x) ∧ ∀ ys, b.has K H ys → ys[i]? = some y,
    fun i H => ∃ xs ys : List V, a.has K H xs ∧ b.has K H ys ∧ i = min xs.length ys.length⟩
def ItE (K : PySem.W.Frag) (a : Sk) : It :=
  ⟨fun i H => ∃ xs : List V, a.has K H xs ∧ i < xs.length,
    fun i H v H' => ∃ T y, v = .ref T ∧ H T = none ∧ H' = upd H T (.tup [.int i, y]) ∧ ∀ ys, a.has K H ys → ys[i]? = some y,
    fun i H => ∃ xs : List V, a.has K H xs ∧ i = xs.length⟩
abbrev tnZ (N : Nat) (a b : Sk) (i : Nat) (h : Heap) : Prop := IsZip h (N + 4) (N + 2) (N + 3) .none ∧ IsTupOf2 h (N + 2) (.ref N) (.ref (N + 1)) ∧ (∃ x y, IsTupOf2 h (N + 3) x y) ∧ a.st N i h ∧ b.st (N + 1) i h
abbrev fpZ (N : Nat) : List Addr := [N + 4, N + 2, N + 3, N, N + 1]
theorem fpZ_lt {N : Nat} {a b : Sk} {i : Nat} {h : Heap} (st : tnZ N a b i h) : ∀ c ∈ fpZ N, c < h.objs.size := fun c hc => by
  obtain ⟨hz, hTI, ⟨x, y, hTO⟩, h1, h2⟩ := st
  obtain ⟨o1, e1, _⟩ := Sk.st_obj h1
  obtain ⟨o2, e2, _⟩ := Sk.st_obj h2
  have e' : c = N + 4 ∨ c = N + 2 ∨ c = N + 3 ∨ c = N ∨ c = N + 1 := by simpa using hc
  rcases e' with q | q | q | q | q
  · rw [q]; exact Heap.lt_size hz
  · rw [q]; exact Heap.lt_size hTI
  · rw [q]; exact Heap.lt_size hTO
  · rw [q]; exact Heap.lt_size e1
  · rw [q]; exact Heap.lt_size e2
theorem turn_zipG {P : Program} {w : World} {K : PySem.W.Frag} {elts : List Expr} {kk : Nat} {tpos : Pos} {a b : Sk} {N : Nat} (b1 : a.below N) (b2 : b.below N) :
    Turn P w K (.Tuple elts kk tpos) (ItG K a b) (fpZ N) (N + 4) (tnZ N a b) where
  mem := by simp
  obj := fun i h st c hc => by
    obtain ⟨hz, hTI, ⟨x, y, hTO⟩, h1, h2⟩ := st
    have e' : c = N + 4 ∨ c = N + 2 ∨ c = N + 3 ∨ c = N ∨ c = N + 1 := by simpa using hc
    rcases e' with q | q | q | q | q
    · rw [q]; exact ⟨_, hz, fun v q => nomatch q⟩
    · rw [q]; exact ⟨_, hTI, fun v q => nomatch q⟩
    · rw [q]; exact ⟨_, hTO, fun v q => nomatch q⟩
    · rw [q]; exact Sk.st_obj h1
    · rw [q]; exact Sk.st_obj h2
  keep := fun i h h' st k => by
    obtain ⟨hz, hTI, ⟨x, y, hTO⟩, h1, h2⟩ := st
    exact ⟨k _ (by simp) _ hz, k _ (by simp) _ hTI, ⟨x, y, k _ (by simp) _ hTO⟩, Sk.st_keep h1 fun o q => k _ (by simp) o q, Sk.st_keep h2 fun o q => k _ (by simp) o q⟩
  item := by
    intro X hP hw hK hc i pins s σ H E I hf st hg
    subst hP hw hK
    have lts := fpZ_lt st
    obtain ⟨hz, hTI, hTO, h1, h2⟩ := st
    obtain ⟨xs, ys, hx, hy, hi⟩ := hg
    obtain ⟨fp1, P1, St1, D1, l1, u1, v1, w1⟩ := Sk.draws I hc hx N N b1 (Nat.le_refl _)
    obtain ⟨fp2, P2, St2, D2, l2, u2, v2, w2⟩ := Sk.draws I hc hy (N + 1) N b2 (Nat.le_succ _)
    have W := WalksT.zipD2 (zip_sep2 l1 l2) D1 D2
    refine W.item i s _ E hi ⟨hz, hTI, hTO, u1 i h1, u2 i h2⟩ fun T vals h' tk hP hT hIs hMid hk => ?_
    obtain ⟨x, y, hx1, hy1, rfl⟩ := hP
    obtain ⟨x', ex, rx⟩ := w1 i x hx1
    obtain ⟨y', ey, ry⟩ := w2 i y hy1
    refine ⟨_, rfl, W.go elts kk tpos i T { s with heap := h', toks := tk } _ E hMid fun h'' st'' hk'' => ?_⟩
    obtain ⟨z1, z2, z3, z4, z5⟩ := st''
    have ap := W.apart i T h' hMid
    obtain ⟨o, ho, hcl, n, hd⟩ := hIs
    have hT2 : IsTup h'' T #[x, y] := ⟨o, hk'' T o ap ho, hcl, n, hd⟩
    have new : ObjOk X.prog X.w (upd H T (.tup [x', y'])) h'' T (.tup [x', y']) :=
      ⟨by show 2 ≤ sizeLine; decide, [x, y], .cons rx (.cons ry .nil), hT2⟩
    have sub : ∀ c, c ∈ ([N + 4, N + 3, N, N + 1] : List Addr) → c ∈ fpZ N := fun c hc => by
      simp only [List.mem_cons, List.not_mem_nil, or_false] at hc ⊢
      rcases hc with q | q | q | q <;> simp [q]
    have I1 : Inv X pins σ (upd H T (.tup [x', y'])) { s with heap := h'', toks := tk } :=
      I.turnedNew (t' := tk) (ch := fpZ N) (fun c o hb q => hk'' c o (fun z => hb (sub c z)) (hk c o (fun z => hb (sub c z)) q)) hf hT new
    refine ⟨.ref T, _, I1, rfl, ⟨T, x', y', rfl, I.hok.fresh hT, rfl, fun l hl => by rw [Sk.inj I hl hx]; exact ex, fun l hl => by rw [Sk.inj I hl hy]; exact ey⟩, ⟨z1, z2, z3, v1 _ _ z4, v2 _ _ z5⟩, fun c hcm => ?_⟩
    rw [upd_ne (Nat.ne_of_lt (Nat.lt_of_lt_of_le (lts c hcm) hT))]
    exact (hf c hcm).1
  done := by
    intro X hP hw hK hc i pins s σ H E I hf st hg
    subst hP hw hK
    obtain ⟨hz, hTI, hTO, h1, h2⟩ := st
    obtain ⟨xs, ys, hx, hy, rfl⟩ := hg
    obtain ⟨fp1, P1, St1, D1, l1, u1, v1, w1⟩ := Sk.draws I hc hx N N b1 (Nat.le_refl _)
    obtain ⟨fp2, P2, St2, D2, l2, u2, v2, w2⟩ := Sk.draws I hc hy (N + 1) N b2 (Nat.le_succ _)
    have W := WalksT.zipD2 (zip_sep2 l1 l2) D1 D2
    refine W.done s _ E ⟨hz, hTI, hTO, u1 _ h1, u2 _ h2⟩ fun h' tk hk => ⟨rfl, I.turnedL (t' := tk) (ch := fpZ N) (fun c o hb q => hk c o (fun z => hb ?_) q) hf⟩
    simp only [List.mem_cons, List.not_mem_nil, or_false] at z ⊢
    rcases z with q | q | q | q <;> simp [q]
  self := fun A i s Q E st h => wpAny_pyIter_zip st.1 h
def Sk.is (x : V) : Sk → Prop
  | .lst a => x = .ref a
  | .tup a => x = .ref a
  | .str z _ => x = .str z
def Sk.ob : Sk → Obj
  | .lst a => { cls := .type "list_iterator", data := .fields #[.ref a, .int 0 0] }
  | .tup a => { cls := .type "tuple_iterator", data := .fields #[.ref a, .int 0 0] }
  | .str z t => { cls := .type (strIterType z), data := .fields #[.str z t, .int 0 0] }
theorem Sk.ob_st {sk : Sk} {it : Addr} {h : Heap} (e : h.get? it = some sk.ob) : sk.st it 0 h := by
  cases sk <;> exact ⟨_, e, rfl, rfl⟩
def srcs (K : PySem.W.Frag) (H : Hp) (x : V) (sk : Tok → Sk) (xs : List V) : Prop := (∃ a, x = .ref a ∧ sk = (fun _ => .lst a) ∧ SqL K H a xs) ∨ (∃ a, x = .ref a ∧ sk = (fun _ => .tup a) ∧ SqT K H a xs) ∨ (∃ z, x = .str z ∧ sk = (fun t => .str z t) ∧ xs = z.cps.toList.map fun c => .str ⟨#[c]⟩)
theorem srcs_run {X : Cx} {pins : List (Addr × Obj)} {σ : L2.St} {H : Hp} {s : Shared} (I : Inv X pins σ H s) {x : V} {u : Value} (r : RelV x u) {f : Tok → Sk} {xs : List V} (h : srcs X.K H x f xs) :
    ∃ t, (f t).has X.K H xs ∧ (f t).below s.heap.objs.size ∧ ∃ G : Heap → Prop, Begins u (f t).ob G ∧ G s.heap := by
  rcases h with ⟨a, rfl, rfl, q⟩ | ⟨a, rfl, rfl, q⟩ | ⟨z, rfl, rfl, q⟩
  · obtain rfl : u = Value.ref a := r
    obtain ⟨its, rv, p, _⟩ := I.list q
    exact ⟨0, q, p.lt, _, begins_list a its.toArray, p.isList⟩
  · obtain rfl : u = Value.ref a := r
    obtain ⟨its, rv, p, _⟩ := I.tuple q
    obtain ⟨o, ho, _⟩ := id p
    exact ⟨0, q, Heap.lt_size ho, _, begins_tuple a its.toArray, p⟩
  · obtain ⟨t, rfl⟩ := (show ∃ t, u = Value.str z t from r)
    exact ⟨t, q, trivial, _, begins_text z t, trivial⟩
def iZipG (K : PySem.W.Frag) (ta : TA) : TI := fun σ H R => ta σ H fun vs H1 => ∃ x y f g xs ys, vs = [x, y] ∧ srcs K H1 x f xs ∧ srcs K H1 y g ys ∧ ∀ t u, R (ItG K (f t) (g u)) H1
section
variable {X : Cx} {e e2 : Expr} {ta : TA} {p pos tpos : Pos} {elts : List Expr} {kk : Nat}
theorem pi_zipG (hg : Gl X "zip") (hm : X.mg "zip" = none) (ha : PA X [e, e2] ta)
    (hs : starEach [e, e2] X.env = (false, eval e X.env) :: starEach [e2] X.env := by rfl) (hpl : (backTo pos (starEach [e2] X.env)).any (·.1) = false := by rfl) :
    PI X (.Tuple elts kk tpos) (.Call (.Name "zip" p) [e, e2] [] pos) (iZipG X.K ta) := by
  refine ⟨fun pins s σ H R I h => ?_⟩
  refine Call_ (ld_blt I hg hm PyProof.Rows.boot_zip (PyProof.Rows.callWith_type1 (thn (ha.run pos pins s σ H _ I h) fun us s1 ⟨vs, H1, I1, r1, q1⟩ => ?_) hs hpl))
  obtain ⟨x, y, f, g, xs, ys, rfl, hx, hy, q⟩ := q1
  cases r1 with
  | cons r rr =>
    cases rr with
    | cons r' rr =>
      cases rr
      obtain ⟨t, h1, b1, G1, B1, G1h⟩ := srcs_run I1 r hx
      obtain ⟨u, h2, b2, G2, B2, G2h⟩ := srcs_run I1 r' hy
      refine zip_begins2 B1 B2 G1h G2h fun h' hz hTI hTO e1 e2 hsz hk => wpAny_pyIter_zip hz ?_
      have I2 : Inv X pins σ H1 { s1 with heap := h' } := I1.kept (t' := s1.toks) hk
      refine ⟨s1.heap.objs.size + 4, fpZ s1.heap.objs.size, _, _, H1, rfl, I2, turn_zipG b1 b2, ⟨hz, hTI, ⟨_, _, hTO⟩, Sk.ob_st e1, Sk.ob_st e2⟩, fun c hcm => ?_, q t u⟩
      have e' : c = s1.heap.objs.size + 4 ∨ c = s1.heap.objs.size + 2 ∨ c = s1.heap.objs.size + 3 ∨ c = s1.heap.objs.size ∨ c = s1.heap.objs.size + 1 := by simpa using hcm
      have hle : s1.heap.objs.size ≤ c := by
        rcases e' with z | z | z | z | z
        · rw [z]; exact Nat.le_add_right _ _
        · rw [z]; exact Nat.le_add_right _ _
        · rw [z]; exact Nat.le_add_right _ _
        · rw [z]; exact Nat.le_refl _
        · rw [z]; exact Nat.le_add_right _ _
      exact I1.fpOk hle (I1.hok.fresh hle)
end
def seqD : D → Option (List D)
  | .lst ds => some ds
  | .tup ds => some ds
  | .str z => some (chars z)
  | _ => none
section
variable {K : PySem.W.Frag} {A : List Addr} {F H : Hp} {m : Mem}
theorem reps_chars (z : Str) : Reps K A F (chars z) (z.cps.toList.map fun c => V.str ⟨#[c]⟩) := by
  unfold chars
  generalize z.cps.toList = l
  induction l with
  | nil => exact Reps.nil
  | cons c l ih => exact Reps.cons (by simp only [Rep]) ih
theorem src_of (o : Ok K A F H m) {d : D} {v : V} {ds : List D} (e : seqD d = some ds) (r : Rep K A F d v) : ∃ f xs, srcs K H v f xs ∧ Reps K A F ds xs ∧ ∀ t H', (∀ a o, F a = some o → H' a = some o) → (f t).has K H' xs := by
  cases d <;> first | (simp [seqD] at e; done) | skip
  · simp only [seqD] at e
    cases e
    simp only [Rep] at r
    subst r
    exact ⟨_, _, .inr (.inr ⟨_, rfl, rfl, rfl⟩), reps_chars _, fun t H' h => rfl⟩
  · simp only [seqD] at e
    cases e
    simp only [Rep] at r
    obtain ⟨a, vs, rfl, h1, h2⟩ := r
    exact ⟨_, vs, .inr (.inl ⟨a, rfl, rfl, sqT_fx o.sub h1⟩), h2, fun t H' h => sqT_fx h h1⟩
  · simp only [seqD] at e
    cases e
    simp only [Rep] at r
    obtain ⟨a, vs, rfl, h1, h2⟩ := r
    exact ⟨_, vs, .inl ⟨a, rfl, rfl, .inl (.inl (o.sub _ _ h1))⟩, h2, fun t H' h => .inl (.inl (h _ _ h1))⟩
theorem WD.zipG {f g : Sk} {xs ys : List V} {ds es : List D} (h1 : ∀ H', (∀ a o, F a = some o → H' a = some o) → f.has K H' xs) (h2 : ∀ H', (∀ a o, F a = some o → H' a = some o) → g.has K H' ys) (r1 : Reps K A F ds xs) (r2 : Reps K A F es ys) : WD K A F (ItG K f g) (zipD ds es) := by
  refine ⟨fun i H hi h => ⟨xs, ys, h1 H h, h2 H h, by rw [zipD_length] at hi; rw [← r1.length, ← r2.length]; exact hi⟩, fun H h => ⟨xs, ys, h1 H h, h2 H h, by rw [zipD_length, r1.length, r2.length]⟩, fun i H x H' hi h y => ?_⟩
  obtain ⟨T, x1, y1, rfl, hT, rfl, q1, q2⟩ := y
  obtain ⟨d, e1, e2⟩ := r1.get (q1 xs (h1 H h))
  obtain ⟨d', e3, e4⟩ := r2.get (q2 ys (h2 H h))
  exact ⟨_, zipD_get e1 e3, .inr ⟨T, [x1, y1], [d, d'], rfl, hT, rfl, rfl, Reps.cons e2 (Reps.cons e4 Reps.nil)⟩⟩
theorem WD.enumG {f : Sk} {xs : List V} {ds : List D} (h1 : ∀ H', (∀ a o, F a = some o → H' a = some o) → f.has K H' xs) (r1 : Reps K A F ds xs) : WD K A F (ItE K f) (enumD ds) := by
  refine ⟨fun i H hi h => ⟨xs, h1 H h, by rw [enumD_length] at hi; rw [← r1.length]; exact hi⟩, fun H h => ⟨xs, h1 H h, by rw [enumD_length, r1.length]⟩, fun i H x H' hi h y => ?_⟩
  obtain ⟨T, y1, rfl, hT, rfl, q1⟩ := y
  obtain ⟨d, e1, e2⟩ := r1.get (q1 xs (h1 H h))
  exact ⟨_, enumD_get e1, .inr ⟨T, [.int i, y1], [.int i, d], rfl, hT, rfl, rfl, Reps.cons (by simp only [Rep]) (Reps.cons e2 Reps.nil)⟩⟩
end
def enumG (g : En → Mem → Out (List D)) : En → Mem → Out (List D) := bind1 g fun xs m => match xs with
  | [d] => (match seqD d with
    | some ds => .ok (enumD ds) m
    | none => .stuck)
  | _ => .stuck
def zipG (g : En → Mem → Out (List D)) : En → Mem → Out (List D) := bind1 g fun xs m => match xs with
  | [d, e] => (match seqD d, seqD e with
    | some ds, some es => .ok (zipD ds es) m
    | _, _ => .stuck)
  | _ => .stuck
section
variable {X : Cx} {E : XK} {a b : Expr} {g : En → Mem → Out (List D)} {p pos : Pos}
theorem di_zipG {elts : List Expr} {kk : Nat} {tpos : Pos} (hg : Gl X "zip") (hm : X.mg "zip" = none) (ha : PA X [a, b] (LA X.K E g)) (hs : starEach [a, b] X.env = (false, eval a X.env) :: starEach [b] X.env := by rfl) (hpl : (backTo pos (starEach [b] X.env)).any (·.1) = false := by rfl) : PI X (.Tuple elts kk tpos) (.Call (.Name "zip" p) [a, b] [] pos) (LI X.K E (zipG g)) :=
  PI.imp (pi_zipG hg hm ha hs hpl) fun s H R q => LX.un q fun H0 A F r m xs vs H1 o sl r1 p => by
    split at p
    · rename_i d e
      simp only [RL, Reps] at r1
      obtain ⟨v, _, rfl, r1, w, _, rfl, r2, rfl⟩ := r1
      split at p
      · rename_i ds es e1 e2
        obtain ⟨f, xs, h1, h2, h3⟩ := src_of o e1 r1
        obtain ⟨f', ys, h1', h2', h3'⟩ := src_of o e2 r2
        exact ⟨v, w, f, f', xs, ys, rfl, h1, h1', fun t u => p.ret o (WD.zipG (h3 t) (h3' u) h2 h2')⟩
      · exact p.elim
    · exact p.elim
end
end MT
set_option Elab.async false
set_option linter.all false
set_option maxRecDepth 100000
namespace HT
open PySem PySem.Spec PyProof.Rows
section
variable {prog : Program} {w : World} {A : Around} {E : Value → Shared → Prop} {s : Shared}
theorem adjust_rev (n : Nat) : Builtin.Slice.sliceAdjust none none (-1) (n : Int) = ((n : Int) - 1, -1) := rfl
theorem places_rev (n : Nat) : Builtin.Slice.slicePlaces ((n : Int) - 1) (-1) (-1) = n := by
  unfold Builtin.Slice.slicePlaces
  have h1 : ¬ ((-1 : Int) > 0) := by omega
  have h2 : (- -1 : Int) = 1 := by decide
  simp only [h1, if_false, h2, Int.ediv_one]
  split <;> omega
theorem sliceApplied_rev {sl : Addr} {vl vu vs : Value} {n : Nat} {Q : Int × Int × Nat → Shared → Prop} (hs : s.heap.IsSliceOf sl vl vu vs) (pl : IsPart vl none) (pu : IsPart vu none) (ps : IsPart vs (some (-1)))
    (h : Q ((n : Int) - 1, -1, n) s) : wpAny (model prog w) A (Builtin.Slice.sliceApplied (.ref sl) (pure (n : Int))) Q E s := by
  obtain ⟨os, hos, hcs, hds⟩ := id hs
  unfold Builtin.Slice.sliceApplied Builtin.Slice.sliceFields
  refine wpAny_bind (wpAny_bind (wpAny_field hos hds (x := vl) rfl (wpAny_bind (wpAny_field hos hds (x := vu) rfl (wpAny_bind (wpAny_field hos hds (x := vs) rfl (wpAny_pure ?_)))))))
  refine wpAny_bind (slicePart_ ps ?_)
  show wpAny _ _ (if ((-1 : Int) == 0) = true then _ else _) _ _ s
  rw [if_neg (by decide)]
  refine wpAny_bind (slicePart_ pl (wpAny_bind (slicePart_ pu (wpAny_bind (wpAny_pure ?_)))))
  show wpAny _ _ (match Builtin.Slice.sliceAdjust none none (-1) (n : Int) with | (lo, hi) => pure (lo, (-1 : Int), Builtin.Slice.slicePlaces lo hi (-1))) _ _ s
  rw [adjust_rev n]
  show wpAny _ _ (pure ((n : Int) - 1, (-1 : Int), Builtin.Slice.slicePlaces ((n : Int) - 1) (-1) (-1))) _ _ s
  rw [places_rev]
  exact wpAny_pure h
theorem fm_congr {α β : Type} {f g : α → Option β} : ∀ {l : List α}, (∀ a ∈ l, f a = g a) → l.filterMap f = l.filterMap g
  | [], _ => rfl
  | a :: l, h => by simp only [List.filterMap_cons, h a (by simp), fm_congr (l := l) fun b hb => h b (List.mem_cons_of_mem _ hb)]
theorem pick_rev (xs : Array Value) : ((List.range xs.size).filterMap fun (m : Nat) => xs[(((xs.size : Int) - 1) + (m : Int) * (-1)).toNat]?).toArray = xs.toList.reverse.toArray := by
  have e : ((List.range xs.size).filterMap fun (m : Nat) => xs[(((xs.size : Int) - 1) + (m : Int) * (-1)).toNat]?) = ((List.range xs.size).map fun k => xs.size - 1 - k).filterMap (xs[·]?) := by
    rw [List.filterMap_map]
    refine fm_congr fun m hm => ?_
    have := List.mem_range.mp hm
    show xs[(((xs.size : Int) - 1) + (m : Int) * (-1)).toNat]? = xs[xs.size - 1 - m]?
    rw [show (((xs.size : Int) - 1) + (m : Int) * (-1)).toNat = xs.size - 1 - m by omega]
  rw [e, PySem.W.krv_range, List.filterMap_reverse, PySem.W.krv_all]
theorem getItem_tuple_rev {t sl : Addr} {items : Array Value} {vl vu vs : Value} {Q : Value → Shared → Prop} (ht : IsTup s.heap t items) (hs : s.heap.IsSliceOf sl vl vu vs) (pl : IsPart vl none) (pu : IsPart vu none) (ps : IsPart vs (some (-1)))
    (h : Q (.ref s.heap.objs.size) { s with heap := s.heap.push { cls := .type "tuple", data := .seq items.toList.reverse.toArray } })
    (hsz : items.size ≤ sizeLine) : wpAny (model prog w) A (getItem (.ref t) (.ref sl)) Q E s := by
  have htake : sizeOk (.seq items.toList.reverse.toArray) := by
    show items.toList.reverse.toArray.size ≤ sizeLine
    rw [List.size_toArray, List.length_reverse, Array.length_toList]
    omega
  obtain ⟨os, hos, hcs, hds⟩ := id hs
  have hTs : s.TypeIs (.ref sl) "slice" := ⟨os, hos, hcs⟩
  unfold getItem
  try with_reducible refine wpAny_holding ?_
  first | refine wpAny_bind (wpAny_pure ?_) | skip
  refine wpAny_bind (wpAny_sequenceKey ht.typeIs (by decide) ?_)
  refine wpAny_bind (wpAny_callSpecial?_slot (name := Str.ofString "__getitem__") ht.typeIs PyProof.Rows.slot_tuple_getitem
    (wpAny_call_entry PyProof.Rows.slot_tuple_getitem ht.typeIs entry_tuple_getitem ?_ (args_tuple_getitem _ _)))
  show wpAny _ _ (Builtin.Tuple.tupleItemsOf (.ref t) >>= _) _ _ s
  refine wpAny_bind (tupleItemsOf_ ht ?_)
  refine wpAny_bind (wpAny_typeOf hTs ?_)
  rw [if_pos (by decide)]
  refine wpAny_bind (sliceApplied_rev hs pl pu ps ?_)
  have hno : ¬ ((((items.size : Int) - 1) == 0 && (-1 : Int) == 1 && items.size == items.size) = true) := by
    intro q
    rw [Bool.and_eq_true, Bool.and_eq_true] at q
    exact absurd q.1.2 (by decide)
  show wpAny _ _ (if ((((items.size : Int) - 1) == 0 && (-1 : Int) == 1 && items.size == items.size) = true) then _ else _) _ _ s
  rw [if_neg hno, pick_rev]
  first
    | exact wpAny_bind (m := Builtin.Tuple.tupleExact _) (wpAny_newObj_type (wpAny_pure ⟨_, rfl, wpAny_pure h⟩) htake)
    | exact wpAny_bind (m := Builtin.Tuple.tupleExact _) (wpAny_newObj_type (wpAny_bind (wpAny_pure (wpAny_pure ⟨_, rfl, wpAny_pure h⟩))) htake)
    | exact wpAny_bind (wpAny_bind (m := Builtin.Tuple.tupleExact _) (wpAny_newObj_type (wpAny_pure (wpAny_pure ⟨_, rfl, wpAny_pure h⟩)) htake))
    | exact wpAny_bind (wpAny_bind (m := Builtin.Tuple.tupleExact _) (wpAny_newObj_type (wpAny_pure ⟨_, rfl, wpAny_pure h⟩) htake))
end
end HT
namespace L2
open PySem PySem.Spec PyProof.Rows
def revS (z : Str) : Str := ⟨z.cps.toList.reverse.toArray⟩
theorem picked_rev (z : Str) : (Builtin.Str.strSliceIndices none none (-1) z.length).filterMap (z.cps[·]?) = z.cps.toList.reverse := by
  show (sliceRange ((z.length : Int) - 1) (-1) (-1)).filterMap (z.cps[·]?) = _
  rw [PySem.W.krv_sliceRange, PySem.W.krv_range, List.filterMap_reverse]
  congr 1
  exact PySem.W.krv_all z.cps
theorem revS_length {z : Str} : (revS z).length = z.length := by
  show z.cps.toList.reverse.toArray.size = z.cps.size
  rw [List.size_toArray, List.length_reverse, Array.length_toList]
def tRevA (K : PySem.W.Frag) (te : TE) : TE := fun σ H Q => te σ H fun x H1 => (∃ a xs, x = .ref a ∧ SqL K H1 a xs ∧ ∀ p, H1 p = none → Q (.ref p) (upd H1 p (.lst xs.reverse))) ∨
  (∃ a xs, x = .ref a ∧ SqT K H1 a xs ∧ ∀ p, H1 p = none → Q (.ref p) (upd H1 p (.tup xs.reverse))) ∨ (∃ z, x = .str z ∧ z.length ≤ sizeLine ∧ Q (.str (revS z)) H1)
section
variable {X : Cx}
theorem pe_revA {e : Expr} {te : TE} {k : Nat} {p1 p2 p3 pos : Pos} (he : PE X e te) : PE X (.Subscript e (.Slice none none (some (.UnaryOp .USub (.Constant (.int 1) k p1) p2)) p3) pos) (tRevA X.K te) := by
  refine ⟨fun pins s σ H Q I h => ?_⟩
  refine Subscript_ (thn (he.run pins s σ H _ I h) fun v s1 ⟨x, H1, I1, r1, q1⟩ => ?_)
  have hst : PO X (some (.UnaryOp .USub (.Constant (.int 1) k p1) p2)) (tPart (tUn (rU fun i => .int (-i)) (tC (.int 1)))) := po_some (pe_un un_neg pe_int)
  refine wpAny_Slice (thn (po_none.run pins s1 σ H1 (fun o H2 => o = none ∧ H2 = H1) I1 ⟨rfl, rfl⟩) fun vl s2 ⟨l, H2, I2, pl, el, e2⟩ => ?_)
  subst el e2
  refine thn (po_none.run pins s2 σ H2 (fun o H3 => o = none ∧ H3 = H2) I2 ⟨rfl, rfl⟩) fun vu s3 ⟨u, H3, I3, pu, eu, e3⟩ => ?_
  subst eu e3
  refine thn (hst.run pins s3 σ H3 (fun o H4 => o = some (-1) ∧ H4 = H3) I3 ⟨1, rfl, -1, rfl, rfl, rfl⟩) fun vs s4 ⟨o, H4, I4, ps, eo, e4⟩ => ?_
  subst eo e4
  have I5 : Inv X pins σ H4 { s4 with heap := s4.heap.push { cls := .type "slice", data := .fields #[vl, vu, vs] } } := I4.kept (t' := s4.toks) fun b ob q => Heap.get?_push_of_some _ q
  show wpAny (model X.prog X.w) X.A (subscriptTail e (.Slice none none (some (.UnaryOp .USub (.Constant (.int 1) k p1) p2)) p3) v (.ref s4.heap.objs.size)) (EP X pins σ Q) X.xe { s4 with heap := s4.heap.push { cls := .type "slice", data := .fields #[vl, vu, vs] } }
  rcases q1 with ⟨a, xs, ex, hx, q⟩ | ⟨a, xs, ex, hx, q⟩ | ⟨z, ex, hz, q⟩
  · subst ex
    cases r1
    obtain ⟨its, r, ht, hz⟩ := I5.list hx
    have hlen := r.length
    refine tail_any (ops := [.ref a, .ref s4.heap.objs.size]) ht.isList.typeIs (PySem.slot_list_getitem.lookup) ?_ (by with_unfolding_all rfl)
    refine wpAny_getItem_list_slice ht.isList (Heap.IsSliceOf.new _ vl vu vs) pl pu ps (by decide) ?_ (by rw [List.size_toArray]; omega)
    rw [PySem.W.krv_pick]
    refine ⟨.ref _, _, I5.laid (t' := s4.toks) (o := .lst xs.reverse) (fun b ob q => Heap.get?_push_of_some _ q) (Nat.le_refl _) ?_, rfl, q _ (I5.hok.fresh (Nat.le_refl _))⟩
    exact ⟨by rw [List.length_reverse]; exact hz, _, 0, r.reverse, Heap.get?_push_size _ rfl⟩
  · subst ex
    cases r1
    obtain ⟨its, r, ht, hz⟩ := I5.tuple hx
    have hlen := r.length
    refine tail_any (ops := [.ref a, .ref s4.heap.objs.size]) ht.typeIs (PyProof.Rows.slot_tuple_getitem.lookup) ?_ (by with_unfolding_all rfl)
    refine HT.getItem_tuple_rev ht (Heap.IsSliceOf.new _ vl vu vs) pl pu ps ?_ (by rw [List.size_toArray]; omega)
    refine ⟨.ref _, _, I5.laid (t' := s4.toks) (o := .tup xs.reverse) (fun b ob q => Heap.get?_push_of_some _ q) (Nat.le_refl _) ?_, rfl, q _ (I5.hok.fresh (Nat.le_refl _))⟩
    exact ⟨by rw [List.length_reverse]; exact hz, _, r.reverse, IsTup.new _ _⟩
  · subst ex
    obtain ⟨t, rfl⟩ := r1
    refine tail_any (ops := [.str z t, .ref s4.heap.objs.size]) (typeIs_str _ _ _) PySem.F.slot_str_getitem.lookup ?_ (by with_unfolding_all rfl)
    obtain ⟨os, hos, hcs, hds⟩ := Heap.IsSliceOf.new s4.heap vl vu vs
    cases pl
    cases pu
    cases ps with
    | int i tk =>
    refine wpAny_getItem_str_slice (l := none) (u := none) (st := some (-1, tk)) ⟨os, hos, hcs, hds⟩ rfl ?_
    show Made.post (.str ⟨((Builtin.Str.strSliceIndices none none (-1) z.length).filterMap (z.cps[·]?)).toArray⟩) (EP X pins σ Q) _
    rw [picked_rev]
    have hl : (revS z).length ≤ sizeLine := by rw [revS_length]; exact hz
    exact ⟨hl, .str _, H4, I5.tok _, ⟨_, rfl⟩, q⟩
end
end L2
set_option Elab.async false
set_option linter.all false
set_option maxRecDepth 100000
namespace MT
open PySem PySem.Spec PyProof.Rows L2
abbrev KF := List (Str × (En → Mem → Out D))
def evL : KF → En → Mem → Out (List D)
  | [] => aNil
  | kf :: r => aCons kf.2 (evL r)
def mkD (kfs : KF) : En → Mem → Out D := bind1 (evL kfs) fun ds m => .ok (.dct (kfs.map fun kf => .inr kf.1) ds) m
def trsOf (K : PySem.W.Frag) (E : XK) (kfs : KF) : List (TE × TE) := kfs.map fun kf => (tC (.str kf.1), LE K E kf.2)
section
variable {K : PySem.W.Frag} {E : XK} {H0 : Hp}
theorem pairs_of {s : L2.St} {r : En} : ∀ (kfs : KF) {A : List Addr} {F H : Hp} {m : Mem} {Q : List (V × V) → Hp → Prop}, Ok K A F H m → Slots K H0 A F H s r →
    Post (RL K) K E A F H (evL kfs r m) (fun _ _ vs _ _ H' => Q ((kfs.map fun kf => V.str kf.1).zip vs) H') → tPairs (trsOf K E kfs) s H Q
  | [], A, F, H, m, Q, o, sl, p => p.ret (v := []) o Reps.nil
  | kf :: kfs, A, F, H, m, Q, o, sl, p => by
    refine ⟨H0, A, F, r, m, o, sl, ?_⟩
    have p' : Post (RL K) K E A F H ((kf.2 r m).bind fun x m => (evL kfs r m).bind fun xs m => .ok (x :: xs) m) (fun _ _ vs _ _ H' => Q (((kf :: kfs).map fun kf => V.str kf.1).zip vs) H') := p
    refine (Post.bind p').mono fun d m1 v A1 F1 H1 g1 o1 r1 p1 => ?_
    refine pairs_of kfs o1 (sl.gr g1) ((Post.bind p1).mono fun ds m2 vs A2 F2 H2 g2 o2 r2 p2 => ?_)
    exact p2.ret (v := v :: vs) o2 (Reps.cons (Rep.fx g2.fx r1) r2)
theorem merge_new : ∀ (more kvs : List (Key × V)), ((kvs ++ more).map (·.1)).Nodup → mergeK kvs more = kvs ++ more
  | [], kvs, _ => by simp [mergeK]
  | p :: more, kvs, h => by
    show mergeK (L2.putK kvs p.1 p.2) more = _
    have e : L2.putK kvs p.1 p.2 = kvs ++ [p] := by
      unfold L2.putK
      rw [if_neg]
      intro q
      rw [List.any_eq_true] at q
      obtain ⟨z, hz, q⟩ := q
      have q' : z.1 = p.1 := of_decide_eq_true q
      rw [List.map_append, List.nodup_append] at h
      exact h.2.2 z.1 (List.mem_map_of_mem hz) p.1 (by simp) q'
    rw [e, merge_new more (kvs ++ [p]) (by rw [List.append_assoc]; exact h), List.append_assoc]
    rfl
theorem keys_zip {ks : List Key} {vs : List V} (h : ks.length = vs.length) : (ks.zip vs).map (·.1) = ks := by
  induction ks generalizing vs with
  | nil => rfl
  | cons k ks ih =>
    cases vs with
    | nil => cases h
    | cons v vs => simp only [List.zip_cons_cons, List.map_cons, ih (by simpa using h)]
theorem zip_kV : ∀ (kfs : KF) (vs : List V), (kfs.map fun kf => V.str kf.1).zip vs = ((kfs.map fun kf => (Sum.inr kf.1 : Key)).zip vs).map fun kv => (kV kv.1, kv.2)
  | [], _ => rfl
  | _ :: _, [] => rfl
  | kf :: kfs, v :: vs => by
    simp only [List.map_cons, List.zip_cons_cons, zip_kV kfs vs]
    rfl
theorem evL_len {A : List Addr} {F H : Hp} : ∀ (kfs : KF) {r : En} {m m' : Mem} {ds : List D}, evL kfs r m = .ok ds m' → ds.length = kfs.length
  | [], r, m, m', ds, e => by cases e; rfl
  | kf :: kfs, r, m, m', ds, e => by
    have e' : (kf.2 r m).bind (fun x m => (evL kfs r m).bind fun xs m => .ok (x :: xs) m) = .ok ds m' := e
    cases q : kf.2 r m with
    | stuck => rw [q] at e'; cases e'
    | exc _ _ _ => rw [q] at e'; cases e'
    | ok x m1 =>
      rw [q] at e'
      have e2 : (evL kfs r m1).bind (fun xs m => .ok (x :: xs) m) = .ok ds m' := e'
      cases q2 : evL kfs r m1 with
      | stuck => rw [q2] at e2; cases e2
      | exc _ _ _ => rw [q2] at e2; cases e2
      | ok xs m2 =>
        rw [q2] at e2
        cases e2
        simp [evL_len (A := A) (F := F) (H := H) kfs q2]
end
section
variable {X : Cx} {E : XK} {keys : List (Option Expr)} {values : List Expr} {kfs : KF} {pos : Pos}
theorem dps_nil : PPs X pos [] [] (trsOf X.K E []) := pps_nil
theorem dps_cons {k : Str} {j : Nat} {p : Pos} {v : Expr} {f : En → Mem → Out D} (hv : PE X v (LE X.K E f)) (hr : PPs X pos keys values (trsOf X.K E kfs)) : PPs X pos (some (.Constant (.str k) j p) :: keys) (v :: values) (trsOf X.K E ((k, f) :: kfs)) := pps_cons pe_str hv hr
theorem de_dct (h : PPs X pos keys values (trsOf X.K E kfs)) (nd : (kfs.map (·.1)).Nodup) (hall : keys.all (·.isSome) = true := by rfl) (hl : keys.length = values.length := by rfl) (h0 : keys ≠ [] := by exact List.cons_ne_nil _ _) (h15 : keys.length ≤ 15 := by decide) (h15' : kfs.length ≤ 15 := by decide) :
    PE X (.Dict keys values pos) (LE X.K E (mkD kfs)) := PE.imp (pe_disp h hall hl h0 h15) fun s H Q q => by
  obtain ⟨H0, A, F, r, m, o, sl, p⟩ := q
  intro a ha
  obtain ⟨nF, nA⟩ := o.out ha
  have g0 : Gr A F H A F (L2.upd H a (.dK [])) := Gr.refl.upd ha
  refine pairs_of kfs (o.upd nF nA) (sl.gr g0) ?_
  unfold mkD bind1 at p
  cases e : evL kfs r m with
  | stuck => rw [e] at p; exact p
  | exc c d m' => rw [e] at p; exact XC.gr p g0
  | ok ds m' =>
    rw [e] at p
    have p' : Post (RE X.K) X.K E A F H (.ok (.dct (kfs.map fun kf => .inr kf.1) ds) m') (QE Q) := p
    intro vs A' F' H' g' o' rv
    have hp : H' a = some (.dK []) := g'.stay a _ upd_same nA
    obtain ⟨_, nF', nA'⟩ := gr_free g' (upd_same (H := H) (a := a) (o := .dK [])) nF nA
    have hlen : ds.length = kfs.length := evL_len (A := A) (F := F) (H := H) kfs e
    have hvl : vs.length = kfs.length := by rw [← rv.length]; exact hlen
    have hkl : ((kfs.map fun kf => (Sum.inr kf.1 : Key))).length = vs.length := by rw [List.length_map, hvl]
    have hnd : (kfs.map fun kf => (Sum.inr kf.1 : Key)).Nodup := by
      have : (kfs.map fun kf => (Sum.inr kf.1 : Key)) = (kfs.map (·.1)).map fun k => (Sum.inr k : Key) := by rw [List.map_map]; rfl
      rw [this]
      exact nd.map _ fun x y h he => h (Sum.inr.inj he)
    refine ⟨hp, (kfs.map fun kf => (Sum.inr kf.1 : Key)).zip vs, ?_, by rw [List.length_zip, List.length_map]; omega, ?_⟩
    · exact zip_kV kfs vs
    · rw [merge_new _ [] (by rw [List.nil_append, keys_zip hkl]; exact hnd), List.nil_append]
      refine p' _ A' (L2.upd F' a (.dK ((kfs.map fun kf => (Sum.inr kf.1 : Key)).zip vs))) _ (((g0.trans g').upd ha).freeze ha nF') ((o'.upd nF' nA').freeze upd_same nF' nA') ?_
      simp only [RE, Rep]
      exact ⟨a, vs, rfl, upd_same, by rw [List.length_map, hlen], hnd, rv.up nF'⟩
end
def revD : D → Mem → Out D
  | .lst ds, m => .ok (.lst ds.reverse) m
  | .tup ds, m => .ok (.tup ds.reverse) m
  | .str z, m => if z.length ≤ sizeLine then .ok (.str (revS z)) m else .stuck
  | _, _ => .stuck
section
variable {X : Cx} {E : XK} {e a b : Expr} {f h : En → Mem → Out D} {g : En → Mem → Out (List D)} {k : Nat} {p p1 p2 p3 pos : Pos}
theorem de_rev (he : PE X e (LW X.K E f)) : PE X (.Subscript e (.Slice none none (some (.UnaryOp .USub (.Constant (.int 1) k p1) p2)) p3) pos) (LE X.K E (bind1 f revD)) :=
  PE.imp (pe_revA he) fun s H Q q => LX.un q fun H0 A F r m d v H1 o sl r1 p => by
    cases d <;> first | exact p.elim | skip
    · rename_i z
      simp only [revD] at p
      split at p
      · rename_i c
        rw [r1.str]
        exact .inr (.inr ⟨z, rfl, c, p.ret o rep_str⟩)
      · exact p.elim
    · obtain ⟨a, us, rfl, h1, h3, h2⟩ := r1.tup o
      exact .inr (.inl ⟨a, us, rfl, h1, fun q hq => p.newT o h2.reverse hq⟩)
    · obtain ⟨a, us, rfl, h1, h2⟩ := r1.lst o
      exact .inl ⟨a, us, rfl, .inl (.inl h1), fun q hq => p.newL o h2.reverse hq⟩
def mkLI (g : En → Mem → Out (List D)) : En → Mem → Out D := bind1 g fun ds m => if ds.length ≤ 2 ^ 24 then .ok (.lst ds) m else .stuck
theorem reps_rg {K : PySem.W.Frag} {A : List Addr} {F : Hp} (a b : Int) : Reps K A F (rangeD a b) (rgV a b) := by
  unfold rangeD rgV
  generalize (List.range (b - a).toNat) = l
  induction l with
  | nil => exact Reps.nil
  | cons c l ih => exact Reps.cons (by simp only [Rep]) ih
theorem LE.one {K : PySem.W.Frag} {s : L2.St} {H : Hp} {T U : Type} {rp : RP T U} {Q : U → Hp → Prop} {k : List D → Mem → Out T} (q : LX rp K E (bind1 (aCons f aNil) k) s H Q) {R : V → Hp → Prop}
    (go : ∀ H0 A F r m d v H1, Ok K A F H1 m → Slots K H0 A F H1 s r → Rep K A F d v → Post rp K E A F H1 (k [d] m) (fun _ _ v _ _ H' => Q v H') → R v H1) : LE K E f s H R := by
  obtain ⟨H0, A, F, r, m, o, sl, p⟩ := q
  have p' : Post rp K E A F H ((f r m).bind fun d m => k [d] m) (fun _ _ v _ _ H' => Q v H') := by
    unfold bind1 aCons bind2 aNil at p
    cases e : f r m with
    | stuck => rw [e] at p; exact p
    | exc _ _ _ => rw [e] at p; exact p
    | ok d m1 => rw [e] at p; exact p
  exact ⟨H0, A, F, r, m, o, sl, (Post.bind p').mono fun d m v A' F' H' g k r1 q => go H0 A' F' r m d v H' k (sl.gr g) r1 q⟩
theorem de_listRg1 (hm : X.mg "list" = none) (hm2 : X.mg "range" = none) (ha : PE X a (LE X.K E f)) (hc : X.calm = true := by rfl) (hg : Gl X "list" := by rfl) (hg2 : Gl X "range" := by rfl) (na : starEach [a] X.env = (false, eval a X.env) :: starEach [] X.env := by rfl)
    (nb : starEach [.Call (.Name "range" p2) [a] [] p3] X.env = (false, eval (.Call (.Name "range" p2) [a] [] p3) X.env) :: starEach [] X.env := by rfl) :
    PE X (.Call (.Name "list" p) [.Call (.Name "range" p2) [a] [] p3] [] pos) (LE X.K E (mkLI (rngI1 (aCons f aNil)))) := PE.imp (pe_listRg hc hg hm (prg_1 hg2 hm2 ha na) nb) fun s H Q q => by
  refine LE.one (k := fun xs m => (match xs with | [.int j] => (if -(2 ^ 62) ≤ j ∧ j < 2 ^ 62 then .ok (rangeD 0 j) m else .stuck) | _ => .stuck : Out (List D)).bind fun ds m => if ds.length ≤ 2 ^ 24 then .ok (.lst ds) m else .stuck) (rp := RE X.K) (Q := Q) ?_ ?_
  · obtain ⟨H0, A, F, r, m, o, sl, p⟩ := q
    refine ⟨H0, A, F, r, m, o, sl, ?_⟩
    unfold mkLI rngI1 bind1 at p
    unfold bind1
    cases e : aCons f aNil r m with
    | stuck => rw [e] at p; exact p
    | exc _ _ _ => rw [e] at p; exact p
    | ok d m1 => rw [e] at p; exact p
  · intro H0 A F r m d v H1 o sl r1 p
    cases d <;> first | exact p.elim | skip
    rename_i j
    simp only [Rep] at r1
    subst r1
    refine ⟨j, rfl, ?_⟩
    have p1 : Post (RE X.K) X.K E A F H1 ((if -(2 ^ 62) ≤ j ∧ j < 2 ^ 62 then .ok (rangeD 0 j) m else .stuck : Out (List D)).bind fun ds m => if ds.length ≤ 2 ^ 24 then .ok (.lst ds) m else .stuck) (QE Q) := p
    split at p1
    · rename_i c
      have p2 : Post (RE X.K) X.K E A F H1 (if (rangeD 0 j).length ≤ 2 ^ 24 then .ok (.lst (rangeD 0 j)) m else .stuck) (QE Q) := p1
      split at p2
      · rename_i c2
        rw [rangeD_length] at c2
        exact ⟨⟨by omega, by omega, c.1, c.2, c2⟩, fun q hq => p2.newL o (reps_rg 0 j) hq⟩
      · exact p2.elim
    · exact p1.elim
end
end MT
set_option Elab.async false
set_option linter.all false
set_option maxRecDepth 100000
namespace MT
open PySem PySem.Spec PyProof.Rows L2
structure FnG (P : Program) (w : World) (K : PySem.W.Frag) (mg : Str → Option Value) (base : Heap) (CX : CXT) (k : Nat) (f : Addr) (fd : FuncData) (ps : List Str) (sp : Sp) : Prop where
  len : ∀ vs H Q E, sp vs H Q E → vs.length = ps.length
  run : ∀ (A : Around) (outer : List Env) (s : Shared) (H : Hp) (args : Args) (us : List Value) (vs : List V) (Q : VK) (E : XK), A.guards = some [] → Room k A → Env0 P w K mg base A outer s H →
    BindsTo s fd args (ps.zip us) → Vals vs us → sp vs H Q E → codeAny (model P w) A (.call (.ref f) args) (CR CX outer P w H s Q E) s
theorem FnG.of {P : Program} {w : World} {K : PySem.W.Frag} {mg : Str → Option Value} {base : Heap} {CX : CXT} {k : Nat} {f : Addr} {fd : FuncData} {ps : List Str} {sp : Sp} (F : FnOk P w K mg base CX k f fd ps sp) : FnG P w K mg base CX k f fd ps sp :=
  ⟨F.len, fun A outer s H args us vs Q E _ => F.run A outer s H args us vs Q E⟩
theorem FnG.make {CX : CXT} {P : Program} {w : World} {K : PySem.W.Frag} {mg : Str → Option Value} {base : Heap} {k : Nat} {f : Addr} {x qual : Str} {params : Arguments} {body : List Stmt} {scope : Scope} {dvs : List V} {kws : List (Str × V)} {fd : FuncData} {N ps : List Str} {sp : Sp}
    (F : FunD K x qual params body scope dvs kws f fd) (S : FnScope N ps scope) (len : ∀ vs H Q E, sp vs H Q E → vs.length = ps.length)
    (hbody : ∀ (cdv : Value) (A : Around) (outer : List Env) (s : Shared) (H : Hp) (vs : List V) (Q : VK) (E : XK), A.guards = some [] → Room k (A.deeper (envOfC qual scope s.heap.objs.size f cdv)) → sp vs H Q E →
      ∃ t, PSs (cxOf CX P w K mg base N qual scope f cdv A outer s H E) body t ∧ t { nx := fun _ H' => Q .non H', rt := Q } (L2.start N vs) H) : FnG P w K mg base CX (k + 1) f fd ps sp := by
  obtain ⟨oc, od, dV, kV, doc, pm, an, cdv, ct, osl, rfl, lk, hcd, _, _⟩ := F.ex
  refine ⟨len, fun A out s H args us vs Q E gd hr en hb r hsp => ?_⟩
  have KX : K.In s.heap := en.mod.kin.keeps fun b o q => (en.bs b o q).1
  have kinds : ∀ y ∈ ps.zip us, scope.names.lookup y.1 = some .local ∨ (scope.names.lookup y.1 = some .cell ∧ ((cellsFrom (s.heap.objs.size + 1) scope.names []).lookup y.1).isSome = true) := by
    rintro ⟨y, v⟩ hy
    exact (S.par y (List.of_mem_zip hy).1).imp (fun q => q) fun q => ⟨q, PySem.W.cellsFrom_some _ _ _ (.inl q)⟩
  refine codeAny_call_function hr.depth (KX _ _ lk) rfl S.co S.gen rfl (PySem.W.codeRec_of KX hcd) (hb _ _ _ _ (wpAny_newFunctionEnv_cells S.kind kinds ?_))
  rintro env rfl s1 st
  refine ⟨(en.mod.nolimit.keeps fun b o q => (en.bs b o q).1).keeps st.toInCall.keep, codeAny_func ?_⟩
  obtain ⟨t, ht, hq⟩ := hbody cdv A out s H vs Q E gd (hr.deeper _) hsp
  refine wpAny_mono (ht.run [] s1 (L2.start N vs) H _ (inv_start S hr.hd en (len _ _ _ _ hsp) r st) hq) (fun fl s' z => ?_) fun e s' z => z
  cases fl with
  | ret u =>
    obtain ⟨v, σ', H', J, rv, q⟩ := z
    exact ⟨v, H', J.os, J.bare, J.base, J.hok, rv, q⟩
  | next =>
    obtain ⟨σ', H', J, q⟩ := z
    exact ⟨.non, H', J.os, J.bare, J.base, J.hok, rfl, q⟩
  | brk => exact False.elim z.choose_spec.choose_spec.2
  | cont => exact False.elim z.choose_spec.choose_spec.2
section
variable {X : Cx} {CX : CXT} {k : Nat} {f : Addr} {fd : FuncData} {ps : List Str} {sp : Sp} {dvs : List V} {ds : List Value} {E : XK} {x : Str} {p pos : Pos} {e : Expr} {es : List Expr} {t : TA}
theorem pe_callG (F : FnG X.prog X.w X.K X.mg X.base CX k f fd ps sp) (gd : X.A.guards = some []) (hr : Room k X.A) (hg : Gl X x) (hm : X.mg x = some (.ref f)) (hk : PySem.W.keepIn X.K (.ref f) = true) (hb : Binds X.K fd ps ds) (hd : Vals dvs ds) (hx : Passes CX X E)
    (ha : PA X (e :: es) t) (hdb : (x == ("__debug__" : Str)) = false) (he : starEach (e :: es) X.env = (false, eval e X.env) :: starEach es X.env) (hpl : (backTo pos (starEach es X.env)).any (·.1) = false) : PE X (.Call (.Name x p) (e :: es) [] pos) (tCall sp dvs E t) := by
  refine ⟨fun pins s σ H Q I h => wpAny_Call_Name_kw (ld_glob I hg hm (PySem.W.callWith_K (h₀ := X.base) I.ok.mod.kin hk (thn (ha.run pos pins s σ H _ I h) fun us s1 ⟨vs, H1, J, r, q⟩ => ⟨J.kIn, ?_⟩) he hpl) hdb)⟩
  have rr : Vals (vs ++ dvs) (us ++ ds) := r.append hd
  have hl : (us ++ ds).length = ps.length := rr.length.symm.trans (F.len _ _ _ _ q)
  refine wpAny_call (codeAny_mono (F.run X.A X.stack s1 H1 ⟨us, []⟩ (us ++ ds) (vs ++ dvs) Q E gd hr J.env0 (hb s1 us J.kIn hl) rr q) fun r s' z => ?_)
  match r, z with
  | .error e, z => exact hx pins σ H1 s1 e s' J z
  | .ok (.ret u), z => exact J.after z
end
def CallG (P : Program) (w : World) (K : PySem.W.Frag) (mg : Str → Option Value) (base : Heap) (k : Nat) (x : Str) (fm : List D → Mem → Out D) : Prop :=
  ∃ f fd ps ds dvs dd f0, FnG P w K mg base (L2.CX P w) k f fd ps (SpF K f0) ∧ mg x = some (.ref f) ∧ PySem.W.keepIn K (.ref f) = true ∧ Binds K fd ps ds ∧ Vals dvs ds ∧ (∀ A F, Reps K A F dd dvs) ∧ fm = fun xs m => f0 (xs ++ dd) m
section
variable {X : Cx} {E : XK} {k : Nat} {x : Str} {p pos : Pos} {e : Expr} {es : List Expr} {g : En → Mem → Out (List D)} {fm : List D → Mem → Out D}
theorem de_fnG (C : CallG X.prog X.w X.K X.mg X.base k x fm) (gd : X.A.guards = some []) (hr : Room k X.A) (hx : Passes (L2.CX X.prog X.w) X E) (ha : PA X (e :: es) (LA X.K E g)) (hg : Gl X x := by rfl) (hdb : (x == ("__debug__" : Str)) = false := by decide)
    (he : starEach (e :: es) X.env = (false, eval e X.env) :: starEach es X.env := by rfl) (hpl : (backTo pos (starEach es X.env)).any (·.1) = false := by rfl) : PE X (.Call (.Name x p) (e :: es) [] pos) (LE X.K E (bind1 g fm)) := by
  obtain ⟨f, fd, ps, ds, dvs, dd, f0, F, hm, hk, hb, hd, hdd, rfl⟩ := C
  exact PE.imp (pe_callG F gd hr hg hm hk hb hd hx ha hdb he hpl) fun s H Q q => call_of hdd q
end
abbrev BodyG (P : Program) (w : World) (K : PySem.W.Frag) (mg : Str → Option Value) (base : Heap) (N : List Str) (qual : Str) (scope : Scope) (body : List Stmt) (k : Nat) (b : En → Mem → SOut) : Prop :=
  ∀ (f : Addr) (cdv : Value) (A : Around) (outer : List Env) (s : Shared) (H : Hp) (E : XK), A.guards = some [] → Room k (A.deeper (envOfC qual scope s.heap.objs.size f cdv)) → ∀ (A0 : List Addr) (F0 : Hp), PSs (cxOf (L2.CX P w) P w K mg base N qual scope f cdv A outer s H E) body (LS K E A0 F0 H b)
section
variable {P : Program} {w : World} {fa : List Fb} {fn : List Df} {K : PySem.W.Frag} {mg : Str → Option Value} {base : Heap} {x qual : Str} {params : Arguments} {body : List Stmt} {scope : Scope} {N ps : List Str} {k : Nat} {b : En → Mem → SOut}
theorem fnG_ok {dvs : List V} {kws : List (Str × V)} {f : Addr} {fd : FuncData} (F : FunD K x qual params body scope dvs kws f fd) (S : FnScope N ps scope) (hb : BodyG P w K mg base N qual scope body k b) : FnG P w K mg base (L2.CX P w) (k + 1) f fd ps (SpF K (runF ps.length N.length b)) := by
  have key : ∀ vs H Q E, SpF K (runF ps.length N.length b) vs H Q E → vs.length = ps.length ∧ ∃ A F ds m, Ok K A F H m ∧ Reps K A F ds vs ∧ Post (RE K) K E A F H (match b (enOf N.length ds) m with
      | .ret d m => .ok d m
      | .next _ m => .ok .non m
      | .exc c d m => .exc c d m
      | _ => .stuck) (QE Q) := by
    rintro vs H Q E ⟨A, F, ds, m, o, r, p⟩
    unfold runF at p
    by_cases c : ds.length = ps.length
    · rw [if_pos c] at p
      exact ⟨r.length.symm.trans c, A, F, ds, m, o, r, p⟩
    · rw [if_neg c] at p; exact p.elim
  refine FnG.make F S (fun vs H Q E h => (key vs H Q E h).1) fun cdv A outer s H vs Q E gd hr h => ?_
  obtain ⟨_, A0, F0, ds, m, o, r, p⟩ := key vs H Q E h
  refine ⟨_, hb _ cdv A outer s H E gd hr A0 F0, A0, F0, _, m, .refl, o, slots_start r, ?_⟩
  cases e : b (enOf N.length ds) m with
  | stuck => rw [e] at p; exact p
  | next r1 m1 => rw [e] at p; exact fun s1 A1 F1 H1 x g1 o1 sl1 => p .non A1 F1 H1 g1 o1 (by simp only [RE, Rep])
  | brk r1 m1 => rw [e] at p; exact p.elim
  | ret d m1 => rw [e] at p; exact fun v A1 F1 H1 g1 o1 r1 => p v A1 F1 H1 g1 o1 r1
  | exc c d m1 => rw [e] at p; exact p
end
theorem CallOk.g {P : Program} {w : World} {K : PySem.W.Frag} {mg : Str → Option Value} {base : Heap} {k : Nat} {x : Str} {fm : List D → Mem → Out D} (C : CallOk P w K mg base k x fm) : CallG P w K mg base k x fm := by
  obtain ⟨f, fd, ps, ds, dvs, dd, f0, F, r⟩ := C
  exact ⟨f, fd, ps, ds, dvs, dd, f0, .of F, r⟩
section
variable {P : Program} {w : World} {K : PySem.W.Frag} {mg mb : Str → Option Value} {CX : CXT} {k : Nat} {fa a : Addr} {fd : FuncData} {x : Str} {sp : Sp} {s1 : Shared} {vs : List Value} {ns : List Int}
end
end MT
set_option Elab.async false
set_option linter.all false
set_option maxRecDepth 100000
namespace MT
open PySem PySem.Spec PyProof.Rows L2
def reprD : List D → Mem → Out D
  | [d], m => if datOk d = true ∧ (toPy d).showable = true ∧ (toPy d).shown.length ≤ sizeLine then .ok (.str (toPy d).shown) m else .stuck
  | _, _ => .stuck
def rRepr (K : PySem.W.Frag) : List V → Hp → VK → Prop := fun xs H Q => ∃ x d, xs = [x] ∧ Dp K H x d ∧ SeqAt.shaped d = true ∧ d.showable = true ∧ d.shown.length ≤ sizeLine ∧ Q (.str d.shown) H
section
variable {X : Cx} {K : PySem.W.Frag}
theorem cr_repr (gd : X.A.guards = some []) (hu : X.A.units + 66 < cLine) : CallR X (.builtin "repr") (rRepr X.K) := by
  rintro pins s σ H xs us Q I r ⟨x, d, rfl, dp, sh, sw, sz, q⟩
  cases r with
  | cons r1 r2 =>
    cases r2
    rename_i u
    obtain ⟨as, rd⟩ := Dp.reads I d x u dp r1
    simp only [SeqAt.shaped, Bool.and_eq_true, decide_eq_true_eq] at sh
    have nd := PyData.hasDict_of_canLay d sh.1
    cases rd with
    | none => exact P.repr_of_none ⟨.str "None", H, I.tok _, ⟨_, rfl⟩, q⟩
    | bool b => exact P.repr_of_bool ⟨.str (if b then "True" else "False"), H, I.tok _, ⟨_, rfl⟩, q⟩
    | int i t => exact P.repr_of_int (by simpa [PyData.showable] using sw) ⟨.str (toString i), H, I.tok _, ⟨_, rfl⟩, q⟩
    | str y t => exact P.repr_of_str ⟨.str (reprText y), H, I.tok _, ⟨_, rfl⟩, q⟩ sz
    | list h1 h2 h3 h4 => exact repr_of_reads' (.list h1 h2 h3 h4) sw (PyData.noDict_hsm nd) gd (by omega) (fun _ _ e => e) (fun h' t tk hk => ⟨.str _, H, I.kept (t' := tk) hk, ⟨_, rfl⟩, q⟩) sz
    | tuple h1 h2 h3 h4 => exact repr_of_reads' (.tuple h1 h2 h3 h4) sw (PyData.noDict_hsm nd) gd (by omega) (fun _ _ e => e) (fun h' t tk hk => ⟨.str _, H, I.kept (t' := tk) hk, ⟨_, rfl⟩, q⟩) sz
    | dict h1 h2 h3 h4 h5 => simp [PyData.canLay0] at sh
theorem cp_repr : CpA K (rRepr K) reprD := by
  intro E A F H m xs vs Q o r p
  unfold reprD at p
  split at p
  · rename_i d
    obtain ⟨v, rfl, r1⟩ := r.one
    split at p
    · rename_i c
      have d1 : isDat d = true := (Bool.and_eq_true_iff.mp c.1).1
      exact ⟨v, toPy d, rfl, r1.dp o d1, shaped_py c.1, c.2.1, c.2.2, p.ret o rep_str⟩
    · exact p.elim
  · exact p.elim
end
abbrev Kt := Int ⊕ List Nat
def itemK : D → Option Kt
  | .int i => some (.inl i)
  | .str x => some (.inr x.cps.toList)
  | _ => none
def keyD : D → List Kt
  | .tup ds => ds.filterMap itemK
  | d => [d].filterMap itemK
def ltD' (a b : D) : Bool := lexLt itemOrd (keyD a) (keyD b)
def leSD (a b : D) : Bool := !ltD' b a
def sortD (ds : List D) : List D := ds.mergeSort leSD
theorem sortD_perm (ds : List D) : (sortD ds).Perm ds := List.mergeSort_perm ds leSD
section
variable {X : Cx}
end
section
variable {K : PySem.W.Frag} {A : List Addr} {F H : Hp}
end
section
variable {K : PySem.W.Frag}
end
end MT
set_option Elab.async false
set_option linter.all false
set_option maxRecDepth 100000
namespace MT
open PySem PySem.Spec PyProof.Rows L2
theorem gd_deeper {A : Around} {env : Env} (h : A.guards = some []) : (A.deeper env).guards = some [] := h
theorem hu2_of {k : Nat} {A : Around} (r : Room k A) : A.units + 66 < cLine := by have := r.un; omega
end MT
set_option Elab.async false
set_option linter.all false
set_option maxRecDepth 100000
namespace MT
open PySem PySem.Spec PyProof.Rows L2
def sOwnAdd (i : Nat) (f g : En → Mem → Out D) : En → Mem → SOut := fun r m => sOf (f r m) fun x m => sOf (g r m) fun y m => match x, y with
  | .lst a, .lst b => if a.length + b.length ≤ sizeLine then .next (r.set i (.own (a ++ b))) m else .stuck
  | _, _ => .stuck
def put1 (i : Nat) (v k : D) (r : En) (m : Mem) : SOut := match r[i]? with
  | some (.own ds) => (match k with
    | .int k => (match ixN ds.length k with
      | some j => .next (r.set i (.own (ds.set j v))) m
      | none => .stuck)
    | _ => .stuck)
  | _ => .stuck
def sPut2 (i : Nat) (fa fb ga gb : En → Mem → Out D) : En → Mem → SOut := fun r m => match r[i]? with
  | some (.own _) => sOf (fa r m) fun a m => sOf (fb r m) fun b m => sOf (ga r m) fun j m => (match put1 i a j r m with
    | .next r m => sOf (gb r m) fun k m => put1 i b k r m
    | o => o)
  | _ => .stuck
section
variable {X : Cx} {E : XK} {A0 : List Addr} {F0 H0 : Hp} {a b e k : Expr} {f h g fa fb ga gb : En → Mem → Out D} {i : Nat} {x : Str} {pos pos' p2 p3 : Pos}
end
end MT
set_option Elab.async false
set_option linter.all false
set_option maxRecDepth 100000
namespace MT
open PySem PySem.Spec PyProof.Rows L2
def tysB : List String := ["NoneType", "bool", "int", "str", "tuple", "list", "dict"]
end MT
set_option Elab.async false
set_option linter.all false
set_option maxRecDepth 100000
namespace MT
open PySem PySem.Spec PyProof.Rows L2
structure Tb where
  name : Str
  kvs : List (Str × Int)
def Tb.see (K : PySem.W.Frag) (t : Tb) : Option (List (Option (Str × Int))) × Bool := (He.dicW K (He.ga K t.name), t.kvs.all fun q => match PySem.W.nsIn K (He.ga K t.name) q.1 with
  | some (some (.int z _)) => decide (z = q.2)
  | _ => false)
def Tb.val (w : World) (t : Tb) : Option (List (Option (Str × Int))) × Bool := (some (He.keysIn w.params (t.kvs.map (·.1))), true)
abbrev AlMT : Type := He.AlD × List (Option (List (Option (Str × Int))) × Bool)
def obsMT (fa : List Fb) (fn : List Df) (ts : List Tb) (K : PySem.W.Frag) : AlMT := (obsM fa fn K, ts.map fun t => t.see K)
def valMT (fn : List Df) (ts : List Tb) (w : World) : AlMT := (valM fn, ts.map fun t => t.val w)
def SaysMT (fa : List Fb) (fn : List Df) (ts : List Tb) (w : World) (K : PySem.W.Frag) : Prop := obsMT fa fn ts K = valMT fn ts w
structure TabOk (K : PySem.W.Frag) (w : World) (t : Tb) : Prop where
  dict : ∃ es n, KDict K w (He.ga K t.name) es n ∧ es.toList.map He.keyOf = He.keysIn w.params (t.kvs.map (·.1))
  vals : ∀ q ∈ t.kvs, ∃ tk, PySem.W.nsIn K (He.ga K t.name) q.1 = some (some (.int q.2 tk))
theorem dicW_es {K : PySem.W.Frag} {a : Addr} {es : Array DictEntry} {n : Nat} {l : List (Option (Str × Int))} (h : He.dicW K a = some l) (e : K.lookup a = some ⟨.type "dict", none, .dict es n, #[]⟩) : es.toList.map He.keyOf = l := by
  unfold He.dicW at h
  rw [e] at h
  dsimp only at h
  split at h
  · exact Option.some.inj h
  · cases h
theorem tab_ok {K : PySem.W.Frag} {w : World} {t : Tb} (h : t.see K = t.val w) : TabOk K w t := by
  have h1 : He.dicW K (He.ga K t.name) = some (He.keysIn w.params (t.kvs.map (·.1))) := congrArg Prod.fst h
  have h2 := congrArg Prod.snd h
  obtain ⟨es, n, D⟩ := He.dicW_ok h1
  refine ⟨⟨es, n, D, dicW_es h1 D.at_⟩, fun q hq => ?_⟩
  have h3 := List.all_eq_true.mp (show _ = true from h2) q hq
  split at h3
  · rename_i z tk e
    have := of_decide_eq_true h3
    subst this
    exact ⟨tk, e⟩
  · cases h3
structure Tz (fa : List Fb) (fn : List Df) (ts : List Tb) (w : World) (K : PySem.W.Frag) (mg : Str → Option Value) : Prop extends Tx fa fn K mg where
  tab : ∀ (i : Nat) {t : Tb}, ts[i]? = some t → TabOk K w t
theorem SaysMT.m {fa : List Fb} {fn : List Df} {ts : List Tb} {w : World} {K : PySem.W.Frag} (c : SaysMT fa fn ts w K) : SaysM fa fn K := congrArg Prod.fst c
theorem Tz.of {fa : List Fb} {fn : List Df} {ts : List Tb} {w : World} {K : PySem.W.Frag} {mg : Str → Option Value} {h : Heap} (X : K.In h) (G : h.Ns mainGlobals mg) (c : SaysMT fa fn ts w K) : Tz fa fn ts w K mg :=
  ⟨Tx.of X G c.m, fun i t e => by
    have e1 : ts.map (fun t => t.see K) = ts.map fun t => t.val w := congrArg Prod.snd c
    have e2 : (ts.map fun t => t.see K)[i]? = (ts.map fun t => t.val w)[i]? := by rw [e1]
    rw [List.getElem?_map, List.getElem?_map, e] at e2
    exact tab_ok (Option.some.inj e2)⟩
section
variable {X : Cx} {E : XK} {a b e : Expr} {es : List Expr} {f h : En → Mem → Out D} {g : En → Mem → Out (List D)} {pos p : Pos} {t : Tb} {x : Str}
theorem RepW.glo {K : PySem.W.Frag} {A : List Addr} {F H : Hp} {y : Str} {v : V} (r : RepW K A F H (.glo y) v) : v = .ref (He.ga K y) := by
  rcases r with r | ⟨_, _, _, _, e, _⟩ | ⟨_, _, _, _, _, e, _⟩
  · simpa only [Rep] using r
  · cases e
  · cases e
theorem rep_glo {K : PySem.W.Frag} {A : List Addr} {F : Hp} {y : Str} : Rep K A F (.glo y) (.ref (He.ga K y)) := by simp only [Rep]
end
end MT
set_option Elab.async false
set_option linter.all false
set_option maxRecDepth 100000
namespace MT
open PySem PySem.Spec PyProof.Rows L2 PySem.HandSPX
def eA : Arguments := { posonlyargs := [], args := [{ arg := "self", annotation := none, pos := ⟨7, 17, 7, 21⟩ }, { arg := "value", annotation := none, pos := ⟨7, 23, 7, 28⟩ }], vararg := none, kwonlyargs := [], kw_defaults := [], kwarg := none, defaults := [] }
def eB : List Stmt := [.Expr (.Call (.Attribute (.Call (.Name "super" ⟨8, 8, 8, 13⟩) [] [] ⟨8, 8, 8, 15⟩) "__init__" ⟨8, 8, 8, 24⟩) [.Name "value" ⟨8, 25, 8, 30⟩] [] ⟨8, 8, 8, 31⟩) ⟨8, 8, 8, 31⟩, .Assign [.Attribute (.Name "self" ⟨9, 8, 9, 12⟩) "value" ⟨9, 8, 9, 18⟩] (.Name "value" ⟨9, 21, 9, 26⟩) ⟨9, 8, 9, 26⟩]
def eS : Scope := { kind := .function, names := [(PySem.Str.ofString "self", .local), (PySem.Str.ofString "value", .local), (PySem.Str.ofString "__class__", .free), (PySem.Str.ofString "super", .globalImplicit)], isGenerator := false, isCoroutine := false, more := [] }
structure ErrT (P : Program) (K : PySem.W.Frag) (mg : Str → Option Value) (c : Str) : Prop where
  ex : ∃ (fI D cc cda : Addr) (oc doc pm ct ccl cl : Value) (od an cdd cld : Option Addr) (osl ccs csl : Array (Option Value)) (vs : Array Value) (file : Str) (tf : Tok) (cdD cd : ClassData),
    K.lookup fI = some ⟨oc, od, .func (PySem.W.ksFn "__init__" "TurnError.__init__" eA eB eS .none .none doc pm an (.ref cda) ct cc), osl⟩ ∧ PySem.W.codeIn K (.ref cda) "TurnError.__init__" = true ∧
    K.lookup cda = some ⟨ccl, cdd, .fields vs, ccs⟩ ∧ vs[2]? = some (.str file tf) ∧ ((P.main.file : Str) == file) = true ∧ (P.main.scope.names.lookup ("super" : Str)).isSome = false ∧
    K.lookup cc = some ⟨cl, cld, .cell (some (.ref D)), csl⟩ ∧ PySem.W.clsIn K D = some cdD ∧ PySem.W.mroIn K (He.ga K c) (.ref D) = some true ∧ PySem.W.nsIn K mainGlobals "super" = some none ∧ PySem.W.nsIn K cStatics "thirdparty.any" = some none ∧
    PySem.W.ks_superIn K (He.ga K c) D "__init__" = some (some (.builtin "ValueError.__init__")) ∧ PySem.W.subIn K (.ref (He.ga K c)) (.type "ValueError") = some true ∧
    PySem.W.findIn K (.ref (He.ga K c)) "__init__" = some (some (.ref fI)) ∧ PySem.W.typeIn K (.ref fI) = some (.type "function") ∧
    PySem.W.clsIn K (He.ga K c) = some cd ∧ refsVE cd.mro = true ∧ cd.hasDict = true
  gC : mg c = some (.ref (He.ga K c))
  cls : ∃ nm q N bs bm sn sub ab col dd k0 k1 k2 k3 k5, K.lookup (He.ga K c) = some (excClassObj nm q (He.ga K c) N bs bm true sn sub ab col dd k0 k1 k2 k3 k5 "ValueError.__new__") ∧ refsVE bm = true
  ini : PySem.W.excInitIn K (He.ga K c) veTail "ValueError.__new__" = true
  sa : PySem.W.findIn K (.ref (He.ga K c)) "__setattr__" = some (some (.builtin "object.__setattr__"))
  noN : PySem.W.findIn K (.ref (He.ga K c)) "value" = some none
  kC : PySem.W.keepIn K (.ref (He.ga K c)) = true
  exC : PySem.W.subIn K (.ref (He.ga K c)) (.type "BaseException") = some true
  tyC : PySem.W.typeIn K (.ref (He.ga K c)) = some (.type "type")
structure ErrMade (h h' : Heap) (e C d : Addr) (v : Value) : Prop where
  keep : ∀ b o, h.get? b = some o → h'.get? b = some o
  new : h.objs.size ≤ e
  obj : ∃ oe vs, h'.get? e = some oe ∧ oe.cls = .ref C ∧ oe.dict = some d ∧ oe.data = .fields vs ∧ vs[1]? = some .none
  dbig : h.objs.size ≤ d
  dne : d ≠ e
  ns : h'.Ns1 d (fun y => if y = "value" then some v else none)
section
variable {prog : Program} {w : World} {A : Around} {R : Result → Shared → Prop} {K : PySem.W.Frag} {mg mb : Str → Option Value} {c : Str} {hp : Heap} {g : Array GenState} {dr : Drawn} {tk : Nat} {os : OsState}
theorem err_init (T : ErrT prog K mg c) {fI x t0 : Addr} {v : Value} {h : Heap} (hfI : PySem.W.findIn K (.ref (He.ga K c)) "__init__" = some (some (.ref fI))) (X : K.In hp) (hk : ∀ b o, hp.get? b = some o → h.get? b = some o) (hlim : h.NoLimit) (G : h.Ns mainGlobals mg) (B : h.Ns builtinsNs mb) (hmb : ∀ x : Str, x ≠ "__name__" → mb x = bootBuiltins x)
    (hx : h.get? x = some (excO (He.ga K c) t0)) (hnx : hp.get? x = none) (hsz : hp.objs.size ≤ h.objs.size) (hroom : A.depth < recursionLimit)
    (hq : ∀ h' tk dx t1, (∀ b o, hp.get? b = some o → h'.get? b = some o) → h'.get? x = some { cls := .ref (He.ga K c), dict := some dx, data := .fields #[.ref t1, .none, .none, .none, .bool false, .none] } → hp.objs.size ≤ dx → dx ≠ x → h'.Ns1 dx (fun y => if y = "value" then some v else none) → R (.ok (.ret .none)) ⟨h', g, dr, tk, os⟩) :
    codeAny (model prog w) A (.call (.ref fI) ⟨[.ref x, v], []⟩) R ⟨h, g, dr, tk, os⟩ := by
  obtain ⟨fI', D, cc, cda, oc, doc, pm, ct, ccl, cl, od, an, cdd, cld, osl, ccs, csl, vs, file, tf, cdD, cd, ho, hcd, hcode, hvs, hfile, htop, hcc, hD, hsub, hsup, hthird, hmeth, hve, hini, hty, hcls, hre, hhd⟩ := T.ex
  have e0 : fI' = fI := by
    rw [hini] at hfI
    cases hfI
    rfl
  subst e0
  have X0 : K.In h := X.keeps hk
  refine PySem.ks_codeAny_call_defAt (fd := PySem.W.ksFn "__init__" "TurnError.__init__" eA eB eS .none .none doc pm an (.ref cda) ct cc) (body := eB) (binds := [("self", .ref x), ("value", v)]) hroom (X0 _ _ ho) rfl hlim (PySem.W.codeRec_of X0 hcd) rfl (BindsTo.of_eq (by first | rfl | with_unfolding_all rfl)) (show ∀ x ∈ eS.names, x.2 ≠ .cell by decide) ?_ (fun h1 hns k1 => ?_) rfl rfl rfl
  · intro y hy
    simp only [List.mem_cons, List.not_mem_nil, or_false] at hy
    rcases hy with rfl | rfl <;> rfl
  have X1 : K.In h1 := X0.keeps k1
  have hx1 := k1 _ _ hx
  have k01 : ∀ b o, hp.get? b = some o → h1.get? b = some o := fun b o e => k1 b o (hk b o e)
  obtain ⟨oD, hD1, hD2⟩ : ∃ oD, h1.get? D = some oD ∧ oD.data = .cls cdD := by
    unfold PySem.W.clsIn at hD
    split at hD
    · rename_i z1 z2 z3 z4 z5
      cases hD
      exact ⟨_, X1 _ _ z5, rfl⟩
    · cases hD
  show _root_.PySem.wpAt _ _ _ (execs (eB) (PySem.W.ksEnv "TurnError.__init__" eS h.objs.size fI' (.ref cda) cc)) _ _ _
  refine PySem.ks_wpAt_execs_cons (PySem.ks_wpAt_Expr_any (PySem.ks_wpAt_MethodCall ?_))
  refine PySem.ks_wpAt_super_base (env := PySem.W.ksEnv "TurnError.__init__" eS h.objs.size fI' (.ref cda) cc) (ar := { arg := "self", annotation := none, pos := ⟨7, 17, 7, 21⟩ }) rfl rfl (by decide) rfl (X1 _ _ ho) rfl rfl rfl (X1 _ _ hcode) rfl hvs hfile htop ?_
  refine PySem.W.ks_loadName_global rfl rfl (PySem.Calls.loadGlobal_builtin (env := PySem.W.ksEnv "TurnError.__init__" eS h.objs.size fI' (.ref cda) cc) (G.keeps k1) (PySem.W.mg_none_of X0 G hsup) (B.keeps k1) ((hmb _ (by decide +kernel)).trans (show bootBuiltins "super" = some (.type "super") by first | boot_by_name | rfl | kernel_rfl)) ⟨rfl, ?_⟩)
  refine wpAny_loadName_free rfl rfl rfl ⟨_, X1 _ _ hcc, rfl⟩ ?_
  refine wpAny_loadName_local rfl rfl hns rfl ?_
  refine PySem.ks_wpAny_isType_cls hD1 hD2 ⟨rfl, ?_⟩
  refine PySem.ks_wpAny_call_super hD1 hD2 hx1 rfl (fun c e => by cases e) (PySem.W.looks_mroIn X1 hsub) (fun h2 hso k2 => ?_)
  have X2 : K.In h2 := X1.keeps k2
  have hx2 := k2 _ _ hx1
  have hne : x ≠ He.ga K c := by
    rintro rfl
    obtain ⟨_, _, _, _, _, _, _, _, _, _, _, _, _, _, _, hC, _⟩ := T.cls
    have := X0 _ _ hC
    rw [hx] at this
    cases this
  have hI2 : PySem.W.InstAt h2 x (excO (He.ga K c) t0) (He.ga K c) none := ⟨hx2, rfl, rfl, trivial⟩
  refine PySem.W.kxs_getMethod (l₀ := cd.mro) PySem.W.kxs_ValueError hso (PySem.W.looks_opaque X2 hthird) ?_ rfl X2 (by
    unfold PySem.W.ks_superIn at hmeth
    rw [hcls] at hmeth
    exact hmeth) (hI2.type.andThen (PySem.W.looks_subIn X2 hve)) hne (by decide) ?_
  · exact fun A Q E s k q => wpAny_bind ((PySem.W.looks_clsIn X2 hcls) A _ E s k (wpAny_pure q))
  have k3 : ∀ b o, h2.get? b = some o → (h2.push (PySem.W.kxs_mw "ValueError.__init__" x)).get? b = some o := fun b o e => Heap.get?_push_of_some _ e
  have hu : (h2.push (PySem.W.kxs_mw "ValueError.__init__" x)).get? h2.objs.size = some (PySem.W.kxs_mw "ValueError.__init__" x) := Heap.get?_push_at rfl rfl
  have hL1 : h.objs.size < h1.objs.size := hns.lt
  have s12 : h1.objs.size < h2.objs.size := Heap.lt_size hso
  have xL : x < h.objs.size := Heap.lt_size hx
  have F3 : PyProof.Rows.Fr hp h.objs.size (h2.push (PySem.W.kxs_mw "ValueError.__init__" x)) (fun y => ([("self", .ref x), ("value", v)] : List (Str × Value)).reverse.lookup y) := by
    obtain ⟨oL, es, ep, e1, r⟩ := hns
    exact ⟨⟨oL, es, ep, k3 _ _ (k2 _ _ e1), r⟩, fun b o e => k3 _ _ (k2 _ _ (k01 b o e)), hsz⟩
  have N3 : PyProof.Rows.News hp h.objs.size (h2.push (PySem.W.kxs_mw "ValueError.__init__" x)) [(h2.objs.size, PySem.W.kxs_mw "ValueError.__init__" x), (x, PySem.W.excObj (He.ga K c) t0 none .none)] := by
    intro p hp'
    simp only [List.mem_cons, List.not_mem_nil, or_false] at hp'
    rcases hp' with rfl | rfl
    · refine ⟨hu, Nat.ne_of_gt (Nat.lt_trans hL1 s12), ?_⟩
      cases z : hp.get? h2.objs.size with
      | none => rfl
      | some o => exact absurd (Nat.lt_of_lt_of_le (Heap.lt_size z) (Nat.le_trans hsz (Nat.le_of_lt (Nat.lt_trans hL1 s12)))) (Nat.lt_irrefl _)
    · exact ⟨k3 _ _ hx2, Nat.ne_of_lt xL, hnx⟩
  refine PySem.W.kxs_callWith1 (h₀ := hp) (L := h.objs.size) (i := "ValueError.__init__") (x := x) N3 (by simp) ?_
  refine Calls.spliced_cons (wpAny_Name (wpAny_loadName_local rfl rfl F3.ns rfl ?_) (by decide))
  refine Calls.spliced_nil ⟨PySem.W.kxs_at N3 (by simp), ?_⟩
  refine PySem.W.kxs_call F3 X N3 PySem.F.excBase_ValueError T.ini (by simp) (.tail (show h2.objs.size ≠ x from Nat.ne_of_gt (Nat.lt_trans xL (Nat.lt_trans hL1 s12))) (.head (fun p hp' => nomatch hp'))) (show [v].length ≤ sizeLine by rw [sizeLine_eq]; exact (by decide : 1 ≤ 16777216)) fun t1 h4 F4 N4 l4 => ?_
  have X4 : K.In h4 := X.keeps F4.keep
  have hx4 : h4.get? x = some (excO (He.ga K c) t1) := (N4 (x, PySem.W.excObj (He.ga K c) t1 none .none) (by simp)).1
  refine wpAt_of_wpAny ?_
  refine wpAny_execs_cons (plainObj_wpAny_Assign_Attribute ?_)
  refine wpAny_Name (wpAny_loadName_local rfl rfl F4.ns rfl (wpAny_Name (wpAny_loadName_local rfl rfl F4.ns rfl ?_) (by decide))) (by decide)
  refine PySem.W.set_plain X4 (ox := excO (He.ga K c) t1) (od := none) ⟨hx4, rfl, rfl, trivial⟩ T.sa ?_
  refine exc_osa X4 hx4 hcls hre hhd T.noN (fun h5 tk5 dx k5 dn dne hx5 hn5 => ?_)
  show wpAny _ _ (execs _ _) _ _ _
  refine wpAny_execs_nil (hq h5 _ dx t1 (fun b o e => k5 b o (fun z => ?_) (F4.keep b o e)) hx5 (Nat.le_trans ?_ dn) dne hn5)
  · rw [z, hnx] at e
    cases e
  · obtain ⟨oL, es, ep, e1, r⟩ := F4.ns
    exact Nat.le_trans hsz (Nat.le_of_lt (Heap.lt_size e1))
theorem err_made (T : ErrT prog K mg c) {v : Value} (X : K.In hp) (hlim : hp.NoLimit) (G : hp.Ns mainGlobals mg) (B : hp.Ns builtinsNs mb) (hmb : ∀ x : Str, x ≠ "__name__" → mb x = bootBuiltins x) (hroom : A.depth + 1 < recursionLimit)
    (hq : ∀ h' tk e d, ErrMade hp h' e (He.ga K c) d v → R (.ok (.ret (.ref e))) ⟨h', g, dr, tk, os⟩) :
    codeAny (model prog w) A (.call (.ref (He.ga K c)) ⟨[v], []⟩) R ⟨hp, g, dr, tk, os⟩ := by
  obtain ⟨nm, q, N, bs, bm, sn, sub, ab, col, dd, k0, k1, k2, k3, k5, hC, hbm⟩ := T.cls
  obtain ⟨fI, _, _, _, _, _, _, _, _, _, _, _, _, _, _, _, _, _, _, _, _, _, _, _, _, _, _, _, _, _, _, _, _, _, _, hini, hty, _, _, _⟩ := T.ex
  have kk : ∀ b o, hp.get? b = some o → ((hp.push (PySem.W.kdv_tup [v])).push (excO (He.ga K c) hp.objs.size)).get? b = some o := fun b o e => Heap.get?_push_of_some _ (Heap.get?_push_of_some _ e)
  have hget : ((hp.push (PySem.W.kdv_tup [v])).push (excO (He.ga K c) hp.objs.size)).get? (hp.objs.size + 1) = some (excO (He.ga K c) hp.objs.size) := by heap_get
  have hno : hp.get? (hp.objs.size + 1) = none := by
    cases e : hp.get? (hp.objs.size + 1) with
    | none => rfl
    | some o => exact absurd (Nat.lt_of_succ_lt (Heap.lt_size e)) (Nat.lt_irrefl _)
  refine call_own PySem.F.excBase_ValueError (fun z => refsVE_contains z bm hbm) (X _ _ hC) (PySem.W.looks_findIn X hini) (fun self => PySem.W.bind_fn X self hty) (show [v].length ≤ sizeLine by rw [sizeLine_eq]; exact (by decide : 1 ≤ 16777216)) ?_
  refine err_init (mb := mb) T hini X kk (hlim.keeps kk) (G.keeps kk) (B.keeps kk) hmb hget hno (by rw [Heap.size_push, Heap.size_push]; exact Nat.le_succ_of_le (Nat.le_succ _)) (show A.depth + 1 < recursionLimit from hroom) fun h' tk' dx t1 k' hx dn dne hn => ?_
  exact ⟨rfl, hq h' tk' (hp.objs.size + 1) dx ⟨k', Nat.le_succ _, ⟨_, _, hx, rfl, rfl, rfl, rfl⟩, dn, dne, hn⟩⟩
end
end MT
set_option Elab.async false
set_option linter.all false
set_option maxRecDepth 100000
namespace MT
open PySem PySem.Spec PyProof.Rows L2 PySem.HandSPX
theorem relO_err {v : V} {v' : Value} (r : RelV v v') (f : Str) : RelO (List.lookup f [(("value" : Str), v)]) (if f = "value" then some v' else none) := by
  by_cases hw : f = "value"
  · subst hw
    rw [if_pos rfl, show List.lookup ("value" : Str) [(("value" : Str), v)] = some v by simp [List.lookup]]
    exact r
  · have qw : (f == ("value" : Str)) = false := by simpa using hw
    rw [if_neg hw, show List.lookup f [(("value" : Str), v)] = none by simp [List.lookup, qw]]
    trivial
section
variable {X : Cx} {c : Str}
def tMkErr (C : Addr) (ta : TA) : L2.St → Hp → XK → Prop := fun σ H Q => ta σ H fun vs H1 => ∃ v, vs = [v] ∧ ∀ d, H1 d = none → Q (.ref C) (some d) (upd H1 d (.xd [(("value" : Str), v)]))
theorem pmk_err {a : Expr} {ta : TA} {p pos : Pos} {k : Nat} (T : ErrT X.prog X.K X.mg c) (hr : Room k X.A) (ha : PA X [a] ta) (hg : Gl X c := by rfl) (hdb : (c == ("__debug__" : Str)) = false := by decide)
    (he : starEach (a :: []) X.env = (false, eval a X.env) :: starEach [] X.env := by rfl) (hpl : (backTo pos (starEach [] X.env)).any (·.1) = false := by rfl) :
    PMk X (.Call (.Name c p) [a] [] pos) (tMkErr (He.ga X.K c) ta) := fun pins s σ H Q I h => by
  refine wpAny_Call_Name_kw (ld_glob I hg T.gC (PySem.W.callWith_K (h₀ := X.base) I.ok.mod.kin T.kC (thn (ha.run pos pins s σ H _ I h) fun us s1 ⟨vs, H1, J, r1, v, ev, q1⟩ => ⟨J.kIn, ?_⟩) he hpl) hdb)
  subst ev
  obtain ⟨v', eu, rv⟩ := vals1 r1
  subst eu
  obtain ⟨mb, hb, hbb⟩ := J.ok.mod.blt
  have lim := J.nolimit
  obtain ⟨h0, gs, dr, tk, os⟩ := s1
  refine wpAny_call (err_made (mb := mb) T J.kIn lim (J.ok.mod.glob.keeps J.bk) (hb.keeps J.bk) hbb (by have := hr.dp; omega) fun h' tk' e d M => ?_)
  show MkP X pins σ Q (.ref e) ⟨h', gs, dr, tk', os⟩
  obtain ⟨oe, fv, hoe, hc, hd, hdat, h1⟩ := M.obj
  obtain ⟨Z, z1, z2⟩ := restrict h' fun b => decide (b ≠ e)
  have zk : ∀ b, b ≠ e → Z.get? b = h'.get? b := fun b hb => z1 b (decide_eq_true hb)
  have ze : Z.get? e = none := z2 e (by simp)
  have old : ∀ b o, h0.get? b = some o → Z.get? b = some o := fun b o q => (zk b (Nat.ne_of_lt (Nat.lt_of_lt_of_le (Heap.lt_size q) M.new))).trans (M.keep b o q)
  have J2 : Inv X pins σ (upd H1 d (.xd [(("value" : Str), v)])) ⟨Z, gs, dr, tk', os⟩ := J.laid (t' := tk') old M.dbig
    (show ObjOk X.prog X.w (upd H1 d (.xd [(("value" : Str), v)])) Z d (.xd [(("value" : Str), v)]) from ⟨_, M.ns.at (fun o q => (zk d M.dne).trans q), fun f => relO_err rv f⟩)
  refine ⟨e, oe, fv, ⟨Z, gs, dr, tk', os⟩, _, .ref (He.ga X.K c), some d, rfl, J2, fun b o q => ?_, ze, hoe, ⟨hc, hd⟩, hdat, h1, ?_, rfl, J.bare, raises_own T.exC T.tyC, q1 d (J.hok.fresh M.dbig)⟩
  · refine (zk b fun z => ?_).symm.trans q
    have q' : Z.get? b = some o := q
    rw [z, ze] at q'
    cases q'
  · rw [upd_ne (Ne.symm M.dne)]
    exact J.hok.fresh M.new
end
def sRaise (c : Str) (g : En → Mem → Out (List D)) : En → Mem → SOut := fun r m => sOf (g r m) fun ds m => match ds with
  | [d] => .exc c d m
  | _ => .stuck
section
variable {X : Cx} {E : XK} {A0 : List Addr} {F0 H0 : Hp} {c : Str} {a : Expr} {g : En → Mem → Out (List D)} {p pos pos2 : Pos} {k : Nat}
theorem ds_raise (T : ErrT X.prog X.K X.mg c) (hc : X.calm = true) (hr : Room k X.A) (tk : Takes X (fun cls d _ H => E cls d H)) (ha : PA X [a] (LA X.K E g)) (hg : Gl X c := by rfl) (hdb : (c == ("__debug__" : Str)) = false := by decide)
    (he : starEach (a :: []) X.env = (false, eval a X.env) :: starEach [] X.env := by rfl) (hpl : (backTo pos (starEach [] X.env)).any (·.1) = false := by rfl) :
    PS X (.Raise (some (.Call (.Name c p) [a] [] pos)) none pos2) (LS X.K E A0 F0 H0 (sRaise c g)) :=
  PS.imp (ps_raise hc tk (pmk_err T hr ha hg hdb he hpl)) fun De s H q => LS.ex q fun A F r m ds vs H1 gr o sl r1 p => by
    match ds, p with
    | [d], p =>
      have r2 : Reps X.K A F [d] vs := r1
      simp only [Reps] at r2
      obtain ⟨v, _, rfl, rv, rfl⟩ := r2
      refine ⟨v, rfl, fun dx hx => ?_⟩
      obtain ⟨nF, nA⟩ := o.out hx
      exact p v dx A F _ (gr.upd (gr.keep dx hx)) (o.upd nF nA) rv upd_same (gr.keep dx hx) nF nA
    | [], p => exact p.elim
    | _ :: _ :: _, p => exact p.elim
theorem takesD {P : Program} {w : World} {K : PySem.W.Frag} {mg : Str → Option Value} {base : Heap} {N : List Str} {qual : Str} {scope : Scope} {f : Addr} {cdv : Value} {A : Around} {outer : List Env} {s : Shared} {H : Hp} {E : XK} :
    Takes (cxOf (L2.CX P w) P w K mg base N qual scope f cdv A outer s H E) (fun cls d _ H => E cls d H) := takes_of rfl rfl rfl rfl
end
end MT
set_option Elab.async false
set_option linter.all false
set_option maxRecDepth 100000
namespace MT
open PySem PySem.Spec PyProof.Rows L2 PySem.HandSPX
def wKeep (K : PySem.W.Frag) (c : Value) (i j : Nat) (De : Ends) : WX := fun cls d σ H =>
  ∃ b, PySem.W.exmOne K cls c = some b ∧ (b = true → ∃ dd, d = some dd ∧ ∀ a, H a = none → De.nx (((σ.set i (some (.ref a))).set j (some (.ref a))).set i none) (upd H a (ExD cls dd a))) ∧ (b = false → False)
section
variable {X : Cx} {pins : List (Addr × Obj)} {σ : L2.St} {H : Hp} {s : Shared}
theorem Inv.track {a : Addr} {φ : Heap → Prop} {oe : Obj} (I : Inv X ((a, oe) :: pins) σ H s) (h0 : X.s_0.heap.get? a = none) (hpn : ∀ p ∈ X.pn ++ pins, p.1 ≠ a) (new : ObjOk X.prog X.w (upd H a (.ext φ)) s.heap a (.ext φ)) : Inv X pins σ (upd H a (.ext φ)) s := by
  obtain ⟨e1, e2, e3, e4, e5⟩ := I.pin (a, oe) (by simp)
  have ne : ∀ b o, H b = some o → b ≠ a := fun b o e z => by rw [z, e2] at e; cases e
  refine ⟨I.ok, I.os, I.bare, ⟨I.base.keep, I.base.slot, fun b o q n x => ?_, I.base.there, fun b xs q => ?_, fun b o u q => ?_, fun b ps q => ?_⟩, I.loc, I.cell, ?_, fun y c q => ?_, fun p hp => ?_, ?_, I.len⟩
  · rw [upd_ne (fun z => by rw [z, h0] at q; cases q)]
    exact I.base.free b o q n x
  · have z := I.base.tups b xs q
    rw [upd_ne (ne b _ z)]; exact z
  · have z := I.base.frzs b o u q
    rw [upd_ne (ne b _ z)]; exact z
  · obtain ⟨more, z⟩ := I.base.tbls b ps q
    exact ⟨more, by rw [upd_ne (ne b _ z)]; exact z⟩
  · rw [upd_ne (Ne.symm e3)]; exact I.free
  · have z : c ≠ a := fun z => by
      obtain ⟨v, o, ho, hd⟩ := I.cell y c q
      rw [z, e1] at ho
      cases ho
      exact e5 _ hd
    rw [upd_ne z]; exact I.freeC y c q
  · obtain ⟨f1, f2, f3, f4, f5⟩ := I.pin p (by
      rcases List.mem_append.mp hp with h | h
      · exact List.mem_append_left _ h
      · exact List.mem_append_right _ (List.mem_cons_of_mem _ h))
    exact ⟨f1, by rw [upd_ne (hpn p hp)]; exact f2, f3, f4, f5⟩
  · exact HOk.laidN I.hok (fun _ _ e => e) e2 new
end
section
variable {X : Cx} {x n y : Str} {c : Value} {i j : Nat} {body : List Stmt} {np np2 yp ap pos pos' : Pos} {tb : WX → TS}
theorem ps_try_keep (hs : X.stack = X.env :: X.outer) (hf : X.env.frame = some X.env.locals) (hex : X.ex = []) (hN : X.N.Nodup) (hi : X.N[i]? = some n) (hj : X.N[j]? = some y) (hln : X.env.kindOf n = some .local) (hly : X.env.kindOf y = some .local) (hc : Names X x c)
    (hb : ∀ (W : WX) (pn : List (Addr × Obj)) (xe : Value → Shared → Prop), Takes (X.tr pn xe) W → PassesOwn (model X.prog X.w) X.A X.env xe → PSs (X.tr pn xe) body (tb W))
    (hd1 : (n == ("__debug__" : Str)) = false := by decide) (hd2 : (n == ("__classdict__" : Str)) = false := by decide) :
    PS X (.Try body [.ExceptHandler (some (.Name x np)) (some n) [.Assign [.Name y yp] (.Name n np2) ap] pos'] [] [] pos) (fun De σ H => tb (wKeep X.K c i j De) De σ H) := by
  refine ⟨fun pins s σ H De I h => ?_⟩
  have hfr : X.A.frames = some (X.env :: X.outer) := by rw [I.ok.frames, hs]
  refine wpAny_Try_except (wpAny_mono ((hb (wKeep X.K c i j De) (X.pn ++ pins) (fun e s1 => wpAny (model X.prog X.w) X.A (noteFrame e X.env) (fun _ s2 => wpAny (model X.prog X.w) X.A (setFlight e none)
    (fun _ s3 => wpAny (model X.prog X.w) X.A (handleBy e X.env [.ExceptHandler (some (.Name x np)) (some n) [.Assign [.Name y yp] (.Name n np2) ap] pos']) (SP X pins De) X.xe s3) X.xe s2) X.xe s1)
    (fun u s' z => ?_) PassesOwn.looking).run [] s σ H De (I.toTry _) h) (fun fl s1 z => ?_) (fun e s1 z => z))
  · obtain ⟨a, B, sI, pi, τ, H', cls, d, rfl, J', nb, up, sky, na, os, ag, b, hb1, yes, no⟩ := z
    have J : Inv X pins τ H' sI := J'.ofTry I.ok
    have sk : Sky B (X.env :: X.outer) a (Zc cls d) X.env.locals s'.heap := by rw [← hs]; exact sky
    show wpAny (model X.prog X.w) X.A (noteFrame (.ref a) X.env) _ _ _
    refine Sky.land Zc.steady hfr hf sk fun h3 fl3 up3 => ?_
    have J3 : Inv X pins τ H' { s' with heap := h3 } := J.landed nb fl3.1 (up.trans up3) os ag
    obtain ⟨o3, v3, he3, hz3, hd3⟩ := fl3.there
    have nfr : a ∉ frs (X.env :: X.outer) := fun hm => by
      obtain ⟨_, o', e', hnf⟩ := fl3.2.2.1.mem hm
      rw [he3] at e'
      cases e'
      exact hnf _ hd3
    have nL : a ≠ X.env.locals := fun z => nfr (List.mem_filterMap.mpr ⟨X.env, List.mem_cons_self, by rw [hf, z]⟩)
    have nF : a ∉ X.fs := fun hm => by
      obtain ⟨e, he, q⟩ := List.mem_filterMap.mp hm
      exact nfr (List.mem_filterMap.mpr ⟨e, List.mem_cons_of_mem _ he, q⟩)
    have fresh : sI.heap.get? a = none := by
      cases q : sI.heap.get? a with
      | none => rfl
      | some o =>
        have := nb a o q (by rw [hs]; exact nfr)
        rw [fl3.2.1] at this
        cases this
    have fr0 : X.s_0.heap.get? a = none := by
      cases q : X.s_0.heap.get? a with
      | none => rfl
      | some o =>
        obtain ⟨o', q'⟩ := J.base.there a o q (by rw [hex]; simp)
        rw [fresh] at q'
        cases q'
    have hpn : ∀ p ∈ X.pn ++ pins, p.1 ≠ a := fun p hp z => by
      have := (J.pin p hp).1
      rw [z, fresh] at this
      cases this
    have S3 := J3.suite he3 hd3 na nL nF
    refine wpAny_handleBy_cons (codeAny_handlers_test ?_) (by intro q; cases q)
    have look : PySem.W.Looks (model X.prog X.w) h3 (typeOf (.ref a)) cls := fun A Q E s k q => wpAny_typeOf_ref (k _ _ he3) (by rw [hz3.1]; exact q)
    have named : ∀ {Q : Value → Shared → Prop} {E : Value → Shared → Prop}, Q c { s' with heap := h3 } → wpAny (model X.prog X.w) (X.A.mark (some (.ref a))) (eval (.Name x np) X.env) Q E { s' with heap := h3 } := by
      intro Q E q
      obtain ⟨hg, hdbg, hm | ⟨hm, hv, hnn⟩⟩ := hc
      · exact ld_glob (X := X.suite a ((a, o3) :: (X.pn ++ pins))) S3 hg hm q hdbg
      · exact ld_blt (X := X.suite a ((a, o3) :: (X.pn ++ pins))) S3 hg hm hv q hnn hdbg
    refine named ((PySem.W.exm_one (M := model X.prog X.w) J3.kIn look hb1).here ?_)
    cases b with
    | false => exact (no rfl).elim
    | true =>
      obtain ⟨dd, rfl, q⟩ := yes rfl
      refine codeAny_handlers_suite_as (lands_againZ fl3 fun h4 fl4 up4 => ?_)
      have J4 : Inv X pins τ H' { s' with heap := h4 } := J.landed nb fl4.1 ((up.trans up3).trans up4) os ag
      obtain ⟨o4, v4, he4, hz4, hd4⟩ := fl4.there
      have S4 := J4.suite he4 hd4 na nL nF
      refine store_ok (X := X.suite a ((a, o4) :: (X.pn ++ pins))) (v := .ref a) S4 hN hi (.inl hln) rfl (fun s5 S5 => ?_) (.inr hln)
      have st : PSs (X.suite a ((a, o4) :: (X.pn ++ pins))) [.Assign [.Name y yp] (.Name n np2) ap] _ := pss_one (ps_set (X := X.suite a ((a, o4) :: (X.pn ++ pins))) (pos' := yp) (pos := ap) hN hj (.inl hly) (pe_var (X := X.suite a ((a, o4) :: (X.pn ++ pins))) (pos := np2) hi (.inl hln) hd1 hd2) rfl (.inr hly))
      refine wpAny_mono (st.run [] s5 (τ.set i (some (.ref a))) H' { nx := fun σ6 H6 => σ6 = ((τ.set i (some (.ref a))).set j (some (.ref a))) ∧ H6 = H', rt := fun _ _ => False, bk := fun _ _ => False, ct := fun _ _ => False } S5 ?_) (fun fl s6 z => ?_) (fun _ _ z => False.elim z)
      · have hlt : i < τ.length := by rw [J.len]; exact (List.getElem?_eq_some_iff.mp hi).1
        exact ⟨.ref a, List.getElem?_set_self hlt, rfl, rfl⟩
      · cases fl with
        | next =>
          obtain ⟨σ6, H6, S6, rfl, rfl⟩ := z
          have J6 : Inv X ((a, o4) :: pins) _ H6 s6 := { S6.unsuite I.ok with pin := fun p hp => S6.pin p (by
            show p ∈ ((a, o4) :: (X.pn ++ pins)) ++ []
            rw [List.append_nil]
            rcases List.mem_append.mp hp with q | q
            · exact List.mem_cons_of_mem _ (List.mem_append_left _ q)
            · rcases List.mem_cons.mp q with q | q
              · exact q ▸ List.mem_cons_self
              · exact List.mem_cons_of_mem _ (List.mem_append_right _ q)) }
          refine gone_ok J6 hN hi hln fun s7 J7 => ⟨_, _, MT.Inv.track J7 fr0 hpn ?_, q a na⟩
          have e7 := (J7.pin (a, o4) (by simp)).1
          exact ⟨⟨o4, v4, e7, hz4, hd4⟩, ⟨o4, e7⟩, fun h1 h2 ⟨o, v, f1, f2, f3⟩ k => ⟨o, v, k _ f1, f2, f3⟩⟩
        | brk => exact False.elim z.choose_spec.choose_spec.2
        | cont => exact False.elim z.choose_spec.choose_spec.2
        | ret u => exact False.elim z.choose_spec.choose_spec.choose_spec.2.2
  · cases fl with
    | next =>
      obtain ⟨τ, H', J', q⟩ := z
      exact wpAny_execs_nil ⟨τ, H', J'.ofTry I.ok, q⟩
    | brk =>
      obtain ⟨τ, H', J', q⟩ := z
      exact ⟨τ, H', J'.ofTry I.ok, q⟩
    | cont =>
      obtain ⟨τ, H', J', q⟩ := z
      exact ⟨τ, H', J'.ofTry I.ok, q⟩
    | ret u =>
      obtain ⟨v, τ, H', J', r, q⟩ := z
      exact ⟨v, τ, H', J'.ofTry I.ok, r, q⟩
end
end MT
set_option Elab.async false
set_option linter.all false
set_option maxRecDepth 100000
namespace MT
open PySem PySem.Spec PyProof.Rows L2 PySem.HandSPX
abbrev lamO (X : Cx) (params : Arguments) (body : Expr) (scope : Scope) (pm : Value) (c' : Addr) (ctv : Value) : Obj := PySem.W.kla_obj "<lambda>" (X.env.qual ++ "<lambda>") params body scope (cloFrom X.env.cells scope.names []) pm c' ctv
section
variable {X : Cx} {pins : List (Addr × Obj)} {σ : L2.St} {H : Hp} {s : Shared}
theorem lam_made {c P : Addr} {ps : Array Value} {params : Arguments} {body : Expr} {scope : Scope} {pos : Pos} {E : Value → Shared → Prop} {Q : Value → Shared → Prop} (I : Inv X pins σ H s) (TB : LamX.TabB X.base X.mg c P) (hcode : X.env.code = .ref c)
    (hP : H P = some (.tbl ps)) (ht : TriplesOk ps.toList) (ha : ∀ (p' : Pos) (cv : Value), codeAmong p' ps.toList = some cv → ∃ c', cv = .ref c' ∧ H c' = some (LamX.CodeO c' (X.env.qual ++ "<lambda>")))
    (hdef : defaultsOf params X.env = ([], [])) (L : LamX.LamS X.env.scope scope)
    (new : ∀ (f c' : Addr) (pm ctv : Value) (ps' : Array Value) (s' : Shared), H c' = none → Inv X pins σ (upd (upd H P (.tbl ps')) c' (LamX.CodeO c' (X.env.qual ++ "<lambda>"))) s' → TriplesOk ps'.toList →
      (∀ (p' : Pos) (cv : Value), codeAmong p' ps'.toList = some cv → codeAmong p' ps.toList = some cv ∨ cv = .ref c') → s'.heap.get? f = some (lamO X params body scope pm c' ctv) → upd (upd H P (.tbl ps')) c' (LamX.CodeO c' (X.env.qual ++ "<lambda>")) f = none → f ∉ frs X.stack → Q (.ref f) s')
    (old : ∀ (f c' : Addr) (pm ctv : Value) (s' : Shared), Inv X pins σ H s' → H c' = some (LamX.CodeO c' (X.env.qual ++ "<lambda>")) → s'.heap.get? f = some (lamO X params body scope pm c' ctv) → H f = none → f ∉ frs X.stack → Q (.ref f) s') :
    wpAny (model X.prog X.w) X.A (eval (.Lambda params body scope pos) X.env) Q E s := by
  refine PySem.W.kla_eval hdef ?_
  have bP : s.heap.BuiltinsAt X.mg P := TB.bm.keeps I.bk
  have gP : s.heap.get? P = some { cls := .none, data := .fields ps } := I.hok P _ hP
  have nofr : ∀ f, s.heap.objs.size ≤ f → f ∉ frs X.stack := fun f hf z => by
    rcases List.mem_cons.mp (I.stkSub _ z) with e | e
    · exact absurd (Nat.lt_of_lt_of_le (e ▸ I.lt) hf) (Nat.lt_irrefl _)
    · exact I.nofs hf e
  have free := L.has I.ok
  cases hc : codeAmong pos ps.toList with
  | some cv =>
    obtain ⟨c', rfl, hco⟩ := ha pos cv hc
    refine PySem.W.kla_makeFunctionHit (mg := X.mg) (c := c) (P := P) (ps := ps) (closure_ok free) I.ok.glob (I.mod.glob.keeps I.bk) hcode (TB.code.keeps I.bk) gP ht hc bP fun ctv h' tk hx hsz => ?_
    exact old h'.objs.size c' _ ctv _ (I.kept fun b o e => Heap.get?_push_of_some _ (hx b o e)) hco (Heap.get?_push_size _ rfl) (I.hok.fresh hsz) (nofr _ hsz)
  | none =>
    refine PySem.W.kla_makeFunction (mg := X.mg) (c := c) (P := P) (ps := ps) (closure_ok free) I.ok.glob (I.mod.glob.keeps I.bk) hcode (TB.code.keeps I.bk) gP ht hc TB.gP bP fun c' ctv h' tk hx hge hlt hrec htb => ?_
    obtain ⟨_, oc, vs, t, ew, hoc, hd, hv⟩ := hrec
    cases ew
    have hsz : s.heap.objs.size ≤ h'.objs.size := Nat.le_trans hge (Nat.le_of_lt hlt)
    have nC : H c' = none := I.hok.fresh hge
    have J := LamX.inv_table (t' := tk) (more := #[rawInt pos.line, rawInt pos.col, .ref c']) (h' := h'.push (lamO X params body scope ((X.mg "__name__").getD .none) c' ctv)) I hP
      (fun b o hb e => Heap.get?_push_of_some _ (hx b o hb e)) (Heap.get?_push_of_some _ htb) hge ⟨oc, vs, t, Heap.get?_push_of_some _ hoc, hd, hv⟩
    have eL : (ps ++ #[rawInt pos.line, rawInt pos.col, .ref c']).toList = ps.toList ++ [rawInt pos.line, rawInt pos.col, .ref c'] := by simp
    refine new h'.objs.size c' _ ctv _ _ nC J (by rw [eL]; exact PySem.TriplesOk_snoc _ _ _ _ ht) (fun p' cv e => ?_) (Heap.get?_push_size _ rfl) ?_ (nofr _ hsz)
    · rw [eL] at e
      exact LamX.among_app _ ht e
    · rw [upd_ne (Nat.ne_of_gt hlt), upd_ne (Nat.ne_of_gt (Nat.lt_of_lt_of_le (Heap.lt_size gP) hsz))]
      exact I.hok.fresh hsz
theorem lam_act {CXg : CXT} {Eg : XK} {Ng : List Str} {qg : Str} {sg : Scope} {g f c' : Addr} {cdg pm ctv : Value} {params : Arguments} {body : Expr} {scope : Scope} {k i : Nat} {a : Str} {pn : List (Addr × Obj)} {xe : Value → Shared → Prop} {W : WX} {t : XK → TE} {p1 p2 : Pos}
    (I : Inv X pins σ H s) (L : LamX.LamS X.env.scope scope) (hf : s.heap.get? f = some (lamO X params body scope pm c' ctv)) (hfn : H f = none) (hfr : f ∉ frs X.stack)
    (hbind : bindArgs (PySem.W.kla_fn "<lambda>" (X.env.qual ++ "<lambda>") params body scope (cloFrom X.env.cells scope.names []) pm (.ref c') ctv) ⟨[], []⟩ = pure [])
    (tk : Takes ((cxOf CXg X.prog X.w X.K X.mg X.base Ng qg sg g cdg X.A X.stack s H Eg).tr pn xe) W) (hr : Room (k + 1) (X.A.deeper (envOfC qg sg s.heap.objs.size g cdg)))
    (hbody : ∀ (A : Around) (outer : List Env) (s : Shared) (H : Hp) (E : XK), Room k (A.deeper (LamX.lamEnv X scope s.heap.objs.size f c')) → PE (LamX.lamCx X A outer s H E scope f c') body (t E))
    (hN : Ng[i]? = some a) (hv : Vis sg a) (hd : (a == ("__debug__" : Str)) = false) (hcd : (a == ("__classdict__" : Str)) = false) :
    PE ((cxOf CXg X.prog X.w X.K X.mg X.base Ng qg sg g cdg X.A X.stack s H Eg).tr pn xe) (.Call (.Name a p1) [] [] p2)
      (fun τ HZ Q => τ[i]? = some (some (.ref f)) ∧ HZ c' = some (LamX.CodeO c' (X.env.qual ++ "<lambda>")) ∧ t (fun cls d H' => W cls d τ H') σ HZ Q) := by
  refine ⟨fun pinsZ sZ τ HZ Q IZ h => ?_⟩
  obtain ⟨hs, hc, htb⟩ := h
  refine wpAny_Call_Name_kw (thn ((pe_var (pos := p1) (i := i) hN hv hd hcd).run pinsZ sZ τ HZ (fun v H1 => v = .ref f ∧ H1 = HZ) IZ ⟨.ref f, hs, rfl, rfl⟩) fun u s1 ⟨v, H1, I1, r1, ev, eH⟩ => ?_)
  subst ev
  rw [eH] at I1
  obtain rfl : u = Value.ref f := r1
  have of1 : s1.heap.get? f = some (lamO X params body scope pm c' ctv) := I1.base.keep f _ hf hfn hfr (fun z => nomatch (show f ∈ ([] : List Addr) from z))
  have un : Un (frs X.stack) [] H HZ s.heap s1.heap := I1.base
  obtain ⟨⟨oc, vs, t', hoc, hdc, hvc⟩, _, _⟩ := I1.hok c' _ hc
  have rc : codeAny (model X.prog X.w) (X.A.deeper (envOfC qg sg s.heap.objs.size g cdg)) (.call (.ref f) ⟨[], []⟩) (CR (L2.CX X.prog X.w) (envOfC qg sg s.heap.objs.size g cdg :: X.stack) X.prog X.w HZ s1 Q fun cls d H' => W cls d τ H') s1 := by
    refine PySem.W.kla_callFunE hr.depth of1 rfl L.co L.gen rfl ⟨c', oc, vs, t', rfl, hoc, hdc, hvc⟩ ?_
    rw [hbind]
    refine wpAny_pure (wpAny_newFunctionEnv (fun y hy => (L.own y hy).2) (fun y hy => absurd hy (by simp)) (fun h1 hns hsb => ⟨I1.nolimit.fresh _ hsb, ?_⟩) L.kind)
    have kp : ∀ b o, s1.heap.get? b = some o → h1.get? b = some o := fun b o e => hsb.extBut b o (Nat.ne_of_lt (Heap.lt_size e)) (Heap.get?_push_of_some _ e)
    show codeAny _ _ (.expr body (LamX.lamEnv X scope s1.heap.objs.size f c')) _ _
    refine PySem.W.kla_codeExpr (wpAny_mono ((hbody _ _ s1 HZ (fun cls d H' => W cls d τ H') (hr.deeper _)).run [] _ _ HZ Q (LamX.lam_start2 I L I1.env0 hr.hd un hns kp) htb) (fun v s' z => ?_) fun e s' z => z)
    obtain ⟨w', H', J', rv, q⟩ := z
    exact ⟨w', H', J'.os, J'.bare, J'.base, J'.hok, rv, q⟩
  refine PySem.W.callWith_F0 ⟨_, _, _, _, of1⟩ (wpAny_call (codeAny_mono rc fun r s' z => ?_))
  match r, z with
  | .error e, z => exact tk _ _ (XE.of_call I1 (fun cls d H' h => h) z)
  | .ok (.ret u), z => exact I1.after z
end
end MT
set_option Elab.async false
set_option linter.all false
set_option maxRecDepth 100000
namespace MT
open PySem PySem.Spec PyProof.Rows L2 PySem.HandSPX
def toldN : List Str := ["_law_look", "_law_caught", "_law_back", "error"]
def toldS : Scope := { kind := .function, names := [(PySem.Str.ofString "_law_look", .local), (PySem.Str.ofString "_law_caught", .local), (PySem.Str.ofString "_law_back", .local), (PySem.Str.ofString "error", .local), (PySem.Str.ofString "TurnError", .globalImplicit)], isGenerator := false, isCoroutine := false, more := [] }
theorem told_sc : FnScope toldN ["_law_look"] toldS := ⟨rfl, rfl, rfl, by decide +kernel, rfl, by decide +kernel, by decide +kernel⟩
theorem told_nd : toldN.Nodup := by decide +kernel
def TT (K : PySem.W.Frag) (C : Addr) (tl : XK → Hp → VK → Prop) (H : Hp) (Q : VK) : Prop :=
  ∀ T0, H T0 = none → tl (fun cls d H' => ∃ b, PySem.W.exmOne K cls (.ref C) = some b ∧ (b = true → ∃ dd, d = some dd ∧ ∀ a, H' a = none → ∀ T, upd H' a (ExD cls dd a) T = none → Q (.ref T) (upd (upd H' a (ExD cls dd a)) T (.tup [.ref a, .non]))) ∧ (b = false → False)) (upd H T0 (.tup [.non, .non]))
    fun v H' => ∀ T, H' T = none → Q (.ref T) (upd H' T (.tup [.non, v]))
section
variable {X : Cx} {C g f c' : Addr} {cdg : Value} {s : Shared} {H : Hp} {Q : VK} {q : Str} {tl : XK → Hp → VK → Prop} {p1 p2 p3 p4 p5 p6 p7 p8 p9 p10 p11 p12 p13 p14 p15 p16 p17 p18 p19 p20 p21 : Pos}
theorem told_body (hme : X.mg "TurnError" = some (.ref C))
    (hw : swappedStores [.Tuple [.Name "_law_caught" p1, .Name "_law_back" p2] 0 p3] (.Tuple [.Constant .none 0 p4, .Constant .none 0 p5] 0 p6) (cxOf C8.CX0 X.prog X.w X.K X.mg X.base toldN "_law_told" toldS g cdg X.A X.stack s H C8.E0).env = pure none)
    (act : ∀ (W : WX) (pn : List (Addr × Obj)) (xe : Value → Shared → Prop), Takes ((cxOf C8.CX0 X.prog X.w X.K X.mg X.base toldN "_law_told" toldS g cdg X.A X.stack s H C8.E0).tr pn xe) W →
      PE ((cxOf C8.CX0 X.prog X.w X.K X.mg X.base toldN "_law_told" toldS g cdg X.A X.stack s H C8.E0).tr pn xe) (.Call (.Name "_law_look" p9) [] [] p10) (fun τ HZ Q => τ[0]? = some (some (.ref f)) ∧ HZ c' = some (LamX.CodeO c' q) ∧ tl (fun cls d H' => W cls d τ H') HZ Q))
    (mono : ∀ {E E' : XK} {H : Hp} {Q Q' : VK}, (∀ c d H, E c d H → E' c d H) → (∀ v H, Q v H → Q' v H) → tl E H Q → tl E' H Q')
    (hc : H c' = some (LamX.CodeO c' q)) (h : TT X.K C tl H Q) :
    ∃ t, PSs (cxOf C8.CX0 X.prog X.w X.K X.mg X.base toldN "_law_told" toldS g cdg X.A X.stack s H C8.E0)
      [.Assign [.Tuple [.Name "_law_caught" p1, .Name "_law_back" p2] 0 p3] (.Tuple [.Constant .none 0 p4, .Constant .none 0 p5] 0 p6) p7,
        .Try [.Assign [.Name "_law_back" p8] (.Call (.Name "_law_look" p9) [] [] p10) p11] [.ExceptHandler (some (.Name "TurnError" p12)) (some "error") [.Assign [.Name "_law_caught" p13] (.Name "error" p14) p15] p16] [] [] p17,
        .Return (some (.Tuple [.Name "_law_caught" p18, .Name "_law_back" p19] 0 p20)) p21] t ∧ t { nx := fun _ H' => Q .non H', rt := Q } (L2.start toldN [.ref f]) H := by
  refine ⟨_, pss_cons (ps_asg (pe_tup (pa_cons pe_non (pa_cons pe_non pa_nil))) (pg_tup (n := 2) rfl (pgs_cons (pg_name (i := 1) told_nd rfl (.inl rfl)) (pgs_cons (pg_name (i := 2) told_nd rfl (.inl rfl)) pgs_nil))) (by rfl) hw) (pss_cons (ps_try_keep (X := cxOf C8.CX0 X.prog X.w X.K X.mg X.base toldN "_law_told" toldS g cdg X.A X.stack s H C8.E0) (c := .ref C) (i := 3) (j := 1) (tb := fun W De σ H => tAsg (fun τ HZ Q => τ[0]? = some (some (.ref f)) ∧ HZ c' = some (LamX.CodeO c' q) ∧ tl (fun cls d H' => W cls d τ H') HZ Q) (gName 2) De σ H)
    rfl rfl rfl told_nd rfl rfl rfl rfl ⟨rfl, by decide, .inl hme⟩ fun W pn xe tk _ => pss_one (ps_set (X := (cxOf C8.CX0 X.prog X.w X.K X.mg X.base toldN "_law_told" toldS g cdg X.A X.stack s H C8.E0).tr pn xe) (i := 2) told_nd rfl (.inl rfl) (act W pn xe tk) rfl (.inr rfl)))
    (pss_one (ps_ret (pe_tup (pa_cons (pe_var (i := 1) rfl (.inl rfl)) (pa_cons (pe_var (i := 2) rfl (.inl rfl)) pa_nil)))))), ?_⟩
  have z2 : [V.non, V.non].length ≤ sizeLine := by rw [sizeLine_eq]; exact (by decide : 2 ≤ 16777216)
  refine ⟨z2, fun T0 h0 => ⟨T0, [.non, .non], rfl, .inl (.inl upd_same), rfl, .non, _, rfl, .non, _, rfl, rfl, rfl, ?_, ?_⟩⟩
  · rw [upd_ne (ne_of_none hc h0)]
    exact hc
  · have z : [V.ref 0, V.non].length ≤ sizeLine := by rw [sizeLine_eq]; exact (by decide : 2 ≤ 16777216)
    refine mono (fun cls d H' e => ?_) (fun v H' e => ?_) (h T0 h0)
    · obtain ⟨b, e1, e2, e3⟩ := e
      refine ⟨b, e1, fun hb => ?_, e3⟩
      obtain ⟨dd, e4, e5⟩ := e2 hb
      exact ⟨dd, e4, fun a ha => ⟨.ref a, rfl, .non, rfl, z, e5 a ha⟩⟩
    · exact ⟨.non, rfl, v, rfl, z, e⟩
def tTold (P C : Addr) (q : Str) (t : XK → TE) : TE := fun σ H Q => ∃ ps : Array Value, H P = some (.tbl ps) ∧ TriplesOk ps.toList ∧ (∀ (p' : Pos) (cv : Value), codeAmong p' ps.toList = some cv → ∃ c', cv = .ref c' ∧ H c' = some (LamX.CodeO c' q)) ∧
  (∀ H1, (H1 = H ∨ ∃ (ps' : Array Value) (c' : Addr), H c' = none ∧ TriplesOk ps'.toList ∧ (∀ (p' : Pos) (cv : Value), codeAmong p' ps'.toList = some cv → codeAmong p' ps.toList = some cv ∨ cv = .ref c') ∧ H1 = upd (upd H P (.tbl ps')) c' (LamX.CodeO c' q)) →
    TT X.K C (fun E H' Q' => t E σ H' Q') H1 Q)
theorem pe_told {P c : Addr} {k : Nat} {pg : Arguments} {bg : List Stmt} {dV kV doc pm cdv ct oc : Value} {an od : Option Addr} {osl : Array (Option Value)} {params : Arguments} {body : Expr} {scope : Scope} {t : XK → TE} {p lpos pos : Pos}
    (hg : Gl X "_law_told") (hm : X.mg "_law_told" = some (.ref g)) (hk : PySem.W.keepIn X.K (.ref g) = true) (hme : X.mg "TurnError" = some (.ref C))
    (lk : X.K.lookup g = some ⟨oc, od, .func (PySem.W.fnOf "_law_told" "_law_told" pg bg toldS dV kV doc pm an cdv ct), osl⟩) (hcg : PySem.W.codeIn X.K cdv "_law_told" = true) (hb : L2.Binds X.K (PySem.W.fnOf "_law_told" "_law_told" pg bg toldS dV kV doc pm an cdv ct) ["_law_look"] [])
    (hbg : bg = [.Assign [.Tuple [.Name "_law_caught" p1, .Name "_law_back" p2] 0 p3] (.Tuple [.Constant .none 0 p4, .Constant .none 0 p5] 0 p6) p7,
        .Try [.Assign [.Name "_law_back" p8] (.Call (.Name "_law_look" p9) [] [] p10) p11] [.ExceptHandler (some (.Name "TurnError" p12)) (some "error") [.Assign [.Name "_law_caught" p13] (.Name "error" p14) p15] p16] [] [] p17,
        .Return (some (.Tuple [.Name "_law_caught" p18, .Name "_law_back" p19] 0 p20)) p21])
    (hw : ∀ (A : Around) (outer : List Env) (s : Shared) (H : Hp), swappedStores [.Tuple [.Name "_law_caught" p1, .Name "_law_back" p2] 0 p3] (.Tuple [.Constant .none 0 p4, .Constant .none 0 p5] 0 p6) (cxOf C8.CX0 X.prog X.w X.K X.mg X.base toldN "_law_told" toldS g cdv A outer s H C8.E0).env = pure none)
    (TB : LamX.TabB X.base X.mg c P) (hcode : X.env.code = .ref c) (hr : Room (k + 2) X.A) (L : LamX.LamS X.env.scope scope) (hdef : defaultsOf params X.env = ([], []))
    (hbind : ∀ (q : Str) (cl : List (Str × Addr)) (pm cv ctv : Value), bindArgs (PySem.W.kla_fn "<lambda>" q params body scope cl pm cv ctv) ⟨[], []⟩ = pure [])
    (mono : ∀ {E E' : XK} {σ : L2.St} {H : Hp} {Q Q' : VK}, (∀ c d H, E c d H → E' c d H) → (∀ v H, Q v H → Q' v H) → t E σ H Q → t E' σ H Q')
    (hbody : ∀ (A : Around) (outer : List Env) (s : Shared) (H : Hp) (E : XK) (f c' : Addr), Room k (A.deeper (LamX.lamEnv X scope s.heap.objs.size f c')) → PE (LamX.lamCx X A outer s H E scope f c') body (t E)) :
    PE X (.Call (.Name "_law_told" p) [.Lambda params body scope lpos] [] pos) (tTold (X := X) P C (X.env.qual ++ "<lambda>") t) := by
  refine ⟨fun pins s σ H Q I h => ?_⟩
  obtain ⟨ps, hP, ht, ha, h⟩ := h
  refine wpAny_Call_Name_kw (ld_glob I hg hm ?_)
  refine PySem.W.callWith_K (h₀ := X.base) I.ok.mod.kin hk ?_ (by rfl) (by rfl)
  show wpAny _ _ (spliced ((false, eval (.Lambda params body scope lpos) X.env) :: backTo pos (starEach [] X.env))) _ _ s
  have go : ∀ (f c' : Addr) (pm' ctv : Value) (H1 : Hp) (s' : Shared), Inv X pins σ H1 s' → TT X.K C (fun E H' Q' => t E σ H' Q') H1 Q → s'.heap.get? f = some (lamO X params body scope pm' c' ctv) → H1 f = none → f ∉ frs X.stack → H1 c' = some (LamX.CodeO c' (X.env.qual ++ "<lambda>")) →
      wpAny (model X.prog X.w) X.A (call (.ref g) [.ref f]) (EP X pins σ Q) X.xe s' := by
    intro f c' pm' ctv H1 s' I1 hT hf hfn hfr hco
    have rc : codeAny (model X.prog X.w) X.A (.call (.ref g) ⟨[.ref f], []⟩) (CR C8.CX0 X.stack X.prog X.w H1 s' Q C8.E0) s' := by
      refine LamX.run_ofS (N := toldN) (ps := ["_law_look"]) (us := [.ref f]) (vs := [.ref f]) lk hcg told_sc hr I1.env0 (hb s' [.ref f] I1.kIn rfl) (.cons rfl .nil) rfl fun hr' => ?_
      subst hbg
      exact told_body (tl := fun E H' Q' => t E σ H' Q') hme (hw _ _ _ _) (fun W pn xe tk => lam_act (i := 0) I1 L hf hfn hfr (hbind _ _ _ _ _) tk hr' (fun A outer s H E hr2 => hbody A outer s H E f c' hr2) rfl (.inl rfl) (by decide) (by decide)) mono hco hT
    refine wpAny_call (codeAny_mono rc fun r s2 z => ?_)
    match r, z with
    | .error e, z => exact (show False from z).elim
    | .ok (.ret u), z => exact I1.after z
  refine Calls.spliced_cons (lam_made I TB hcode hP ht ha hdef L (fun f c' pm' ctv ps' s' nC J ht' hs' hf hfn hfr => ?_) (fun f c' pm' ctv s' J hco hf hfn hfr => ?_))
  · exact Calls.spliced_nil ⟨J.kIn, go f c' pm' ctv _ s' J (h _ (.inr ⟨ps', c', nC, ht', hs', rfl⟩)) hf hfn hfr upd_same⟩
  · exact Calls.spliced_nil ⟨J.kIn, go f c' pm' ctv H s' J (h H (.inl rfl)) hf hfn hfr hco⟩
end
end MT
set_option Elab.async false
set_option linter.all false
set_option maxRecDepth 100000
namespace MT
open PySem PySem.Spec PyProof.Rows L2 PySem.HandSPX
def toldR (errs : List Str) : Out D → Out D
  | .stuck => .stuck
  | .ok d m => .ok (.tup [.non, d]) m
  | .exc c d m => if c ∈ errs then .ok (.tup [.exc c d, .non]) m else .stuck
def toldE (n : Nat) (x : Str) (errs : List Str) (f : En → Mem → Out D) : En → Mem → Out D := fun r m => match m[n]? with
  | some (.tab x') => if x' = x then toldR errs (f r m) else .stuck
  | _ => .stuck
section
variable {K : PySem.W.Frag} {A : List Addr} {F H : Hp} {m : Mem}
theorem Ok.grow {P c' : Addr} {n : Nat} {x : Str} {ps ps' : Array Value} (o : Ok K A F H m) (hA : A[n]? = some P) (hm : m[n]? = some (.tab x)) (nC : H c' = none) (hP : H P = some (.tbl ps))
    (ht : TriplesOk ps'.toList) (hs : ∀ (p' : Pos) (cv : Value), codeAmong p' ps'.toList = some cv → codeAmong p' ps.toList = some cv ∨ cv = .ref c') :
    Ok K A (L2.upd F c' (LamX.CodeO c' (lamQ x))) (L2.upd (L2.upd H P (.tbl ps')) c' (LamX.CodeO c' (lamQ x))) m ∧ Gr A F H A (L2.upd F c' (LamX.CodeO c' (lamQ x))) (L2.upd (L2.upd H P (.tbl ps')) c' (LamX.CodeO c' (lamQ x))) := by
  obtain ⟨e1, ps0, e2, e3, e4⟩ := o.mem n P _ hA hm
  rw [hP] at e2
  cases e2
  obtain ⟨o1, g1⟩ := o.alloc nC (LamX.CodeO c' (lamQ x))
  have nF : F c' = none := (o.out nC).1
  have hPc : P ≠ c' := ne_of_none hP nC
  have o2 := o1.setH hA (x := .tab x) (u := .tbl ps') ⟨e1, ps', rfl, ht, fun p' cv hc => by
    rcases hs p' cv hc with q | q
    · obtain ⟨c0, f1, f2⟩ := e4 p' cv q
      exact ⟨c0, f1, by rw [upd_ne (ne_of_none f2 nF)]; exact f2⟩
    · exact ⟨c', q, upd_same⟩⟩
  have em : m.set n (.tab x) = m := by
    obtain ⟨hl, he⟩ := List.getElem?_eq_some_iff.mp hm
    rw [← he]
    exact List.set_getElem_self hl
  have eH : L2.upd (L2.upd H c' (LamX.CodeO c' (lamQ x))) P (.tbl ps') = L2.upd (L2.upd H P (.tbl ps')) c' (LamX.CodeO c' (lamQ x)) := by
    funext b
    by_cases z1 : b = c'
    · subst z1
      rw [upd_ne (Ne.symm hPc), upd_same, upd_same]
    · rw [upd_ne (H := L2.upd H P (.tbl ps')) z1]
      by_cases z2 : b = P
      · subst z2
        rw [upd_same, upd_same]
      · rw [upd_ne z2, upd_ne z1, upd_ne z2]
  rw [em, eH] at o2
  have g2 := g1.setH (List.mem_of_getElem? hA) (nofz (by rw [upd_ne hPc]; exact hP)) (u := .tbl ps')
  rw [eH] at g2
  exact ⟨o2, g2⟩
end
section
variable {X : Cx} {E : XK} {x : Str} {n : Nat} {errs : List Str} {f : En → Mem → Out D}
theorem LE.monoX {K : PySem.W.Frag} {E E' : XK} {σ : L2.St} {H : Hp} {Q Q' : VK} (h1 : ∀ c d H, E c d H → E' c d H) (h2 : ∀ v H, Q v H → Q' v H) (h : LE K E f σ H Q) : LE K E' f σ H Q' := by
  obtain ⟨H0, A, F, r, m, o, sl, p⟩ := h
  refine ⟨H0, A, F, r, m, o, sl, ?_⟩
  cases e : f r m with
  | stuck => rw [e] at p; exact p
  | ok d m1 => rw [e] at p; exact fun v A' F' H' g k q => h2 _ _ (p v A' F' H' g k q)
  | exc c d m1 => rw [e] at p; exact fun v dx A' F' H' g k q y z1 z2 z3 => h1 _ _ _ (p v dx A' F' H' g k q y z1 z2 z3)
theorem told_le (hex : ∀ c ∈ errs, PySem.W.exmOne X.K (.ref (He.ga X.K c)) (.ref (He.ga X.K "TurnError")) = some true) (σ : L2.St) (H : Hp) (Q : VK) (h : LE X.K E (toldE n x errs f) σ H Q) :
    tTold (X := X) (tabA X.K x) (He.ga X.K "TurnError") (lamQ x) (fun E => LE X.K E f) σ H Q := by
  obtain ⟨H0, A, F, r, m, o, sl, p⟩ := h
  unfold toldE at p
  cases em : m[n]? with
  | none => rw [em] at p; exact p.elim
  | some mo =>
    rw [em] at p
    cases mo with
    | pot _ _ _ => exact p.elim
    | ins _ _ _ => exact p.elim
    | lst _ => exact p.elim
    | fn => exact p.elim
    | slo _ _ => exact p.elim
    | tab x' =>
      have p1 : Post (RE X.K) X.K E A F H (if x' = x then toldR errs (f r m) else .stuck) (fun _ _ v _ _ H' => Q v H') := p
      by_cases ex : x' = x
      · rw [if_pos ex] at p1
        subst ex
        have hn : n < A.length := by rw [o.len]; exact (List.getElem?_eq_some_iff.mp em).1
        have hA : A[n]? = some A[n] := List.getElem?_eq_getElem hn
        obtain ⟨e1, ps, e2, e3, e4⟩ := o.mem n _ _ hA em
        have hA' : A[n]? = some (tabA X.K x') := by rw [hA, e1]
        rw [e1] at e2
        refine ⟨ps, e2, e3, fun p' cv hc => let ⟨c0, f1, f2⟩ := e4 p' cv hc; ⟨c0, f1, o.sub _ _ f2⟩, fun H1 hH => ?_⟩
        obtain ⟨F1, o1, g1⟩ : ∃ F1, Ok X.K A F1 H1 m ∧ Gr A F H A F1 H1 := by
          rcases hH with rfl | ⟨ps', c', nC, ht, hs, rfl⟩
          · exact ⟨F, o, .refl⟩
          · obtain ⟨q1, q2⟩ := o.grow hA' em nC e2 ht hs
            exact ⟨_, q1, q2⟩
        intro T0 hT0
        obtain ⟨o2, g2⟩ := o1.alloc hT0 (.tup [.non, .non])
        refine ⟨H0, A, _, r, m, o2, (sl.gr g1).gr g2, ?_⟩
        cases ef : f r m with
        | stuck => rw [ef] at p1; exact p1
        | ok d m1 =>
          rw [ef] at p1
          intro v A' F' H' g k rv T hT
          obtain ⟨o3, g3⟩ := k.alloc hT (.tup [.non, v])
          refine p1 (.ref T) A' _ _ (((g1.trans g2).trans g).trans g3) o3 ?_
          simp only [RE, Rep]
          exact ⟨T, [.non, v], rfl, .inl (.inl upd_same), Reps.cons (by simp only [Rep]) (Reps.cons (Rep.fx g3.fx rv) Reps.nil)⟩
        | exc c d m1 =>
          rw [ef] at p1
          have p2 : Post (RE X.K) X.K E A F H (if c ∈ errs then .ok (.tup [.exc c d, .non]) m1 else .stuck) (fun _ _ v _ _ H' => Q v H') := p1
          by_cases hc : c ∈ errs
          · rw [if_pos hc] at p2
            intro v dx A' F' H' g k rv hdx n1 n2 n3
            refine ⟨true, hex c hc, fun _ => ⟨dx, rfl, fun a ha T hT => ?_⟩, fun z => nomatch z⟩
            have k1 := k.freeze hdx n2 n3
            have g3 := g.freeze (u := .xd [("value", v)]) n1 n2
            obtain ⟨k2, g4⟩ := k1.alloc ha (ExD (.ref (He.ga X.K c)) dx a)
            obtain ⟨k3, g5⟩ := k2.alloc hT (.tup [.ref a, .non])
            refine p2 (.ref T) A' _ _ ((((g1.trans g2).trans g3).trans g4).trans g5) k3 ?_
            have fa : L2.upd (L2.upd F' dx (.xd [("value", v)])) a (ExD (.ref (He.ga X.K c)) dx a) a = some (ExD (.ref (He.ga X.K c)) dx a) := upd_same
            have fd : L2.upd (L2.upd F' dx (.xd [("value", v)])) a (ExD (.ref (He.ga X.K c)) dx a) dx = some (.xd [("value", v)]) := g4.fx.f _ _ upd_same
            have rv' : Rep X.K A' (L2.upd F' dx (.xd [("value", v)])) d v := rv.fx ⟨fun b u e => by rw [upd_ne (ne_of_none e n2)]; exact e, List.prefix_refl _⟩
            simp only [RE, Rep]
            refine ⟨T, [.ref a, .non], rfl, .inl (.inl upd_same), Reps.cons ?_ (Reps.cons (by simp only [Rep]) Reps.nil)⟩
            simp only [Rep]
            exact ⟨a, dx, v, rfl, g5.fx.f _ _ fa, g5.fx.f _ _ fd, (rv'.fx g4.fx).fx g5.fx⟩
          · rw [if_neg hc] at p2; exact p2.elim
      · rw [if_neg ex] at p1; exact p1.elim
structure ToldT (P : Program) (w : World) (K : PySem.W.Frag) (mg : Str → Option Value) (base : Heap) : Prop where
  ex : ∃ (g : Addr) (pg : Arguments) (p1 p2 p3 p4 p5 p6 p7 p8 p9 p10 p11 p12 p13 p14 p15 p16 p17 p18 p19 p20 p21 : Pos) (dV kV doc pm cdv ct oc : Value) (an od : Option Addr) (osl : Array (Option Value)) (bg : List Stmt),
    mg "_law_told" = some (.ref g) ∧ PySem.W.keepIn K (.ref g) = true ∧ K.lookup g = some ⟨oc, od, .func (PySem.W.fnOf "_law_told" "_law_told" pg bg toldS dV kV doc pm an cdv ct), osl⟩ ∧ PySem.W.codeIn K cdv "_law_told" = true ∧
    L2.Binds K (PySem.W.fnOf "_law_told" "_law_told" pg bg toldS dV kV doc pm an cdv ct) ["_law_look"] [] ∧
    bg = [.Assign [.Tuple [.Name "_law_caught" p1, .Name "_law_back" p2] 0 p3] (.Tuple [.Constant .none 0 p4, .Constant .none 0 p5] 0 p6) p7,
        .Try [.Assign [.Name "_law_back" p8] (.Call (.Name "_law_look" p9) [] [] p10) p11] [.ExceptHandler (some (.Name "TurnError" p12)) (some "error") [.Assign [.Name "_law_caught" p13] (.Name "error" p14) p15] p16] [] [] p17,
        .Return (some (.Tuple [.Name "_law_caught" p18, .Name "_law_back" p19] 0 p20)) p21] ∧
    ∀ (A : Around) (outer : List Env) (s : Shared) (H : Hp), swappedStores [.Tuple [.Name "_law_caught" p1, .Name "_law_back" p2] 0 p3] (.Tuple [.Constant .none 0 p4, .Constant .none 0 p5] 0 p6) (cxOf C8.CX0 P w K mg base toldN "_law_told" toldS g cdv A outer s H C8.E0).env = pure none
  err : mg "TurnError" = some (.ref (He.ga K "TurnError"))
theorem de_told {k : Nat} {params : Arguments} {body : Expr} {scope : Scope} {p lpos pos : Pos} (T : ToldT X.prog X.w X.K X.mg X.base) (hex : ∀ c ∈ errs, PySem.W.exmOne X.K (.ref (He.ga X.K c)) (.ref (He.ga X.K "TurnError")) = some true)
    (TB : LamX.TabB X.base X.mg (He.cT X.K (x, none)).1 (He.cT X.K (x, none)).2) (hcode : X.env.code = .ref (He.cT X.K (x, none)).1) (hq : X.env.qual ++ "<lambda>" = lamQ x) (hr : Room (k + 2) X.A) (L : LamX.LamS X.env.scope scope)
    (hbody : ∀ (A : Around) (outer : List Env) (s : Shared) (H : Hp) (E : XK) (f' c' : Addr), Room k (A.deeper (LamX.lamEnv X scope s.heap.objs.size f' c')) → PE (LamX.lamCx X A outer s H E scope f' c') body (LE X.K E f))
    (hg : Gl X "_law_told" := by rfl) (hdef : defaultsOf params X.env = ([], []) := by rfl) (hbind : ∀ (q : Str) (cl : List (Str × Addr)) (pm cv ctv : Value), bindArgs (PySem.W.kla_fn "<lambda>" q params body scope cl pm cv ctv) ⟨[], []⟩ = pure [] := by intros; rfl) :
    PE X (.Call (.Name "_law_told" p) [.Lambda params body scope lpos] [] pos) (LE X.K E (toldE n x errs f)) := by
  obtain ⟨g, pg, p1, p2, p3, p4, p5, p6, p7, p8, p9, p10, p11, p12, p13, p14, p15, p16, p17, p18, p19, p20, p21, dV, kV, doc, pm, cdv, ct, oc, an, od, osl, bg, h1, h2, h3, h4, h5, h6, h7⟩ := T.ex
  have key := pe_told (X := X) (t := fun E => LE X.K E f) (p := p) (lpos := lpos) (pos := pos) hg h1 h2 T.err h3 h4 h5 h6 h7 TB hcode hr L hdef hbind (fun a b c => LE.monoX a b c) hbody
  rw [hq] at key
  exact PE.imp key fun σ H Q q => told_le hex σ H Q q
end
end MT
set_option Elab.async false
set_option linter.all false
set_option maxRecDepth 100000
set_option maxHeartbeats 1000000
namespace MT
open PySem PySem.Spec PySem.Calls PyProof.Rows L2 PySem.HandSPX PySem.W
section
variable {prog : Program} {w : World} {A : Around} {E : Value → Shared → Prop} {s : Shared} {K : Frag} {x D : Addr} {ox od : Obj}
theorem exc_class {Q : Option Value → Shared → Prop} (c : ExcC K D) (kin : K.In s.heap) (at_ : InstAt s.heap x ox D (some od)) (h : Q (some (.ref D)) { s with toks := s.toks + 1 }) : wpAny (model prog w) A (getAttr? (.ref x) "__class__") Q E s := by
  have found : findObj K D (some od) "__class__" = some (.bind (.builtin "getset_descriptor.__get__") (.builtin "object.__class__")) := findObj_data (by obtain ⟨cd, hc, _⟩ := any_some c.hd; rw [hc]; rfl) c.ha c.hn c.ht
  obtain ⟨hp, gs, dr, tk, os⟩ := s
  have l0 := at_.type (M := model prog w)
  have b2 : (Value.builtin "BaseException.__getattribute__" == .builtin "object.__getattribute__") = false := by decide +kernel
  have b1 : (onTheHeap (Value.ref D) && (Value.builtin "BaseException.__getattribute__" == .builtin "object.__getattribute__")) = false := by rw [b2]; rfl
  unfold getAttr? getAttrBy? getAttrBy
  refine wpAny_bind (wpAny_mkText (wpAny_bind (wpAny_attempt (wpAny_holding (wpAny_bind (l0.at (wpAny_bind ((looks_findIn (M := model prog w) kin c.hg).at ?_))))))))
  show wpAny _ _ (if (onTheHeap (Value.ref D) && (Value.builtin "BaseException.__getattribute__" == .builtin "object.__getattribute__")) = true then _ else _) _ _ _
  rw [b1, if_neg Bool.false_ne_true]
  unfold getAttrByItsOwn hookBefore
  refine wpAny_bind ?_
  rw [if_pos (show onTheHeap (Value.ref D) = true from rfl)]
  refine (looks_findIn (M := model prog w) kin c.hk).at (wpAny_bind (wpAny_attempt (wpAny_holding ?_)))
  unfold callGetattribute
  rw [show (false && onTheHeap (Value.builtin "BaseException.__getattribute__")) = false from rfl, if_neg Bool.false_ne_true]
  unfold boundAndCalled
  rw [PySem.F.excAttr_ValueError.ga.bind (.ref x)]
  refine wpAny_bind (wpAny_pure ?_)
  show wpAny _ _ (call (.builtin "BaseException.__getattribute__") [.ref x, .str "__class__" tk]) _ _ _
  refine wpAny_call (codeAny_call_builtin PySem.F.excAttr_ValueError.ga.plain PySem.F.entry_bexc_ga (@check_slot (model prog w) _ _ ⟨hp, gs, dr, tk + 1, os⟩ "BaseException.__getattribute__" "BaseException" "__getattribute__" (.ref x) [.str "__class__" tk] [] _ (by decide +kernel) (by decide +kernel) (l0.andThen (looks_subIn kin c.hs)) (PySem.F.args_bexc_ga (.ref x) (.str "__class__" tk)) ?_))
  unfold Builtin.«object.__getattribute__»
  refine wpAny_bind (wpAny_of_eq (a := ((Value.ref x : Value), [Value.str "__class__" tk])) (by first | rfl | (simp only [slotArgs]; rfl)) (wpAny_bind (wpAny_pure (wpAny_bind (l0.at (wpAny_bind ((looks_find (M := model prog w) kin at_ found).at ?_)))))))
  show wpAny _ _ (holding [Value.builtin "object.__class__"] (call (.builtin "getset_descriptor.__get__") [.builtin "object.__class__", .ref x, .ref D]) >>= ret) _ _ _
  refine wpAny_bind (wpAny_holding (wpAny_call (class_get (s := ⟨hp, gs, dr, tk + 1, os⟩) (ox := ox) (od := some od) kin at_ c.hm (wpAny_pure ?_))))
  show wpAny _ _ (handedOut (.ref D)) _ _ _
  rw [handedOut_of (v := .ref D) rfl]
  first
    | exact wpAny_pure (wpAny_pure h)
    | exact wpAny_pure h
    | exact wpAny_pure (wpAny_bind (wpAny_pure (wpAny_pure h)))
theorem kit_exc (c : ExcC K D) : KitX K (.ref x) (.ref D) (fun h => ∃ od, InstAt h x ox D (some od)) where
  ty := fun _ _ _ ⟨_, I⟩ => I.type
  it := fun _ _ kin _ => by
    obtain ⟨cdD, hcD, _⟩ := any_some c.hd
    unfold clsIn at hcD
    split at hcD
    · rename_i z1 z2 z3 z4 ho
      intro A' Q' E' s' k q
      unfold isType loadHead
      exact wpAny_bind (wpAny_loadPart (k _ _ (kin _ _ ho)) (wpAny_pure q))
    · cases hcD
  ne := fun h tp dd its n sl kin htp => by
    obtain ⟨cdD, hcD, _⟩ := any_some c.hd
    refine Bool.eq_false_iff.mpr fun q => ?_
    cases Value.ref.inj (beq_iff_eq.mp q)
    unfold clsIn at hcD
    split at hcD
    · rename_i z1 z2 z3 z4 ho
      cases (kin _ _ ho).symm.trans htp
    · cases hcD
  ca := fun kin ⟨_, I⟩ k => exc_class c kin I k
end
def rIsX (K : Frag) : List V → Hp → VK → Prop := fun xs H Q => (∃ (a C D dx : Addr) (fs : List (Str × V)) (b : Bool), xs = [.ref a, .ref C] ∧ H a = some (ExD (.ref D) dx a) ∧ H dx = some (.xd fs) ∧ ExcC K D ∧ kitOne K (.ref D) (.ref C) = some b ∧ Q (.bl b) H) ∨ rIsi K xs H Q
def isiX (C : Str) (errs : List Str) : List D → Mem → Out D
  | [.exc c _, .glo C'], m => if C' = C ∧ c ∈ errs then .ok (.bl (decide (c = C) || decide (C = "TurnError"))) m else .stuck
  | [.non, .glo C'], m => if C' = C then .ok (.bl false) m else .stuck
  | _, _ => .stuck
def xvD (errs : List Str) : D → Mem → Out D
  | .exc c d, m => if c ∈ errs then .ok d m else .stuck
  | _, _ => .stuck
section
variable {X : Cx} {pins : List (Addr × Obj)} {σ : L2.St} {H : Hp} {s : Shared}
theorem Inv.exc_at {a D dx : Addr} {fs : List (Str × V)} (I : Inv X pins σ H s) (h1 : H a = some (ExD (.ref D) dx a)) (h2 : H dx = some (.xd fs)) : ∃ oe od mA, InstAt s.heap a oe D (some od) ∧ s.heap.get? dx = some od ∧ s.heap.Ns1 dx mA ∧ ∀ f, RelO (fs.lookup f) (mA f) := by
  obtain ⟨⟨oe, vs, e1, e2, e3⟩, _, _⟩ := I.hok a _ h1
  obtain ⟨mA, hns, hr⟩ := I.hok dx _ h2
  obtain ⟨od, ho, hl⟩ := lookIn_ns hns
  exact ⟨oe, od, mA, ⟨e1, e2.1, by unfold notCls; rw [e3] <;> rfl, by rw [e2.2]; exact ho⟩, ho, hns, hr⟩
theorem call_isX : CallR X (.builtin "isinstance") (rIsX X.K) := by
  intro pins s σ H xs us Q I r h
  rcases h with ⟨a, C, D, dx, fs, b, rfl, h1, h2, c, e, q⟩ | h
  · obtain ⟨u1, u2, rfl, r1, r2⟩ := vals2 r
    cases r1
    cases r2
    obtain ⟨oe, od, mA, at_, _⟩ := MT.Inv.exc_at I h1 h2
    exact kia_one (kit_exc (ox := oe) c) I.kIn ⟨od, at_⟩ e (fun z => nomatch z) fun tk => ⟨.bl b, H, I.tok tk, rfl, q⟩
  · exact call_isi pins s σ H xs us Q I r h
end
section
variable {X : Cx} {K : Frag} {E : XK} {C : Str} {errs : List Str} {e : Expr} {f : En → Mem → Out D} {pos : Pos}
theorem RepW.exc {A : List Addr} {F H : Hp} {c : Str} {d : D} {v : V} (r : RepW K A F H (.exc c d) v) : Rep K A F (.exc c d) v := by
  rcases r with r | ⟨_, _, _, _, e, _⟩ | ⟨_, _, _, _, _, e, _⟩
  · exact r
  · cases e
  · cases e
theorem cp_isX (hE : ∀ c ∈ errs, ExcC K (He.ga K c) ∧ kitOne K (.ref (He.ga K c)) (.ref (He.ga K C)) = some (decide (c = C) || decide (C = "TurnError"))) (hN : kitOne K (.type "NoneType") (.ref (He.ga K C)) = some false) : CpA K (rIsX K) (isiX C errs) := by
  intro E A F H m xs vs Q o r p
  unfold isiX at p
  split at p
  · rename_i c d C'
    obtain ⟨v, w, rfl, r1, r2⟩ := r.two
    split at p
    · rename_i hc
      obtain ⟨rfl, hc⟩ := hc
      have r3 := RepW.exc r1
      simp only [Rep] at r3
      obtain ⟨a, dx, u, rfl, e1, e2, e3⟩ := r3
      rw [r2.glo]
      exact .inl ⟨a, _, _, dx, _, _, rfl, o.sub _ _ e1, o.sub _ _ e2, (hE c hc).1, (hE c hc).2, p.ret o rep_bl⟩
    · exact p.elim
  · rename_i C'
    obtain ⟨v, w, rfl, r1, r2⟩ := r.two
    split at p
    · rename_i hc
      subst hc
      rw [r2.glo]
      exact .inr ⟨v, _, .type "NoneType", _, false, rfl, .own _, tyX_of o rfl r1, hN, p.ret o rep_bl⟩
    · exact p.elim
  · exact p.elim
theorem de_xval (hE : ∀ c ∈ errs, XfC X.K (He.ga X.K c) ∧ findIn X.K (.ref (He.ga X.K c)) "value" = some none) (he : PE X e (LW X.K E f)) (hb : attributeBase e "value" X.env (eval e X.env) = eval e X.env := by rfl) :
    PE X (.Attribute e "value" pos) (LE X.K E (bind1 f (xvD errs))) := by
  have key : PE X (.Attribute e "value" pos) (fun σ H Q => LW X.K E f σ H fun x H1 => ∃ (a C dx : Addr) (v : V), x = .ref a ∧ H1 a = some (ExD (.ref C) dx a) ∧ H1 dx = some (.xd [("value", v)]) ∧ XfC X.K C ∧ findIn X.K (.ref C) "value" = some none ∧ Q v H1) := by
    refine ⟨fun pins s σ H Q I h => attr_of hb (thn (he.run pins s σ H _ I h) fun u s1 hh => ?_)⟩
    obtain ⟨x, H1, J, rx, a, C, dx, v, rfl, h1, h2, T, hno, q⟩ := hh
    obtain rfl : u = Value.ref a := rx
    obtain ⟨oe, od, mA, at_, ho, hns, hr⟩ := MT.Inv.exc_at J h1 h2
    obtain ⟨od', ho', hl⟩ := lookIn_ns hns
    rw [ho] at ho'
    cases ho'
    obtain ⟨u, hu, ru⟩ := RelO.some_of (v := v) (o := mA "value") (by have := hr "value"; simpa [List.lookup] using this)
    exact exc_get J.kIn at_ T.ga T.gg T.exC (findObj_own T.hdC hno rfl (by rw [hl, hu])) (handed_of ru) ⟨v, H1, J.tok _, ru, q⟩
  refine PE.imp key fun σ H Q q => LX.un q fun H0 A F r m d v H1 o sl r1 p => ?_
  unfold xvD at p
  split at p
  · rename_i c d
    split at p
    · rename_i hc
      have r3 := RepW.exc r1
      simp only [Rep] at r3
      obtain ⟨a, dx, u, rfl, e1, e2, e3⟩ := r3
      exact ⟨a, _, dx, u, rfl, o.sub _ _ e1, o.sub _ _ e2, (hE c hc).1, (hE c hc).2, p.ret o e3⟩
    · exact p.elim
  · exact p.elim
end
end MT
set_option Elab.async false
set_option linter.all false
set_option maxRecDepth 100000
set_option maxHeartbeats 1000000
namespace MT
open PySem PySem.Spec PySem.Calls PyProof.Rows L2 PySem.HandSPX PySem.W
abbrev ErrW : Type := Option (Str × Str × Arguments × FuncBody × Scope × Addr × List Str × Addr)
def errSee (K : Frag) (c : Str) : ErrW := match findIn K (.ref (He.ga K c)) "__init__" with
  | some (some (.ref fI)) => (match K.lookup fI with
    | some ⟨_, _, .func fd, _⟩ => some (fd.name, fd.qualname, fd.params, fd.body, fd.scope, fd.globals, fd.closure.map (·.1), fd.builtins)
    | _ => none)
  | _ => none
def errVal : ErrW := some ("__init__", "TurnError.__init__", eA, .stmts eB, eS, mainGlobals, ["__class__"], builtinsNs)
def clsB (K : Frag) (C : Addr) : Bool := match K.lookup C with
  | some ⟨.type t, _, .cls cd, sl⟩ => decide (t = "type") && (cd.hasDict && (match cd.mro, sl.toList with
    | .ref C' :: bm, [_, _, _, _, some (.builtin n), _] => decide (C' = C) && (decide (n = "ValueError.__new__") && (refsVE bm && !cd.hasDel))
    | _, _ => false))
  | _ => false
def fileB (file : Str) (K : Frag) (cda : Addr) : Bool := match K.lookup cda with
  | some ⟨_, _, .fields vs, _⟩ => (match vs.toList with
    | _ :: _ :: .str f _ :: _ => file == f
    | _ => false)
  | _ => false
theorem fileB_ok {file : Str} {K : Frag} {cda : Addr} (h : fileB file K cda = true) : ∃ ccl cdd vs ccs f tf, K.lookup cda = some ⟨ccl, cdd, .fields vs, ccs⟩ ∧ vs[2]? = some (.str f tf) ∧ (file == f) = true := by
  unfold fileB at h
  split at h
  · rename_i ccl cdd vs ccs e
    split at h
    · rename_i a b f tf r q
      refine ⟨ccl, cdd, vs, ccs, f, tf, e, ?_, h⟩
      rw [← Array.getElem?_toList, q]
      rfl
    · cases h
  · cases h
def supB (K : Frag) (C cc : Addr) : Bool := match K.lookup cc with
  | some ⟨_, _, .cell (some (.ref D)), _⟩ => (clsIn K D).isSome && (decide (mroIn K C (.ref D) = some true) && decide (ks_superIn K C D "__init__" = some (some (.builtin "ValueError.__init__"))))
  | _ => false
theorem supB_ok {K : Frag} {C cc : Addr} (h : supB K C cc = true) : ∃ cl cld D csl cdD, K.lookup cc = some ⟨cl, cld, .cell (some (.ref D)), csl⟩ ∧ clsIn K D = some cdD ∧ mroIn K C (.ref D) = some true ∧ ks_superIn K C D "__init__" = some (some (.builtin "ValueError.__init__")) := by
  unfold supB at h
  split at h
  · rename_i cl cld D csl e
    simp only [Bool.and_eq_true, decide_eq_true_eq] at h
    obtain ⟨cdD, q⟩ := Option.isSome_iff_exists.mp h.1
    exact ⟨cl, cld, D, csl, cdD, e, q, h.2.1, h.2.2⟩
  · cases h
theorem clsB_ok {K : Frag} {C : Addr} (h : clsB K C = true) : ∃ nm q N bs bm sn sub ab col dd k0 k1 k2 k3 k5, K.lookup C = some (excClassObj nm q C N bs bm true sn sub ab col dd k0 k1 k2 k3 k5 "ValueError.__new__") ∧ refsVE bm = true := by
  unfold clsB at h
  split at h
  · rename_i t dd cd sl e
    simp only [Bool.and_eq_true, decide_eq_true_eq] at h
    obtain ⟨rfl, h2, h⟩ := h
    split at h
    · rename_i C' bm k0 k1 k2 k3 n k5 e1 e2
      simp only [Bool.and_eq_true, decide_eq_true_eq, Bool.not_eq_true'] at h
      obtain ⟨rfl, rfl, h3, h4⟩ := h
      obtain ⟨c1, c2, c3, c4, c5, c6, c7, c8, c9, c10, c11⟩ := cd
      dsimp only at e1 h2 h4
      subst e1 h2 h4
      have e3 : sl = #[k0, k1, k2, k3, some (.builtin "ValueError.__new__"), k5] := by
        rw [← e2]
      subst e3
      exact ⟨_, _, _, _, _, _, _, _, _, _, _, _, _, _, _, e, h3⟩
    · cases h
  · cases h
def inB1 (file : Str) (K : Frag) (C : Addr) (fd : FuncData) : Bool := match fd.closure, fd.code, fd.defaults, fd.kwdefaults with
  | [(_, cc)], .ref cda, .none, .none => codeIn K (.ref cda) "TurnError.__init__" && (supB K C cc && fileB file K cda)
  | _, _, _, _ => false
def inB0 (file : Str) (K : Frag) (C : Addr) : Bool := match findIn K (.ref C) "__init__" with
  | some (some (.ref fI)) => decide (typeIn K (.ref fI) = some (.type "function")) && (match K.lookup fI with
    | some ⟨_, _, .func fd, _⟩ => inB1 file K C fd
    | _ => false)
  | _ => false
def excB (K : Frag) (C : Addr) : Bool := decide (findIn K (.ref C) "__getattribute__" = some (some (.builtin "BaseException.__getattribute__"))) && (decide (findIn K (.ref C) "__getattr__" = some none) && (decide (subIn K (.ref C) (.type "BaseException") = some true) && (hasDictIn K C && (decide (findIn K (.ref C) "__class__" = some (some (.builtin "object.__class__"))) &&
  (decide (specialIn K (.builtin "object.__class__") "__get__" = some (some (.builtin "getset_descriptor.__get__"))) && (decide (takesIn K (.builtin "object.__class__") = some true) && decide (mroIn K C (.type "object") = some true)))))))
theorem excB_ok {K : Frag} {C : Addr} (h : excB K C = true) : ExcC K C ∧ XfC K C := by
  simp only [excB, Bool.and_eq_true, decide_eq_true_eq] at h
  obtain ⟨h1, h2, h3, h4, h5, h6, h7, h8⟩ := h
  exact ⟨⟨h1, h2, h3, h4, h5, h6, h7, h8⟩, ⟨h1, h2, h3, h4⟩⟩
def errB (file : Str) (K : Frag) (c : Str) : Bool := inB0 file K (He.ga K c) && (clsB K (He.ga K c) && (excInitIn K (He.ga K c) veTail "ValueError.__new__" && (decide (findIn K (.ref (He.ga K c)) "__setattr__" = some (some (.builtin "object.__setattr__"))) && (decide (findIn K (.ref (He.ga K c)) "value" = some none) &&
  (keepIn K (.ref (He.ga K c)) && (decide (typeIn K (.ref (He.ga K c)) = some (.type "type")) && (decide (subIn K (.ref (He.ga K c)) (.type "ValueError") = some true) && (excB K (He.ga K c) && (decide (exmOne K (.ref (He.ga K c)) (.ref (He.ga K "TurnError")) = some true) &&
  (decide (kitOne K (.type "NoneType") (.ref (He.ga K c)) = some false) && decide (nsIn K mainGlobals c = some (some (.ref (He.ga K c))))))))))))))
def errsB (file : Str) (K : Frag) (er : List Str) : Bool := decide (nsIn K mainGlobals "super" = some none) && (decide (nsIn K cStatics "thirdparty.any" = some none) && (er.all (errB file K) && er.all fun c => er.all fun C => decide (kitOne K (.ref (He.ga K c)) (.ref (He.ga K C)) = some (decide (c = C) || decide (C = "TurnError")))))
theorem errT_ok {P : Program} {file : Str} {K : Frag} {mg : Str → Option Value} {h : Heap} {er : List Str} {c : Str} (X : K.In h) (G : h.Ns mainGlobals mg) (hs : errSee K c = errVal) (hb : errsB file K er = true) (hc : c ∈ er) (hf : P.main.file = file) (ht : (P.main.scope.names.lookup ("super" : Str)).isSome = false) : ErrT P K mg c := by
  simp only [errsB, Bool.and_eq_true, decide_eq_true_eq, List.all_eq_true] at hb
  obtain ⟨b1, b2, b3, _⟩ := hb
  have b := b3 c hc
  simp only [errB, Bool.and_eq_true, decide_eq_true_eq] at b
  obtain ⟨i0, i1, i2, i3, i4, i5, i6, i7, i8, _, _, i9⟩ := b
  obtain ⟨nm, q, N, bs, bm, sn, sub, ab, col, dd, k0, k1, k2, k3, k5, hC, hbm⟩ := clsB_ok i1
  have hcl : clsIn K (He.ga K c) = some { name := nm, bases := bs, mro := .ref (He.ga K c) :: bm, ns := N, qualname := q, hasDict := true, slotNames := sn, subclasses := sub, abstract := ab, collection := col, hasDel := false } := by unfold clsIn; rw [hC] <;> rfl
  refine ⟨?_, mg_of X G i9, ⟨_, _, _, _, _, _, _, _, _, _, _, _, _, _, _, hC, hbm⟩, i2, i3, i4, i5, (excB_ok i8).1.hs, i6⟩
  unfold inB0 at i0
  unfold errSee at hs
  split at i0
  · rename_i fI e
    rw [e] at hs
    simp only [Bool.and_eq_true, decide_eq_true_eq] at i0
    obtain ⟨t1, t2⟩ := i0
    split at t2
    · rename_i oc od fd osl lk
      have hs2 : (match K.lookup fI with
        | some ⟨_, _, .func fd, _⟩ => (some (fd.name, fd.qualname, fd.params, fd.body, fd.scope, fd.globals, fd.closure.map (·.1), fd.builtins) : ErrW)
        | _ => none) = errVal := hs
      rw [lk] at hs2
      unfold inB1 at t2
      obtain ⟨n1, n2, n3, n4, n5, n6, n7, n8, n9, n10, n11, n12, n13, n14, n15⟩ := fd
      split at t2
      · rename_i nc cc cda e1 e2 e3 e4
        dsimp only at e1 e2 e3 e4
        subst e1 e2 e3 e4
        simp only [Bool.and_eq_true] at t2
        obtain ⟨u1, u2, u3⟩ := t2
        obtain ⟨cl, cld, D, csl, cdD, v1, v2, v3, v4⟩ := supB_ok u2
        obtain ⟨ccl, cdd, vs, ccs, f, tf, w1, w2, w3⟩ := fileB_ok u3
        have hs3 : (some (n1, n2, n3, n4, n5, n6, [nc], n15) : ErrW) = errVal := hs2
        unfold errVal at hs3
        simp only [Option.some.injEq, Prod.mk.injEq, List.cons.injEq, and_true] at hs3
        obtain ⟨rfl, rfl, rfl, rfl, rfl, rfl, rfl, rfl⟩ := hs3
        exact ⟨fI, D, cc, cda, oc, n10, n11, n14, ccl, cl, od, n12, cdd, cld, osl, ccs, csl, vs, f, tf, cdD, _, lk, u1, w1, w2, by rw [hf]; exact w3, ht, v1, v2, v3, b1, b2, v4, i7, e, t1, hcl, hbm, rfl⟩
      · cases t2
    · cases t2
  · cases i0
end MT
set_option Elab.async false
set_option linter.all false
set_option maxRecDepth 100000
set_option maxHeartbeats 1000000
namespace MT
open PySem PySem.Spec PySem.Calls PyProof.Rows L2 PySem.HandSPX PySem.W
def asE (g : Addr → Option Obj) (n : Nat) : List Addr := cStatics :: asB g n
abbrev AlE : Type := AlMT × Bool × List ErrW
def obsE (n : Nat) (fa : List Fb) (fn : List Df) (ts : List Tb) (tf er : List Str) (file : Str) (g : Addr → Option Obj) : AlE :=
  (obsMT fa fn ts (He.frT g (asE g n)), He.tabsB g (tf.map fun x => (x, none)) (He.frT g (asE g n)) && (decide ((tf.map (tabA (He.frT g (asE g n)))).Nodup) && errsB file (He.frT g (asE g n)) er), er.map (errSee (He.frT g (asE g n))))
def valE (fn : List Df) (ts : List Tb) (er : List Str) (w : World) : AlE := (valMT fn ts w, true, er.map fun _ => errVal)
structure SaysE (fa : List Fb) (fn : List Df) (ts : List Tb) (tf er : List Str) (file : Str) (w : World) (h : Heap) (K : Frag) : Prop where
  t : SaysMT fa fn ts w K
  nd : (tf.map (tabA K)).Nodup
  errs : errsB file K er = true
  sees : ∀ c ∈ er, errSee K c = errVal
  hd : ∀ x ∈ tf, codeHdIn K (He.cT K (x, none)).1 (He.cT K (x, none)).2 = true
  out : ∀ x ∈ tf, K.lookup (He.cT K (x, none)).2 = none
  empty : ∀ x ∈ tf, h.get? (He.cT K (x, none)).2 = some { cls := .none, data := .fields #[] }
theorem map_all {α β : Type} {f : α → β} {b : β} : ∀ {l : List α}, l.map f = l.map (fun _ => b) → ∀ a ∈ l, f a = b
  | [], _, a, h => nomatch h
  | x :: l, e, a, h => by
    rw [List.map_cons, List.map_cons] at e
    injection e with e1 e2
    rcases List.mem_cons.mp h with rfl | h
    · exact e1
    · exact map_all e2 a h
theorem saysE_of {n : Nat} {fa : List Fb} {fn : List Df} {ts : List Tb} {tf er : List Str} {file : Str} {w : World} {h : Heap} (e : obsE n fa fn ts tf er file h.get? = valE fn ts er w) : SaysE fa fn ts tf er file w h (He.frT h.get? (asE h.get? n)) := by
  have e1 : obsMT fa fn ts (He.frT h.get? (asE h.get? n)) = valMT fn ts w := congrArg (fun z : AlE => z.1) e
  have e2 : (He.tabsB h.get? (tf.map fun x => (x, none)) (He.frT h.get? (asE h.get? n)) && (decide ((tf.map (tabA (He.frT h.get? (asE h.get? n)))).Nodup) && errsB file (He.frT h.get? (asE h.get? n)) er)) = true := congrArg (fun z : AlE => z.2.1) e
  have e3 : er.map (errSee (He.frT h.get? (asE h.get? n))) = er.map fun _ => errVal := congrArg (fun z : AlE => z.2.2) e
  obtain ⟨h1, h0⟩ := He.ba e2
  obtain ⟨hnd, h2⟩ := He.ba h0
  have key : ∀ x ∈ tf, codeHdIn (He.frT h.get? (asE h.get? n)) (He.cT (He.frT h.get? (asE h.get? n)) (x, none)).1 (He.cT (He.frT h.get? (asE h.get? n)) (x, none)).2 = true ∧ ∃ o, h.get? (He.cT (He.frT h.get? (asE h.get? n)) (x, none)).2 = some o ∧ He.emptyTab o = true := fun x hx => by
    obtain ⟨q1, q2⟩ := He.ba (List.all_eq_true.mp h1 (x, none) (List.mem_map.mpr ⟨x, hx, rfl⟩))
    refine ⟨q1, ?_⟩
    cases z : h.get? (He.cT (He.frT h.get? (asE h.get? n)) (x, none)).2 with
    | none => rw [z] at q2; cases q2
    | some o => rw [z] at q2; exact ⟨o, rfl, q2⟩
  exact ⟨e1, of_decide_eq_true hnd, h2, map_all e3, fun x hx => (key x hx).1, fun x hx => let ⟨_, _, q, z⟩ := key x hx; He.frT_none q z, fun x hx => by
    obtain ⟨_, o, q, z⟩ := key x hx
    rw [q, He.emptyTab_eq z]⟩
def hookE (n : Nat) (fa : List Fb) (fn : List Df) (ts : List Tb) (tf er : List Str) (file : Str) : Hook where
  α := AlE
  obs := fun s => obsE n fa fn ts tf er file s.heap.get?
  val := fun w => valE fn ts er w
  says := fun w h => ∃ K : Frag, K.In h ∧ SaysE fa fn ts tf er file w h K
  of := fun _ _ e => ⟨_, He.frT_in, saysE_of e⟩
  keeps := fun _ _ _ ⟨K, hK, c⟩ k => ⟨K, Frag.In.keeps hK k, c.t, c.nd, c.errs, c.sees, c.hd, c.out, fun x hx => k _ _ (c.empty x hx)⟩
theorem obsE_eq {n : Nat} {fa : List Fb} {fn : List Df} {ts : List Tb} {tf er : List Str} {file : Str} {g : Addr → Option Obj} {s : Shared} (h : ∀ a, g a = s.heap.get? a) : obsE n fa fn ts tf er file g = (hookE n fa fn ts tf er file).obs s := by
  have e : g = s.heap.get? := funext h
  rw [e] <;> rfl
structure Tl (P : Program) (fa : List Fb) (fn : List Df) (ts : List Tb) (tf er : List Str) (w : World) (K : Frag) (mg : Str → Option Value) (base : Heap) : Prop extends Tz fa fn ts w K mg where
  tb : ∀ (i : Nat) {x : Str}, tf[i]? = some x → LamX.TabB base mg (He.cT K (x, none)).1 (He.cT K (x, none)).2
  err : ∀ (i : Nat) {c : Str}, er[i]? = some c → ErrT P K mg c
  exm : ∀ c ∈ er, exmOne K (.ref (He.ga K c)) (.ref (He.ga K "TurnError")) = some true
  isx : ∀ (i : Nat) {C : Str}, er[i]? = some C → ∀ c ∈ er, ExcC K (He.ga K c) ∧ kitOne K (.ref (He.ga K c)) (.ref (He.ga K C)) = some (decide (c = C) || decide (C = "TurnError"))
  isn : ∀ (i : Nat) {C : Str}, er[i]? = some C → kitOne K (.type "NoneType") (.ref (He.ga K C)) = some false
  xf : ∀ c ∈ er, XfC K (He.ga K c) ∧ findIn K (.ref (He.ga K c)) "value" = some none
  gle : ∀ (i : Nat) {C : Str}, er[i]? = some C → mg C = some (.ref (He.ga K C))
theorem Tl.of {P : Program} {fa : List Fb} {fn : List Df} {ts : List Tb} {tf er : List Str} {file : Str} {w : World} {K : Frag} {mg : Str → Option Value} {h base : Heap} (X : K.In h) (G : h.Ns mainGlobals mg) (c : SaysE fa fn ts tf er file w h K) (hf : P.main.file = file) (ht : (P.main.scope.names.lookup ("super" : Str)).isSome = false)
    (tb : ∀ x ∈ tf, LamX.TabB base mg (He.cT K (x, none)).1 (He.cT K (x, none)).2) : Tl P fa fn ts tf er w K mg base := by
  have hb := c.errs
  have hE := fun c' hc' => errT_ok (P := P) X G (c.sees c' hc') c.errs hc' hf ht
  simp only [errsB, Bool.and_eq_true, decide_eq_true_eq, List.all_eq_true] at hb
  obtain ⟨_, _, b3, b4⟩ := hb
  have each : ∀ c ∈ er, excB K (He.ga K c) = true ∧ exmOne K (.ref (He.ga K c)) (.ref (He.ga K "TurnError")) = some true ∧ kitOne K (.type "NoneType") (.ref (He.ga K c)) = some false ∧ findIn K (.ref (He.ga K c)) "value" = some none := fun c' hc' => by
    have b := b3 c' hc'
    simp only [errB, Bool.and_eq_true, decide_eq_true_eq] at b
    obtain ⟨_, _, _, _, i4, _, _, _, i8, i9, i10, _⟩ := b
    exact ⟨i8, i9, i10, i4⟩
  exact ⟨Tz.of X G c.t, fun i x e => tb x (List.mem_of_getElem? e), fun i c' e => hE c' (List.mem_of_getElem? e), fun c' hc' => (each c' hc').2.1,
    fun i C e c' hc' => ⟨(excB_ok (each c' hc').1).1, b4 c' hc' C (List.mem_of_getElem? e)⟩, fun i C e => (each C (List.mem_of_getElem? e)).2.2.1, fun c' hc' => ⟨(excB_ok (each c' hc').1).2, (each c' hc').2.2.2⟩,
    fun i C e => (hE C (List.mem_of_getElem? e)).gC⟩
abbrev BodyC (P : Program) (w : World) (K : Frag) (mg : Str → Option Value) (base : Heap) (N : List Str) (x : Str) (scope : Scope) (body : List Stmt) (k : Nat) (b : En → Mem → SOut) : Prop :=
  ∀ (A : Around) (outer : List Env) (s : Shared) (H : Hp) (E : XK), A.guards = some [] → Room k (A.deeper (envOfC x scope s.heap.objs.size (He.ga K x) (.ref (He.cT K (x, none)).1))) → ∀ (A0 : List Addr) (F0 : Hp), PSs (cxOf (L2.CX P w) P w K mg base N x scope (He.ga K x) (.ref (He.cT K (x, none)).1) A outer s H E) body (LS K E A0 F0 H b)
section
variable {P : Program} {w : World} {fa : List Fb} {fn : List Df} {K : Frag} {mg : Str → Option Value} {base : Heap} {x : Str} {params : Arguments} {body : List Stmt} {scope : Scope} {N ps : List Str} {k : Nat} {b : En → Mem → SOut}
theorem fnC_ok {dvs : List V} {kws : List (Str × V)} {fd : FuncData} (F : FunD K x x params body scope dvs kws (He.ga K x) fd) (S : FnScope N ps scope) (hb : BodyC P w K mg base N x scope body k b) : FnG P w K mg base (L2.CX P w) (k + 1) (He.ga K x) fd ps (SpF K (runF ps.length N.length b)) := by
  have key : ∀ vs H Q E, SpF K (runF ps.length N.length b) vs H Q E → vs.length = ps.length ∧ ∃ A F ds m, Ok K A F H m ∧ Reps K A F ds vs ∧ Post (RE K) K E A F H (match b (enOf N.length ds) m with
      | .ret d m => .ok d m
      | .next _ m => .ok .non m
      | .exc c d m => .exc c d m
      | _ => .stuck) (QE Q) := by
    rintro vs H Q E ⟨A, F, ds, m, o, r, p⟩
    unfold runF at p
    by_cases c : ds.length = ps.length
    · rw [if_pos c] at p
      exact ⟨r.length.symm.trans c, A, F, ds, m, o, r, p⟩
    · rw [if_neg c] at p; exact p.elim
  obtain ⟨oc, od, dV, kV, doc, pm, an, cdv, ct, osl, rfl, lk, hcd, _, _⟩ := F.ex
  obtain ⟨c, rfl⟩ := He.codeIn_ref hcd
  have ec : (He.cT K (x, none)).1 = c := He.codeOf_eq (p := (x, none)) lk rfl
  subst ec
  refine ⟨fun vs H Q E h => (key vs H Q E h).1, fun A out s H args us vs Q E gd hr en hbd r hsp => ?_⟩
  have KX : K.In s.heap := en.mod.kin.keeps fun b o q => (en.bs b o q).1
  have kinds : ∀ y ∈ ps.zip us, scope.names.lookup y.1 = some .local ∨ (scope.names.lookup y.1 = some .cell ∧ ((cellsFrom (s.heap.objs.size + 1) scope.names []).lookup y.1).isSome = true) := by
    rintro ⟨y, v⟩ hy
    exact (S.par y (List.of_mem_zip hy).1).imp (fun q => q) fun q => ⟨q, PySem.W.cellsFrom_some _ _ _ (.inl q)⟩
  refine codeAny_call_function hr.depth (KX _ _ lk) rfl S.co S.gen rfl (PySem.W.codeRec_of KX hcd) (hbd _ _ _ _ (wpAny_newFunctionEnv_cells S.kind kinds ?_))
  rintro env rfl s1 st
  refine ⟨(en.mod.nolimit.keeps fun b o q => (en.bs b o q).1).keeps st.toInCall.keep, codeAny_func ?_⟩
  obtain ⟨_, A0, F0, ds, m, o, rr, p⟩ := key vs H Q E hsp
  refine wpAny_mono ((hb A out s H E gd (hr.deeper _) A0 F0).run [] s1 (L2.start N vs) H { nx := fun _ H' => Q .non H', rt := Q } (inv_start S hr.hd en (key vs H Q E hsp).1 r st) ⟨A0, F0, _, m, .refl, o, slots_start rr, ?_⟩) (fun fl s' z => ?_) fun e s' z => z
  · cases e : b (enOf N.length ds) m with
    | stuck => rw [e] at p; exact p
    | next r1 m1 => rw [e] at p; exact fun s1 A1 F1 H1 x g1 o1 sl1 => p .non A1 F1 H1 g1 o1 (by simp only [RE, Rep])
    | brk r1 m1 => rw [e] at p; exact p.elim
    | ret d m1 => rw [e] at p; exact fun v A1 F1 H1 g1 o1 r1 => p v A1 F1 H1 g1 o1 r1
    | exc c d m1 => rw [e] at p; exact p
  · cases fl with
    | ret u =>
      obtain ⟨v, σ', H', J, rv, q⟩ := z
      exact ⟨v, H', J.os, J.bare, J.base, J.hok, rv, q⟩
    | next =>
      obtain ⟨σ', H', J, q⟩ := z
      exact ⟨.non, H', J.os, J.bare, J.base, J.hok, rfl, q⟩
    | brk => exact False.elim z.choose_spec.choose_spec.2
    | cont => exact False.elim z.choose_spec.choose_spec.2
theorem mk_defC (T : Tx fa fn K mg) (i j : Nat) (hd : fn[i]? = some ⟨.glo x, x, x, params, body, scope, []⟩) (hg : fa[j]? = some (.old (.glo x))) (S : FnScope N ps scope) (bind : BindN x x params body scope ps) (hb : BodyC P w K mg base N x scope body k b) :
    CallG P w K mg base (k + 1) x (runF ps.length N.length b) := by
  obtain ⟨fd, F⟩ := T.says.def_ i hd
  exact ⟨_, fd, ps, [], [], [], _, fnC_ok F S hb, T.glo j hg, F.kp, F.bindsN bind, .nil, fun _ _ => Reps.nil, nodd⟩
theorem mk_told (T : Tx fa fn K mg) (i j : Nat) {body : List Stmt} (hd : fn[i]? = some ⟨.glo "_law_told", "_law_told", "_law_told", params, body, toldS, []⟩) (hg : fa[j]? = some (.old (.glo "_law_told"))) (bind : BindN "_law_told" "_law_told" params body toldS ["_law_look"]) (he : mg "TurnError" = some (.ref (He.ga K "TurnError")))
    (hbody : ∃ p1 p2 p3 p4 p5 p6 p7 p8 p9 p10 p11 p12 p13 p14 p15 p16 p17 p18 p19 p20 p21 : Pos, body = [.Assign [.Tuple [.Name "_law_caught" p1, .Name "_law_back" p2] 0 p3] (.Tuple [.Constant .none 0 p4, .Constant .none 0 p5] 0 p6) p7,
        .Try [.Assign [.Name "_law_back" p8] (.Call (.Name "_law_look" p9) [] [] p10) p11] [.ExceptHandler (some (.Name "TurnError" p12)) (some "error") [.Assign [.Name "_law_caught" p13] (.Name "error" p14) p15] p16] [] [] p17,
        .Return (some (.Tuple [.Name "_law_caught" p18, .Name "_law_back" p19] 0 p20)) p21] ∧ ∀ (g : Addr) (cdv : Value) (A : Around) (outer : List Env) (s : Shared) (H : Hp), swappedStores [.Tuple [.Name "_law_caught" p1, .Name "_law_back" p2] 0 p3] (.Tuple [.Constant .none 0 p4, .Constant .none 0 p5] 0 p6) (cxOf C8.CX0 P w K mg base toldN "_law_told" toldS g cdv A outer s H C8.E0).env = pure none) : ToldT P w K mg base := by
  obtain ⟨fd, F⟩ := T.says.def_ i hd
  have kp := F.kp
  have bi := F.bindsN bind
  obtain ⟨oc, od, dV, kV, doc, pm, an, cdv, ct, osl, rfl, lk, hcd, _, _⟩ := F.ex
  obtain ⟨p1, p2, p3, p4, p5, p6, p7, p8, p9, p10, p11, p12, p13, p14, p15, p16, p17, p18, p19, p20, p21, rfl, hl⟩ := hbody
  exact ⟨⟨_, params, p1, p2, p3, p4, p5, p6, p7, p8, p9, p10, p11, p12, p13, p14, p15, p16, p17, p18, p19, p20, p21, dV, kV, doc, pm, cdv, ct, oc, an, od, osl, _, T.glo j hg, kp, lk, hcd, bi, rfl, fun A outer s H => hl _ _ A outer s H⟩, he⟩
end
section
variable {P : Program} {w : World} {K : Frag} {mg mb : Str → Option Value} {k : Nat} {fa a : Addr} {fd : FuncData} {x : Str} {sp : Sp} {s1 : Shared} {vs : List Value} {ns : List Int} {cs : List (Addr × Addr)}
structure Begin (K : Frag) (h : Heap) (a : Addr) (cs : List (Addr × Addr)) (H : Hp) : Prop where
  tab : ∀ p ∈ cs, H p.2 = some (.tbl #[])
  any : ∀ b, H b = none ∨ b ∈ cs.map (·.2) ∨ ∃ o xs, H b = some (.frz o (.lst xs))
  only : ∀ b, H b ≠ none → b = a ∨ b ∈ cs.map (·.2)
  nok : H a ≠ none → K.lookup a = none
theorem end_tabs (KX : K.In s1.heap) (hns : s1.heap.Ns mainGlobals mg) (hb : s1.heap.Ns builtinsNs mb) (hbb : ∀ x : Str, x ≠ "__name__" → mb x = bootBuiltins x) (hlim : s1.heap.NoLimit) (hg : s1.gens = #[])
    (hT : ∀ p ∈ cs, s1.heap.get? p.2 = some { cls := .none, data := .fields #[] }) (nT : ∀ p ∈ cs, K.lookup p.2 = none) (C : ∀ p ∈ cs, CodeHd s1.heap p.1 p.2)
    (hbm : ∃ (bm : Addr) (ob : Obj), mg "__builtins__" = some (.ref bm) ∧ bm ≠ builtinsNs ∧ s1.heap.get? bm = some ob ∧ ob.cls = .type "module" ∧ ob.dict = some builtinsNs ∧ ob.data = .plain)
    (ha : s1.heap.get? a = some { cls := .type "list", data := .seq vs.toArray }) (hr : Room k callerA)
    (F : ∀ base : Heap, K.In base → base.Ns mainGlobals mg → (∀ p ∈ cs, LamX.TabB base mg p.1 p.2) → FnG P w K mg base (L2.CX P w) k fa fd [x] sp) (hbind : ∀ (s : Shared) (u : Value), BindsTo s fd ⟨[u], []⟩ [(x, u)])
    {H : Hp} (B : Begin K s1.heap a cs H) (hok : HOk P w H s1.heap) (hsp : sp [.ref a] H (fun v _ => v = .bl true) fun _ _ _ => False) :
    codeAny (model P w) callerA (.call (.ref fa) ⟨[.ref a], []⟩) (fun r s' => r = .ok (.ret (.bool true)) ∧ OldK s1.heap s'.heap ∧ s'.os = s1.os ∧ AllBare s'.gens) s1 := by
  have isT : ∀ b : Addr, b ∈ cs.map (·.2) → s1.heap.get? b = some { cls := .none, data := .fields #[] } := fun b hb => by
    obtain ⟨p, hp, rfl⟩ := List.mem_map.mp hb
    exact hT p hp
  have clear : ∀ {b : Addr} {o : Obj}, s1.heap.get? b = some o → (∀ ws n, o.data ≠ .seq ws n) → o.data ≠ .fields #[] → H b = none := fun {b o} e h1 h2 => Classical.byContradiction fun z => by
    rcases B.only b z with rfl | q
    · rw [ha] at e
      cases e
      exact h1 _ _ rfl
    · rw [isT b q] at e
      cases e
      exact h2 rfl
  have nsB : ∀ {b : Addr} {m : Str → Option Value}, s1.heap.Ns b m → (hidT s1.heap H).Ns b m := fun ⟨o, es, ep, e, d, r⟩ => ⟨o, es, ep, hidT_get e (clear e (fun ws n z => by rw [d] at z; cases z) fun z => by rw [d] at z; cases z), d, r⟩
  have KB : K.In (hidT s1.heap H) := fun b o e => hidT_get (KX b o e) (Classical.byContradiction fun z => by
    rcases B.only b z with rfl | q
    · rw [B.nok z] at e; cases e
    · obtain ⟨p, hp, rfl⟩ := List.mem_map.mp q
      rw [nT p hp] at e; cases e)
  have md : Mod K mg (hidT s1.heap H) := ⟨KB, nsB hns, ⟨mb, nsB hb, hbb⟩, hlim.elim fun mc h => ⟨mc, nsB h.1, h.2⟩⟩
  have TB : ∀ p ∈ cs, LamX.TabB (hidT s1.heap H) mg p.1 p.2 := fun p hp => by
    refine ⟨?_, ?_, fun z => ?_⟩
    · obtain ⟨o, us, file, tf, flags, tg, inF, text, tt, e1, r1, r2, r3, r4⟩ := C p hp
      refine ⟨o, us, file, tf, flags, tg, inF, text, tt, hidT_get e1 (clear e1 (fun ws n z => by rw [r2] at z; cases z) fun z => ?_), r1, r2, r3, r4⟩
      rw [r2] at z
      cases z
      simp at r3
    · obtain ⟨bm, ob, b1, b2, b3, b4, b5, b6⟩ := hbm
      refine ⟨bm, ob, b1, b2, fun q => ?_, fun q => ?_, hidT_get b3 (clear b3 (fun ws n z => by rw [b6] at z; cases z) fun z => by rw [b6] at z; cases z), b4, b5, b6⟩
      · obtain ⟨o, es, ep, e, hd, _⟩ := hns
        rw [q, e] at b3
        cases b3
        rw [hd] at b6
        cases b6
      · rw [q, hT p hp] at b3
        cases b3
        cases b6
    · obtain ⟨o, es, ep, e, hd, _⟩ := hns
      rw [z, hT p hp] at e
      cases e
      cases hd
  have en : Env0 P w K mg (hidT s1.heap H) callerA [] s1 H := ⟨rfl, md, fun b o e => of_hidT e, Nat.le_of_eq (hidT_size _ _), trivial, fun b z => (nomatch (show b ∈ ([] : List Addr) from z)), hok, .of_eq hg⟩
  refine codeAny_mono ((F _ KB (nsB hns) TB).run callerA [] s1 H ⟨[.ref a], []⟩ [.ref a] [.ref a] _ _ rfl hr en (hbind s1 (.ref a)) (.cons rfl .nil) hsp) fun r s' z => ?_
  match r, z with
  | .error e, z =>
    obtain ⟨_, _, _, _, _, _, _, _, _, _, _, _, y⟩ := z
    exact y.elim
  | .ok (.ret u), z =>
    obtain ⟨v, H', os, bare, un, hok', rv, q⟩ := z
    have q' : v = .bl true := q
    subst q'
    obtain rfl : u = Value.bool true := rv
    have stay : ∀ b o, b ∉ cs.map (·.2) → s1.heap.get? b = some o → s'.heap.get? b = some o := fun b o nb e => by
      rcases B.any b with n | q | ⟨ob, xs, y⟩
      · exact un.keep b o e n (fun z => nomatch (show b ∈ ([] : List Addr) from z)) (by simp)
      · exact absurd q nb
      · obtain ⟨e1, _⟩ := hok b _ y
        obtain ⟨e2, _⟩ := hok' b _ (un.frzs b ob _ y)
        rw [e] at e1
        cases e1
        exact e2
    have more : ∀ p ∈ cs, ∃ ws : Array Value, s'.heap.get? p.2 = some { cls := .none, data := .fields ws } := fun p hp => by
      obtain ⟨ws, y⟩ := un.tbls p.2 #[] (B.tab p hp)
      exact ⟨_, hok' p.2 _ y⟩
    refine ⟨rfl, ⟨fun b o e => ?_, fun b o e => ?_⟩, os, bare⟩
    · by_cases q : b ∈ cs.map (·.2)
      · obtain ⟨p, hp, rfl⟩ := List.mem_map.mp q
        obtain ⟨ws, hw⟩ := more p hp
        rw [hT p hp] at e
        cases e
        exact .inr (.inl ⟨((C p hp).tab (hT p hp)).isCodeTable, rfl, #[], ws, rfl, by rw [Array.empty_append]; exact hw⟩)
      · exact .inl (stay b o q e)
    · by_cases q : b ∈ cs.map (·.2)
      · obtain ⟨p, hp, rfl⟩ := List.mem_map.mp q
        exact ⟨_, (more p hp).choose_spec⟩
      · exact ⟨o, stay b o q e⟩
end
theorem law_callGT {P : Program} {w : World} {K : Frag} {mg mb : Str → Option Value} {k : Nat} {fa a : Addr} {fd : FuncData} {x : Str} {sp : Sp} {s1 : Shared} {vs : List Value} {ns : List Int} {cs : List (Addr × Addr)}
    (KX : K.In s1.heap) (hns : s1.heap.Ns mainGlobals mg) (hb : s1.heap.Ns builtinsNs mb) (hbb : ∀ x : Str, x ≠ "__name__" → mb x = bootBuiltins x) (hlim : s1.heap.NoLimit) (hg : s1.gens = #[])
    (hT : ∀ p ∈ cs, s1.heap.get? p.2 = some { cls := .none, data := .fields #[] }) (nT : ∀ p ∈ cs, K.lookup p.2 = none) (C : ∀ p ∈ cs, CodeHd s1.heap p.1 p.2)
    (hbm : ∃ (bm : Addr) (ob : Obj), mg "__builtins__" = some (.ref bm) ∧ bm ≠ builtinsNs ∧ s1.heap.get? bm = some ob ∧ ob.cls = .type "module" ∧ ob.dict = some builtinsNs ∧ ob.data = .plain)
    (ha : s1.heap.get? a = some { cls := .type "list", data := .seq vs.toArray }) (hi : IntsAre vs ns) (hl : ns.length ≤ sizeLine) (hr : Room k callerA)
    (F : ∀ base : Heap, K.In base → base.Ns mainGlobals mg → (∀ p ∈ cs, LamX.TabB base mg p.1 p.2) → FnG P w K mg base (L2.CX P w) k fa fd [x] sp) (hbind : ∀ (s : Shared) (u : Value), BindsTo s fd ⟨[u], []⟩ [(x, u)])
    (hsp : ∀ H : Hp, (∀ p ∈ cs, H p.2 = some (.tbl #[])) → a ∉ cs.map (·.2) → SqL K H a (ns.map V.int) → sp [.ref a] H (fun v _ => v = .bl true) fun _ _ _ => False) :
    codeAny (model P w) callerA (.call (.ref fa) ⟨[.ref a], []⟩) (fun r s' => r = .ok (.ret (.bool true)) ∧ OldK s1.heap s'.heap ∧ s'.os = s1.os ∧ AllBare s'.gens) s1 := by
  have rv := vals_ints hi
  have aT : a ∉ cs.map (·.2) := fun z => by
    obtain ⟨p, hp, e⟩ := List.mem_map.mp z
    have q := hT p hp
    rw [e, ha] at q
    cases congrArg Obj.data (Option.some.inj q)
  have tabOk : ∀ {H : Hp} {b : Addr} {u : HO}, b ∈ cs.map (·.2) → some (HO.tbl #[]) = some u → ObjOk P w H s1.heap b u := fun {H b u} hb e => by
    cases e
    obtain ⟨p, hp, rfl⟩ := List.mem_map.mp hb
    exact hT p hp
  cases hk : K.lookup a with
  | some o =>
    have e := KX a o hk
    rw [ha] at e
    cases e
    have at_ : ∀ b, b ∈ cs.map (·.2) → (fun b => if b ∈ cs.map (·.2) then some (HO.tbl #[]) else none : Hp) b = some (.tbl #[]) := fun b hb => if_pos hb
    have no_ : ∀ b, b ∉ cs.map (·.2) → (fun b => if b ∈ cs.map (·.2) then some (HO.tbl #[]) else none : Hp) b = none := fun b hb => if_neg hb
    refine end_tabs KX hns hb hbb hlim hg hT nT C hbm ha hr F hbind ⟨fun p hp => at_ _ (List.mem_map.mpr ⟨p, hp, rfl⟩), fun b => (Classical.em (b ∈ cs.map (·.2))).elim (fun q => .inr (.inl q)) fun q => .inl (no_ b q), fun b z => .inr (Classical.byContradiction fun q => z (no_ b q)), fun z => absurd (no_ a aT) z⟩ (fun b u z => ?_)
      (hsp _ (fun p hp => at_ _ (List.mem_map.mpr ⟨p, hp, rfl⟩)) aT (.inr ⟨_, vs.toArray, _, hk, rfl, rfl, rfl, by rw [List.size_toArray, hi.length]; exact hl, by simpa using rv⟩))
    by_cases q : b ∈ cs.map (·.2)
    · exact tabOk q ((at_ b q).symm.trans z)
    · cases (no_ b q).symm.trans z
  | none =>
    let H : Hp := fun b => if b = a then some (.frz { cls := .type "list", data := .seq vs.toArray } (.lst (ns.map V.int))) else if b ∈ cs.map (·.2) then some (.tbl #[]) else none
    have ea : H a = some (.frz { cls := .type "list", data := .seq vs.toArray } (.lst (ns.map V.int))) := if_pos rfl
    have at_ : ∀ b, b ∈ cs.map (·.2) → H b = some (.tbl #[]) := fun b hb => (if_neg (show ¬ b = a from fun z => aT (by rw [← z]; exact hb))).trans (if_pos hb)
    have no_ : ∀ b, b ≠ a → b ∉ cs.map (·.2) → H b = none := fun b h1 h2 => (if_neg h1).trans (if_neg h2)
    refine end_tabs (H := H) KX hns hb hbb hlim hg hT nT C hbm ha hr F hbind ⟨fun p hp => at_ _ (List.mem_map.mpr ⟨p, hp, rfl⟩), fun b => ?_, fun b z => ?_, fun _ => hk⟩ (fun b u z => ?_) (hsp H (fun p hp => at_ _ (List.mem_map.mpr ⟨p, hp, rfl⟩)) aT (.inl (.inr ⟨_, ea⟩)))
    · by_cases h1 : b = a
      · exact .inr (.inr ⟨_, _, h1 ▸ ea⟩)
      · by_cases h2 : b ∈ cs.map (·.2)
        · exact .inr (.inl h2)
        · exact .inl (no_ b h1 h2)
    · by_cases h1 : b = a
      · exact .inl h1
      · exact .inr (Classical.byContradiction fun h2 => z (no_ b h1 h2))
    · by_cases h1 : b = a
      · subst h1
        cases ea.symm.trans z
        exact ⟨ha, by rw [List.length_map]; exact hl, vs, _, rv, ha⟩
      · by_cases h2 : b ∈ cs.map (·.2)
        · exact tabOk h2 ((at_ b h2).symm.trans z)
        · cases (no_ b h1 h2).symm.trans z
theorem walk_GT {l : OpenLaw} {n k : Nat} {q : Program} {loose : List Str} {XP : (Str → Option Value) → Heap → Prop} {YP : World → Heap → Prop} {d : DefRec} {x : Str} (hn : l.most = some n) (hn2 : n ≤ sizeLine) (hdf : d.params.defaults = []) (hr : Room k callerA)
    (F : ∀ (w : World) (mg : Str → Option Value) (fa : Addr) (h : Heap), YP w h → h.Ns mainGlobals mg → mg d.name = some (.ref fa) →
      ∃ (K : Frag) (fd : FuncData) (cs : List (Addr × Addr)) (sp : Sp), K.In h ∧ (∀ p ∈ cs, h.get? p.2 = some { cls := .none, data := .fields #[] }) ∧ (∀ p ∈ cs, K.lookup p.2 = none) ∧ (∀ p ∈ cs, CodeHd h p.1 p.2) ∧ (∀ (s : Shared) (u : Value), BindsTo s fd ⟨[u], []⟩ [(x, u)]) ∧
        (∀ (H : Hp) (a : Addr) (ns : List Int), ns.length ≤ n → (∀ z ∈ ns, Builtin.Int.intBits z ≤ 1048576) → (∀ p ∈ cs, H p.2 = some (.tbl #[])) → a ∉ cs.map (·.2) → SqL K H a (ns.map V.int) → sp [.ref a] H (fun v _ => v = .bl true) fun _ _ _ => False) ∧
        ∀ base : Heap, K.In base → base.Ns mainGlobals mg → (∀ p ∈ cs, LamX.TabB base mg p.1 p.2) → FnG l.prog w K mg base (L2.CX l.prog w) k fa fd [x] sp) :
    WalkO q loose XP YP l.row.toRowW d [] (fun f vs => PySem.call f vs) := by
  refine Att.attach_callB hn hdf fun w s0 s1 mg mb fa o pm cd doc a vs ns G Y ho hd hcd hmg hobj hints hlen hbits hg => ?_
  obtain ⟨K, fd, cs, sp, KX, hT, nT, C, hb, hsp, hF⟩ := F w mg fa _ Y G.T.g hmg
  exact law_callGT KX G.T.g G.T.b G.T.builtins G.T.nolimit hg hT nT C G.T.bmain hobj hints (Nat.le_trans hlen hn2) hr hF hb fun H h1 h2 h3 => hsp H a ns hlen hbits h1 h2 h3
theorem law_startT {K : Frag} {H : Hp} {a : Addr} {ns : List Int} {f : List D → Mem → Out D} {m : Mem} {tf : List Str} (e : f [.scr ns] (tf.map .tab) = .ok (.bl true) m) (nd : (tf.map (tabA K)).Nodup) (hT : ∀ x ∈ tf, H (tabA K x) = some (.tbl #[])) (na : a ∉ tf.map (tabA K)) (h : SqL K H a (ns.map V.int)) :
    SpF K f [.ref a] H (fun v _ => v = .bl true) fun _ _ _ => False := by
  refine ⟨tf.map (tabA K), fun b => if b ∈ tf.map (tabA K) then none else H b, [.scr ns], tf.map .tab, ⟨fun b o q => ?_, nd, by simp, fun n b y h1 h2 => ?_, fun b hb => if_pos hb⟩, Reps.cons ?_ Reps.nil, ?_⟩
  · by_cases z : b ∈ tf.map (tabA K)
    · have q' : (if b ∈ tf.map (tabA K) then none else H b) = some o := q
      rw [if_pos z] at q'; cases q'
    · have q' : (if b ∈ tf.map (tabA K) then none else H b) = some o := q
      rw [if_neg z] at q'; exact q'
  · rw [List.getElem?_map] at h1 h2
    cases z : tf[n]? with
    | none => rw [z] at h1; cases h1
    | some x =>
      rw [z] at h1 h2
      cases h1
      cases h2
      exact ⟨rfl, #[], hT x (List.mem_of_getElem? z), True.intro, fun pos cv hc => by cases hc⟩
  · simp only [Rep]
    refine ⟨a, rfl, ?_⟩
    have ea : (fun b => if b ∈ tf.map (tabA K) then none else H b : Hp) a = H a := if_neg na
    rcases h with (q | ⟨o, q⟩) | q
    · exact .inl (.inl (ea.trans q))
    · exact .inl (.inr ⟨o, ea.trans q⟩)
    · exact .inr q
  · rw [e]
    intro v A' F' H' _ _ r
    simpa only [RE, Rep] using r
theorem passM {X : Cx} {A : Around} {outer : List Env} {s : Shared} {H : Hp} {E : XK} {scope : Scope} {f c' : Addr} : Passes (L2.CX (LamX.lamCx X A outer s H E scope f c').prog (LamX.lamCx X A outer s H E scope f c').w) (LamX.lamCx X A outer s H E scope f c') E := passes_call (W := fun cls d _ H => E cls d H) (takes_of rfl rfl rfl rfl) fun _ _ _ _ h => h
theorem lamq {name : Str} {scope : Scope} {L a : Addr} {cd : Value} : (envOfC name scope L a cd).qual ++ "<lambda>" = lamQ name := rfl
end MT
set_option Elab.async false
set_option linter.all false
set_option maxRecDepth 100000
namespace Gen
open PySem PySem.Spec PyProof.Rows L2 MT
def top (i : Nat) : Stmt := PySem.Challenge.pw_meetturn_k02_the_first_wrong_line.main.body.getD i (.Pass ⟨0, 0, 0, 0⟩)
def tf : List Str := ["_law_is_judged", "_law_right"]
def er : List Str := ["TurnError", "BadWay"]
def fa : List Fb := [.old (.free "len"), .old (.cls "Way"), .old (.noat "Way" "own_places"), .old (.meth "Way" "__len__"), .old (.free "list"), .old (.free "range"), .old (.free "max"), .old (.free "min"), .old (.glo "_law_cells"), .old (.free "str"), .old (.glo "_law_line"), .old (.glo "_law_lines"), .old (.free "int"), .old (.glo "_law_take"), .old (.glo "_law_places"), .old (.glo "_law_end"), .old (.glo "_law_lore"), .old (.glo "_law_of"), .old (.glo "_law_spoilt_word"), .old (.glo "_law_spoilt"), .old (.glo "_law_text_odd"), .old (.free "all"), .old (.free "abs"), .old (.glo "_law_number"), .old (.glo "_law_end_of"), .old (.free "zip"), .old (.glo "_law_has_places"), .old (.glo "_law_first_wrong"), .old (.glo "_law_told"), .old (.str "MINUS" "-"), .old (.int "MOST_FIGURES" 20), .old (.str "FIGURES" "0123456789"), .old (.glo "number_in"), .old (.int "MOST_PLACE" 1000000000000), .old (.glo "is_place"), .old (.str "BLANK" " "), .old (.str "FREE" "free"), .old (.int "LINES" 3), .old (.str "WALL" "wall"), .old (.str "OFF" "off"), .old (.glo "end_in"), .old (.glo "do_ascend"), .old (.str "AT" "at"), .old (.int "MOST_PEOPLE" 40), .old (.free "tuple"), .old (.glo "places_in"), .old (.free "isinstance"), .old (.str "FEED" "\n"), .old (.str "LEFT" "left"), .old (.str "RIGHT" "right"), .old (.int "PAIR" 2), .old (.glo "read_way"), .old (.noat "Way" "own_text"), .old (.noat "Way" "own_left"), .old (.noat "Way" "own_right"), .old (.mkr "Way"), .old (.glo "Way"), .old (.free "repr"), .old (.glo "_law_is_judged"), .old (.glo "_law_right"), .old (.glo "_law_pot"), .old (.glo "law")]
def fn : List Df := [⟨.meth "Way" "__len__", "__len__", "Way.__len__", defArgs (inClass (top 30) 5), defBody (inClass (top 30) 5), defScope (inClass (top 30) 5), []⟩,
  ⟨.glo "_law_cells", "_law_cells", "_law_cells", defArgs (top 35), defBody (top 35), defScope (top 35), []⟩,
  ⟨.glo "_law_line", "_law_line", "_law_line", defArgs (top 40), defBody (top 40), defScope (top 40), []⟩,
  ⟨.glo "_law_lines", "_law_lines", "_law_lines", defArgs (top 41), defBody (top 41), defScope (top 41), []⟩,
  ⟨.glo "_law_take", "_law_take", "_law_take", defArgs (top 33), defBody (top 33), defScope (top 33), []⟩,
  ⟨.glo "_law_places", "_law_places", "_law_places", defArgs (top 37), defBody (top 37), defScope (top 37), []⟩,
  ⟨.glo "_law_end", "_law_end", "_law_end", defArgs (top 38), defBody (top 38), defScope (top 38), []⟩,
  ⟨.glo "_law_lore", "_law_lore", "_law_lore", defArgs (top 39), defBody (top 39), defScope (top 39), []⟩,
  ⟨.glo "_law_of", "_law_of", "_law_of", defArgs (top 34), defBody (top 34), defScope (top 34), []⟩,
  ⟨.glo "_law_spoilt_word", "_law_spoilt_word", "_law_spoilt_word", defArgs (top 46), defBody (top 46), defScope (top 46), []⟩,
  ⟨.glo "_law_spoilt", "_law_spoilt", "_law_spoilt", defArgs (top 47), defBody (top 47), defScope (top 47), []⟩,
  ⟨.glo "_law_text_odd", "_law_text_odd", "_law_text_odd", defArgs (top 50), defBody (top 50), defScope (top 50), []⟩,
  ⟨.glo "_law_number", "_law_number", "_law_number", defArgs (top 42), defBody (top 42), defScope (top 42), []⟩,
  ⟨.glo "_law_end_of", "_law_end_of", "_law_end_of", defArgs (top 43), defBody (top 43), defScope (top 43), []⟩,
  ⟨.glo "_law_has_places", "_law_has_places", "_law_has_places", defArgs (top 44), defBody (top 44), defScope (top 44), []⟩,
  ⟨.glo "_law_first_wrong", "_law_first_wrong", "_law_first_wrong", defArgs (top 45), defBody (top 45), defScope (top 45), []⟩,
  ⟨.glo "_law_told", "_law_told", "_law_told", defArgs (top 36), defBody (top 36), defScope (top 36), []⟩,
  ⟨.glo "number_in", "number_in", "number_in", defArgs (top 12), defBody (top 12), defScope (top 12), []⟩,
  ⟨.glo "is_place", "is_place", "is_place", defArgs (top 23), defBody (top 23), defScope (top 23), []⟩,
  ⟨.glo "end_in", "end_in", "end_in", defArgs (top 24), defBody (top 24), defScope (top 24), []⟩,
  ⟨.glo "do_ascend", "do_ascend", "do_ascend", defArgs (top 13), defBody (top 13), defScope (top 13), []⟩,
  ⟨.glo "places_in", "places_in", "places_in", defArgs (top 25), defBody (top 25), defScope (top 25), []⟩,
  ⟨.glo "read_way", "read_way", "read_way", defArgs (top 26), defBody (top 26), defScope (top 26), []⟩,
  ⟨.meth "Way" "__init__", "__init__", "Way.__init__", defArgs (inClass (top 30) 0), defBody (inClass (top 30) 0), defScope (inClass (top 30) 0), []⟩,
  ⟨.glo "_law_is_judged", "_law_is_judged", "_law_is_judged", defArgs (top 48), defBody (top 48), defScope (top 48), []⟩,
  ⟨.glo "_law_right", "_law_right", "_law_right", defArgs (top 49), defBody (top 49), defScope (top 49), []⟩,
  ⟨.glo "_law_pot", "_law_pot", "_law_pot", defArgs (top 32), defBody (top 32), defScope (top 32), []⟩,
  ⟨.glo "law", "law", "law", defArgs (top 51), defBody (top 51), defScope (top 51), []⟩]
def ts : List Tb := []
end Gen
set_option Elab.async false
set_option linter.all false
set_option maxRecDepth 100000
namespace Gen
open PySem PySem.Spec PyProof.Rows L2 MT
abbrev R : PySem.W.OpenRow := PySem.W.OpenLaw.row PySem.Challenge.rw_meetturn_k02_the_first_wrong_line
def file : PySem.Str := PySem.Challenge.pw_meetturn_k02_the_first_wrong_line.main.file
abbrev hk : PySem.W.Hook := hookE 5 fa fn ts tf er file
def ob (s : PySem.W.SharedT) : hk.α := obsE 5 fa fn ts tf er file (HandSHeadRun.getT s)
theorem ob_eq (s : PySem.W.SharedT) : ob s = hk.obs s.abs := obsE_eq (HandSHeadRun.getT_eq s)
def nms : List PySem.Str := (["_wall", "TurnError", "BadWay", "FIGURES", "BLANK", "FEED", "MINUS", "MOST_FIGURES", "LEFT", "RIGHT", "number_in", "do_ascend", "FREE", "OFF", "WALL", "AT", "MOST_PLACE", "MOST_PEOPLE", "LINES", "PAIR", "is_place", "end_in", "places_in", "read_way", "end_line", "way_of", "shifted", "Way", "_law_pot", "_law_take"] : List PySem.Str) ++ (["_law_of", "_law_cells", "_law_told", "_law_places", "_law_end", "_law_lore", "_law_line", "_law_lines", "_law_number", "_law_end_of", "_law_has_places", "_law_first_wrong", "_law_spoilt_word", "_law_spoilt", "_law_is_judged", "_law_right", "_law_text_odd"] : List PySem.Str)
theorem map3 {α β γ δ : Type} {o : Option α} {f : α → β} {g : α → γ} {h : α → δ} {a : β} {b : γ} {c : δ} (h1 : o.map (fun s => (f s, g s)) = some (a, b)) (h2 : o.map h = some c) : o.map (fun s => (f s, g s, h s)) = some (a, b, c) := by
  cases o with
  | none => cases h1
  | some x =>
    have e1 := Option.some.inj h1
    have e2 := Option.some.inj h2
    have q1 : f x = a := congrArg (fun z => z.1) e1
    have q2 : g x = b := congrArg (fun z => z.2) e1
    have q3 : h x = c := e2
    show some (f x, g x, h x) = _
    rw [q1, q2, q3]
set_option maxHeartbeats 0 in
theorem runL (w : World) (os : OsState) : (HandSHeadRun.endF (HandSHeadRun.stepQ (HandSHeadRun.denQ HandSHeadRun.tabQ) R.prog (w)) 20000 R.prog (w) os).map (fun s => (HandSHeadRun.looksF R.prog (PySem.W.boot_heap (w).params) s.abs, HandSHeadRun.seenQ (PySem.W.view R.prog [51]) nms (importedModules R.prog.main.body) (fun s => PySem.W.xlAt (PySem.W.view R.prog [51]) [] s && PySem.W.recOk R.toRowW.records s) s.abs)) = some (true, PySem.W.openGood (PySem.W.view R.prog [51]) nms) := by
  kernel_rfl
set_option maxHeartbeats 0 in
theorem runO (w : World) (os : OsState) : (HandSHeadRun.endF (HandSHeadRun.stepQ (HandSHeadRun.denQ HandSHeadRun.tabQ) R.prog (w)) 20000 R.prog (w) os).map (fun s => ob s) = some (hk.val (w)) := by
  kernel_rfl
theorem run (w : World) : HandSHeadRun.RunEq R (PySem.W.view R.prog [51]) hk ob 20000 nms (w) := fun os => map3 (runL w os) (runO w os)
open PySem PySem.W PySem.Calls PyProof.Rows in
set_option maxHeartbeats 0 in
theorem hT1 : sreFenced R.prog.main = true := by decide +kernel
open PySem PySem.W PySem.Calls PyProof.Rows in
set_option maxHeartbeats 0 in
theorem hT2 : ((moduleNames R.prog.main.body).isEmpty || lookedIntoSs (moduleNames R.prog.main.body) R.prog.main.body) = true := by decide +kernel
open PySem PySem.W PySem.Calls PyProof.Rows in
set_option maxHeartbeats 0 in
theorem hT3 : namesResolve R.prog = true := by decide +kernel
open PySem PySem.W PySem.Calls PyProof.Rows in
set_option maxHeartbeats 0 in
theorem hT4 : R.prog.boundNames.all (fun n => !worldNames.contains n) = true := by decide +kernel
open PySem PySem.W PySem.Calls PyProof.Rows in
set_option maxHeartbeats 0 in
theorem hT5 : noRoadLSs { strict := !(importedModules R.prog.main.body).all cThrough.contains, foot := none, bare := (["vars", "dir", "locals"] : List Str).filter (readsOut R.prog R.prog.main.body) } R.prog.main.body = true := by decide +kernel
open PySem PySem.W PySem.Calls PyProof.Rows in
set_option maxHeartbeats 0 in
theorem hT6 : namesMeet R.prog R.prog.main.body (fun _ n => attrL n) = true := by decide +kernel
open PySem PySem.W PySem.Calls PyProof.Rows in
theorem hT7 : looksOpen R.prog = true := by
  unfold looksOpen
  rw [hT1, hT2, hT3, hT4, hT5, hT6]
  rfl
open PySem PySem.W PySem.Calls PyProof.Rows in
set_option maxHeartbeats 0 in
theorem hT8 : R.wellSaid = true := by
  unfold OpenRow.wellSaid OpenRow.partSaid
  rw [hT7]
  decide +kernel
open PySem PySem.W PySem.Calls PyProof.Rows in
set_option maxHeartbeats 0 in
theorem hT9 : R.prog.bare := ⟨rfl, rfl, rfl, rfl, rfl, by decide +kernel⟩
set_option maxHeartbeats 0 in
theorem headTop (hw : R.toRowW.promised) (call : PySem.W.WalkO (PySem.W.view R.prog [51]) nms (PySem.W.XL (PySem.W.view R.prog [51]) []) hk.says R.toRowW (HandSHeadRun.topDef R.prog 51) [] fun f vs => PySem.call f vs) : R.Holds :=
  HandSHeadRun.head_any (r := R) (q := PySem.W.view R.prog [51]) (H := hk) (ob := ob) (M := 20000) (loose := nms) (d := HandSHeadRun.topDef R.prog 51) (kwd := []) ob_eq
    (by kernel_rfl) (fun s => by kernel_rfl) run (by kernel_rfl)
    (by kernel_rfl) (by kernel_rfl) (by rfl) hT8
    (by decide +kernel) hT9 hw call
end Gen
set_option Elab.async false
set_option linter.all false
set_option maxRecDepth 100000
namespace MT
open PySem PySem.Spec PyProof.Rows L2
section
variable {X : Cx} {E : XK} {pos : Pos}
theorem de_dct0 : PE X (.Dict [] [] pos) (LE X.K E (mkD [])) := PE.imp pe_dnewK fun s H Q q => by
  obtain ⟨H0, A, F, r, m, o, sl, p⟩ := q
  intro a ha
  obtain ⟨nF, nA⟩ := o.out ha
  have p' : Post (RE X.K) X.K E A F H (.ok (.dct [] []) m) (QE Q) := p
  refine p' _ A (L2.upd F a (.dK [])) _ ((Gr.refl.upd ha).freeze ha nF) ((o.upd nF nA).freeze upd_same nF nA) ?_
  simp only [RE, Rep]
  exact ⟨a, [], rfl, upd_same, rfl, List.nodup_nil, Reps.nil⟩
end
inductive Itm where
  | fz (f : En → Mem → Out D)
  | own (g : En → Mem → Out (List D))
def Itm.t (K : PySem.W.Frag) (E : XK) : Itm → TE
  | .fz f => LE K E f
  | .own g => tLst (LA K E g)
def parS : List (Nat × Itm) → En → En → Mem → SOut
  | [], _, rp, m => .next rp m
  | (i, .fz f) :: is, r, rp, m => sOf (f r m) fun d m => parS is r (rp.set i (.fz d)) m
  | (i, .own g) :: is, r, rp, m => sOf (g r m) fun ds m => if ds.length ≤ sizeLine then parS is r (rp.set i (.own ds)) m else .stuck
def sParS (is : List (Nat × Itm)) : En → Mem → SOut := fun r m => parS is r r m
section
variable {K : PySem.W.Frag} {E : XK} {A0 : List Addr} {F0 H0 : Hp} {De : Ends}
end
section
variable {X : Cx} {E : XK} {A0 : List Addr} {F0 H0 : Hp} {i j l : Nat} {x y z : Str} {a b c : Expr} {ia ib ic : Itm} {px py pz pt pos pt2 : Pos} {kt k2 : Nat} {es : List Expr} {is : List (Nat × Itm)}
end
end MT
set_option Elab.async false
set_option linter.all false
set_option maxRecDepth 100000
namespace MT
open PySem PySem.Spec PyProof.Rows L2
section
variable {prog : Program} {w : World} {A : Around} {E : Value → Shared → Prop} {s : Shared} {z TI TO i1 i2 T : Addr} {f : Bool} {oT : Obj} {fp1 fp2 : List Addr} {n1 n2 i : Nat} {P1 P2 : Nat → Value → Prop} {St1 St2 : Nat → Heap → Prop}
theorem zipH_next_item {Q : Value → Shared → Prop} (S : ZipSep2 z TI TO i1 i2 fp1 fp2) (D1 : Draws prog w A i1 fp1 n1 P1 St1) (D2 : Draws prog w A i2 fp2 n2 P2 St2)
    (hz : IsZipHeld s.heap z TI TO T f) (hT : s.heap.get? T = some oT) (hTI : IsTupOf2 s.heap TI (.ref i1) (.ref i2)) (st1 : St1 i s.heap) (st2 : St2 i s.heap) (hlt1 : i < n1) (hlt2 : i < n2)
    (hQ : ∀ x1 x2 h' tk, P1 i x1 → P2 i x2 → IsZipHeld h' z TI TO T true → St1 (i + 1) h' → St2 (i + 1) h' → IsTupOf2 h' s.heap.objs.size x1 x2 → h'.objs.size = s.heap.objs.size + 1 →
      (∀ c o, c ≠ z → c ≠ i1 → c ≠ i2 → s.heap.get? c = some o → h'.get? c = some o) → Q (.ref s.heap.objs.size) { s with heap := h', toks := tk }) :
    wpAny (model prog w) A (Builtin.«zip.__next__» ⟨[.ref z], []⟩) (fun fin s' => ∃ v, fin = .done (.ret v) ∧ Q v s') E s := by
  obtain ⟨hp, g, d, tk0, os⟩ := s
  show wpAny _ _ (field (.ref z) 2 >>= _) _ _ _
  refine wpAny_bind (wpAny_field hz rfl (x := .bool false) rfl ?_)
  show wpAny _ _ (field (.ref z) 3 >>= _) _ _ _
  refine wpAny_bind (wpAny_field hz rfl (x := .ref TI) rfl ?_)
  refine wpAny_bind (wpAny_seqItems hTI rfl ?_)
  show wpAny _ _ (Builtin.SmallTypes.ownedTupleIsFree (.ref z) >>= _) _ _ _
  refine wpAny_bind (wpAny_tupleHeld_zip hz hT fun h₁ hz₁ hs₁ => ?_)
  replace hs₁ : Heap.SameBut z hp h₁ := hs₁
  simp only [Bool.false_eq_true, if_false]
  refine wpAny_bind ?_
  rw [← Array.forIn_toList]
  simp only [List.forIn_cons, List.forIn_nil]
  refine wpAny_bind (wpAny_bind (wpAny_holding ?_))
  show wpAny _ _ (Builtin.SmallTypes.nextOf (.ref i1) >>= _) _ _ ⟨h₁, g, d, tk0, os⟩
  refine wpAny_bind (D1.item i _ _ _ hlt1 (D1.over st1 hs₁ S.zf1) fun x1 h₂ tk1 hx1 sn1 hs₂ => wpAny_pure ?_)
  replace hs₂ : Heap.SameBut i1 h₁ h₂ := hs₂
  refine wpAny_pure ?_
  refine wpAny_bind (wpAny_bind (wpAny_holding ?_))
  show wpAny _ _ (Builtin.SmallTypes.nextOf (.ref i2) >>= _) _ _ ⟨h₂, g, d, tk1, os⟩
  refine wpAny_bind (D2.item i _ _ _ hlt2 (D2.over (D2.over st2 hs₁ S.zf2) hs₂ S.sep1_2) fun x2 h₃ tk2 hx2 sn2 hs₃ => wpAny_pure ?_)
  replace hs₃ : Heap.SameBut i2 h₂ h₃ := hs₃
  refine wpAny_pure (wpAny_pure ?_)
  show wpAny _ _ (newTuple [x1, x2] >>= _) _ _ _
  refine wpAny_bind (wpAny_newTuple ?_)
  have hsz : h₃.objs.size = hp.objs.size := by rw [hs₃.1, hs₂.1, hs₁.1]
  have hz₃ : IsZipHeld h₃ z TI TO T true := hs₃.extBut _ _ S.zi2 (hs₂.extBut _ _ S.zi1 hz₁)
  have hk : ∀ c o, c ≠ z → c ≠ i1 → c ≠ i2 → hp.get? c = some o → h₃.get? c = some o := fun c o c1 c2 c3 e => hs₃.extBut _ _ c3 (hs₂.extBut _ _ c2 (hs₁.extBut _ _ c1 e))
  have hj1 : St1 (i + 1) h₃ := D1.over sn1 hs₃ S.sep2_1
  refine wpAny_pure ⟨_, rfl, ?_⟩
  show Q (.ref h₃.objs.size) _
  have hp' : IsTupOf2 (h₃.push { cls := .type "tuple", data := .seq #[x1, x2] }) h₃.objs.size x1 x2 := Heap.get?_push_size _ rfl
  have hz4 : (h₃.push { cls := .type "tuple", data := .seq #[x1, x2] }).objs.size = h₃.objs.size + 1 := Heap.size_push ..
  rw [hsz] at hp' hz4 ⊢
  exact hQ x1 x2 _ tk2 hx1 hx2 (Heap.get?_push_of_some _ hz₃) (D1.frame _ _ _ hj1 fun b hb o e => Heap.get?_push_of_some _ e) (D2.frame _ _ _ sn2 fun b hb o e => Heap.get?_push_of_some _ e) hp' hz4 fun c o c1 c2 c3 e => Heap.get?_push_of_some _ (hk c o c1 c2 c3 e)
theorem zipH_next_end {Q : Fin → Shared → Prop} (S : ZipSep2 z TI TO i1 i2 fp1 fp2) (D1 : Draws prog w A i1 fp1 n1 P1 St1) (D2 : Draws prog w A i2 fp2 n2 P2 St2)
    (hz : IsZipHeld s.heap z TI TO T f) (hT : s.heap.get? T = some oT) (hTI : IsTupOf2 s.heap TI (.ref i1) (.ref i2)) (st1 : St1 i s.heap) (st2 : St2 i s.heap) (hle1 : i ≤ n1) (hle2 : i ≤ n2) (hend : i = n1 ∨ i = n2)
    (hE : ∀ h' tk e, (∀ c o, c ≠ z → c ≠ i1 → c ≠ i2 → s.heap.get? c = some o → h'.get? c = some o) → (∃ o, h'.get? e = some o ∧ o.cls = .type "StopIteration") → E (.ref e) { s with heap := h', toks := tk }) :
    wpAny (model prog w) A (Builtin.«zip.__next__» ⟨[.ref z], []⟩) Q E s := by
  obtain ⟨hp, g, d, tk0, os⟩ := s
  show wpAny _ _ (field (.ref z) 2 >>= _) _ _ _
  refine wpAny_bind (wpAny_field hz rfl (x := .bool false) rfl ?_)
  show wpAny _ _ (field (.ref z) 3 >>= _) _ _ _
  refine wpAny_bind (wpAny_field hz rfl (x := .ref TI) rfl ?_)
  refine wpAny_bind (wpAny_seqItems hTI rfl ?_)
  show wpAny _ _ (Builtin.SmallTypes.ownedTupleIsFree (.ref z) >>= _) _ _ _
  refine wpAny_bind (wpAny_tupleHeld_zip hz hT fun h₁ hz₁ hs₁ => ?_)
  replace hs₁ : Heap.SameBut z hp h₁ := hs₁
  simp only [Bool.false_eq_true, if_false]
  refine wpAny_bind ?_
  rw [← Array.forIn_toList]
  simp only [List.forIn_cons, List.forIn_nil]
  refine wpAny_bind (wpAny_bind (wpAny_holding ?_))
  show wpAny _ _ (Builtin.SmallTypes.nextOf (.ref i1) >>= _) _ _ ⟨h₁, g, d, tk0, os⟩
  by_cases hlt1 : i < n1
  · refine wpAny_bind (D1.item i _ _ _ hlt1 (D1.over st1 hs₁ S.zf1) fun x1 h₂ tk1 hx1 sn1 hs₂ => wpAny_pure ?_)
    replace hs₂ : Heap.SameBut i1 h₁ h₂ := hs₂
    have hi2 : i = n2 := by omega
    refine wpAny_pure ?_
    refine wpAny_bind (wpAny_bind (wpAny_holding ?_))
    show wpAny _ _ (Builtin.SmallTypes.nextOf (.ref i2) >>= _) _ _ ⟨h₂, g, d, tk1, os⟩
    refine wpAny_bind (D2.done ⟨h₂, g, d, tk1, os⟩ _ _ (by rw [← hi2]; exact D2.over (D2.over st2 hs₁ S.zf2) hs₂ S.sep1_2) fun q e hq he => ?_)
    exact hE q tk1 e (fun c o c1 c2 c3 x => hq _ _ c3 (hs₂.extBut _ _ c2 (hs₁.extBut _ _ c1 x))) he
  · have hi1 : i = n1 := by omega
    refine wpAny_bind (D1.done ⟨h₁, g, d, tk0, os⟩ _ _ (by rw [← hi1]; exact D1.over st1 hs₁ S.zf1) fun q e hq he => ?_)
    exact hE q tk0 e (fun c o c1 c2 _ x => hq _ _ c2 (hs₁.extBut _ _ c1 x)) he
end
def Kp (ch : List Addr) (h h' : Heap) : Prop := h.objs.size ≤ h'.objs.size ∧ ∀ b o, b ∉ ch → h.get? b = some o → h'.get? b = some o
theorem Kp.mono {ch ch' : List Addr} {h h' : Heap} (k : Kp ch h h') (s : ∀ b ∈ ch, b ∈ ch') : Kp ch' h h' := ⟨k.1, fun b o n e => k.2 b o (fun z => n (s b z)) e⟩
theorem Kp.trans {ch : List Addr} {h h' h'' : Heap} (k : Kp ch h h') (k' : Kp ch h' h'') : Kp ch h h'' := ⟨Nat.le_trans k.1 k'.1, fun b o n e => k'.2 b o n (k.2 b o n e)⟩
structure Dr (prog : Program) (w : World) (A : Around) (it : Addr) (outs wr : List Addr) (n : Nat) (Y : Nat → Heap → Value → Heap → Prop) (St : Nat → Heap → Prop) : Prop where
  frame : ∀ i h h', St i h → Kp outs h h' → St i h'
  item : ∀ i (s : Shared) (Q : Value → Shared → Prop) (E : Value → Shared → Prop), i < n → St i s.heap →
    (∀ x h' tk, Y i s.heap x h' → St (i + 1) h' → Kp wr s.heap h' → Q x { s with heap := h', toks := tk }) → wpAny (model prog w) A (Builtin.SmallTypes.nextOf (.ref it)) Q E s
  done : ∀ (s : Shared) (Q : Value → Shared → Prop) (E : Value → Shared → Prop), St n s.heap →
    (∀ h' tk e, (∀ b o, b ∉ wr → s.heap.get? b = some o → h'.get? b = some o) → (∃ o, h'.get? e = some o ∧ o.cls = .type "StopIteration") → E (.ref e) { s with heap := h', toks := tk }) → wpAny (model prog w) A (Builtin.SmallTypes.nextOf (.ref it)) Q E s
section
variable {prog : Program} {w : World} {A : Around} {z TI TO i1 i2 : Addr} {fp1 fp2 outs : List Addr} {n1 n2 : Nat} {P1 P2 : Nat → Value → Prop} {St1 St2 : Nat → Heap → Prop} {B : Nat}
def zY (P1 P2 : Nat → Value → Prop) : Nat → Heap → Value → Heap → Prop := fun i h v h' => ∃ x1 x2, v = .ref h.objs.size ∧ P1 i x1 ∧ P2 i x2 ∧ IsTupOf2 h' h.objs.size x1 x2 ∧ h'.objs.size = h.objs.size + 1
def zSt (B : Nat) (z TI TO i1 i2 : Addr) (St1 St2 : Nat → Heap → Prop) : Nat → Heap → Prop := fun i h =>
  ((IsZip h z TI TO .none ∧ ∃ a1 a2, IsTupOf2 h TO a1 a2) ∨ ∃ T f o, IsZipHeld h z TI TO T f ∧ h.get? T = some o ∧ B ≤ T) ∧ IsTupOf2 h TI (.ref i1) (.ref i2) ∧ St1 i h ∧ St2 i h ∧ B ≤ h.objs.size
theorem Dr.zip (S : ZipSep2 z TI TO i1 i2 fp1 fp2) (D1 : Draws prog w A.in1 i1 fp1 n1 P1 St1) (D2 : Draws prog w A.in1 i2 fp2 n2 P2 St2) (ho : ∀ b ∈ outs, b < B ∧ b ∉ z :: TI :: TO :: (fp1 ++ fp2)) (hb : ∀ b ∈ [z, TO, i1, i2, TI], b < B) :
    Dr prog w A z outs [z, TO, i1, i2] (min n1 n2) (zY P1 P2) (zSt B z TI TO i1 i2 St1 St2) where
  frame := fun i h h' st k => by
    obtain ⟨q, hTI, s1, s2, hB⟩ := st
    have no : ∀ b, b ∈ z :: TI :: TO :: (fp1 ++ fp2) → b ∉ outs := fun b hb z => (ho b z).2 hb
    refine ⟨?_, k.2 TI _ (no TI (by simp)) hTI, D1.frame _ _ _ s1 fun b hb o e => k.2 b o (no b (by simp [hb])) e, D2.frame _ _ _ s2 fun b hb o e => k.2 b o (no b (by simp [hb])) e, Nat.le_trans hB k.1⟩
    rcases q with ⟨q1, a1, a2, q2⟩ | ⟨T, f, o, q1, q2, q3⟩
    · exact .inl ⟨k.2 z _ (no z (by simp)) q1, a1, a2, k.2 TO _ (no TO (by simp)) q2⟩
    · exact .inr ⟨T, f, o, k.2 z _ (no z (by simp)) q1, k.2 T _ (fun m => absurd (ho T m).1 (Nat.not_lt.mpr q3)) q2, q3⟩
  item := fun i s Q E hi st hQ => by
    obtain ⟨q, hTI, s1, s2, hB⟩ := st
    have hTIw : TI ∉ [z, TO, i1, i2] := by simp [S.TIz, S.TITO, S.TIi1, S.TIi2]
    have nw : ∀ c : Addr, B ≤ c → c ∉ [z, TO, i1, i2] := fun c hc m => absurd (hb c (by simp at m ⊢; rcases m with m | m | m | m <;> simp [m])) (Nat.not_lt.mpr hc)
    rcases q with ⟨q1, a1, a2, q2⟩ | ⟨T, f, o, q1, q2, q3⟩
    · have hT : s.TypeIs (.ref z) "zip" := ⟨_, q1, rfl⟩
      unfold Builtin.SmallTypes.nextOf
      refine wpAny_bind (wpAny_callSpecial?_slot (name := Str.ofString "__next__") hT F.slot_zip_next
        (wpAny_call_entry F.slot_zip_next hT F.entry_zip_next
          (zipD2_next_item S D1 D2 q1 hTI q2 s1 s2 (by omega) (by omega) fun x1 x2 h' tk y1 y2 b1 b2 d1 d2 b5 b6 b7 => wpAny_pure ?_) (F.args_zip_next_1 _)))
      have kp : ∀ b o, b ∉ [z, TO, i1, i2] → s.heap.get? b = some o → h'.get? b = some o := fun b o n e => by
        simp only [List.mem_cons, List.not_mem_nil, or_false, not_or] at n
        exact b7 b o n.1 n.2.1 n.2.2.1 n.2.2.2 e
      exact hQ _ _ _ ⟨x1, x2, rfl, y1, y2, b5, b6⟩ ⟨.inr ⟨_, false, _, b1, b5, hB⟩, kp _ _ hTIw hTI, d1, d2, by omega⟩ ⟨by omega, kp⟩
    · have hT : s.TypeIs (.ref z) "zip" := ⟨_, q1, rfl⟩
      unfold Builtin.SmallTypes.nextOf
      refine wpAny_bind (wpAny_callSpecial?_slot (name := Str.ofString "__next__") hT F.slot_zip_next
        (wpAny_call_entry F.slot_zip_next hT F.entry_zip_next
          (zipH_next_item S D1 D2 q1 q2 hTI s1 s2 (by omega) (by omega) fun x1 x2 h' tk y1 y2 b1 d1 d2 b5 b6 b7 => wpAny_pure ?_) (F.args_zip_next_1 _)))
      have kp : ∀ b o, b ∉ [z, TO, i1, i2] → s.heap.get? b = some o → h'.get? b = some o := fun b o n e => by
        simp only [List.mem_cons, List.not_mem_nil, or_false, not_or] at n
        exact b7 b o n.1 n.2.2.1 n.2.2.2 e
      exact hQ _ _ _ ⟨x1, x2, rfl, y1, y2, b5, b6⟩ ⟨.inr ⟨T, true, o, b1, kp T o (nw T q3) q2, q3⟩, kp _ _ hTIw hTI, d1, d2, by omega⟩ ⟨by omega, kp⟩
  done := fun s Q E st hE => by
    obtain ⟨q, hTI, s1, s2, hB⟩ := st
    rcases q with ⟨q1, a1, a2, q2⟩ | ⟨T, f, o, q1, q2, q3⟩
    · have hT : s.TypeIs (.ref z) "zip" := ⟨_, q1, rfl⟩
      unfold Builtin.SmallTypes.nextOf
      refine wpAny_bind (wpAny_callSpecial?_slot (name := Str.ofString "__next__") hT F.slot_zip_next
        (wpAny_call_entry F.slot_zip_next hT F.entry_zip_next
          (zipD2_next_end S D1 D2 q1 hTI q2 s1 s2 (Nat.min_le_left _ _) (Nat.min_le_right _ _) (by omega) fun h' tk e hk he => ?_) (F.args_zip_next_1 _)))
      refine hE h' tk e (fun b o n x => ?_) he
      simp only [List.mem_cons, List.not_mem_nil, or_false, not_or] at n
      exact hk b o n.1 n.2.1 n.2.2.1 n.2.2.2 x
    · have hT : s.TypeIs (.ref z) "zip" := ⟨_, q1, rfl⟩
      unfold Builtin.SmallTypes.nextOf
      refine wpAny_bind (wpAny_callSpecial?_slot (name := Str.ofString "__next__") hT F.slot_zip_next
        (wpAny_call_entry F.slot_zip_next hT F.entry_zip_next
          (zipH_next_end S D1 D2 q1 q2 hTI s1 s2 (Nat.min_le_left _ _) (Nat.min_le_right _ _) (by omega) fun h' tk e hk he => ?_) (F.args_zip_next_1 _)))
      refine hE h' tk e (fun b o n x => ?_) he
      simp only [List.mem_cons, List.not_mem_nil, or_false, not_or] at n
      exact hk b o n.1 n.2.2.1 n.2.2.2 x
end
structure Nx (prog : Program) (w : World) (A : Around) (it : Addr) (outs wr : List Addr) (n : Nat) (Y : Nat → Heap → Value → Heap → Prop) (St : Nat → Heap → Prop) : Prop where
  frame : ∀ i h h', St i h → Kp outs h h' → St i h'
  item : ∀ i (s : Shared) (Q : Option Value → Shared → Prop) (E : Value → Shared → Prop), i < n → St i s.heap →
    (∀ x h' tk, Y i s.heap x h' → St (i + 1) h' → Kp wr s.heap h' → Q (some x) { s with heap := h', toks := tk }) → wpAny (model prog w) A (pyNext (.ref it)) Q E s
  done : ∀ (s : Shared) (Q : Option Value → Shared → Prop) (E : Value → Shared → Prop), St n s.heap →
    (∀ h' tk, (∀ b o, b ∉ wr → s.heap.get? b = some o → h'.get? b = some o) → Q none { s with heap := h', toks := tk }) → wpAny (model prog w) A (pyNext (.ref it)) Q E s
section
variable {prog : Program} {w : World} {A : Around} {e it : Addr} {outs wr : List Addr} {n : Nat} {Y : Nat → Heap → Value → Heap → Prop} {St : Nat → Heap → Prop} {B : Nat}
end
end MT
set_option Elab.async false
set_option linter.all false
set_option maxRecDepth 100000
namespace MT
open PySem PySem.Spec PyProof.Rows L2
abbrev Stp := Nat → Hp → V → Hp → Prop
def stpZ (xs ys : List V) : Stp := fun i H v H' => ∃ T x y, v = .ref T ∧ H T = none ∧ H' = upd H T (.tup [x, y]) ∧ xs[i]? = some x ∧ ys[i]? = some y
section
variable {X : Cx} {pins : List (Addr × Obj)} {σ : L2.St} {wr : List Addr}
end
theorem Nx.zip {prog : Program} {w : World} {A : Around} {z TI TO i1 i2 : Addr} {fp1 fp2 outs : List Addr} {n1 n2 : Nat} {P1 P2 : Nat → Value → Prop} {St1 St2 : Nat → Heap → Prop} {B : Nat}
    (S : ZipSep2 z TI TO i1 i2 fp1 fp2) (D1 : Draws prog w A.in1 i1 fp1 n1 P1 St1) (D2 : Draws prog w A.in1 i2 fp2 n2 P2 St2) (ho : ∀ b ∈ outs, b < B ∧ b ∉ z :: TI :: TO :: (fp1 ++ fp2)) (hb : ∀ b ∈ [z, TO, i1, i2, TI], b < B) :
    Nx prog w A z outs [z, TO, i1, i2] (min n1 n2) (zY P1 P2) (zSt B z TI TO i1 i2 St1 St2) where
  frame := (Dr.zip (A := A) S D1 D2 ho hb).frame
  item := fun i s Q E hi st hQ => by
    obtain ⟨q, hTI, s1, s2, hB⟩ := st
    have hTIw : TI ∉ [z, TO, i1, i2] := by simp [S.TIz, S.TITO, S.TIi1, S.TIi2]
    have nw : ∀ c : Addr, B ≤ c → c ∉ [z, TO, i1, i2] := fun c hc m => absurd (hb c (by simp at m ⊢; rcases m with m | m | m | m <;> simp [m])) (Nat.not_lt.mpr hc)
    rcases q with ⟨q1, a1, a2, q2⟩ | ⟨T, f, o, q1, q2, q3⟩
    · have hT : s.TypeIs (.ref z) "zip" := ⟨_, q1, rfl⟩
      unfold pyNext
      refine wpAny_bind (wpAny_attempt (wpAny_callSpecial?_slot (name := Str.ofString "__next__") hT F.slot_zip_next
        (wpAny_call_entry F.slot_zip_next hT F.entry_zip_next
          (zipD2_next_item S D1 D2 q1 hTI q2 s1 s2 (by omega) (by omega) fun x1 x2 h' tk y1 y2 b1 b2 d1 d2 b5 b6 b7 => wpAny_pure ?_) (F.args_zip_next_1 _))))
      have kp : ∀ b o, b ∉ [z, TO, i1, i2] → s.heap.get? b = some o → h'.get? b = some o := fun b o n e => by
        simp only [List.mem_cons, List.not_mem_nil, or_false, not_or] at n
        exact b7 b o n.1 n.2.1 n.2.2.1 n.2.2.2 e
      exact hQ _ _ _ ⟨x1, x2, rfl, y1, y2, b5, b6⟩ ⟨.inr ⟨_, false, _, b1, b5, hB⟩, kp _ _ hTIw hTI, d1, d2, by omega⟩ ⟨by omega, kp⟩
    · have hT : s.TypeIs (.ref z) "zip" := ⟨_, q1, rfl⟩
      unfold pyNext
      refine wpAny_bind (wpAny_attempt (wpAny_callSpecial?_slot (name := Str.ofString "__next__") hT F.slot_zip_next
        (wpAny_call_entry F.slot_zip_next hT F.entry_zip_next
          (zipH_next_item S D1 D2 q1 q2 hTI s1 s2 (by omega) (by omega) fun x1 x2 h' tk y1 y2 b1 d1 d2 b5 b6 b7 => wpAny_pure ?_) (F.args_zip_next_1 _))))
      have kp : ∀ b o, b ∉ [z, TO, i1, i2] → s.heap.get? b = some o → h'.get? b = some o := fun b o n e => by
        simp only [List.mem_cons, List.not_mem_nil, or_false, not_or] at n
        exact b7 b o n.1 n.2.2.1 n.2.2.2 e
      exact hQ _ _ _ ⟨x1, x2, rfl, y1, y2, b5, b6⟩ ⟨.inr ⟨T, true, o, b1, kp T o (nw T q3) q2, q3⟩, kp _ _ hTIw hTI, d1, d2, by omega⟩ ⟨by omega, kp⟩
  done := fun s Q E st hE => by
    obtain ⟨q, hTI, s1, s2, hB⟩ := st
    rcases q with ⟨q1, a1, a2, q2⟩ | ⟨T, f, o, q1, q2, q3⟩
    · have hT : s.TypeIs (.ref z) "zip" := ⟨_, q1, rfl⟩
      unfold pyNext
      refine wpAny_bind (wpAny_attempt (wpAny_callSpecial?_slot (name := Str.ofString "__next__") hT F.slot_zip_next
        (wpAny_call_entry F.slot_zip_next hT F.entry_zip_next
          (zipD2_next_end S D1 D2 q1 hTI q2 s1 s2 (Nat.min_le_left _ _) (Nat.min_le_right _ _) (by omega) fun h' tk e hk he => ?_) (F.args_zip_next_1 _))))
      obtain ⟨o, ho, hc⟩ := he
      refine wpAny_bind (wpAny_isInstance (T := "StopIteration") (b := true) ⟨o, ho, hc⟩ isSubtype_stop ?_)
      refine wpAny_pure (hE h' tk (fun b o n x => ?_))
      simp only [List.mem_cons, List.not_mem_nil, or_false, not_or] at n
      exact hk b o n.1 n.2.1 n.2.2.1 n.2.2.2 x
    · have hT : s.TypeIs (.ref z) "zip" := ⟨_, q1, rfl⟩
      unfold pyNext
      refine wpAny_bind (wpAny_attempt (wpAny_callSpecial?_slot (name := Str.ofString "__next__") hT F.slot_zip_next
        (wpAny_call_entry F.slot_zip_next hT F.entry_zip_next
          (zipH_next_end S D1 D2 q1 q2 hTI s1 s2 (Nat.min_le_left _ _) (Nat.min_le_right _ _) (by omega) fun h' tk e hk he => ?_) (F.args_zip_next_1 _))))
      obtain ⟨o, ho, hc⟩ := he
      refine wpAny_bind (wpAny_isInstance (T := "StopIteration") (b := true) ⟨o, ho, hc⟩ isSubtype_stop ?_)
      refine wpAny_pure (hE h' tk (fun b o n x => ?_))
      simp only [List.mem_cons, List.not_mem_nil, or_false, not_or] at n
      exact hk b o n.1 n.2.2.1 n.2.2.2 x
section
variable {X : Cx} {pins : List (Addr × Obj)} {σ : L2.St} {H : Hp} {s : Shared} {it : Addr} {T : String} {wr : List Addr} {n : Nat} {Y : Nat → Heap → Value → Heap → Prop} {St : Nat → Heap → Prop} {st : Stp} {Q : VK}
end
namespace Fz
end Fz
end MT
set_option Elab.async false
set_option linter.all false
set_option maxRecDepth 100000
namespace MT
open PySem PySem.Spec PyProof.Rows L2
section
variable {X : Cx} {e e2 : Expr} {ta : TA} {p p2 p3 p4 p5 pos : Pos}
end
end MT
set_option Elab.async false
set_option linter.all false
set_option maxRecDepth 100000
namespace MT
open PySem PySem.Spec PyProof.Rows L2
def EachS (K : PySem.W.Frag) (A : List Addr) (F : Hp) (m : Mem) (st : Stp) (ds : List D) : Prop :=
  ∀ i F1 H1 x H2, i < ds.length → Fx A F A F1 → Ok K A F1 H1 m → st i H1 x H2 → ∃ F2 d, ds[i]? = some d ∧ Gr A F1 H1 A F2 H2 ∧ Ok K A F2 H2 m ∧ Rep K A F2 d x
section
variable {K : PySem.W.Frag} {E : XK} {A : List Addr} {F H : Hp} {m : Mem} {st : Stp} {ds es : List D} {S : Addr} {Q : VK}
theorem EachS.zip {xs ys : List V} (r1 : Reps K A F ds xs) (r2 : Reps K A F es ys) : EachS K A F m (stpZ xs ys) (zipD ds es) := fun i F1 H1 x H2 hi fx o s => by
  obtain ⟨T, x1, y1, rfl, hT, rfl, q1, q2⟩ := s
  obtain ⟨d, e1, e2⟩ := r1.get q1
  obtain ⟨d', e3, e4⟩ := r2.get q2
  obtain ⟨o', g⟩ := o.alloc hT (.tup [x1, y1])
  refine ⟨_, _, zipD_get e1 e3, g, o', ?_⟩
  simp only [Rep]
  exact ⟨T, _, rfl, .inl (.inl upd_same), (Reps.cons (e2.fx fx) (Reps.cons (e4.fx fx) Reps.nil)).up (o.out hT).1⟩
end
def enumJ (g : En → Mem → Out (List D)) : En → Mem → Out (List D) := bind1 g fun ds m => .ok (enumD ds) m
section
variable {X : Cx} {E : XK} {a b : Expr} {g : En → Mem → Out (List D)} {p p2 p3 p4 p5 pos : Pos}
end
end MT
set_option Elab.async false
set_option linter.all false
set_option maxRecDepth 100000
namespace MT
open PySem PySem.Spec PyProof.Rows L2
mutual
def hbD (n : Nat) : D → Bool
  | .hnd j => decide (j < n)
  | .tup xs => hbDs n xs
  | .lst xs => hbDs n xs
  | .dct _ xs => hbDs n xs
  | .obj _ _ xs => hbDs n xs
  | .exc _ x => hbD n x
  | .slo _ xs => hbDs n xs
  | _ => true
def hbDs (n : Nat) : List D → Bool
  | [] => true
  | x :: xs => hbD n x && hbDs n xs
end
def hbM (n : Nat) : MO → Bool
  | .ins _ _ xs => hbDs n xs
  | .lst xs => hbDs n xs
  | .slo _ os => hbDs n (os.map fun o => o.getD .non)
  | _ => true
def resL (g : D → Option D) : List D → Option (List D)
  | [] => some []
  | x :: xs => (g x).bind fun y => (resL g xs).map (y :: ·)
def res (m : Mem) (k : Nat) : Nat → D → Option D
  | 0, d => if hbD k d = true then some d else none
  | f + 1, d => if hbD k d = true then some d else match d with
    | .hnd j => (match m[j]? with
      | some (.lst ds) => (resL (res m k f) ds).map .lst
      | some (.ins c ks ds) => (resL (res m k f) ds).map (.obj c ks)
      | _ => none)
    | .tup ds => (resL (res m k f) ds).map .tup
    | .lst ds => (resL (res m k f) ds).map .lst
    | .obj c ks ds => (resL (res m k f) ds).map (.obj c ks)
    | _ => none
def frzO (k : Nat) (d : D) (m' : Mem) : Out D := match res m' k 8 d with
  | some d' => if k ≤ m'.length ∧ (m'.take k).all (hbM k) = true then .ok d' (m'.take k) else .stuck
  | none => .stuck
def frzF (f : List D → Mem → Out D) : List D → Mem → Out D := fun ds m => match f ds m with
  | .ok d m' => frzO m.length d m'
  | o => o
section
variable {K : PySem.W.Frag} {A A' t : List Addr} {F F' H H' : Hp} {m m' : Mem}
mutual
theorem Rep.cutH (f : ∀ a o, F a = some o → F' a = some o) : ∀ {d : D} {v : V}, hbD A.length d = true → Rep K (A ++ t) F d v → Rep K A F' d v
  | .non, v, _, h => by simp only [Rep] at h ⊢; exact h
  | .bl b, v, _, h => by simp only [Rep] at h ⊢; exact h
  | .int i, v, _, h => by simp only [Rep] at h ⊢; exact h
  | .str s, v, _, h => by simp only [Rep] at h ⊢; exact h
  | .ty n, v, _, h => by simp only [Rep] at h ⊢; exact h
  | .glo n, v, _, h => by simp only [Rep] at h ⊢; exact h
  | .exc c d, v, n, h => by
    simp only [Rep] at h ⊢
    obtain ⟨a, dx, u, e, h1, h2, r⟩ := h
    exact ⟨a, dx, u, e, f _ _ h1, f _ _ h2, Rep.cutH f (by simpa only [hbD] using n) r⟩
  | .scr ns, v, _, h => by
    simp only [Rep] at h ⊢
    obtain ⟨a, h1, h2⟩ := h
    exact ⟨a, h1, sqL_fx f h2⟩
  | .hnd n, v, n0, h => by
    simp only [Rep] at h ⊢
    simp only [hbD, decide_eq_true_eq] at n0
    obtain ⟨a, h1, h2⟩ := h
    rw [List.getElem?_append_left n0] at h1
    exact ⟨a, h1, h2⟩
  | .tup ds, v, n0, h => by
    simp only [Rep] at h ⊢
    obtain ⟨a, vs, e, s, r⟩ := h
    exact ⟨a, vs, e, sqT_fx f s, Reps.cutH f (by simpa only [hbD] using n0) r⟩
  | .lst ds, v, n0, h => by
    simp only [Rep] at h ⊢
    obtain ⟨a, vs, e, s, r⟩ := h
    exact ⟨a, vs, e, f _ _ s, Reps.cutH f (by simpa only [hbD] using n0) r⟩
  | .dct ks ds, v, n0, h => by
    simp only [Rep] at h ⊢
    obtain ⟨a, vs, e, s, l, n, r⟩ := h
    exact ⟨a, vs, e, f _ _ s, l, n, Reps.cutH f (by simpa only [hbD] using n0) r⟩
  | .obj c ks ds, v, n0, h => by
    simp only [Rep] at h ⊢
    obtain ⟨a, dx, vs, e, s, l, r⟩ := h
    exact ⟨a, dx, vs, e, f _ _ s, l, Reps.cutH f (by simpa only [hbD] using n0) r⟩
  | .slo c ds, v, n0, h => by
    simp only [Rep] at h ⊢
    obtain ⟨a, dx, vs, e, s, l, n, r⟩ := h
    exact ⟨a, dx, vs, e, f _ _ s, f _ _ l, n, Reps.cutH f (by simpa only [hbD] using n0) r⟩
theorem Reps.cutH (f : ∀ a o, F a = some o → F' a = some o) : ∀ {ds : List D} {vs : List V}, hbDs A.length ds = true → Reps K (A ++ t) F ds vs → Reps K A F' ds vs
  | [], vs, _, h => by simp only [Reps] at h ⊢; exact h
  | d :: ds, vs, n0, h => by
    simp only [Reps] at h ⊢
    simp only [hbDs, Bool.and_eq_true] at n0
    obtain ⟨v, r, e, h1, h2⟩ := h
    exact ⟨v, r, e, Rep.cutH f n0.1 h1, Reps.cutH f n0.2 h2⟩
end
theorem RepsO.cutH (f : ∀ a o, F a = some o → F' a = some o) : ∀ {os : List (Option D)} {vs : List (Option V)}, hbDs A.length (os.map fun o => o.getD .non) = true → RepsO K (A ++ t) F os vs → RepsO K A F' os vs
  | [], vs, _, h => h
  | none :: os, vs, n, h => by
    obtain ⟨r, e, h2⟩ := h
    simp only [List.map_cons, hbDs, Bool.and_eq_true] at n
    exact ⟨r, e, RepsO.cutH f n.2 h2⟩
  | some d :: os, vs, n, h => by
    obtain ⟨u, r, e, h1, h2⟩ := h
    simp only [List.map_cons, hbDs, Bool.and_eq_true] at n
    exact ⟨u, r, e, h1.cutH f n.1, RepsO.cutH f n.2 h2⟩
theorem resL_rep {g : D → Option D} (hg : ∀ d d' v, g d = some d' → Rep K A' F d v → Rep K A F' d' v) : ∀ {ds es : List D} {vs : List V}, resL g ds = some es → Reps K A' F ds vs → Reps K A F' es vs
  | [], es, vs, e, h => by
    simp only [resL, Option.some.injEq] at e
    subst e
    simp only [Reps] at h ⊢
    exact h
  | d :: ds, es, vs, e, h => by
    simp only [resL, Option.bind_eq_some_iff, Option.map_eq_some_iff] at e
    obtain ⟨y, e1, ys, e2, rfl⟩ := e
    simp only [Reps] at h
    obtain ⟨v, r, rfl, h1, h2⟩ := h
    exact Reps.cons (hg d y v e1 h1) (resL_rep hg e2 h2)
theorem resL_len {g : D → Option D} : ∀ {ds es : List D}, resL g ds = some es → es.length = ds.length
  | [], es, e => by simp only [resL, Option.some.injEq] at e; subst e; rfl
  | d :: ds, es, e => by
    simp only [resL, Option.bind_eq_some_iff, Option.map_eq_some_iff] at e
    obtain ⟨y, e1, ys, e2, rfl⟩ := e
    simp [resL_len e2]
theorem res_rep (o : Ok K (A ++ t) F H m) (sub : ∀ a o, F a = some o → F' a = some o) (fr : ∀ a ∈ t, F' a = H a) : ∀ (f : Nat) (d d' : D) (v : V), res m A.length f d = some d' → Rep K (A ++ t) F d v → Rep K A F' d' v := by
  intro f
  induction f with
  | zero =>
    intro d d' v e h
    unfold res at e
    split at e
    · rename_i c
      cases e
      exact h.cutH sub c
    · cases e
  | succ f ih =>
    intro d d' v e h
    unfold res at e
    split at e
    · rename_i c
      cases e
      exact h.cutH sub c
    · rename_i c
      split at e
      · rename_i j
        simp only [hbD, decide_eq_true_eq] at c
        simp only [Rep] at h
        obtain ⟨a, ha, rfl⟩ := h
        have hat : a ∈ t := by
          rw [List.getElem?_append_right (by omega)] at ha
          exact List.mem_of_getElem? ha
        split at e
        · rename_i ds em
          obtain ⟨es, e1, rfl⟩ := Option.map_eq_some_iff.mp e
          obtain ⟨vs, h1, h2⟩ := o.mem j a _ ha em
          simp only [Rep]
          exact ⟨a, vs, rfl, by rw [fr a hat]; exact h1, resL_rep (fun d d' v => ih d d' v) e1 h2⟩
        · rename_i cc ks ds em
          obtain ⟨es, e1, rfl⟩ := Option.map_eq_some_iff.mp e
          obtain ⟨dx, vs, h1, h2, h3⟩ := o.mem j a _ ha em
          simp only [Rep]
          exact ⟨a, dx, vs, rfl, by rw [fr a hat]; exact h1, by rw [resL_len e1]; exact h2, resL_rep (fun d d' v => ih d d' v) e1 h3⟩
        · cases e
      · rename_i ds
        obtain ⟨es, e1, rfl⟩ := Option.map_eq_some_iff.mp e
        simp only [Rep] at h ⊢
        obtain ⟨a, vs, e, s, r⟩ := h
        exact ⟨a, vs, e, sqT_fx sub s, resL_rep (fun d d' v => ih d d' v) e1 r⟩
      · rename_i ds
        obtain ⟨es, e1, rfl⟩ := Option.map_eq_some_iff.mp e
        simp only [Rep] at h ⊢
        obtain ⟨a, vs, e, s, r⟩ := h
        exact ⟨a, vs, e, sub _ _ s, resL_rep (fun d d' v => ih d d' v) e1 r⟩
      · rename_i cc ks ds
        obtain ⟨es, e1, rfl⟩ := Option.map_eq_some_iff.mp e
        simp only [Rep] at h ⊢
        obtain ⟨a, dx, vs, e, s, l, r⟩ := h
        exact ⟨a, dx, vs, e, sub _ _ s, by rw [resL_len e1]; exact l, resL_rep (fun d d' v => ih d d' v) e1 r⟩
      · cases e
theorem frz_post {E : XK} {Q : VK} {d : D} (o : Ok K A F H m) (p : Post (RE K) K E A F H (frzO m.length d m') (QE Q)) (v : V) (A1 : List Addr) (F1 H1 : Hp) (g : Gr A F H A1 F1 H1) (o1 : Ok K A1 F1 H1 m') (r : Rep K A1 F1 d v) : Q v H1 := by
  unfold frzO at p
  split at p
  · rename_i d' e
    split at p
    · rename_i hc
      obtain ⟨hl, hm⟩ := hc
      obtain ⟨t, rfl⟩ := g.fx.pre
      have nd := o1.nd
      rw [List.nodup_append] at nd
      classical
      let F2 : Hp := fun a => if a ∈ t then H1 a else F1 a
      have sub : ∀ a u, F1 a = some u → F2 a = some u := fun a u e => by
        show (if a ∈ t then H1 a else F1 a) = some u
        split
        · exact o1.sub a u e
        · exact e
      have fr : ∀ a ∈ t, F2 a = H1 a := fun a ha => if_pos ha
      rw [← o.len] at e
      have rp := res_rep (F' := F2) o1 sub fr 8 d d' v e r
      have nt : ∀ a, a ∈ A → a ∉ t := fun a h1 h2 => nd.2.2 a h1 a h2 rfl
      refine p v A F2 H1 ⟨⟨fun a u e => sub a u (g.fx.f a u e), List.prefix_refl _⟩, fun a u e => ?_, g.stay, g.keep, fun a h => .inl h, g.frz⟩ ⟨fun a u e => ?_, o.nd, by rw [List.length_take, o.len]; omega, fun n a y e1 e2 => ?_, fun a ha => ?_⟩ rp
      · have e' : (if a ∈ t then H1 a else F1 a) = some u := e
        split at e'
        · rename_i ht
          rcases g.mnew a (List.mem_append_right _ ht) with q | q
          · exact absurd ht (nt a q)
          · exact .inr q
        · exact g.new a u e'
      · have e' : (if a ∈ t then H1 a else F1 a) = some u := e
        split at e'
        · exact e'
        · exact o1.sub a u e'
      · have hn : n < A.length := (List.getElem?_eq_some_iff.mp e1).1
        have e2' : m'[n]? = some y := by
          rw [List.getElem?_take] at e2
          split at e2
          · exact e2
          · cases e2
        have q := o1.mem n a y (by rw [List.getElem?_append_left hn]; exact e1) e2'
        have hy : hbM A.length y = true := by
          rw [o.len]
          exact List.all_eq_true.mp hm y (List.mem_of_getElem? e2)
        cases y with
        | pot _ _ _ => exact q
        | tab x' =>
          obtain ⟨e, ps, q1, q2, q3⟩ := q
          exact ⟨e, ps, q1, q2, fun pos cv hc => let ⟨c, e1, e2⟩ := q3 pos cv hc; ⟨c, e1, sub _ _ e2⟩⟩
        | ins c' ks' ds' =>
          obtain ⟨dx', vs', q1, q2, q3⟩ := q
          exact ⟨dx', vs', q1, q2, q3.cutH sub (by simpa only [hbM] using hy)⟩
        | lst ds' =>
          obtain ⟨vs', q1, q3⟩ := q
          exact ⟨vs', q1, q3.cutH sub (by simpa only [hbM] using hy)⟩
        | fn => exact q
        | slo c os =>
          obtain ⟨dx', vs', q1, q2, q3, q4⟩ := q
          exact ⟨dx', vs', q1, sub _ _ q2, q3, q4.cutH sub (by simpa only [hbM] using hy)⟩
      · show (if a ∈ t then H1 a else F1 a) = none
        rw [if_neg (nt a ha)]
        exact o1.sep a (List.mem_append_left _ ha)
    · exact p.elim
  · exact p.elim
theorem SpF.frz {f : List D → Mem → Out D} (vs : List V) (H : Hp) (Q : VK) (E : XK) (h : SpF K (frzF f) vs H Q E) : SpF K f vs H Q E := by
  obtain ⟨A, F, ds, m, o, r, p⟩ := h
  refine ⟨A, F, ds, m, o, r, ?_⟩
  unfold frzF at p
  cases e : f ds m with
  | stuck => rw [e] at p; exact p
  | exc c d m' => rw [e] at p; exact p
  | ok d m' =>
    rw [e] at p
    exact fun v A1 F1 H1 g o1 r1 => frz_post o p v A1 F1 H1 g o1 r1
end
section
variable {P : Program} {w : World} {K : PySem.W.Frag} {mg : Str → Option Value} {base : Heap} {k : Nat} {x c n : Str} {fm : List D → Mem → Out D}
theorem CallOk.frz (h : CallOk P w K mg base k x fm) : CallOk P w K mg base k x (frzF fm) := by
  obtain ⟨f, fd, ps, ds, dvs, dd, f0, F, hm, hk, hb, hd, hdd, rfl⟩ := h
  exact ⟨f, fd, ps, ds, dvs, dd, frzF f0, F.imp fun _ _ _ _ q => SpF.frz _ _ _ _ q, hm, hk, hb, hd, hdd, rfl⟩
theorem SpecOk.frz (h : SpecOk P w K mg base k c n fm) : SpecOk P w K mg base k c n (frzF fm) := by
  obtain ⟨f, fd, ps, F, hm, hb⟩ := h
  exact ⟨f, fd, ps, F.imp fun _ _ _ _ q => SpF.frz _ _ _ _ q, hm, hb⟩
end
section
variable {X : Cx} {E : XK} {k : Nat} {c : Str} {p pos : Pos} {e : Expr} {es : List Expr} {g : En → Mem → Out (List D)} {fm f0 : List D → Mem → Out D} {K : PySem.W.Frag}
end
section
variable {P : Program} {w : World} {fa : List Fb} {fn : List Df} {K : PySem.W.Frag} {mg : Str → Option Value} {base : Heap} {x c n qual : Str} {params : Arguments} {body : List Stmt} {scope : Scope} {N ps : List Str} {k : Nat} {b : En → Mem → SOut} {dfl : List He.Dv} {dd : List D}
end
end MT
set_option Elab.async false
set_option linter.all false
set_option maxRecDepth 100000
namespace MT
open PySem PySem.Spec PyProof.Rows L2
section
variable {K : PySem.W.Frag} {A : List Addr} {F H : Hp} {m : Mem}
end
def newH (g : En → Mem → Out (List D)) : En → Mem → Out D := bind1 g fun ds m => if ds.length ≤ sizeLine then .ok (.hnd m.length) (m ++ [.lst ds]) else .stuck
def hixD : D → D → Mem → Out D
  | .hnd n, .int i, m => match m[n]? with
    | some (.lst ds) => (match atI ds i with
      | some z => .ok z m
      | none => .stuck)
    | _ => .stuck
  | x, y, m => ixD x y m
def sPutH (f g h : En → Mem → Out D) : En → Mem → SOut := fun r m => sOf (f r m) fun v m => sOf (g r m) fun c m => sOf (h r m) fun k m => (match c, k with
  | .hnd n, .int k => (match m[n]? with
    | some (.lst ds) => (match ixN ds.length k with
      | some j => .next r (m.set n (.lst (ds.set j v)))
      | none => .stuck)
    | _ => .stuck)
  | _, _ => .stuck)
section
variable {X : Cx} {E : XK} {A0 : List Addr} {F0 H0 : Hp} {e k a b : Expr} {es : List Expr} {f g h : En → Mem → Out D} {gl : En → Mem → Out (List D)} {i : Nat} {x : Str} {pos p2 apos cpos : Pos} {K : PySem.W.Frag}
end
section
variable {X : Cx} {E : XK} {A0 : List Addr} {F0 H0 : Hp} {body : List Stmt} {b : En → Mem → SOut} {a : Expr} {pos p2 p3 tpos : Pos} {f : En → Mem → Out D} {g : TG} {tgm : D → En → Option En} {is : List Nat} {elts : List Expr} {kk : Nat}
end
end MT
set_option Elab.async false
set_option linter.all false
set_option maxRecDepth 100000
namespace MT
open PySem PySem.Spec PyProof.Rows L2
section
variable {X : Cx} {E : XK} {K : PySem.W.Frag} {A0 : List Addr} {F0 H0 : Hp} {body : List Stmt} {b : En → Mem → SOut} {c : Expr} {cb : En → Mem → Out Bool} {pos : Pos} {n : Nat}
end
structure ClsF (K : PySem.W.Frag) (cs : List Str) : Prop where
  ty : ∀ {H : Hp} {a dx : Addr} {fs : List (Str × V)} {c : Str}, c ∈ cs → H a = some (.ins (He.ga K c) dx fs) → TyX K H (.ref a) (.ref (He.ga K c))
  obj : ∀ {c : Str}, c ∈ cs → PySem.W.mroIn K (He.ga K c) (.type "object") = some true
  one : ∀ {c c' : Str}, c ∈ cs → c' ∈ cs → PySem.W.kitOne K (.ref (He.ga K c')) (.ref (He.ga K c)) = some (decide (c' = c))
  nf : ∀ {c c' : Str}, c ∈ cs → c' ∈ cs → PySem.W.notFirst K (He.ga K c) (.ref (He.ga K c')) = true
  oneT : ∀ {c : Str} {t : String}, c ∈ cs → t ∈ tysB → PySem.W.kitOne K (.type t) (.ref (He.ga K c)) = some false
  nfT : ∀ {c : Str} {t : String}, c ∈ cs → t ∈ tysB → PySem.W.notFirst K (He.ga K c) (.type t) = true
def clsOf (d : D) (m : Mem) : Option Str := match d with
  | .obj c _ _ => some c
  | .hnd n => (match m[n]? with
    | some (.ins c _ _) => some c
    | _ => none)
  | _ => none
def tyOk (cs : List Str) (d : D) (m : Mem) : Bool := match tyN d with
  | some t => decide (t ∈ tysB)
  | none => (match clsOf d m with
    | some c => decide (c ∈ cs)
    | none => false)
section
variable {K : PySem.W.Frag} {A : List Addr} {F H : Hp} {m : Mem} {cs : List Str} {c : Str} {d : D} {v : V}
end
section
variable {X : Cx} {k : Nat} {f C : Addr} {fd : FuncData} {ps : List Str} {sp : Sp}
end
def eqO (c : Str) (cs : List Str) (fm : List D → Mem → Out D) (fb : D → D → Mem → Out D) : D → D → Mem → Out D := fun x y m => if clsOf x m = some c then (if c ∈ cs ∧ tyOk cs y m = true then (match fm [x, y] m with
    | .ok (.bl b) m' => .ok (.bl b) m'
    | _ => .stuck) else .stuck) else fb x y m
section
variable {X : Cx} {K : PySem.W.Frag} {k : Nat} {c : Str} {cs : List Str} {fm : List D → Mem → Out D} {fb : D → D → Mem → Out D} {rr : R2}
def Cp2E (K : PySem.W.Frag) (rr : R2) (g : D → D → Mem → Out D) : Prop := ∀ E A F H m x y vx vy Q, Ok K A F H m → Rep K A F x vx → Rep K A F y vy → Post (RE K) K E A F H (g x y m) (QE Q) → rr vx vy H Q
theorem Cp2.e {g : D → D → Mem → Out D} (h : Cp2 K rr g) : Cp2E K rr g := fun E A F H m x y vx vy Q o rx ry p => h E A F H m x y vx vy Q o (.inl rx) (.inl ry) p
end
section
variable {X : Cx} {E : XK} {a b : Expr} {f h : En → Mem → Out D} {pos : Pos}
end
end MT
set_option Elab.async false
set_option linter.all false
set_option maxRecDepth 100000
namespace MT
open PySem PySem.Spec PyProof.Rows L2
section
variable {prog : Program} {w : World} {A : Around} {E : Value → Shared → Prop} {s : Shared} {K : PySem.W.Frag} {x C L f : Addr} {h₀ : Heap} {m : Str → Option Value} {ox : Obj} {od : Option Obj} {b tb : Value}
end
section
variable {X : Cx} {k : Nat} {f C : Addr} {fd : FuncData} {ps : List Str} {sp : Sp}
end
section
variable {prog : Program} {w : World} {M : Model} {A : Around} {E : Value → Shared → Prop} {s : Shared} {K : PySem.W.Frag} {x C L f : Addr} {h₀ : Heap} {m : Str → Option Value} {ox : Obj} {od : Option Obj} {T : String}
end
section
variable {X : Cx} {k : Nat} {f : Addr} {fd : FuncData} {ps : List Str} {sp : Sp} {E : XK} {c : Str}
end
def Cp2X (K : PySem.W.Frag) (E : XK) (rr : R2) (g : D → D → Mem → Out D) : Prop := ∀ A F H m x y vx vy Q, Ok K A F H m → Rep K A F x vx → Rep K A F y vy → Post (RE K) K E A F H (g x y m) (QE Q) → rr vx vy H Q
section
variable {X : Cx} {K : PySem.W.Frag} {k : Nat} {c : Str} {cs : List Str} {fm : List D → Mem → Out D} {fb : D → D → Mem → Out D} {rr : R2} {E : XK}
theorem Cp2.x {g : D → D → Mem → Out D} (h : Cp2 K rr g) : Cp2X K E rr g := fun A F H m x y vx vy Q o rx ry p => h E A F H m x y vx vy Q o (.inl rx) (.inl ry) p
end
section
variable {X : Cx} {E : XK} {a b : Expr} {f h : En → Mem → Out D} {pos : Pos}
end
end MT
set_option Elab.async false
set_option linter.all false
set_option maxRecDepth 100000
namespace MT
open PySem PySem.Spec PyProof.Rows L2
section
variable {K : PySem.W.Frag} {A : List Addr} {F H : Hp} {m : Mem}
end
end MT
set_option Elab.async false
set_option linter.all false
set_option maxRecDepth 100000
namespace MT
open PySem PySem.Spec PyProof.Rows L2
def datS (d : D) : Bool := isDat d && decide (dep d ≤ 8)
open Classical in
noncomputable def eqR (h : Heap) (dx : PyData) (u : Value) : Bool := decide (∃ d as, Reads h u d as ∧ PyData.eqv d dx = true)
theorem eqR_of {h : Heap} {dx d : PyData} {u : Value} {as : List Addr} (l : d.canLay0 = true) (r : Reads h u d as) : eqR h dx u = PyData.eqv d dx := by
  unfold eqR
  cases q : PyData.eqv d dx with
  | true => exact (@decide_eq_true _ (Classical.propDecidable _) ⟨d, as, r, q⟩)
  | false =>
    refine @decide_eq_false _ (Classical.propDecidable _) ?_
    rintro ⟨d', as', r', q'⟩
    rw [← PySem.SeqAt.Reads.unique d d' u as as' l r r'] at q'
    rw [q] at q'
    cases q'
def dpS (d : PyData) : Prop := d.canLay0 = true ∧ d.depth ≤ 8
section
variable {X : Cx} {pins : List (Addr × Obj)} {σ : L2.St} {H : Hp} {s : Shared}
theorem eqR_all {dx : PyData} {A : Around} {v : Value} {as : List Addr} (rx : Reads s.heap v dx as) (sx : dpS dx) (hu : A.units + 8 < cLine) : ∀ {us : List Value} {ds : List PyData} {bs : List Addr}, ReadsAll s.heap us ds bs → (∀ d ∈ ds, dpS d) →
    (∀ u ∈ us, SeqAt.EqAt A s u v (eqR s.heap dx u)) ∧ us.any (eqR s.heap dx) = ds.any (fun d => PyData.eqv d dx) ∧ us.countP (eqR s.heap dx) = ds.countP (fun d => PyData.eqv d dx)
  | _, _, _, .nil, _ => ⟨fun u hu => (List.not_mem_nil hu).elim, rfl, rfl⟩
  | _, _, _, .cons r t, hd => by
    rename_i u us d ds as1 bs1
    obtain ⟨h1, h2, h3⟩ := eqR_all rx sx hu t (fun d hd' => hd d (List.mem_cons_of_mem _ hd'))
    have hs := hd d (List.mem_cons_self ..)
    have e := eqR_of (dx := dx) hs.1 r
    refine ⟨fun u' hu' => ?_, ?_, ?_⟩
    · rcases List.mem_cons.mp hu' with rfl | hu'
      · rw [e]
        exact SeqAt.eqAt_reads d dx A s u' v _ _ r rx hs.1 sx.1 (by have := sx.2; omega)
      · exact h1 u' hu'
    · rw [List.any_cons, List.any_cons, h2, e]
    · rw [List.countP_cons, List.countP_cons, h3, e]
end
def rInP (K : PySem.W.Frag) (neg : Bool) : R2 := fun x y H Q => ∃ p xs dx dxs, y = .ref p ∧ (SqL K H p xs ∨ SqT K H p xs) ∧ Dp K H x dx ∧ DpAll K H xs dxs ∧ dpS dx ∧ (∀ d ∈ dxs, dpS d) ∧
  Q (.bl (if neg then !dxs.any (fun d => PyData.eqv d dx) else dxs.any (fun d => PyData.eqv d dx))) H
section
variable {X : Cx}
theorem op_inP (hu : X.A.units + 64 < cLine) : OpR X (compareOp .In) (rInP X.K false) := by
  intro pins s σ H x y v u Q I rx ry h
  obtain ⟨p, xs, dx, dxs, rfl, hq, hx, hxs, sx, ss, q⟩ := h
  cases ry
  obtain ⟨as, r1⟩ := Dp.reads I dx x v hx rx
  rcases hq with hq | hq
  · obtain ⟨its, r, pl, hz⟩ := I.list hq
    obtain ⟨bs, r2⟩ := Dp.readsAll I dxs xs its hxs r
    obtain ⟨e1, e2, e3⟩ := eqR_all (A := X.A.in1) r1 sx (by rw [Around.in1_units]; omega) r2 ss
    refine SeqAt.in_listAt (eqR s.heap dx) pl.isList (fun w hw => e1 w (by simpa using hw)) ⟨.bl _, H, I, rfl, ?_⟩
    rw [show its.toArray.any (eqR s.heap dx) = its.any (eqR s.heap dx) by simp, e2]
    exact q
  · obtain ⟨its, r, pl, hz⟩ := I.tuple hq
    obtain ⟨bs, r2⟩ := Dp.readsAll I dxs xs its hxs r
    obtain ⟨e1, e2, e3⟩ := eqR_all (A := X.A.in1) r1 sx (by rw [Around.in1_units]; omega) r2 ss
    refine SeqAt.in_tupleAt (eqR s.heap dx) pl (fun w hw => e1 w (by simpa using hw)) ⟨.bl _, H, I, rfl, ?_⟩
    rw [show its.toArray.any (eqR s.heap dx) = its.any (eqR s.heap dx) by simp, e2]
    exact q
def lstOnly (f : En → Mem → Out D) : En → Mem → Out D := bind1 f fun d m => match d with
  | .lst z => .ok (.lst z) m
  | _ => .stuck
variable {E : XK} {o e : Expr} {es : List Expr} {name : Str} {apos cpos : Pos} {id : String} {rr : V → List V → Hp → VK → Prop} {fm : D → List D → Mem → Out D} {f : En → Mem → Out D} {g : En → Mem → Out (List D)}
end
theorem dpS_of {d : D} (h : datS d = true) : dpS (toPy d) := by
  simp only [datS, Bool.and_eq_true, decide_eq_true_eq] at h
  exact ⟨lay_py d h.1, by rw [dep_py d h.1]; exact h.2⟩
theorem datSs_dats : ∀ {ds : List D}, ds.all datS = true → isDats ds = true
  | [], _ => rfl
  | d :: ds, h => by
    simp only [List.all_cons, Bool.and_eq_true] at h
    simp only [isDats, Bool.and_eq_true]
    refine ⟨?_, datSs_dats h.2⟩
    have := h.1
    simp only [datS, Bool.and_eq_true] at this
    exact this.1
theorem dpSs : ∀ {ds : List D}, ds.all datS = true → ∀ d ∈ toPys ds, dpS d
  | [], _, d, hd => by simp only [toPys] at hd; exact (List.not_mem_nil hd).elim
  | e :: ds, h, d, hd => by
    simp only [List.all_cons, Bool.and_eq_true] at h
    simp only [toPys] at hd
    rcases List.mem_cons.mp hd with rfl | hd
    · exact dpS_of h.1
    · exact dpSs h.2 d hd
theorem any_pys {x : D} (hx : isDat x = true) : ∀ {ds : List D}, isDats ds = true → (toPys ds).any (fun d => PyData.eqv d (toPy x)) = ds.any (fun y => eqB y x) ∧ (toPys ds).countP (fun d => PyData.eqv d (toPy x)) = ds.countP (fun y => eqB y x)
  | [], _ => by simp only [toPys]; exact ⟨rfl, rfl⟩
  | d :: ds, h => by
    simp only [isDats, Bool.and_eq_true] at h
    simp only [toPys]
    obtain ⟨i1, i2⟩ := any_pys hx h.2
    rw [List.any_cons, List.any_cons, List.countP_cons, List.countP_cons, i1, i2, eqv_py d x h.1 hx]
    exact ⟨rfl, rfl⟩
def inP (neg : Bool) : D → D → Mem → Out D
  | x, .lst ds, m => if datS x && ds.all datS then .ok (.bl (if neg then !ds.any fun y => eqB y x else ds.any fun y => eqB y x)) m else .stuck
  | x, .tup ds, m => if datS x && ds.all datS then .ok (.bl (if neg then !ds.any fun y => eqB y x else ds.any fun y => eqB y x)) m else .stuck
  | _, _, _ => .stuck
def cntP1 : D → List D → Mem → Out D
  | .lst ds, [x], m => if datS x && ds.all datS then .ok (.int ((ds.countP fun y => eqB y x : Nat) : Int)) m else .stuck
  | _, _, _ => .stuck
section
variable {K : PySem.W.Frag}
theorem cp_inP {neg : Bool} : Cp2 K (rInP K neg) (inP neg) := by
  intro E A F H m x y vx vy Q o rx ry p
  cases y <;> first | exact p.elim | skip
  · rename_i ds
    obtain ⟨a, us, rfl, h1, _, h2⟩ := ry.tup o
    replace p : Post (RE K) K E A F H (if datS x && ds.all datS then .ok (.bl (if neg then !ds.any fun y => eqB y x else ds.any fun y => eqB y x)) m else .stuck) (QE Q) := p
    split at p
    · rename_i c
      simp only [Bool.and_eq_true] at c
      have cx : isDat x = true := by have := c.1; simp only [datS, Bool.and_eq_true] at this; exact this.1
      have cs := datSs_dats c.2
      refine ⟨a, us, toPy x, toPys ds, rfl, .inr h1, RepW.dp o cx rx, dps_fx o.sub (dps_of cs h2), dpS_of c.1, dpSs c.2, ?_⟩
      rw [(any_pys cx cs).1]
      exact p.ret o rep_bl
    · exact p.elim
  · rename_i ds
    obtain ⟨a, us, rfl, h1, h2⟩ := ry.lst o
    replace p : Post (RE K) K E A F H (if datS x && ds.all datS then .ok (.bl (if neg then !ds.any fun y => eqB y x else ds.any fun y => eqB y x)) m else .stuck) (QE Q) := p
    split at p
    · rename_i c
      simp only [Bool.and_eq_true] at c
      have cx : isDat x = true := by have := c.1; simp only [datS, Bool.and_eq_true] at this; exact this.1
      have cs := datSs_dats c.2
      refine ⟨a, us, toPy x, toPys ds, rfl, .inl (.inl (.inl h1)), RepW.dp o cx rx, dps_fx o.sub (dps_of cs h2), dpS_of c.1, dpSs c.2, ?_⟩
      rw [(any_pys cx cs).1]
      exact p.ret o rep_bl
    · exact p.elim
end
end MT
set_option Elab.async false
set_option linter.all false
set_option maxRecDepth 100000
namespace MT
open PySem L2
section
variable {T U V' W' : Type} {r r1 r2 : En} {m m1 m2 m3 : Mem} {d d1 d2 x y z : D} {b b1 b2 : Bool} {xs ys : List D} {i j l : Nat}
theorem e_kC : kC d r m = .ok d m := rfl
theorem e_vF (h : r[i]? = some (.fz d)) : vF i r m = .ok d m := by simp only [vF, h]
theorem e_vW (h : r[i]? = some (.fz d)) : vW i r m = .ok d m := by simp only [vW, h]
theorem e_vWo (h : r[i]? = some (.own xs)) : vW i r m = .ok (.lst xs) m := by simp only [vW, h]
theorem e_vWd {ks : List Key} (h : r[i]? = some (.ownD ks xs)) : vW i r m = .ok (.dct ks xs) m := by simp only [vW, h]
theorem e_b1 {f : En → Mem → Out T} {k : T → Mem → Out V'} {t : T} {o : Out V'} (h : f r m = .ok t m1) (g : k t m1 = o) : bind1 f k r m = o := by simp only [bind1, h, Out.bind, g]
theorem e_b2 {f : En → Mem → Out T} {g : En → Mem → Out U} {k : T → U → Mem → Out V'} {t : T} {u : U} {o : Out V'} (h : f r m = .ok t m1) (h2 : g r m1 = .ok u m2) (q : k t u m2 = o) : bind2 f g k r m = o := by simp only [bind2, h, h2, Out.bind, q]
theorem e_b3 {f : En → Mem → Out T} {g : En → Mem → Out U} {h : En → Mem → Out V'} {k : T → U → V' → Mem → Out W'} {t : T} {u : U} {v : V'} {o : Out W'} (h1 : f r m = .ok t m1) (h2 : g r m1 = .ok u m2) (h3 : h r m2 = .ok v m3) (q : k t u v m3 = o) : bind3 f g h k r m = o := by simp only [bind3, h1, h2, h3, Out.bind, q]
theorem e_aNil : aNil r m = .ok [] m := rfl
theorem e_aCons {f : En → Mem → Out D} {g : En → Mem → Out (List D)} (h : f r m = .ok x m1) (h2 : g r m1 = .ok xs m2) : aCons f g r m = .ok (x :: xs) m2 := by simp only [aCons, bind2, h, h2, Out.bind]
theorem e_mkT {g : En → Mem → Out (List D)} (h : g r m = .ok xs m1) (l : xs.length ≤ sizeLine) : mkT g r m = .ok (.tup xs) m1 := by simp only [mkT, bind1, h, Out.bind, if_pos l]
theorem e_mkL {g : En → Mem → Out (List D)} (h : g r m = .ok xs m1) (l : xs.length ≤ sizeLine) : mkL g r m = .ok (.lst xs) m1 := by simp only [mkL, bind1, h, Out.bind, if_pos l]
theorem e_mkD {kfs : KF} (h : evL kfs r m = .ok xs m1) : mkD kfs r m = .ok (.dct (kfs.map fun kf => .inr kf.1) xs) m1 := by simp only [mkD, bind1, h, Out.bind]
theorem e_mkD2 {kfs : KF} {ks : List Key} (h : evL kfs r m = .ok xs m1) (hk : (kfs.map fun kf => (Sum.inr kf.1 : Key)) = ks) : mkD kfs r m = .ok (.dct ks xs) m1 := by rw [← hk]; exact e_mkD h
theorem e_evN : evL [] r m = .ok [] m := rfl
theorem e_evC {k : Str} {f : En → Mem → Out D} {kfs : KF} (h : f r m = .ok x m1) (h2 : evL kfs r m1 = .ok xs m2) : evL ((k, f) :: kfs) r m = .ok (x :: xs) m2 := e_aCons h h2
theorem e_toB {f : En → Mem → Out D} (h : f r m = .ok (.bl b) m1) : toB f r m = .ok b m1 := by simp only [toB, bind1, h, Out.bind]
theorem e_ofB {f : En → Mem → Out Bool} (h : f r m = .ok b m1) : ofB f r m = .ok (.bl b) m1 := by simp only [ofB, bind1, h, Out.bind]
theorem e_notB {f : En → Mem → Out Bool} (h : f r m = .ok b m1) : notB f r m = .ok (!b) m1 := by simp only [notB, bind1, h, Out.bind]
theorem e_notV {f : En → Mem → Out D} (h : f r m = .ok (.bl b) m1) : notV f r m = .ok (.bl (!b)) m1 := e_ofB (e_notB (e_toB h))
theorem e_oN : oNone r m = .ok none m := rfl
theorem e_oS {f : En → Mem → Out D} {k : Int} (h : f r m = .ok (.int k) m1) : oSome f r m = .ok (some k) m1 := by simp only [oSome, bind1, h, Out.bind]
theorem e_strO {f : En → Mem → Out D} {s : Str} (h : f r m = .ok (.str s) m1) : strOnly f r m = .ok (.str s) m1 := by simp only [strOnly, bind1, h, Out.bind]
def Ends (o : Out T) (P : T → Mem → Prop) : Prop := ∃ x m, o = .ok x m ∧ P x m
theorem ends_of {o : Out T} {P : T → Mem → Prop} {t : T} (h : o = .ok t m) (p : P t m) : Ends o P := ⟨t, m, h, p⟩
theorem setpot {n : Nat} {x : MO} (h : m[n]? = some x) (y : MO) : (m.set n y)[n]? = some y := by
  rw [List.getElem?_set_self (List.getElem?_eq_some_iff.mp h).1]
theorem bits_small {p : Int} (h : 0 ≤ p ∧ p < 2 ^ 64) : (Builtin.Int.intBits p : Int) * 3 ≤ 2 ^ 27 := by
  have := PySem.intBits_le_64 (k := p) (by omega) (by omega)
  omega
theorem five {p0 p1 p2 p3 p4 : D} (k : Int) : ∃ p, atI [p0, p1, p2, p3, p4] (k % 5) = some p ∧ (p = p0 ∨ p = p1 ∨ p = p2 ∨ p = p3 ∨ p = p4) := by
  have h0 := Int.emod_nonneg k (b := 5) (by decide)
  have h1 := Int.emod_lt_of_pos k (b := 5) (by decide)
  generalize k % 5 = j at h0 h1
  have : j = 0 ∨ j = 1 ∨ j = 2 ∨ j = 3 ∨ j = 4 := by omega
  rcases this with rfl | rfl | rfl | rfl | rfl
  · exact ⟨p0, rfl, by simp⟩
  · exact ⟨p1, rfl, by simp⟩
  · exact ⟨p2, rfl, by simp⟩
  · exact ⟨p3, rfl, by simp⟩
  · exact ⟨p4, rfl, by simp⟩
def pk {T : Type} (b : Bool) (x y : T) : T := if b then x else y
theorem pk_t {x y o : T} (h : x = o) : pk true x y = o := h
theorem pk_f {x y o : T} (h : y = o) : pk false x y = o := h
theorem okr {t : T} : (Out.ok t m : Out T) = .ok t m := rfl
theorem retr : SOut.ret d m = .ret d m := rfl
theorem n_t : (!true) = false := rfl
theorem n_f : (!false) = true := rfl
theorem e_not {f : En → Mem → Out Bool} (h : f r m = .ok b m1) (h2 : (!b) = b1) : notB f r m = .ok b1 m1 := by rw [e_notB h, h2]
theorem e_notv {f : En → Mem → Out D} (h : f r m = .ok (.bl b) m1) (h2 : (!b) = b1) : notV f r m = .ok (.bl b1) m1 := by rw [e_notV h, h2]
theorem e_and {f g : En → Mem → Out Bool} {o : Out Bool} (h : f r m = .ok b m1) (h2 : pk b (g r m1) (.ok false m1) = o) : andB f g r m = o := by rw [andB, h]; exact h2
theorem e_or {f g : En → Mem → Out Bool} {o : Out Bool} (h : f r m = .ok b m1) (h2 : pk b (.ok true m1) (g r m1) = o) : orB f g r m = o := by rw [orB, h]; exact h2
theorem e_if {c : En → Mem → Out Bool} {f g : En → Mem → Out T} {o : Out T} (h : c r m = .ok b m1) (h2 : pk b (f r m1) (g r m1) = o) : ifE c f g r m = o := by rw [ifE, h]; exact h2
theorem e_andv {f g : En → Mem → Out D} {o : Out D} (h : f r m = .ok (.bl b) m1) (h2 : pk b (g r m1) (.ok (.bl false) m1) = o) : andV f g r m = o := e_if (e_toB h) h2
theorem e_orv {f g : En → Mem → Out D} {o : Out D} (h : f r m = .ok (.bl b) m1) (h2 : pk b (.ok (.bl true) m1) (g r m1) = o) : orV f g r m = o := e_if (e_toB h) h2
theorem e_chn {f g h : En → Mem → Out D} {k k' : D → D → Mem → Out D} {o : Out D} (h1 : f r m = .ok x m1) (h2 : g r m1 = .ok y m2) (h3 : k x y m2 = .ok (.bl b) m3) (h4 : pk b ((h r m3).bind fun w m => k' y w m) (.ok (.bl false) m3) = o) : chn f g h k k' r m = o := by
  cases b with
  | true => simp only [chn, h1, h2, h3, Out.bind]; exact h4
  | false => simp only [chn, h1, h2, h3, Out.bind]; exact h4
theorem e_bnd {f : Out T} {k : T → Mem → Out U} {t : T} {o : Out U} (h : f = .ok t m1) (h2 : k t m1 = o) : f.bind k = o := by rw [h]; exact h2
theorem e_sif {c : En → Mem → Out Bool} {f g : En → Mem → SOut} {o : SOut} (h : c r m = .ok b m1) (h2 : pk b (f r m1) (g r m1) = o) : sIf c f g r m = o := by
  have e : sIf c f g r m = pk b (f r m1) (g r m1) := by simp only [sIf, sOf, h, pk]
  rw [e]; exact h2
def sq (o : SOut) (g : En → Mem → SOut) : SOut := match o with
  | .next r m => g r m
  | o => o
theorem sq_n {g : En → Mem → SOut} {o : SOut} (h : g r m = o) : sq (.next r m) g = o := h
theorem sq_r {g : En → Mem → SOut} : sq (.ret d m) g = .ret d m := rfl
theorem e_sq {f g : En → Mem → SOut} {o o1 : SOut} (h : f r m = o1) (h2 : sq o1 g = o) : sSeq f g r m = o := by rw [sSeq, h]; exact h2
theorem e_isF (h : isNon x = false) : isD x .non m = .ok (.bl false) m := by cases x <;> first | rfl | cases h
theorem e_isT : isD .non .non m = .ok (.bl true) m := rfl
theorem e_isntT (h : isNon x = false) : isntD x .non m = .ok (.bl true) m := by cases x <;> first | rfl | cases h
theorem e_isntF : isntD .non .non m = .ok (.bl false) m := rfl
theorem e_eqI {p q : Int} : eqD (.int p) (.int q) m = .ok (.bl (decide (p = q))) m := by
  simp only [eqD, eqOk, scl, eqB, Bool.and_self, Bool.true_or, if_true]
  by_cases h : p = q <;> simp [h]
theorem e_eqIT {p q : Int} (h : p = q) : eqD (.int p) (.int q) m = .ok (.bl true) m := by rw [e_eqI, decide_eq_true h]
theorem e_eqIF {p q : Int} (h : ¬p = q) : eqD (.int p) (.int q) m = .ok (.bl false) m := by rw [e_eqI, decide_eq_false h]
theorem e_eqS {p q : Str} : eqD (.str p) (.str q) m = .ok (.bl (decide (p = q))) m := by
  simp only [eqD, eqOk, scl, eqB, Bool.and_self, Bool.true_or, if_true]
  by_cases h : p = q <;> simp [h]
theorem e_eqST {p q : Str} (h : p = q) : eqD (.str p) (.str q) m = .ok (.bl true) m := by rw [e_eqS, decide_eq_true h]
theorem e_eqSF {p q : Str} (h : ¬p = q) : eqD (.str p) (.str q) m = .ok (.bl false) m := by rw [e_eqS, decide_eq_false h]
theorem ne_of {o : Bool} (h : eqD x y m = .ok (.bl o) m) : neD x y m = .ok (.bl (!o)) m := by
  unfold eqD at h
  unfold neD
  split at h
  · rename_i c
    rw [if_pos c]
    cases h
    rfl
  · cases h
theorem e_neIT {p q : Int} (h : ¬p = q) : neD (.int p) (.int q) m = .ok (.bl true) m := ne_of (e_eqIF h)
theorem e_neIF {p q : Int} (h : p = q) : neD (.int p) (.int q) m = .ok (.bl false) m := ne_of (e_eqIT h)
theorem e_neST {p q : Str} (h : ¬p = q) : neD (.str p) (.str q) m = .ok (.bl true) m := ne_of (e_eqSF h)
theorem e_neSF {p q : Str} (h : p = q) : neD (.str p) (.str q) m = .ok (.bl false) m := ne_of (e_eqST h)
theorem e_add {p q : Int} : addD (.int p) (.int q) m = .ok (.int (p + q)) m := rfl
theorem e_sub {p q : Int} : subD (.int p) (.int q) m = .ok (.int (p - q)) m := rfl
theorem e_addL (l : xs.length + ys.length ≤ sizeLine) : addD (.lst xs) (.lst ys) m = .ok (.lst (xs ++ ys)) m := by simp only [addD, if_pos l]
theorem e_mul {p q : Int} (h : (-(2 ^ 64) < p ∧ p < 2 ^ 64) ∨ (-(2 ^ 64) < q ∧ q < 2 ^ 64)) : mulD (.int p) (.int q) m = .ok (.int (p * q)) m := by simp only [mulD, if_pos h]
theorem log2_small {q : Int} (h : 0 < q ∧ q < 2 ^ 64) : q.natAbs.log2 < 9000 := by
  have : q.natAbs < 2 ^ 64 := by omega
  exact Nat.lt_trans ((Nat.log2_lt (by omega)).mpr this) (by decide)
theorem e_fdiv {p q : Int} (h : 0 < q ∧ q < 2 ^ 64) : fdivD (.int p) (.int q) m = .ok (.int (p / q)) m := by simp only [fdivD, if_pos (show 0 < q ∧ q.natAbs.log2 < 9000 from ⟨h.1, log2_small h⟩)]
theorem e_mod {p q : Int} (h : 0 < q) : modD (.int p) (.int q) m = .ok (.int (p % q)) m := by simp only [modD, if_pos h]
theorem e_pow {p q : Int} (h : 0 ≤ q) (h2 : (Builtin.Int.intBits p : Int) * q ≤ 2 ^ 27) : powD (.int p) (.int q) m = .ok (.int (p ^ q.toNat)) m := by simp only [powD, if_pos (show 0 ≤ q ∧ (Builtin.Int.intBits p : Int) * q ≤ 2 ^ 27 from ⟨h, h2⟩)]
theorem e_neg {p : Int} : negD (.int p) m = .ok (.int (-p)) m := rfl
theorem e_lt {p q : Int} : ltD (.int p) (.int q) m = .ok (.bl (decide (p < q))) m := rfl
theorem e_ltT {p q : Int} (h : p < q) : ltD (.int p) (.int q) m = .ok (.bl true) m := by rw [e_lt, decide_eq_true h]
theorem e_ltF {p q : Int} (h : ¬p < q) : ltD (.int p) (.int q) m = .ok (.bl false) m := by rw [e_lt, decide_eq_false h]
theorem e_leT {p q : Int} (h : p ≤ q) : leD (.int p) (.int q) m = .ok (.bl true) m := by rw [leD, decide_eq_true h]
theorem e_leF {p q : Int} (h : ¬p ≤ q) : leD (.int p) (.int q) m = .ok (.bl false) m := by rw [leD, decide_eq_false h]
theorem e_gtT {p q : Int} (h : q < p) : gtD (.int p) (.int q) m = .ok (.bl true) m := by rw [gtD, decide_eq_true h]
theorem e_gtF {p q : Int} (h : ¬q < p) : gtD (.int p) (.int q) m = .ok (.bl false) m := by rw [gtD, decide_eq_false h]
theorem e_geT {p q : Int} (h : q ≤ p) : geD (.int p) (.int q) m = .ok (.bl true) m := by rw [geD, decide_eq_true h]
theorem e_geF {p q : Int} (h : ¬q ≤ p) : geD (.int p) (.int q) m = .ok (.bl false) m := by rw [geD, decide_eq_false h]
theorem e_eqT (h : eqOk x y = true) (h2 : eqB x y = true) : eqD x y m = .ok (.bl true) m := by rw [eqD, if_pos h, h2]
theorem e_eqF (h : eqOk x y = true) (h2 : eqB x y = false) : eqD x y m = .ok (.bl false) m := by rw [eqD, if_pos h, h2]
theorem e_ixL {k : Int} (h : atI xs k = some d) : ixD (.lst xs) (.int k) m = .ok d m := by simp only [ixD, h]
theorem e_ixT {k : Int} (h : atI xs k = some d) : ixD (.tup xs) (.int k) m = .ok d m := by simp only [ixD, h]
theorem atI_0 {T : Type} {t : T} {ts : List T} : atI (t :: ts) 0 = some t := by
  unfold atI ixN
  rw [if_pos (Int.le_refl 0), if_pos (by simp)]
  rfl
theorem e_ix0L : ixD (.lst (x :: xs)) (.int 0) m = .ok x m := e_ixL atI_0
theorem e_ix0T : ixD (.tup (x :: xs)) (.int 0) m = .ok x m := e_ixT atI_0
theorem e_dget {ks : List Key} {s : Str} {k : Key} (h : ((ks.zip xs).find? fun kv => decide (kv.1 = .inr s)) = some (k, d)) : dgetD (.dct ks xs) (.str s) m = .ok d m := by simp only [dgetD, keyOf, h]
theorem e_pix {n : Nat} {k p q c z : Int} (h : m[n]? = some (.pot p q c)) (h2 : atI [p, q, c] k = some z) : pixD (.hnd n) (.int k) m = .ok (.int z) m := by simp only [pixD, h, h2]
theorem e_pixS {ns : List Int} {k z : Int} (h2 : atI ns k = some z) : pixD (.scr ns) (.int k) m = .ok (.int z) m := by simp only [pixD, h2]
theorem e_slen {ns : List Int} : slenD [.scr ns] m = .ok (.int ns.length) m := rfl
theorem e_lenL : lenD [.lst xs] m = .ok (.int xs.length) m := rfl
theorem e_lenT : lenD [.tup xs] m = .ok (.int xs.length) m := rfl
theorem e_lenS {s : Str} (h : s.length ≤ sizeLine) : lenD [.str s] m = .ok (.int s.length) m := by simp only [lenD, if_pos h]
theorem e_abs {p : Int} : absD [.int p] m = .ok (.int (if p < 0 then -p else p)) m := rfl
theorem e_intI {p : Int} : intD [.int p] m = .ok (.int p) m := rfl
theorem e_intB : intD [.bl b] m = .ok (.int (if b then 1 else 0)) m := rfl
theorem e_intT : intD [.bl true] m = .ok (.int 1) m := rfl
theorem e_intF : intD [.bl false] m = .ok (.int 0) m := rfl
theorem e_max {p q : Int} : max2D [.int p, .int q] m = .ok (.int (if q > p then q else p)) m := rfl
theorem e_min {p q : Int} : min2D [.int p, .int q] m = .ok (.int (if q < p then q else p)) m := rfl
theorem e_tupL : tupleD [.lst xs] m = .ok (.tup xs) m := rfl
theorem e_slL {lo hi : Option Int} : slD (.lst xs) lo hi m = .ok (.lst (cutD xs lo hi)) m := rfl
theorem e_slT {lo hi : Option Int} : slD (.tup xs) lo hi m = .ok (.tup (cutD xs lo hi)) m := rfl
theorem e_rev : revD (.lst xs) m = .ok (.lst xs.reverse) m := rfl
theorem e_seqL {f : En → Mem → Out D} (h : f r m = .ok (.lst xs) m1) : seqI f r m = .ok xs m1 := by simp only [seqI, bind1, h, Out.bind]
theorem e_seqT {f : En → Mem → Out D} (h : f r m = .ok (.tup xs) m1) : seqI f r m = .ok xs m1 := by simp only [seqI, bind1, h, Out.bind]
theorem e_seqS {f : En → Mem → Out D} {s : Str} (h : f r m = .ok (.str s) m1) : seqI f r m = .ok (chars s) m1 := by simp only [seqI, bind1, h, Out.bind]
theorem e_rng1 {g : En → Mem → Out (List D)} {k : Int} (h : g r m = .ok [.int k] m1) (l : -(2 ^ 62) ≤ k ∧ k < 2 ^ 62) : rngI1 g r m = .ok (rangeD 0 k) m1 := by simp only [rngI1, bind1, h, Out.bind, if_pos l]
theorem e_zip {g : En → Mem → Out (List D)} {ds es : List D} (h : g r m = .ok [x, y] m1) (h1 : seqD x = some ds) (h2 : seqD y = some es) : zipG g r m = .ok (zipD ds es) m1 := by simp only [zipG, bind1, h, Out.bind, h1, h2]
theorem e_mkLI {g : En → Mem → Out (List D)} (h : g r m = .ok xs m1) (l : xs.length ≤ 2 ^ 24) : mkLI g r m = .ok (.lst xs) m1 := by simp only [mkLI, bind1, h, Out.bind, if_pos l]
theorem e_ofL {f : En → Mem → Out (List D)} (h : f r m = .ok xs m1) : ofL f r m = .ok (.lst xs) m1 := by simp only [ofL, bind1, h, Out.bind]
theorem e_comp {fi : En → Mem → Out (List D)} {tg : D → En → Option En} {ts : En → Mem → Out Bool} {el : En → Mem → Out D} {vs : List Nat} {o : Out (List D)} (h : fi r m = .ok xs m1) (l : xs.length ≤ sizeLine) (h2 : compL tg ts el (wipeE r vs) xs m1 [] = o) : compF fi tg ts el vs r m = o := by simp only [compF, h, Out.bind, if_pos l, h2]
theorem comp_map {tg : D → En → Option En} {el : En → Mem → Out D} {g : D → D} : ∀ {ds acc : List D}, (∀ d ∈ ds, ∃ r1, tg d r = some r1 ∧ el r1 m = .ok (g d) m) → compL tg kT el r ds m acc = .ok (acc ++ ds.map g) m
  | [], acc, _ => by simp [compL]
  | d :: ds, acc, h => by
    obtain ⟨r1, e1, e2⟩ := h d (by simp)
    simp only [compL, e1, kT, e2]
    rw [comp_map fun d' hd => h d' (List.mem_cons_of_mem _ hd)]
    simp
theorem e_nil : sNil r m = .next r m := rfl
theorem e_seq {f g : En → Mem → SOut} {o : SOut} (h : f r m = .next r1 m1) (h2 : g r1 m1 = o) : sSeq f g r m = o := by simp only [sSeq, h, h2]
theorem e_seqR {f g : En → Mem → SOut} (h : f r m = .ret d m1) : sSeq f g r m = .ret d m1 := by simp only [sSeq, h]
theorem e_asg {f : En → Mem → Out D} (h : f r m = .ok d m1) : sAsg i f r m = .next (r.set i (.fz d)) m1 := by simp only [sAsg, sOf, h]
theorem e_ret {f : En → Mem → Out D} (h : f r m = .ok d m1) : sRet f r m = .ret d m1 := by simp only [sRet, sOf, h]
theorem e_exp {f : En → Mem → Out D} (h : f r m = .ok d m1) : sExp f r m = .next r m1 := by simp only [sExp, sOf, h]
theorem e_sifT {c : En → Mem → Out Bool} {f g : En → Mem → SOut} {o : SOut} (h : c r m = .ok true m1) (h2 : f r m1 = o) : sIf c f g r m = o := by simp only [sIf, sOf, h, if_true, h2]
theorem e_sifF {c : En → Mem → Out Bool} {f g : En → Mem → SOut} {o : SOut} (h : c r m = .ok false m1) (h2 : g r m1 = o) : sIf c f g r m = o := by simp [sIf, sOf, h, h2]
theorem e_par {g : En → Mem → Out (List D)} (h : g r m = .ok [x, y] m1) : sPar i j g r m = .next ((r.set i (.fz x)).set j (.fz y)) m1 := by simp only [sPar, sOf, h]
theorem e_par3 {g : En → Mem → Out (List D)} (h : g r m = .ok [x, y, z] m1) : sPar3 i j l g r m = .next (((r.set i (.fz x)).set j (.fz y)).set l (.fz z)) m1 := by simp only [sPar3, sOf, h]
theorem e_tg {tg : D → En → Option En} {f : En → Mem → Out D} (h : f r m = .ok d m1) (h2 : tg d r = some r1) : sTg tg f r m = .next r1 m1 := by simp only [sTg, sOf, h, h2]
theorem e_retPot {g : En → Mem → Out (List D)} {p q c : Int} (h : g r m = .ok [.int p, .int q, .int c] m1) : sRetPot g r m = .ret (.hnd m1.length) (m1 ++ [.pot p q c]) := by simp only [sRetPot, sOf, h]
theorem e_putP {f g : En → Mem → Out D} {n : Nat} {v k p q c : Int} {x' : MO} (h0 : r[i]? = some (.fz (.hnd n))) (h : f r m = .ok (.int v) m1) (h2 : g r m1 = .ok (.int k) m2) (h3 : m2[n]? = some (.pot p q c))
    (h4 : (ixN 3 k = some 0 ∧ x' = .pot v q c) ∨ (ixN 3 k = some 1 ∧ x' = .pot p v c) ∨ (ixN 3 k = some 2 ∧ x' = .pot p q v)) : sPutP i f g r m = .next r (m2.set n x') := by
  rcases h4 with ⟨e, rfl⟩ | ⟨e, rfl⟩ | ⟨e, rfl⟩ <;> simp only [sPutP, h0, sOf, h, h2, h3, e]
theorem e_run {k n : Nat} {bd : En → Mem → SOut} {ds : List D} (l : ds.length = k) (h : bd (enOf n ds) m = .ret d m1) : runF k n bd ds m = .ok d m1 := by simp only [runF, if_pos l, h]
theorem e_runN {k n : Nat} {bd : En → Mem → SOut} {ds : List D} (l : ds.length = k) (h : bd (enOf n ds) m = .next r1 m1) : runF k n bd ds m = .ok .non m1 := by simp only [runF, if_pos l, h]
theorem e_setL {c f : Str} {h : En → Mem → Out D} {ks ks' : List Str} {ds ds' : List D} (h0 : r[i]? = some (.fz (.hnd m.length))) (h1 : h r (m ++ [.ins c ks ds]) = .ok d (m ++ [.ins c ks ds])) (h2 : ks.length < 1000) (h3 : putK f d ks ds = (ks', ds')) :
    sSetF i c f h r (m ++ [.ins c ks ds]) = .next r (m ++ [.ins c ks' ds']) := by
  simp only [sSetF, sOf, h1, h0, List.getElem?_append_right (Nat.le_refl m.length), Nat.sub_self, List.getElem?_cons_zero, h2, and_self, if_true, h3]
  congr 1
  rw [List.set_append_right _ _ (Nat.le_refl _), Nat.sub_self]
  rfl
theorem e_mkO {c : Str} {f0 : List D → Mem → Out D} {ds es : List D} {ks : List Str} (h : f0 (.hnd m.length :: ds) (m ++ [.ins c [] []]) = .ok .non (m ++ [.ins c ks es])) (h2 : noHs es = true) (h3 : m.all noHm = true) : mkO c f0 ds m = .ok (.obj c ks es) m := by
  simp only [mkO, h]
  simp [h2]
  intro x hx
  exact List.all_eq_true.mp h3 x hx
end
end MT
set_option Elab.async false
set_option linter.all false
set_option maxRecDepth 100000
namespace MT
open PySem L2 TL NumText
def numS (i : Int) : Str := Str.ofString (toString i)
theorem tl_nat (n : Nat) : (toString n).toList.map Char.toNat = numL n := by
  have h := tl_num n
  rw [tl_ofString] at h
  exact h
theorem tl_numS (i : Int) : tl (numS i) = if i < 0 then 45 :: numL i.natAbs else numL i.natAbs := by
  cases i with
  | ofNat n =>
    rw [if_neg (by simp)]
    exact tl_num n
  | negSucc n =>
    rw [if_pos (Int.negSucc_lt_zero n)]
    show tl (Str.ofString ("-" ++ toString (n + 1))) = _
    rw [tl_ofString, String.toList_append, List.map_append, tl_nat]
    rfl
theorem numS_free {i : Int} {s : Nat} (h : (s < 48 ∨ 57 < s) ∧ s ≠ 45) : s ∉ tl (numS i) := by
  rw [tl_numS]
  split
  · simp only [List.mem_cons, not_or]
    exact ⟨h.2, numL_free h.1⟩
  · exact numL_free h.1
theorem numS_len {i : Int} {k : Nat} (hk : 0 < k) (h : i.natAbs < 10 ^ k) : (numS i).length ≤ k + 1 := by
  rw [len_tl, tl_numS]
  have := numL_len hk h
  split
  · simp; omega
  · omega
theorem numS_int {i : Int} (h : i.natAbs < 10 ^ 20) : PySem.intText? (numS i) = some i := by
  have hl := numL_len (by decide) h
  have hn := numS_len (k := 20) (by decide) h
  by_cases c : i < 0
  · have e : (numS i).cps.toList = 45 :: numL i.natAbs := by
      have := tl_numS i
      rw [if_pos c] at this
      exact this
    have := intText_neg e (numL_digits _) (numL_ne _) (by omega)
    rw [numL_val] at this
    rw [this]
    congr 1
    omega
  · have e : (numS i).cps.toList = numL i.natAbs := by
      have := tl_numS i
      rw [if_neg c] at this
      exact this
    have := intText_digits (x := numS i) (by rw [e]; exact numL_digits _) (by rw [e]; exact numL_ne _) (by omega)
    rw [e, numL_val] at this
    rw [this]
    congr 1
    omega
theorem log_small {i : Int} (h : i.natAbs < 2 ^ 64) : i.natAbs.log2 < 1920 := by
  by_cases z : i.natAbs = 0
  · rw [z]; decide
  · exact Nat.lt_trans ((Nat.log2_lt z).mpr h) (by decide)
theorem e_strI {i : Int} {m : Mem} (h : i.natAbs < 2 ^ 64) : strD [.int i] m = .ok (.str (numS i)) m := by
  simp only [strD, if_pos (log_small h)]
  rfl
theorem e_intS {z : Str} {n : Int} {m : Mem} (h : z.length ≤ 640) (h2 : PySem.intText? z = some n) : intD [.str z] m = .ok (.int n) m := by simp only [intD, if_pos h, h2]
theorem e_strS {s : Str} {m : Mem} : strD [.str s] m = .ok (.str s) m := rfl
theorem tl_rmp (i : Int) : tl (Txt.removeprefix (numS i) "-") = numL i.natAbs := by
  have hd : tl (Str.ofString "-") = [45] := by rw [tl_ofString]; rfl
  have hl : (Str.ofString "-").length = 1 := by rw [len_tl, hd]; rfl
  have hs : Builtin.Str.subAt (numS i) (Str.ofString "-") 0 = ((tl (numS i)).take 1 == [45]) := by
    rw [StrLaws.subAt_eq, hl, List.drop_zero, show (Str.ofString "-").cps.toList = [45] from hd]
  show tl (Txt.affix (numS i) (if Builtin.Str.subAt (numS i) (Str.ofString "-") 0 then some ((Str.ofString "-").length, (numS i).length) else none)) = _
  rw [hs, hl]
  by_cases c : i < 0
  · have e := tl_numS i
    rw [if_pos c] at e
    have hlen : (numS i).length = (numL i.natAbs).length + 1 := by rw [len_tl, e]; rfl
    rw [e, if_pos (by simp)]
    show tl (if ((numS i).length - 1 == (numS i).length) = true then numS i else Builtin.Str.strSub (numS i) 1 (numS i).length) = _
    rw [if_neg (by simp only [beq_iff_eq]; omega), tl_strSub_end, e]
    rfl
  · have e := tl_numS i
    rw [if_neg c] at e
    rw [e, if_neg]
    · exact e
    · intro h
      have hne := numL_ne i.natAbs
      have hfree : 45 ∉ numL i.natAbs := numL_free (.inl (by decide))
      cases q : numL i.natAbs with
      | nil => exact hne q
      | cons a l =>
        rw [q] at h hfree
        simp at h
        exact hfree (by simp [h])
theorem numL_head : ∀ (n : Nat), 0 < n → ∃ c l, numL n = c :: l ∧ c ≠ 48 := fun n => by
  induction n using Nat.strongRecOn with
  | ind n ih =>
    intro h
    by_cases c : n < 10
    · exact ⟨48 + n, [], numL_lt c, by omega⟩
    · rw [numL_step (by omega)]
      obtain ⟨a, l, e, ne⟩ := ih (n / 10) (by omega) (by omega)
      exact ⟨a, l ++ [48 + n % 10], by rw [e]; rfl, ne⟩
theorem e_ixS {z : Str} {k : Int} {c : Nat} {m : Mem} (h : z.length ≤ sizeLine) (h2 : atI z.cps.toList k = some c) : ixD (.str z) (.int k) m = .ok (.str ⟨#[c]⟩) m := by simp only [ixD, if_pos h, h2]
theorem e_allT {xs : List D} {m : Mem} (h : ∀ x ∈ xs, x = .bl true) : allD [.lst xs] m = .ok (.bl true) m := by
  have : bools xs = some (xs.map fun _ => true) := by
    induction xs with
    | nil => rfl
    | cons x xs ih =>
      rw [h x (by simp)]
      simp only [bools, ih fun y hy => h y (List.mem_cons_of_mem _ hy)]
      rfl
  simp only [allD, this]
  simp
theorem e_rmp {a b : Str} {m : Mem} (h : a.length ≤ sizeLine) : rmpD (.str a) [.str b] m = .ok (.str (Txt.removeprefix a b)) m := by simp only [rmpD, if_pos h]
theorem e_split {a b : Str} {m : Mem} (h : (b.length == 0) = false) (h2 : a.length + 2 ≤ sizeLine) : splitD (.str a) [.str b] m = .ok (.lst ((Txt.split a b).map .str)) m := by simp only [splitD, if_pos (show (b.length == 0) = false ∧ a.length + 2 ≤ sizeLine from ⟨h, h2⟩)]
theorem strL_map (ys : List Str) : strL (ys.map .str) = some ys := by
  induction ys with
  | nil => rfl
  | cons y ys ih => simp only [List.map_cons, strL, ih]; rfl
theorem e_join {a : Str} {ys : List Str} {m : Mem} (h : (ys.map (·.length)).sum + ys.length * a.length ≤ 16777216) : joinD (.str a) [.lst (ys.map .str)] m = .ok (.str (Txt.join a ys)) m := by simp only [joinD, strL_map, if_pos h]
theorem e_in1 {c : Nat} {b : Str} {m : Mem} : inD (.str ⟨#[c]⟩) (.str b) m = .ok (.bl (decide (c ∈ tl b))) m := by
  simp only [inD]
  rw [StrLaws.found_one]
end MT
set_option Elab.async false
set_option linter.all false
set_option maxRecDepth 100000
namespace MT
open PySem L2 TL NumText
inductive EndK where
  | free | off (p : Int) | wall (p : Int)
def EndK.d : EndK → D
  | .free => .tup [.str "free"]
  | .off p => .tup [.str "off", .int p]
  | .wall p => .tup [.str "wall", .int p]
def EndK.words : EndK → List Str
  | .free => ["free"]
  | .off p => ["off", numS p]
  | .wall p => ["wall", numS p]
def EndK.at : EndK → Option Int
  | .free => none
  | .off p => some p
  | .wall p => some p
def EndK.isWall : EndK → Bool
  | .wall _ => true
  | _ => false
def okP (p : Int) : Prop := p % 2 = 0 ∧ -1000000000000 ≤ p ∧ p ≤ 1000000000000
structure GoodW (L R : EndK) (ps : List Int) : Prop where
  one : 1 ≤ ps.length
  len : ps.length ≤ 40
  asc : ps.Pairwise (· < ·)
  ok : ∀ p ∈ ps, okP p
  lok : ∀ e, L.at = some e → okP e ∧ ∀ p ∈ ps, e < p
  rok : ∀ e, R.at = some e → okP e ∧ ∀ p ∈ ps, p < e
  nw : ¬(L.isWall = true ∧ R.isWall = true)
def lineS (w : Str) (e : EndK) : Str := Txt.join " " (w :: e.words)
def atS (ps : List Int) : Str := Txt.join " " ("at" :: ps.map numS)
def textS (L R : EndK) (ps : List Int) : Str := Txt.join "\n" [lineS "left" L, lineS "right" R, atS ps]
def wayD (L R : EndK) (ps : List Int) : D := .obj "Way" ["own_text", "own_left", "own_right", "own_places"] [.str (textS L R ps), L.d, R.d, .tup (ps.map .int)]
theorem mem_joinL {S : List Nat} {c : Nat} : ∀ {parts : List (List Nat)}, c ∈ joinL S parts → c ∈ S ∨ ∃ p ∈ parts, c ∈ p
  | [], h => by simp [joinL] at h
  | [p], h => .inr ⟨p, by simp, by simpa [joinL] using h⟩
  | p :: q :: r, h => by
    simp only [joinL, List.mem_append] at h
    rcases h with h | h | h
    · exact .inr ⟨p, by simp, h⟩
    · exact .inl h
    · rcases mem_joinL h with h | ⟨x, hx, h⟩
      · exact .inl h
      · exact .inr ⟨x, List.mem_cons_of_mem _ hx, h⟩
theorem len_joinL {S : List Nat} : ∀ {parts : List (List Nat)}, (joinL S parts).length ≤ (parts.map (·.length)).sum + parts.length * S.length
  | [] => by simp [joinL]
  | [p] => by simp [joinL]
  | p :: q :: r => by
    have := len_joinL (S := S) (parts := q :: r)
    simp only [joinL, List.length_append, List.map_cons, List.sum_cons, List.length_cons] at this ⊢
    rw [show (r.length + 1 + 1) * S.length = (r.length + 1) * S.length + S.length from by rw [Nat.succ_mul]]
    omega
theorem tl_joinS (y : Str) (parts : List Str) : tl (Txt.join y parts) = joinL (tl y) (parts.map tl) := by rw [join_eq, tl_join]
theorem len_joinS (y : Str) (parts : List Str) : (Txt.join y parts).length ≤ (parts.map (·.length)).sum + parts.length * y.length := by
  rw [len_tl, tl_joinS]
  have := len_joinL (S := tl y) (parts := parts.map tl)
  rw [List.map_map, List.length_map] at this
  have e : (parts.map ((fun x => x.length) ∘ tl)) = parts.map (·.length) := by
    apply List.map_congr_left
    intro x _
    exact (len_tl x).symm
  rw [e, ← len_tl] at this
  exact this
theorem free_joinS {y : Str} {parts : List Str} {c : Nat} (h : c ∉ tl y) (h2 : ∀ p ∈ parts, c ∉ tl p) : c ∉ tl (Txt.join y parts) := by
  rw [tl_joinS]
  intro hm
  rcases mem_joinL hm with z | ⟨p, hp, z⟩
  · exact h z
  · obtain ⟨q, hq, rfl⟩ := List.mem_map.mp hp
    exact h2 q hq z
theorem tl_sp : tl (Str.ofString " ") = [32] := by rw [tl_ofString]; rfl
theorem tl_lf : tl (Str.ofString "\n") = [10] := by rw [tl_ofString]; rfl
def Wd (w : Str) : Prop := 32 ∉ tl w ∧ 10 ∉ tl w ∧ w.length ≤ 25
theorem wd_num {i : Int} (h : i.natAbs < 10 ^ 20) : Wd (numS i) := ⟨numS_free (by decide), numS_free (by decide), by have := numS_len (k := 20) (by decide) h; omega⟩
theorem wd_lit {s : String} (h : 32 ∉ s.toList.map Char.toNat ∧ 10 ∉ s.toList.map Char.toNat ∧ (s.toList.map Char.toNat).length ≤ 25) : Wd (Str.ofString s) := by
  refine ⟨?_, ?_, ?_⟩
  · rw [tl_ofString]; exact h.1
  · rw [tl_ofString]; exact h.2.1
  · rw [len_tl, tl_ofString]; exact h.2.2
theorem okP.nat {p : Int} (h : okP p) : p.natAbs < 10 ^ 20 := by
  obtain ⟨_, h1, h2⟩ := h
  omega
theorem sum_le {k : Nat} : ∀ {l : List Nat}, (∀ x ∈ l, x ≤ k) → l.sum ≤ l.length * k
  | [], _ => by simp
  | a :: l, h => by
    have h1 := h a (by simp)
    have h2 := sum_le fun x hx => h x (List.mem_cons_of_mem _ hx)
    rw [List.sum_cons, List.length_cons, Nat.succ_mul]
    omega
theorem line_facts {ws : List Str} (h : ∀ w ∈ ws, Wd w) (hn : ws ≠ []) (hl : ws.length ≤ 41) : Txt.split (Txt.join " " ws) " " = ws ∧ 10 ∉ tl (Txt.join " " ws) ∧ (Txt.join " " ws).length ≤ 1100 ∧ (ws.map (·.length)).sum + ws.length * (Str.ofString " ").length ≤ 1100 := by
  have hb : (ws.map (·.length)).sum ≤ ws.length * 25 := by
    have := sum_le (l := ws.map (·.length)) (k := 25) fun x hx => by
      obtain ⟨w, hw, rfl⟩ := List.mem_map.mp hx
      exact (h w hw).2.2
    simpa using this
  have h1 : (Str.ofString " ").length = 1 := by rw [len_tl, tl_sp]; rfl
  have hs := len_joinS " " ws
  rw [h1] at hs
  refine ⟨split_join tl_sp (by decide +kernel) hn fun p hp => (h p hp).1, free_joinS (by rw [tl_sp]; decide) fun p hp => (h p hp).2.1, by omega, by rw [h1]; omega⟩
theorem wd_end {e : EndK} (h : ∀ p, e.at = some p → okP p) : (∀ w ∈ e.words, Wd w) ∧ e.words.length ≤ 2 := by
  cases e with
  | free =>
    refine ⟨fun w hw => ?_, by decide⟩
    simp only [EndK.words, List.mem_singleton] at hw
    subst hw
    exact wd_lit (by decide)
  | off p =>
    refine ⟨fun w hw => ?_, by simp [EndK.words]⟩
    simp only [EndK.words, List.mem_cons, List.not_mem_nil, or_false] at hw
    rcases hw with rfl | rfl
    · exact wd_lit (by decide)
    · exact wd_num (h p rfl).nat
  | wall p =>
    refine ⟨fun w hw => ?_, by simp [EndK.words]⟩
    simp only [EndK.words, List.mem_cons, List.not_mem_nil, or_false] at hw
    rcases hw with rfl | rfl
    · exact wd_lit (by decide)
    · exact wd_num (h p rfl).nat
theorem line_end {e : EndK} {w : Str} (h : ∀ p, e.at = some p → okP p) (hw : Wd w) : Txt.split (lineS w e) " " = w :: e.words ∧ 10 ∉ tl (lineS w e) ∧ (lineS w e).length ≤ 1100 ∧ (((w :: e.words).map (·.length)).sum + (w :: e.words).length * (Str.ofString " ").length ≤ 1100) := by
  obtain ⟨h1, h2⟩ := wd_end h
  exact line_facts (ws := w :: e.words) (fun x hx => by
    rcases List.mem_cons.mp hx with rfl | hx
    · exact hw
    · exact h1 x hx) (by simp) (by simp; omega)
theorem line_at {ps : List Int} (h : ∀ p ∈ ps, okP p) (hl : ps.length ≤ 40) : Txt.split (atS ps) " " = (Str.ofString "at") :: ps.map numS ∧ 10 ∉ tl (atS ps) ∧ (atS ps).length ≤ 1100 ∧ ((((Str.ofString "at") :: ps.map numS).map (·.length)).sum + ((Str.ofString "at") :: ps.map numS).length * (Str.ofString " ").length ≤ 1100) :=
  line_facts (ws := (Str.ofString "at") :: ps.map numS) (fun x hx => by
    rcases List.mem_cons.mp hx with rfl | hx
    · exact wd_lit (by decide)
    · obtain ⟨p, hp, rfl⟩ := List.mem_map.mp hx
      exact wd_num (h p hp).nat) (by simp) (by simp; omega)
theorem text_facts {L R : EndK} {ps : List Int} (g : GoodW L R ps) : Txt.split (textS L R ps) "\n" = [lineS "left" L, lineS "right" R, atS ps] ∧ (textS L R ps).length ≤ 3400 := by
  have hl := line_end (w := "left") (fun p hp => (g.lok p hp).1) (wd_lit (by decide))
  have hr := line_end (w := "right") (fun p hp => (g.rok p hp).1) (wd_lit (by decide))
  have ha := line_at g.ok g.len
  have h1 : (Str.ofString "\n").length = 1 := by rw [len_tl, tl_lf]; rfl
  have hs := len_joinS "\n" [lineS "left" L, lineS "right" R, atS ps]
  rw [h1] at hs
  simp only [List.map_cons, List.map_nil, List.sum_cons, List.sum_nil, List.length_cons, List.length_nil] at hs
  refine ⟨split_join tl_lf (by decide +kernel) (by simp) fun p hp => ?_, by unfold textS; omega⟩
  simp only [List.mem_cons, List.not_mem_nil, or_false] at hp
  rcases hp with rfl | rfl | rfl
  · exact hl.2.1
  · exact hr.2.1
  · exact ha.2.1
theorem strOk_of {x : Str} (h : ∀ c ∈ tl x, c < 128) : PyData.strOk x = true := by
  unfold PyData.strOk
  rw [Array.all_eq_true']
  intro c hc
  have := h c (by simpa [tl] using hc)
  simp
  omega
theorem strOk_num (i : Int) : PyData.strOk (numS i) = true := strOk_of fun c hc => by
  rw [tl_numS] at hc
  split at hc
  · rcases List.mem_cons.mp hc with rfl | hc
    · decide
    · have := numL_digits _ c hc; omega
  · have := numL_digits _ c hc; omega
theorem nin_off {m : Mem} : ninD (.str "off") (.tup [.str "off", .str "wall"]) m = .ok (.bl false) m := by
  simp [ninD, scl, eqB]
theorem nin_wall {m : Mem} : ninD (.str "wall") (.tup [.str "off", .str "wall"]) m = .ok (.bl false) m := by
  simp [ninD, scl, eqB]
theorem first_at {ps : List Int} (h : 1 ≤ ps.length) : ∃ a ∈ ps, atI (ps.map D.int) 0 = some (.int a) := by
  cases ps with
  | nil => simp at h
  | cons a l => exact ⟨a, by simp, by simp [atI, ixN]⟩
theorem last_at {ps : List Int} (h : 1 ≤ ps.length) : ∃ a ∈ ps, atI (ps.map D.int) (-1) = some (.int a) := by
  have hl : ps.length - 1 < ps.length := by omega
  refine ⟨ps[ps.length - 1], List.getElem_mem hl, ?_⟩
  have e : ixN ps.length (-1) = some (ps.length - 1) := by
    unfold ixN
    rw [if_neg (by decide), if_pos (by omega)]
    congr 1
    omega
  unfold atI
  rw [List.length_map, e]
  simp [List.getElem?_eq_getElem hl]
def intOf : D → D
  | .str s => .int ((PySem.intText? s).getD 0)
  | d => d
theorem intOf_nums {ps : List Int} (h : ∀ p ∈ ps, okP p) : ((ps.map numS).map D.str).map intOf = ps.map .int := by
  rw [List.map_map, List.map_map]
  apply List.map_congr_left
  intro p hp
  simp only [Function.comp, intOf, numS_int (h p hp).nat, Option.getD_some]
theorem eq_free {m : Mem} : eqD (.tup [.str "free"]) (.tup [.str "free"]) m = .ok (.bl true) m := by
  have hf : PyData.strOk (Str.ofString "free") = true := by decide +kernel
  apply e_eqT
  · simp [eqOk, datOk, isDat, isDats, dep, deps, hf]
  · simp [eqB, eqBs]
theorem ne_free {m : Mem} {w : Str} {p : Int} (h : PyData.strOk w = true) : eqD (.tup [.str w, .int p]) (.tup [.str "free"]) m = .ok (.bl false) m := by
  have hf : PyData.strOk (Str.ofString "free") = true := by decide +kernel
  apply e_eqF
  · simp [eqOk, datOk, isDat, isDats, dep, deps, hf, h]
  · simp [eqB, eqBs]
theorem ok_off : PyData.strOk (Str.ofString "off") = true := by decide +kernel
theorem ok_wall : PyData.strOk (Str.ofString "wall") = true := by decide +kernel
theorem putK_new {f : Str} {d : D} : ∀ {ks : List Str} {ds : List D}, (f ∉ ks ∧ ks.length = ds.length) → putK f d ks ds = (ks ++ [f], ds ++ [d])
  | [], [], _ => rfl
  | [], _ :: _, h => by simp at h
  | k :: ks, [], h => by simp at h
  | k :: ks, x :: ds, h => by
    obtain ⟨h1, h2⟩ := h
    simp only [List.mem_cons, not_or] at h1
    have ih := putK_new (f := f) (d := d) (ks := ks) (ds := ds) ⟨h1.2, by simpa using h2⟩
    simp only [putK, if_neg (fun e => h1.1 e.symm : ¬k = f), List.tail_cons, List.headD_cons, ih, List.cons_append]
theorem cut1 {xs : List D} : cutD xs (some 1) none = xs.drop 1 := by
  unfold cutD
  rw [HT.sIx_none, show (1 : Int) = ((1 : Nat) : Int) from rfl, HT.sIx_nat]
  cases xs with
  | nil => rfl
  | cons x xs =>
    have : min 1 (x :: xs).length = 1 := by simp
    rw [this]
    simp
end MT
set_option Elab.async false
set_option linter.all false
set_option maxRecDepth 100000
namespace MT
open PySem L2 TL
abbrev XP := Str → D → Mem → Prop
inductive Dm {α : Type} (a : α) : Type where
  | mk
abbrev QP (T : Type) := T → Mem → Prop
@[irreducible] def wp {T : Type} (o : Out T) (Q : QP T) (X : XP) (_d : Dm (Q, X) := .mk) : Prop := match o with
  | .ok x m => Q x m
  | .exc c d m => X c d m
  | .stuck => False
@[irreducible] def ws (o : SOut) (N : QP En) (R : QP D) (B : QP En) (X : XP) (_d : Dm (N, R, B, X) := .mk) : Prop := match o with
  | .next r m => N r m
  | .ret d m => R d m
  | .brk r m => B r m
  | .exc c d m => X c d m
  | .stuck => False
def br (b : Bool) (p q : Prop) (_d : Dm (p, q) := .mk) : Prop := (b = true → p) ∧ (b = false → q)
def req (c p : Prop) (_d : Dm p := .mk) : Prop := c ∧ p
def slF (o : Option Sl) (Q : QP D) (m : Mem) (_d : Dm Q := .mk) : Prop := match o with
  | some (.fz d) => Q d m
  | _ => False
def slW (o : Option Sl) (Q : QP D) (m : Mem) (_d : Dm Q := .mk) : Prop := match o with
  | some (.fz d) => Q d m
  | some (.own ds) => Q (.lst ds) m
  | some (.ownD ks ds) => Q (.dct ks ds) m
  | _ => False
def slO (o : Option Sl) (Q : QP (List D)) (m : Mem) (_d : Dm Q := .mk) : Prop := match o with
  | some (.own ds) => Q ds m
  | _ => False
def slK (o : Option Sl) (Q : QP (List Key × List D)) (m : Mem) (_d : Dm Q := .mk) : Prop := match o with
  | some (.ownD ks ds) => Q (ks, ds) m
  | _ => False
def sm {T : Type} (o : Option T) (Q : QP T) (m : Mem) (_d : Dm Q := .mk) : Prop := match o with
  | some r => Q r m
  | none => False
def fo (r : En) (N : QP En) (m : Mem) (_d : Dm N := .mk) : Prop := N r m
def ab (a : Int) : Int := (a.natAbs : Int)
def X0 : XP := fun _ _ _ => False
section
variable {T U V' W' : Type} {r r1 r2 : En} {m m1 m2 m3 : Mem} {d d1 d2 x y z : D} {b b1 b2 : Bool} {xs ys : List D} {i j l : Nat} {X X' : XP} {N N' B B' : QP En} {R R' : QP D} {p q : Prop}
theorem wp_cg {o : Out T} {Q Q' : QP T} (h : ∀ x m, Q x m = Q' x m) : wp o Q X = wp o Q' X := by
  with_unfolding_all
    have e : Q = Q' := by funext x m; exact h x m
    subst e; rfl
theorem wp_mono {o : Out T} {Q Q' : QP T} (h : wp o Q X) (g : ∀ x m, Q x m → Q' x m) : wp o Q' X := by
  with_unfolding_all
    cases o with
    | stuck => exact h
    | ok x m => exact g x m h
    | exc c d m => exact h
def IsV (t : T) (m : Mem) (x : T) (m' : Mem) : Prop := x = t ∧ m' = m
theorem isv {t t' : T} (h : t = t') : IsV t m t' m := by with_unfolding_all exact ⟨h.symm, rfl⟩
theorem wp_eq {o : Out T} {t : T} (h : wp o (IsV t m) X0) : o = .ok t m := by
  with_unfolding_all
    cases o with
    | stuck => exact h.elim
    | ok x m' =>
      have h' : IsV t m x m' := h
      obtain ⟨h1, h2⟩ := h'; rw [h1, h2]
    | exc c d m => exact h.elim
theorem wp_ex {o : Out T} {P : QP T} (h : wp o P X0) : Ends o P := by
  with_unfolding_all
    cases o with
    | stuck => exact h.elim
    | ok x m' => exact ⟨x, m', rfl, h⟩
    | exc c d m => exact h.elim
theorem wp_of {o : Out T} {P : QP T} (h : Ends o P) : wp o P X := by
  with_unfolding_all
    obtain ⟨x, m', rfl, h⟩ := h
    exact h
def IsX (c : Str) (v : D) (m : Mem) : XP := fun c' v' m' => c' = c ∧ v' = v ∧ m' = m
theorem wp_eqX {o : Out T} {c : Str} {v : D} (h : wp o (fun _ _ => False) (IsX c v m)) : o = .exc c v m := by
  with_unfolding_all
    cases o with
    | stuck => exact h.elim
    | ok x m' => exact h.elim
    | exc c' d m' =>
      have h' : IsX c v m c' d m' := h
      obtain ⟨h1, h2, h3⟩ := h'; rw [h1, h2, h3]
theorem ws_mono {o : SOut} (h : ws o N R B X) (hn : ∀ r m, N r m → N' r m) (hr : ∀ d m, R d m → R' d m) (hb : ∀ r m, B r m → B' r m) (hx : ∀ c d m, X c d m → X' c d m) : ws o N' R' B' X' := by
  with_unfolding_all
    cases o with
    | stuck => exact h
    | next r m => exact hn r m h
    | ret d m => exact hr d m h
    | brk r m => exact hb r m h
    | exc c d m => exact hx c d m h
theorem br_bl (h : b = true → p) (g : b = false → q) : br b p q := by with_unfolding_all exact ⟨h, g⟩
theorem br_t : br true p q = p := by with_unfolding_all (simp [br])
theorem br_f : br false p q = q := by with_unfolding_all (simp [br])
theorem br_T (h : b = true) : br b p q = p := by with_unfolding_all (rw [h, br_t])
theorem br_F (h : b = false) : br b p q = q := by with_unfolding_all (rw [h, br_f])
theorem br_dT {c : Prop} [Decidable c] (h : c) : br (decide c) p q = p := by with_unfolding_all exact br_T (decide_eq_true h)
theorem br_dF {c : Prop} [Decidable c] (h : ¬c) : br (decide c) p q = q := by with_unfolding_all exact br_F (decide_eq_false h)
theorem br_n : br (!b) p q = br b q p := by with_unfolding_all (cases b <;> simp [br])
theorem req_t {c : Prop} (h : c) : req c p = p := by with_unfolding_all (simp [req, h])
theorem slF_fz {Q : QP D} : slF (some (.fz d)) Q m = Q d m := by with_unfolding_all exact rfl
theorem slW_fz {Q : QP D} : slW (some (.fz d)) Q m = Q d m := by with_unfolding_all exact rfl
theorem slW_own {Q : QP D} : slW (some (.own xs)) Q m = Q (.lst xs) m := by with_unfolding_all exact rfl
theorem slW_ownD {Q : QP D} {ks : List Key} : slW (some (.ownD ks xs)) Q m = Q (.dct ks xs) m := by with_unfolding_all exact rfl
theorem slO_own {Q : QP (List D)} : slO (some (.own xs)) Q m = Q xs m := by with_unfolding_all exact rfl
theorem slK_own {Q : QP (List Key × List D)} {ks : List Key} : slK (some (.ownD ks xs)) Q m = Q (ks, xs) m := by with_unfolding_all exact rfl
theorem sm_s {Q : QP T} {t : T} : sm (some t) Q m = Q t m := by with_unfolding_all exact rfl
theorem fo_c {s : Sl} : fo (s :: r) N m = N (s :: r) m := by with_unfolding_all exact rfl
theorem ite_wp {c : Prop} [Decidable c] {o : Out T} {Q : QP T} : wp (if c then o else .stuck) Q X = req c (wp o Q X) := by
  with_unfolding_all
    unfold req
    by_cases h : c <;> simp [h, wp]
theorem ite_ws {c : Prop} [Decidable c] {o : SOut} : ws (if c then o else .stuck) N R B X = req c (ws o N R B X) := by
  with_unfolding_all
    unfold req
    by_cases h : c <;> simp [h, ws]
def K1 (k : U → Mem → Out T) (Q : QP T) (X : XP) (x : U) (m : Mem) : Prop := wp (k x m) Q X
def K2 (g : En → Mem → Out V') (r : En) (k : U → V' → Mem → Out T) (Q : QP T) (X : XP) (x : U) (m : Mem) : Prop := wp (g r m) (K1 (k x) Q X) X
def K3 (g : En → Mem → Out V') (h : En → Mem → Out W') (r : En) (k : U → V' → W' → Mem → Out T) (Q : QP T) (X : XP) (x : U) (m : Mem) : Prop := wp (g r m) (K2 h r (k x) Q X) X
def KB (Q : QP Bool) (d : D) (m : Mem) : Prop := match d with
  | .bl b => Q b m
  | _ => False
def KIf (f g : En → Mem → Out T) (r : En) (Q : QP T) (X : XP) (b : Bool) (m : Mem) : Prop := br b (wp (f r m) Q X) (wp (g r m) Q X)
def KAnd (g : En → Mem → Out Bool) (r : En) (Q : QP Bool) (X : XP) (b : Bool) (m : Mem) : Prop := br b (wp (g r m) Q X) (Q false m)
def KOr (g : En → Mem → Out Bool) (r : En) (Q : QP Bool) (X : XP) (b : Bool) (m : Mem) : Prop := br b (Q true m) (wp (g r m) Q X)
def KNot (Q : QP Bool) (b : Bool) (m : Mem) : Prop := Q (!b) m
def KOf (Q : QP D) (b : Bool) (m : Mem) : Prop := Q (.bl b) m
def KAndV (g : En → Mem → Out D) (r : En) (Q : QP D) (X : XP) (b : Bool) (m : Mem) : Prop := br b (wp (g r m) Q X) (Q (.bl false) m)
def KOrV (g : En → Mem → Out D) (r : En) (Q : QP D) (X : XP) (b : Bool) (m : Mem) : Prop := br b (Q (.bl true) m) (wp (g r m) Q X)
def KC2 (x : D) (Q : QP (List D)) (xs : List D) (m : Mem) : Prop := Q (x :: xs) m
def KC (g : En → Mem → Out (List D)) (r : En) (Q : QP (List D)) (X : XP) (x : D) (m : Mem) : Prop := wp (g r m) (KC2 x Q) X
def KApp (ys : List D) (Q : QP (List D)) (xs : List D) (m : Mem) : Prop := Q (ys ++ xs) m
def KStar (g : En → Mem → Out (List D)) (r : En) (Q : QP (List D)) (X : XP) (x : D) (m : Mem) : Prop := match x with
  | .tup ds => wp (g r m) (KApp ds Q) X
  | .lst ds => wp (g r m) (KApp ds Q) X
  | _ => False
def KT (Q : QP D) (xs : List D) (m : Mem) : Prop := req (xs.length ≤ 16777216) (Q (.tup xs) m)
def KL (Q : QP D) (xs : List D) (m : Mem) : Prop := req (xs.length ≤ 16777216) (Q (.lst xs) m)
def KL0 (Q : QP D) (xs : List D) (m : Mem) : Prop := Q (.lst xs) m
def KD (ks : List Key) (Q : QP D) (xs : List D) (m : Mem) : Prop := Q (.dct ks xs) m
def KCh2 (h : En → Mem → Out D) (r : En) (k' : D → Mem → Out D) (Q : QP D) (X : XP) (b : Bool) (m : Mem) : Prop := br b (wp (h r m) (K1 k' Q X) X) (Q (.bl false) m)
def KCh1 (h : En → Mem → Out D) (r : En) (k k' : D → D → Mem → Out D) (x : D) (Q : QP D) (X : XP) (y : D) (m : Mem) : Prop := wp (k x y m) (KB (KCh2 h r (k' y) Q X)) X
def KCh (g h : En → Mem → Out D) (r : En) (k k' : D → D → Mem → Out D) (Q : QP D) (X : XP) (x : D) (m : Mem) : Prop := wp (g r m) (KCh1 h r k k' x Q X) X
def KO (Q : QP (Option Int)) (d : D) (m : Mem) : Prop := match d with
  | .int n => Q (some n) m
  | _ => False
def KS (Q : QP D) (d : D) (m : Mem) : Prop := match d with
  | .str z => Q (.str z) m
  | _ => False
def KSeq (Q : QP (List D)) (d : D) (m : Mem) : Prop := match d with
  | .lst xs => Q xs m
  | .tup xs => Q xs m
  | .str z => Q (chars z) m
  | _ => False
def KR1 (Q : QP (List D)) (xs : List D) (m : Mem) : Prop := match xs with
  | [.int n] => req (-4611686018427387904 ≤ n ∧ n < 4611686018427387904) (Q (rangeD 0 n) m)
  | _ => False
def KR2 (Q : QP (List D)) (xs : List D) (m : Mem) : Prop := match xs with
  | [.int n, .int k] => req (-4611686018427387904 ≤ n ∧ n < 4611686018427387904 ∧ -4611686018427387904 ≤ k ∧ k < 4611686018427387904) (Q (rangeD n k) m)
  | _ => False
def KZ (Q : QP (List D)) (xs : List D) (m : Mem) : Prop := match xs with
  | [d, e] => (match seqD d, seqD e with
    | some ds, some es => Q (zipD ds es) m
    | _, _ => False)
  | _ => False
def KE (Q : QP (List D)) (xs : List D) (m : Mem) : Prop := match xs with
  | [d] => (match seqD d with
    | some ds => Q (enumD ds) m
    | none => False)
  | _ => False
def KCm (tg : D → En → Option En) (ts : En → Mem → Out Bool) (el : En → Mem → Out D) (r : En) (Q : QP (List D)) (X : XP) (xs : List D) (m : Mem) : Prop := req (xs.length ≤ 16777216) (wp (compL tg ts el r xs m []) Q X)
def KKv {T : Type} (Q : QP D) (d : T × D) (m : Mem) : Prop := Q d.2 m
def KM (n : Str) (g : En → Mem → Out (List D)) (fm : List D → Mem → Out D) (r : En) (d : D) (Q : QP D) (X : XP) (kd : List Str × List D) (m : Mem) : Prop := req (n ∉ kd.1) (wp (g r m) (K1 (fun xs m => fm (d :: xs) m) Q X) X)
def KM1 (c n : Str) (g : En → Mem → Out (List D)) (fm : List D → Mem → Out D) (r : En) (Q : QP D) (X : XP) (d : D) (m : Mem) : Prop := sm (fldsOf c d m) (KM n g fm r d Q X) m
def KLen (Q : QP D) (d : D) (m : Mem) : Prop := match d with
  | .int n => req (0 ≤ n ∧ n < 9223372036854775808) (Q (.int n) m)
  | _ => False
def KRun (Q : QP D) (_r : En) (m : Mem) : Prop := Q .non m
def KNo (_r : En) (_m : Mem) : Prop := False
def KBd (g : En → Mem → SOut) (N : QP En) (R : QP D) (B : QP En) (X : XP) (r : En) (m : Mem) : Prop := ws (g r m) N R B X
def KOfS (k : T → Mem → SOut) (N : QP En) (R : QP D) (B : QP En) (X : XP) (x : T) (m : Mem) : Prop := ws (k x m) N R B X
def KAsg (i : Nat) (r : En) (N : QP En) (d : D) (m : Mem) : Prop := fo (r.set i (.fz d)) N m
def KExp (r : En) (N : QP En) (_d : D) (m : Mem) : Prop := N r m
def KSif (f g : En → Mem → SOut) (r : En) (N : QP En) (R : QP D) (B : QP En) (X : XP) (b : Bool) (m : Mem) : Prop := br b (ws (f r m) N R B X) (ws (g r m) N R B X)
def KOwn (i : Nat) (r : En) (N : QP En) (xs : List D) (m : Mem) : Prop := req (xs.length ≤ 16777216) (fo (r.set i (.own xs)) N m)
def KOwnC (i : Nat) (r : En) (N : QP En) (xs : List D) (m : Mem) : Prop := fo (r.set i (.own xs)) N m
def KAp2 (i : Nat) (r : En) (xs : List D) (N : QP En) (d : D) (m : Mem) : Prop := req (xs.length < 16777216) (fo (r.set i (.own (xs ++ [d]))) N m)
def KAp (i : Nat) (f : En → Mem → Out D) (r : En) (N : QP En) (X : XP) (xs : List D) (m : Mem) : Prop := wp (f r m) (KAp2 i r xs N) X
def KEx2 (i : Nat) (r : En) (xs : List D) (N : QP En) (d : D) (m : Mem) : Prop := match d with
  | .lst ys => req (xs.length + ys.length ≤ 16777216) (fo (r.set i (.own (xs ++ ys))) N m)
  | _ => False
def KExt (i : Nat) (f : En → Mem → Out D) (r : En) (N : QP En) (X : XP) (xs : List D) (m : Mem) : Prop := wp (f r m) (KEx2 i r xs N) X
def KTg (tg : D → En → Option En) (r : En) (N : QP En) (d : D) (m : Mem) : Prop := sm (tg d r) N m
def KPar (i j : Nat) (r : En) (N : QP En) (xs : List D) (m : Mem) : Prop := match xs with
  | [x, y] => fo ((r.set i (.fz x)).set j (.fz y)) N m
  | _ => False
def KPar3 (i j l : Nat) (r : En) (N : QP En) (xs : List D) (m : Mem) : Prop := match xs with
  | [x, y, z] => fo (((r.set i (.fz x)).set j (.fz y)).set l (.fz z)) N m
  | _ => False
def KFor (tg : D → En → Option En) (bd : En → Mem → SOut) (r : En) (N : QP En) (R : QP D) (B : QP En) (X : XP) (xs : List D) (m : Mem) : Prop := ws (forL tg bd xs r m) N R B X
def KFr (tg : D → En → Option En) (bd : En → Mem → SOut) (xs : List D) (N : QP En) (R : QP D) (B : QP En) (X : XP) (r : En) (m : Mem) : Prop := ws (forL tg bd xs r m) N R B X
theorem KB_b {Q : QP Bool} : KB Q (.bl b) m = Q b m := by with_unfolding_all exact rfl
theorem KStar_t {g : En → Mem → Out (List D)} {Q : QP (List D)} : KStar g r Q X (.tup xs) m = wp (g r m) (KApp xs Q) X := by with_unfolding_all exact rfl
theorem KStar_l {g : En → Mem → Out (List D)} {Q : QP (List D)} : KStar g r Q X (.lst xs) m = wp (g r m) (KApp xs Q) X := by with_unfolding_all exact rfl
theorem KO_i {Q : QP (Option Int)} {n : Int} : KO Q (.int n) m = Q (some n) m := by with_unfolding_all exact rfl
theorem KS_s {Q : QP D} {s : Str} : KS Q (.str s) m = Q (.str s) m := by with_unfolding_all exact rfl
theorem KSeq_l {Q : QP (List D)} : KSeq Q (.lst xs) m = Q xs m := by with_unfolding_all exact rfl
theorem KSeq_t {Q : QP (List D)} : KSeq Q (.tup xs) m = Q xs m := by with_unfolding_all exact rfl
theorem KSeq_s {Q : QP (List D)} {s : Str} : KSeq Q (.str s) m = Q (chars s) m := by with_unfolding_all exact rfl
theorem KR1_i {Q : QP (List D)} {n : Int} : KR1 Q [.int n] m = req (-4611686018427387904 ≤ n ∧ n < 4611686018427387904) (Q (rangeD 0 n) m) := by with_unfolding_all exact rfl
theorem KR2_i {Q : QP (List D)} {n k : Int} : KR2 Q [.int n, .int k] m = req (-4611686018427387904 ≤ n ∧ n < 4611686018427387904 ∧ -4611686018427387904 ≤ k ∧ k < 4611686018427387904) (Q (rangeD n k) m) := by with_unfolding_all exact rfl
theorem KZ_ll {Q : QP (List D)} : KZ Q [.lst xs, .lst ys] m = Q (zipD xs ys) m := by with_unfolding_all exact rfl
theorem KZ_lt {Q : QP (List D)} : KZ Q [.lst xs, .tup ys] m = Q (zipD xs ys) m := by with_unfolding_all exact rfl
theorem KZ_tl {Q : QP (List D)} : KZ Q [.tup xs, .lst ys] m = Q (zipD xs ys) m := by with_unfolding_all exact rfl
theorem KZ_tt {Q : QP (List D)} : KZ Q [.tup xs, .tup ys] m = Q (zipD xs ys) m := by with_unfolding_all exact rfl
theorem KZ_ts {Q : QP (List D)} {s : Str} : KZ Q [.tup xs, .str s] m = Q (zipD xs (chars s)) m := by with_unfolding_all exact rfl
theorem KZ_ls {Q : QP (List D)} {s : Str} : KZ Q [.lst xs, .str s] m = Q (zipD xs (chars s)) m := by with_unfolding_all exact rfl
theorem KE_l {Q : QP (List D)} : KE Q [.lst xs] m = Q (enumD xs) m := by with_unfolding_all exact rfl
theorem KE_t {Q : QP (List D)} : KE Q [.tup xs] m = Q (enumD xs) m := by with_unfolding_all exact rfl
theorem KE_s {Q : QP (List D)} {s : Str} : KE Q [.str s] m = Q (enumD (chars s)) m := by with_unfolding_all exact rfl
theorem KLen_i {Q : QP D} {n : Int} : KLen Q (.int n) m = req (0 ≤ n ∧ n < 9223372036854775808) (Q (.int n) m) := by with_unfolding_all exact rfl
theorem KEx2_l {xs ys : List D} : KEx2 i r xs N (.lst ys) m = req (xs.length + ys.length ≤ 16777216) (fo (r.set i (.own (xs ++ ys))) N m) := by with_unfolding_all exact rfl
theorem KPar_l : KPar i j r N [x, y] m = fo ((r.set i (.fz x)).set j (.fz y)) N m := by with_unfolding_all exact rfl
theorem KPar3_l : KPar3 i j l r N [x, y, z] m = fo (((r.set i (.fz x)).set j (.fz y)).set l (.fz z)) N m := by with_unfolding_all exact rfl
section
variable {Q : QP T} {Q1 : QP D} {QB : QP Bool} {QL : QP (List D)} {QO : QP (Option Int)}
theorem wp_ok {t : T} : wp (.ok t m) Q X = Q t m := by with_unfolding_all exact rfl
theorem wp_exc {c : Str} : wp (.exc c d m : Out T) Q X = X c d m := by with_unfolding_all exact rfl
theorem wp_kC : wp (kC d r m) Q1 X = Q1 d m := by with_unfolding_all exact rfl
theorem wp_vF : wp (vF i r m) Q1 X = slF r[i]? Q1 m := by
  with_unfolding_all
    unfold vF
    split <;> rename_i h
    · rw [h]; rfl
    · unfold slF
      split <;> first | rfl | (rename_i h2; exact absurd h2 (h _))
theorem wp_vW : wp (vW i r m) Q1 X = slW r[i]? Q1 m := by
  with_unfolding_all
    unfold vW
    split <;> rename_i h
    · rw [h]; rfl
    · rw [h]; rfl
    · rw [h]; rfl
    · rename_i h1 h2
      unfold slW
      split <;> first | rfl | (rename_i h3; first | exact absurd h3 (h1 _) | exact absurd h3 (h2 _) | exact absurd h3 (h2 _ _) | exact absurd h3 (h _) | exact absurd h3 (h _ _) | exact absurd h3 (h1 _ _))
theorem wp_bind {o : Out U} {k : U → Mem → Out T} : wp (o.bind k) Q X = wp o (K1 k Q X) X := by with_unfolding_all (cases o <;> rfl)
theorem wp_b1 {f : En → Mem → Out U} {k : U → Mem → Out T} : wp (bind1 f k r m) Q X = wp (f r m) (K1 k Q X) X := by with_unfolding_all exact wp_bind
theorem wp_b2 {f : En → Mem → Out U} {g : En → Mem → Out V'} {k : U → V' → Mem → Out T} : wp (bind2 f g k r m) Q X = wp (f r m) (K2 g r k Q X) X := by
  with_unfolding_all
    show wp ((f r m).bind fun x m => (g r m).bind (k x)) Q X = _
    rw [wp_bind]
    refine wp_cg fun x m => ?_
    unfold K1 K2
    rw [wp_bind]
theorem wp_b3 {f : En → Mem → Out U} {g : En → Mem → Out V'} {h : En → Mem → Out W'} {k : U → V' → W' → Mem → Out T} : wp (bind3 f g h k r m) Q X = wp (f r m) (K3 g h r k Q X) X := by
  with_unfolding_all
    show wp ((f r m).bind fun x m => (g r m).bind fun y m => (h r m).bind (k x y)) Q X = _
    rw [wp_bind]
    refine wp_cg fun x m => ?_
    unfold K1 K3
    rw [wp_bind]
    refine wp_cg fun x m => ?_
    unfold K1 K2
    rw [wp_bind]
theorem wp_toB {f : En → Mem → Out D} : wp (toB f r m) QB X = wp (f r m) (KB QB) X := by
  with_unfolding_all
    unfold toB
    rw [wp_b1]
    refine wp_cg fun d m => ?_
    cases d <;> rfl
theorem wp_ifE {c : En → Mem → Out Bool} {f g : En → Mem → Out T} : wp (ifE c f g r m) Q X = wp (c r m) (KIf f g r Q X) X := by
  with_unfolding_all
    unfold ifE
    rw [wp_bind]
    refine wp_cg fun b m => ?_
    cases b <;> simp [br, KIf, K1]
theorem wp_andB {f g : En → Mem → Out Bool} : wp (andB f g r m) QB X = wp (f r m) (KAnd g r QB X) X := by
  with_unfolding_all
    unfold andB
    rw [wp_bind]
    refine wp_cg fun b m => ?_
    cases b <;> simp [br, wp, KAnd, K1]
theorem wp_orB {f g : En → Mem → Out Bool} : wp (orB f g r m) QB X = wp (f r m) (KOr g r QB X) X := by
  with_unfolding_all
    unfold orB
    rw [wp_bind]
    refine wp_cg fun b m => ?_
    cases b <;> simp [br, wp, KOr, K1]
theorem wp_notB {f : En → Mem → Out Bool} : wp (notB f r m) QB X = wp (f r m) (KNot QB) X := by
  with_unfolding_all
    unfold notB
    rw [wp_b1]
    rfl
theorem wp_ofB {f : En → Mem → Out Bool} : wp (ofB f r m) Q1 X = wp (f r m) (KOf Q1) X := by
  with_unfolding_all
    unfold ofB
    rw [wp_b1]
    rfl
theorem wp_andV {f g : En → Mem → Out D} : wp (andV f g r m) Q1 X = wp (f r m) (KB (KAndV g r Q1 X)) X := by
  with_unfolding_all
    unfold andV
    rw [wp_ifE, wp_toB]
    rfl
theorem wp_orV {f g : En → Mem → Out D} : wp (orV f g r m) Q1 X = wp (f r m) (KB (KOrV g r Q1 X)) X := by
  with_unfolding_all
    unfold orV
    rw [wp_ifE, wp_toB]
    rfl
theorem wp_notV {f : En → Mem → Out D} : wp (notV f r m) Q1 X = wp (f r m) (KB (KNot (KOf Q1))) X := by
  with_unfolding_all
    unfold notV
    rw [wp_ofB, wp_notB, wp_toB]
theorem wp_aNil : wp (aNil r m) QL X = QL [] m := by with_unfolding_all exact rfl
theorem wp_aCons {f : En → Mem → Out D} {g : En → Mem → Out (List D)} : wp (aCons f g r m) QL X = wp (f r m) (KC g r QL X) X := by
  with_unfolding_all
    unfold aCons
    rw [wp_b2]
    rfl
theorem wp_aStar {f : En → Mem → Out D} {g : En → Mem → Out (List D)} : wp (aStar f g r m) QL X = wp (f r m) (KStar g r QL X) X := by
  with_unfolding_all
    unfold aStar
    rw [wp_bind]
    refine wp_cg fun d m => ?_
    unfold K1
    cases d <;> first | rfl | (simp only [KStar]; rw [wp_bind]; rfl)
theorem wp_mkT {g : En → Mem → Out (List D)} : wp (mkT g r m) Q1 X = wp (g r m) (KT Q1) X := by
  with_unfolding_all
    unfold mkT
    rw [wp_b1, sizeLine_eq]
    refine wp_cg fun xs m => ?_
    unfold K1 KT
    rw [ite_wp]
    rfl
theorem wp_mkL {g : En → Mem → Out (List D)} : wp (mkL g r m) Q1 X = wp (g r m) (KL Q1) X := by
  with_unfolding_all
    unfold mkL
    rw [wp_b1, sizeLine_eq]
    refine wp_cg fun xs m => ?_
    unfold K1 KL
    rw [ite_wp]
    rfl
theorem wp_mkLI {g : En → Mem → Out (List D)} : wp (mkLI g r m) Q1 X = wp (g r m) (KL Q1) X := by
  with_unfolding_all
    unfold mkLI
    rw [wp_b1]
    refine wp_cg fun xs m => ?_
    unfold K1 KL
    rw [ite_wp]
    rfl
theorem wp_evN : wp (evL [] r m) QL X = QL [] m := by with_unfolding_all exact rfl
theorem wp_evC {k : Str} {f : En → Mem → Out D} {kfs : KF} : wp (evL ((k, f) :: kfs) r m) QL X = wp (f r m) (KC (evL kfs) r QL X) X := by with_unfolding_all exact wp_aCons
theorem wp_mkD {kfs : KF} : wp (mkD kfs r m) Q1 X = wp (evL kfs r m) (KD (kfs.map fun kf => .inr kf.1) Q1) X := by
  with_unfolding_all
    unfold mkD
    rw [wp_b1]
    rfl
theorem wp_chn {f g h : En → Mem → Out D} {k k' : D → D → Mem → Out D} : wp (chn f g h k k' r m) Q1 X = wp (f r m) (KCh g h r k k' Q1 X) X := by
  with_unfolding_all
    unfold chn
    rw [wp_bind]
    refine wp_cg fun x m => ?_
    unfold K1 KCh
    rw [wp_bind]
    refine wp_cg fun y m => ?_
    unfold K1 KCh1
    rw [wp_bind]
    refine wp_cg fun z m => ?_
    unfold K1
    cases z <;> first | rfl | skip
    rename_i b
    cases b
    · simp [KB, KCh2, br, wp]
    · show wp ((h r m).bind _) Q1 X = _
      rw [wp_bind]
      simp [KB, KCh2, br]
theorem wp_oN : wp (oNone r m) QO X = QO none m := by with_unfolding_all exact rfl
theorem wp_oS {f : En → Mem → Out D} : wp (oSome f r m) QO X = wp (f r m) (KO QO) X := by
  with_unfolding_all
    unfold oSome
    rw [wp_b1]
    refine wp_cg fun d m => ?_
    cases d <;> rfl
theorem wp_strO {f : En → Mem → Out D} : wp (strOnly f r m) Q1 X = wp (f r m) (KS Q1) X := by
  with_unfolding_all
    unfold strOnly
    rw [wp_b1]
    refine wp_cg fun d m => ?_
    cases d <;> rfl
theorem wp_ofL {f : En → Mem → Out (List D)} : wp (ofL f r m) Q1 X = wp (f r m) (KL0 Q1) X := by
  with_unfolding_all
    unfold ofL
    rw [wp_b1]
    rfl
theorem wp_seqI {f : En → Mem → Out D} : wp (seqI f r m) QL X = wp (f r m) (KSeq QL) X := by
  with_unfolding_all
    unfold seqI
    rw [wp_b1]
    refine wp_cg fun d m => ?_
    cases d <;> rfl
theorem wp_rng1 {g : En → Mem → Out (List D)} : wp (rngI1 g r m) QL X = wp (g r m) (KR1 QL) X := by
  with_unfolding_all
    unfold rngI1
    rw [wp_b1]
    refine wp_cg fun xs m => ?_
    unfold K1 KR1
    match xs with
    | [] => rfl
    | [d] =>
      cases d <;> first | rfl | skip
      rename_i n
      show wp (if -(2 ^ 62) ≤ n ∧ n < 2 ^ 62 then (Out.ok (rangeD 0 n) m : Out (List D)) else .stuck) QL X = req (-4611686018427387904 ≤ n ∧ n < 4611686018427387904) (QL (rangeD 0 n) m)
      rw [ite_wp]
      rfl
    | d :: e :: l => cases d <;> rfl
theorem wp_rng2 {g : En → Mem → Out (List D)} : wp (rngI2 g r m) QL X = wp (g r m) (KR2 QL) X := by
  with_unfolding_all
    unfold rngI2
    rw [wp_b1]
    refine wp_cg fun xs m => ?_
    unfold K1 KR2
    match xs with
    | [] => rfl
    | [d] => cases d <;> rfl
    | [d, e] =>
      cases d <;> first | rfl | skip
      cases e <;> first | rfl | skip
      rename_i n k
      show wp (if -(2 ^ 62) ≤ n ∧ n < 2 ^ 62 ∧ -(2 ^ 62) ≤ k ∧ k < 2 ^ 62 then (Out.ok (rangeD n k) m : Out (List D)) else .stuck) QL X = req (-4611686018427387904 ≤ n ∧ n < 4611686018427387904 ∧ -4611686018427387904 ≤ k ∧ k < 4611686018427387904) (QL (rangeD n k) m)
      rw [ite_wp]
      rfl
    | d :: e :: e' :: l => cases d <;> first | rfl | (cases e <;> rfl)
theorem wp_zip {g : En → Mem → Out (List D)} : wp (zipG g r m) QL X = wp (g r m) (KZ QL) X := by
  with_unfolding_all
    unfold zipG
    rw [wp_b1]
    refine wp_cg fun xs m => ?_
    unfold K1 KZ
    match xs with
    | [] => rfl
    | [d] => rfl
    | [d, e] =>
      show wp (match seqD d, seqD e with | some ds, some es => (Out.ok (zipD ds es) m : Out (List D)) | _, _ => .stuck) QL X = (match seqD d, seqD e with | some ds, some es => QL (zipD ds es) m | _, _ => False)
      cases seqD d <;> cases seqD e <;> rfl
    | d :: e :: e' :: l => rfl
theorem wp_enum {g : En → Mem → Out (List D)} : wp (enumG g r m) QL X = wp (g r m) (KE QL) X := by
  with_unfolding_all
    unfold enumG
    rw [wp_b1]
    refine wp_cg fun xs m => ?_
    unfold K1 KE
    match xs with
    | [] => rfl
    | [d] =>
      show wp (match seqD d with | some ds => (Out.ok (enumD ds) m : Out (List D)) | none => .stuck) QL X = (match seqD d with | some ds => QL (enumD ds) m | none => False)
      cases seqD d <;> rfl
    | d :: e :: l => rfl
theorem wp_comp {fi : En → Mem → Out (List D)} {tg : D → En → Option En} {ts : En → Mem → Out Bool} {el : En → Mem → Out D} {vs : List Nat} : wp (compF fi tg ts el vs r m) QL X = wp (fi r m) (KCm tg ts el (wipeE r vs) QL X) X := by
  with_unfolding_all
    unfold compF
    rw [wp_bind, sizeLine_eq]
    refine wp_cg fun xs m => ?_
    unfold K1 KCm
    rw [ite_wp]
theorem wp_kT : wp (kT r m) QB X = QB true m := by with_unfolding_all exact rfl
theorem w_add {a c : Int} : addD (.int a) (.int c) m = .ok (.int (a + c)) m := by with_unfolding_all exact rfl
theorem w_addL (h : xs.length + ys.length ≤ 16777216) : addD (.lst xs) (.lst ys) m = .ok (.lst (xs ++ ys)) m := by
  with_unfolding_all
    simp only [addD, sizeLine_eq, if_pos h]
theorem w_addT (h : xs.length + ys.length ≤ 16777216) : addD (.tup xs) (.tup ys) m = .ok (.tup (xs ++ ys)) m := by
  with_unfolding_all
    simp only [addD, sizeLine_eq, if_pos h]
theorem w_addS {a c : Str} (h : a.length + c.length ≤ 16777216) : addD (.str a) (.str c) m = .ok (.str (a ++ c)) m := by
  with_unfolding_all
    simp only [addD, sizeLine_eq, if_pos h]
theorem w_sub {a c : Int} : subD (.int a) (.int c) m = .ok (.int (a - c)) m := by with_unfolding_all exact rfl
theorem w_mul {a c : Int} (h : (-18446744073709551616 < a ∧ a < 18446744073709551616) ∨ (-18446744073709551616 < c ∧ c < 18446744073709551616)) : mulD (.int a) (.int c) m = .ok (.int (a * c)) m := by
  with_unfolding_all
    have h' : (-(2 ^ 64) < a ∧ a < 2 ^ 64) ∨ (-(2 ^ 64) < c ∧ c < 2 ^ 64) := h
    simp only [mulD, if_pos h']
theorem w_mulL {k : Int} (h : -9223372036854775808 ≤ k ∧ k < 9223372036854775808 ∧ xs.length * k.toNat ≤ 16777216) : mulD (.lst xs) (.int k) m = .ok (.lst (List.replicate k.toNat xs).flatten) m := by
  with_unfolding_all
    have h' : -(2 ^ 63) ≤ k ∧ k < 2 ^ 63 ∧ xs.length * k.toNat ≤ sizeLine := by rw [sizeLine_eq]; exact h
    simp only [mulD, if_pos h']
theorem w_fdiv {a c : Int} (h : 0 < c ∧ c < 18446744073709551616) : fdivD (.int a) (.int c) m = .ok (.int (a / c)) m := by with_unfolding_all exact e_fdiv h
theorem w_mod {a c : Int} (h : 0 < c) : modD (.int a) (.int c) m = .ok (.int (a % c)) m := by with_unfolding_all exact e_mod h
theorem w_neg {a : Int} : negD (.int a) m = .ok (.int (-a)) m := by with_unfolding_all exact rfl
theorem w_lt {a c : Int} : ltD (.int a) (.int c) m = .ok (.bl (decide (a < c))) m := by with_unfolding_all exact rfl
theorem w_le {a c : Int} : leD (.int a) (.int c) m = .ok (.bl (decide (a ≤ c))) m := by with_unfolding_all exact rfl
theorem w_gt {a c : Int} : gtD (.int a) (.int c) m = .ok (.bl (decide (c < a))) m := by with_unfolding_all exact rfl
theorem w_ge {a c : Int} : geD (.int a) (.int c) m = .ok (.bl (decide (c ≤ a))) m := by with_unfolding_all exact rfl
theorem w_isN : isD .non .non m = .ok (.bl true) m := by with_unfolding_all exact rfl
theorem w_isI {a : Int} : isD (.int a) .non m = .ok (.bl false) m := by with_unfolding_all exact rfl
theorem w_isS {a : Str} : isD (.str a) .non m = .ok (.bl false) m := by with_unfolding_all exact rfl
theorem w_isT : isD (.tup xs) .non m = .ok (.bl false) m := by with_unfolding_all exact rfl
theorem w_isL : isD (.lst xs) .non m = .ok (.bl false) m := by with_unfolding_all exact rfl
theorem w_isO {c : Str} {ks : List Str} : isD (.obj c ks xs) .non m = .ok (.bl false) m := by with_unfolding_all exact rfl
theorem w_isnN : isntD .non .non m = .ok (.bl false) m := by with_unfolding_all exact rfl
theorem w_isnI {a : Int} : isntD (.int a) .non m = .ok (.bl true) m := by with_unfolding_all exact rfl
theorem w_isnS {a : Str} : isntD (.str a) .non m = .ok (.bl true) m := by with_unfolding_all exact rfl
theorem w_isnT : isntD (.tup xs) .non m = .ok (.bl true) m := by with_unfolding_all exact rfl
theorem w_isnL : isntD (.lst xs) .non m = .ok (.bl true) m := by with_unfolding_all exact rfl
theorem w_eqI {a c : Int} : eqD (.int a) (.int c) m = .ok (.bl (decide (a = c))) m := by with_unfolding_all exact e_eqI
theorem w_eqS {a c : Str} : eqD (.str a) (.str c) m = .ok (.bl (decide (a = c))) m := by with_unfolding_all exact e_eqS
theorem w_neI {a c : Int} : neD (.int a) (.int c) m = .ok (.bl (!decide (a = c))) m := by with_unfolding_all exact ne_of e_eqI
theorem w_neS {a c : Str} : neD (.str a) (.str c) m = .ok (.bl (!decide (a = c))) m := by with_unfolding_all exact ne_of e_eqS
theorem w_lenL : lenD [.lst xs] m = .ok (.int xs.length) m := by with_unfolding_all exact rfl
theorem w_lenT : lenD [.tup xs] m = .ok (.int xs.length) m := by with_unfolding_all exact rfl
theorem w_lenS {s : Str} (h : s.length ≤ 16777216) : lenD [.str s] m = .ok (.int s.length) m := by with_unfolding_all (simp only [lenD, sizeLine_eq, if_pos h])
theorem w_slen {ns : List Int} : slenD [.scr ns] m = .ok (.int ns.length) m := by with_unfolding_all exact rfl
theorem w_abs {a : Int} : absD [.int a] m = .ok (.int (ab a)) m := by
  with_unfolding_all
    simp only [absD, ab]
    congr 2
    split <;> omega
theorem w_int {a : Int} : intD [.int a] m = .ok (.int a) m := by with_unfolding_all exact rfl
theorem w_intB : intD [.bl b] m = .ok (.int (if b then 1 else 0)) m := by with_unfolding_all exact rfl
theorem w_max {a c : Int} : max2D [.int a, .int c] m = .ok (.int (max a c)) m := by
  with_unfolding_all
    simp only [max2D]
    congr 2
    split <;> omega
theorem w_min {a c : Int} : min2D [.int a, .int c] m = .ok (.int (min a c)) m := by
  with_unfolding_all
    simp only [min2D]
    congr 2
    split <;> omega
theorem w_str {a : Int} (h : -18446744073709551616 < a ∧ a < 18446744073709551616) : strD [.int a] m = .ok (.str (numS a)) m := by with_unfolding_all exact e_strI (by omega)
theorem w_strS {a : Str} : strD [.str a] m = .ok (.str a) m := by with_unfolding_all exact rfl
theorem w_listL : listD [.lst xs] m = .ok (.lst xs) m := by with_unfolding_all exact rfl
theorem w_listT : listD [.tup xs] m = .ok (.lst xs) m := by with_unfolding_all exact rfl
theorem w_tupL : tupleD [.lst xs] m = .ok (.tup xs) m := by with_unfolding_all exact rfl
theorem w_tupT : tupleD [.tup xs] m = .ok (.tup xs) m := by with_unfolding_all exact rfl
theorem w_slL {lo hi : Option Int} : slD (.lst xs) lo hi m = .ok (.lst (cutD xs lo hi)) m := by with_unfolding_all exact rfl
theorem w_slT {lo hi : Option Int} : slD (.tup xs) lo hi m = .ok (.tup (cutD xs lo hi)) m := by with_unfolding_all exact rfl
theorem w_revL : revD (.lst xs) m = .ok (.lst xs.reverse) m := by with_unfolding_all exact rfl
theorem w_revT : revD (.tup xs) m = .ok (.tup xs.reverse) m := by with_unfolding_all exact rfl
theorem wp_ixL {n : Int} : wp (ixD (.lst xs) (.int n) m) Q1 X = sm (atI xs n) Q1 m := by
  with_unfolding_all
    simp only [ixD]
    cases atI xs n <;> rfl
theorem wp_ixT {n : Int} : wp (ixD (.tup xs) (.int n) m) Q1 X = sm (atI xs n) Q1 m := by
  with_unfolding_all
    simp only [ixD]
    cases atI xs n <;> rfl
theorem at0 {t : T} {ts : List T} : atI (t :: ts) 0 = some t := by with_unfolding_all exact atI_0
theorem at1 {t t1 : T} {ts : List T} : atI (t :: t1 :: ts) 1 = some t1 := by
  with_unfolding_all
    unfold atI ixN
    rw [if_pos (by decide), if_pos (by simp; omega)]
    rfl
theorem at2 {t t1 t2 : T} {ts : List T} : atI (t :: t1 :: t2 :: ts) 2 = some t2 := by
  with_unfolding_all
    unfold atI ixN
    rw [if_pos (by decide), if_pos (by simp; omega)]
    rfl
theorem at3 {t t1 t2 t3 : T} {ts : List T} : atI (t :: t1 :: t2 :: t3 :: ts) 3 = some t3 := by
  with_unfolding_all
    unfold atI ixN
    rw [if_pos (by decide), if_pos (by simp; omega)]
    rfl
theorem at4 {t t1 t2 t3 t4 : T} {ts : List T} : atI (t :: t1 :: t2 :: t3 :: t4 :: ts) 4 = some t4 := by
  with_unfolding_all
    unfold atI ixN
    rw [if_pos (by decide), if_pos (by simp; omega)]
    rfl
theorem at_m1 {t : T} {ts : List T} : atI (ts ++ [t]) (-1) = some t := by
  with_unfolding_all
    unfold atI ixN
    rw [if_neg (by decide), if_pos (by simp; omega)]
    have e : ((-1 : Int) + ((ts ++ [t]).length : Nat)).toNat = ts.length := by simp; omega
    show (some _).bind _ = _
    simp only [Option.bind_some]
    rw [e]
    simp
theorem wp_dget {ks : List Key} {s : Str} : wp (dgetD (.dct ks xs) (.str s) m) Q1 X = sm ((ks.zip xs).find? fun kv => decide (kv.1 = .inr s)) (KKv Q1) m := by
  with_unfolding_all
    simp only [dgetD, keyOf]
    cases (ks.zip xs).find? fun kv => decide (kv.1 = .inr s) <;> rfl
theorem KKv_p {k : T} : KKv Q1 (k, d) m = Q1 d m := by with_unfolding_all exact rfl
theorem find_h {k : Key} {kd : List (Key × D)} {s : Str} (h : k = .inr s) : ((k, d) :: kd).find? (fun kv => decide (kv.1 = (.inr s : Key))) = some (k, d) := by
  with_unfolding_all
    simp [h]
theorem find_t {k : Key} {kd : List (Key × D)} {s : Str} (h : ¬k = .inr s) : ((k, d) :: kd).find? (fun kv => decide (kv.1 = (.inr s : Key))) = kd.find? fun kv => decide (kv.1 = (.inr s : Key)) := by
  with_unfolding_all
    rw [List.find?_cons_of_neg (by simp [h])]
theorem inr_iff {a c : Str} : ((Sum.inr a : Key) = .inr c) = (a = c) := by with_unfolding_all (simp)
theorem lit_iff {a c : String} : (Str.ofString a = Str.ofString c) = (a = c) := by
  with_unfolding_all
    apply propext
    constructor
    · intro h
      have h2 := congrArg tl h
      rw [tl_ofString, tl_ofString] at h2
      apply String.toList_inj.mp
      generalize a.toList = u at h2
      generalize c.toList = v at h2
      clear h
      induction u generalizing v with
      | nil => cases v with
        | nil => rfl
        | cons _ _ => simp at h2
      | cons x u ih => cases v with
        | nil => simp at h2
        | cons y v =>
          simp only [List.map_cons, List.cons.injEq] at h2
          rw [Char.toNat_inj.mp h2.1, ih v h2.2]
    · rintro rfl; rfl
theorem wp_inT : wp (inD x (.tup xs) m) Q1 X = req ((scl x && xs.all scl) = true) (Q1 (.bl (xs.any fun y => eqB y x)) m) := by
  with_unfolding_all
    have e : inD x (.tup xs) m = if scl x && xs.all scl then .ok (.bl (xs.any fun y => eqB y x)) m else .stuck := by cases x <;> rfl
    rw [e, ite_wp]
    rfl
theorem wp_inL : wp (inD x (.lst xs) m) Q1 X = req ((scl x && xs.all scl) = true) (Q1 (.bl (xs.any fun y => eqB y x)) m) := by
  with_unfolding_all
    have e : inD x (.lst xs) m = if scl x && xs.all scl then .ok (.bl (xs.any fun y => eqB y x)) m else .stuck := by cases x <;> rfl
    rw [e, ite_wp]
    rfl
theorem wp_ninT : wp (ninD x (.tup xs) m) Q1 X = req ((scl x && xs.all scl) = true) (Q1 (.bl (!xs.any fun y => eqB y x)) m) := by
  with_unfolding_all
    have e : ninD x (.tup xs) m = if scl x && xs.all scl then .ok (.bl (!xs.any fun y => eqB y x)) m else .stuck := by cases x <;> rfl
    rw [e, ite_wp]
    rfl
theorem wp_ninL : wp (ninD x (.lst xs) m) Q1 X = req ((scl x && xs.all scl) = true) (Q1 (.bl (!xs.any fun y => eqB y x)) m) := by
  with_unfolding_all
    have e : ninD x (.lst xs) m = if scl x && xs.all scl then .ok (.bl (!xs.any fun y => eqB y x)) m else .stuck := by cases x <;> rfl
    rw [e, ite_wp]
    rfl
theorem eqB_ss {a c : Str} : eqB (.str a) (.str c) = decide (a = c) := by
  with_unfolding_all
    simp only [eqB]
    by_cases h : a = c <;> simp [h]
theorem eqB_is {a : Int} {c : Str} : eqB (.int a) (.str c) = false := by with_unfolding_all exact rfl
theorem eqB_si {a : Int} {c : Str} : eqB (.str c) (.int a) = false := by with_unfolding_all exact rfl
theorem eqB_ii {a c : Int} : eqB (.int a) (.int c) = decide (a = c) := by
  with_unfolding_all
    simp only [eqB]
    by_cases h : a = c <;> simp [h]
theorem wp_fld {c f : Str} {ks : List Str} : wp (fldD c f (.obj c ks xs) m) Q1 X = sm ((ks.zip xs).lookup f) Q1 m := by
  with_unfolding_all
    simp only [fldD, fldsOf, if_true]
    cases (ks.zip xs).lookup f <;> rfl
theorem wp_prop {c : Str} {ks : List Str} {fm : List D → Mem → Out D} : wp (propD c fm (.obj c ks xs) m) Q1 X = wp (fm [.obj c ks xs] m) Q1 X0 := by
  with_unfolding_all
    simp only [propD, fldsOf, if_true]
    cases fm [.obj c ks xs] m <;> rfl
theorem wp_meth {c n : Str} {f : En → Mem → Out D} {g : En → Mem → Out (List D)} {fm : List D → Mem → Out D} : wp (methD c n f g fm r m) Q1 X = wp (f r m) (KM1 c n g fm r Q1 X) X := by
  with_unfolding_all
    unfold methD
    rw [wp_bind]
    refine wp_cg fun d m => ?_
    unfold K1 KM1
    dsimp only
    cases fldsOf c d m with
    | none => rfl
    | some kd =>
      obtain ⟨ks, ds⟩ := kd
      show wp (if n ∉ ks then (g r m).bind fun xs m => fm (d :: xs) m else .stuck) Q1 X = _
      rw [ite_wp, wp_bind]
      rfl
theorem flds_obj {c : Str} {ks : List Str} : fldsOf c (.obj c ks xs) m = some (ks, xs) := by with_unfolding_all (simp [fldsOf])
theorem wp_lenO {c : Str} {fm : List D → Mem → Out D} {ks : List Str} : wp (lenO c fm [.obj c ks xs] m) Q1 X = wp (fm [.obj c ks xs] m) (KLen Q1) X0 := by
  with_unfolding_all
    simp only [lenO, flds_obj]
    cases fm [.obj c ks xs] m with
    | stuck => rfl
    | exc c d m => rfl
    | ok d m =>
      cases d <;> first | rfl | skip
      rename_i n
      show wp (if 0 ≤ n ∧ n < 2 ^ 63 then (Out.ok (.int n) m : Out D) else .stuck) Q1 X = req (0 ≤ n ∧ n < 9223372036854775808) (Q1 (.int n) m)
      rw [ite_wp]
      rfl
theorem wp_run {k n : Nat} {bd : En → Mem → SOut} {ds : List D} (h : ds.length = k) : wp (runF k n bd ds m) Q1 X = fo (enOf n ds) (KBd bd (KRun Q1) Q1 KNo X) m := by
  with_unfolding_all
    simp only [runF, if_pos h, fo, KBd]
    cases bd (enOf n ds) m <;> rfl
end
theorem ws_n : ws (.next r m) N R B X = N r m := by with_unfolding_all exact rfl
theorem ws_r : ws (.ret d m) N R B X = R d m := by with_unfolding_all exact rfl
theorem ws_x {c : Str} : ws (.exc c d m) N R B X = X c d m := by with_unfolding_all exact rfl
theorem ws_of {o : Out T} {k : T → Mem → SOut} : ws (sOf o k) N R B X = wp o (KOfS k N R B X) X := by with_unfolding_all (cases o <;> rfl)
theorem ws_nil : ws (sNil r m) N R B X = N r m := by with_unfolding_all exact rfl
theorem ws_brk : ws (sBrk r m) N R B X = B r m := by with_unfolding_all exact rfl
theorem ws_seq {f g : En → Mem → SOut} : ws (sSeq f g r m) N R B X = ws (f r m) (KBd g N R B X) R B X := by
  with_unfolding_all
    unfold sSeq
    cases f r m <;> rfl
theorem ws_asg {f : En → Mem → Out D} : ws (sAsg i f r m) N R B X = wp (f r m) (KAsg i r N) X := by
  with_unfolding_all
    unfold sAsg
    rw [ws_of]
    rfl
theorem ws_ret {f : En → Mem → Out D} : ws (sRet f r m) N R B X = wp (f r m) R X := by
  with_unfolding_all
    unfold sRet
    rw [ws_of]
    rfl
theorem ws_exp {f : En → Mem → Out D} : ws (sExp f r m) N R B X = wp (f r m) (KExp r N) X := by
  with_unfolding_all
    unfold sExp
    rw [ws_of]
    rfl
theorem ws_if {c : En → Mem → Out Bool} {f g : En → Mem → SOut} : ws (sIf c f g r m) N R B X = wp (c r m) (KSif f g r N R B X) X := by
  with_unfolding_all
    unfold sIf
    rw [ws_of]
    refine wp_cg fun b m => ?_
    cases b <;> simp [br, KOfS, KSif]
theorem ws_own {g : En → Mem → Out (List D)} : ws (sOwn i g r m) N R B X = wp (g r m) (KOwn i r N) X := by
  with_unfolding_all
    unfold sOwn
    rw [ws_of, sizeLine_eq]
    refine wp_cg fun xs m => ?_
    unfold KOfS KOwn
    rw [ite_ws]
    rfl
theorem ws_ownC {g : En → Mem → Out (List D)} : ws (sOwnC i g r m) N R B X = wp (g r m) (KOwnC i r N) X := by
  with_unfolding_all
    unfold sOwnC
    rw [ws_of]
    rfl
theorem ws_app {f : En → Mem → Out D} : ws (sApp i f r m) N R B X = slO r[i]? (KAp i f r N X) m := by
  with_unfolding_all
    unfold sApp
    split
    · rename_i ds h
      rw [h, ws_of, sizeLine_eq]
      show _ = wp _ _ _ .mk
      refine wp_cg fun d m => ?_
      unfold KOfS KAp2
      rw [ite_ws]
      rfl
    · rename_i h
      unfold slO
      split
      · rename_i h2; exact absurd h2 (h _)
      · rfl
theorem ws_ext {f : En → Mem → Out D} : ws (sExt i f r m) N R B X = slO r[i]? (KExt i f r N X) m := by
  with_unfolding_all
    unfold sExt
    split
    · rename_i ds h
      rw [h, ws_of, sizeLine_eq]
      show _ = wp _ _ _ .mk
      refine wp_cg fun d m => ?_
      unfold KOfS KEx2
      cases d <;> first | rfl | skip
      rename_i ys
      show ws (if ds.length + ys.length ≤ 16777216 then SOut.next (r.set i (.own (ds ++ ys))) m else .stuck) N R B X = _
      rw [ite_ws]
      rfl
    · rename_i h
      unfold slO
      split
      · rename_i h2; exact absurd h2 (h _)
      · rfl
theorem ws_fz {f : En → Mem → SOut} : ws (sFz i f r m) N R B X = fo (fzAt r i) (KBd f N R B X) m := by with_unfolding_all exact rfl
theorem ws_tg {tg : D → En → Option En} {f : En → Mem → Out D} : ws (sTg tg f r m) N R B X = wp (f r m) (KTg tg r N) X := by
  with_unfolding_all
    unfold sTg
    rw [ws_of]
    refine wp_cg fun d m => ?_
    unfold KOfS KTg
    dsimp only
    cases tg d r <;> rfl
theorem ws_par {g : En → Mem → Out (List D)} : ws (sPar i j g r m) N R B X = wp (g r m) (KPar i j r N) X := by
  with_unfolding_all
    unfold sPar
    rw [ws_of]
    refine wp_cg fun xs m => ?_
    unfold KOfS KPar
    match xs with
    | [] => rfl
    | [_] => rfl
    | [_, _] => rfl
    | _ :: _ :: _ :: _ => rfl
theorem ws_par3 {g : En → Mem → Out (List D)} : ws (sPar3 i j l g r m) N R B X = wp (g r m) (KPar3 i j l r N) X := by
  with_unfolding_all
    unfold sPar3
    rw [ws_of]
    refine wp_cg fun xs m => ?_
    unfold KOfS KPar3
    match xs with
    | [] => rfl
    | [_] => rfl
    | [_, _] => rfl
    | [_, _, _] => rfl
    | _ :: _ :: _ :: _ :: _ => rfl
theorem ws_for {fi : En → Mem → Out (List D)} {tg : D → En → Option En} {bd : En → Mem → SOut} : ws (sFor fi tg bd r m) N R B X = wp (fi r m) (KFor tg bd r N R B X) X := by
  with_unfolding_all
    unfold sFor
    rw [ws_of]
    rfl
theorem ws_forN {tg : D → En → Option En} {bd : En → Mem → SOut} : ws (forL tg bd [] r m) N R B X = N r m := by with_unfolding_all exact rfl
theorem ws_forC {tg : D → En → Option En} {bd : En → Mem → SOut} : ws (forL tg bd (d :: xs) r m) N R B X = sm (tg d r) (KBd bd (KFr tg bd xs N R B X) R N X) m := by
  with_unfolding_all
    conv => lhs; unfold forL
    cases tg d r with
    | none => rfl
    | some r1 =>
      show ws (match bd r1 m with | .next r2 m2 => forL tg bd xs r2 m2 | .brk r2 m2 => .next r2 m2 | .stuck => .stuck | .ret x m2 => .ret x m2 | .exc c d m2 => .exc c d m2) N R B X = ws (bd r1 m) _ R N X .mk
      cases bd r1 m <;> rfl
theorem tg_N : tgN i d r = some (r.set i (.fz d)) := by with_unfolding_all exact rfl
theorem tgo_N : sm (tgN i d r) N m = fo (r.set i (.fz d)) N m := by with_unfolding_all exact rfl
theorem wp_compN {tg : D → En → Option En} {ts : En → Mem → Out Bool} {el : En → Mem → Out D} {acc : List D} {QL : QP (List D)} : wp (compL tg ts el r [] m acc) QL X = QL acc m := by with_unfolding_all exact rfl
def KCt3 (tg : D → En → Option En) (ts : En → Mem → Out Bool) (el : En → Mem → Out D) (r : En) (xs acc : List D) (Q : QP (List D)) (X : XP) (x : D) (m : Mem) : Prop := wp (compL tg ts el r xs m (acc ++ [x])) Q X
def KCt2 (tg : D → En → Option En) (ts : En → Mem → Out Bool) (el : En → Mem → Out D) (r : En) (xs acc : List D) (r1 : En) (Q : QP (List D)) (X : XP) (b : Bool) (m : Mem) : Prop := br b (wp (el r1 m) (KCt3 tg ts el r xs acc Q X) X0) (wp (compL tg ts el r xs m acc) Q X)
def KCt (tg : D → En → Option En) (ts : En → Mem → Out Bool) (el : En → Mem → Out D) (r : En) (xs acc : List D) (Q : QP (List D)) (X : XP) (r1 : En) (m : Mem) : Prop := wp (ts r1 m) (KCt2 tg ts el r xs acc r1 Q X) X0
theorem wp_compC {tg : D → En → Option En} {ts : En → Mem → Out Bool} {el : En → Mem → Out D} {acc : List D} {QL : QP (List D)} :
    wp (compL tg ts el r (d :: xs) m acc) QL X = sm (tg d r) (KCt tg ts el r xs acc QL X) m := by
  with_unfolding_all
    conv => lhs; unfold compL
    cases tg d r with
    | none => rfl
    | some r1 =>
      show wp (match ts r1 m with
        | .ok true m1 => (match el r1 m1 with
          | .ok x m2 => compL tg ts el r xs m2 (acc ++ [x])
          | _ => .stuck)
        | .ok false m1 => compL tg ts el r xs m1 acc
        | _ => .stuck) QL X = wp (ts r1 m) _ _ .mk
      cases ts r1 m with
      | stuck => rfl
      | exc c d m => rfl
      | ok b m1 =>
        cases b with
        | true =>
          show wp (match el r1 m1 with
            | .ok x m2 => compL tg ts el r xs m2 (acc ++ [x])
            | _ => .stuck) QL X = br true _ _ .mk
          rw [br_t]
          cases el r1 m1 <;> rfl
        | false =>
          show wp (compL tg ts el r xs m1 acc) QL X = br false _ _ .mk
          rw [br_f]
def CT (ts : En → Mem → Out Bool) (el : En → Mem → Out D) (b : Bool) (v : D) (r1 : En) (m : Mem) : Prop := wp (ts r1 m) (IsV b m) X0 ∧ (b = true → wp (el r1 m) (IsV v m) X0)
theorem wp_compM {tg : D → En → Option En} {ts : En → Mem → Out Bool} {el : En → Mem → Out D} {QL : QP (List D)} (P : D → Bool) (g : D → D) (h : ∀ d ∈ xs, sm (tg d r) (CT ts el (P d) (g d)) m)
    (hq : QL ((xs.filter P).map g) m) : wp (compL tg ts el r xs m []) QL X := by
  with_unfolding_all
    have key : ∀ (zs acc : List D), (∀ d ∈ zs, sm (tg d r) (CT ts el (P d) (g d)) m) → QL (acc ++ (zs.filter P).map g) m → wp (compL tg ts el r zs m acc) QL X := by
      intro zs
      induction zs with
      | nil =>
        intro acc _ hq
        rw [wp_compN]
        simpa using hq
      | cons d zs ih =>
        intro acc h hq
        rw [wp_compC]
        have h1 := h d (by simp)
        cases q : tg d r with
        | none => rw [q] at h1; exact h1
        | some r1 =>
          rw [q] at h1
          obtain ⟨h2, h3⟩ : CT ts el (P d) (g d) r1 m := h1
          show wp (ts r1 m) _ _ .mk
          refine wp_mono (T := Bool) h2 fun b m1 hb => ?_
          obtain ⟨rfl, rfl⟩ := hb
          refine br_bl (fun e => ?_) fun e => ?_
          · refine wp_mono (h3 e) fun x m2 hx => ?_
            obtain ⟨rfl, rfl⟩ := hx
            apply ih
            · exact fun d' hd => h d' (List.mem_cons_of_mem _ hd)
            · simpa [List.filter_cons, e] using hq
          · apply ih
            · exact fun d' hd => h d' (List.mem_cons_of_mem _ hd)
            · simpa [List.filter_cons, e] using hq
    exact key xs [] h (by simpa using hq)
def CK (el : En → Mem → Out D) (v : D) (r1 : En) (m : Mem) : Prop := wp (el r1 m) (IsV v m) X0
theorem wp_compK {tg : D → En → Option En} {el : En → Mem → Out D} {QL : QP (List D)} (g : D → D) (h : ∀ d ∈ xs, sm (tg d r) (CK el (g d)) m)
    (hq : QL (xs.map g) m) : wp (compL tg kT el r xs m []) QL X := by
  with_unfolding_all
    refine wp_compM (fun _ => true) g (fun d hd => ?_) ?_
    · have h1 := h d hd
      cases q : tg d r with
      | none => rw [q] at h1; exact h1
      | some r1 =>
        rw [q] at h1
        exact ⟨⟨rfl, rfl⟩, fun _ => h1⟩
    · rw [List.filter_eq_self.mpr fun _ _ => rfl]
      exact hq
def CI (el : En → Mem → Out D) (P : D → Prop) (I : Mem → Prop) (r1 : En) (m : Mem) : Prop := wp (el r1 m) (fun x m1 => P x ∧ I m1) X0
theorem ws_forI {tg : D → En → Option En} {bd : En → Mem → SOut} (I : Nat → En → Mem → Prop) (h0 : I 0 r m) (h : ∀ d, d ∈ xs → ∀ n r m, n < xs.length → xs[n]? = some d → I n r m → sm (tg d r) (KBd bd (I (n + 1)) R N X) m)
    (hn : ∀ r m, I xs.length r m → N r m) : ws (forL tg bd xs r m) N R B X := by
  with_unfolding_all
    have key : ∀ (zs : List D) (n : Nat) (r : En) (m : Mem), n + zs.length = xs.length → xs.drop n = zs → I n r m → ws (forL tg bd zs r m) N R B X := by
      intro zs
      induction zs with
      | nil =>
        intro n r m hn' _ hi
        rw [ws_forN]
        simp at hn'
        exact hn r m (hn' ▸ hi)
      | cons d zs ih =>
        intro n r m hn' hz hi
        simp only [List.length_cons] at hn'
        have hd : xs[n]? = some d := by
          have := congrArg (fun l => l[0]?) hz
          simpa using this
        rw [ws_forC]
        have h1 := h d (List.mem_of_getElem? hd) n r m (by omega) hd hi
        cases q : tg d r with
        | none => rw [q] at h1; exact h1
        | some r1 =>
          rw [q] at h1
          refine ws_mono (show ws (bd r1 m) _ _ _ _ .mk from h1) (fun r m hi => ih (n + 1) r m (by omega) ?_ hi) (fun _ _ h => h) (fun _ _ h => h) fun _ _ _ h => h
          rw [← List.drop_drop, hz]
          rfl
    exact key xs 0 r m (by simp) rfl h0
end
end MT
namespace MT
open PySem L2 TL
theorem tg_T {n : Nat} {u : List D → En → Option En} {ds : List D} {r : En} (h : ds.length = n) : tgT n u (.tup ds) r = u ds r := by simp [tgT, h]
theorem tg_C {t : D → En → Option En} {u : List D → En → Option En} {d : D} {ds : List D} {r : En} : tgCons t u (d :: ds) r = (t d r).bind (u ds) := rfl
theorem tg_Z {r : En} : tgNil [] r = some r := rfl
theorem lk_h {T : Type} {k k' : Str} {d : T} {kd : List (Str × T)} (h : k' = k) : List.lookup k ((k', d) :: kd) = some d := by simp [h]
theorem lk_t {T : Type} {k k' : Str} {d : T} {kd : List (Str × T)} (h : ¬k' = k) : List.lookup k ((k', d) :: kd) = List.lookup k kd := by
  rw [List.lookup_cons]
  have : (k == k') = false := by simp; exact fun e => h e.symm
  rw [this]
theorem fzA_s {a : Sl} {l : En} {i : Nat} : fzAt (a :: l) (i + 1) = a :: fzAt l i := by
  unfold fzAt
  rw [List.getElem?_cons_succ]
  split <;> simp_all
theorem fzA_o {xs : List D} {l : En} : fzAt (.own xs :: l) 0 = .fz (.lst xs) :: l := rfl
theorem fzA_d {ks : List Key} {xs : List D} {l : En} : fzAt (.ownD ks xs :: l) 0 = .fz (.dct ks xs) :: l := rfl
theorem fzA_f {d : D} {l : En} : fzAt (.fz d :: l) 0 = .fz d :: l := rfl
theorem fzA_n {l : En} : fzAt (.no :: l) 0 = .no :: l := rfl
end MT
set_option Elab.async false
set_option linter.all false
set_option maxRecDepth 100000
namespace MT
open PySem L2 TL
section
variable {T : Type} {r : En} {m : Mem} {d d1 d2 x y z a b : D} {xs ys ds : List D} {i j l : Nat} {X : XP} {N B : QP En} {R : QP D} {f g fa fb ga gb : En → Mem → Out D} {k : Int}
def KOA2 (i : Nat) (r : En) (x : D) (N : QP En) (y : D) (m : Mem) : Prop := match x, y with
  | .lst a, .lst b => req (a.length + b.length ≤ 16777216) (fo (r.set i (.own (a ++ b))) N m)
  | _, _ => False
def KOA (g : En → Mem → Out D) (i : Nat) (r : En) (N : QP En) (X : XP) (x : D) (m : Mem) : Prop := wp (g r m) (KOA2 i r x N) X
theorem KOA2_l : KOA2 i r (.lst xs) N (.lst ys) m = req (xs.length + ys.length ≤ 16777216) (fo (r.set i (.own (xs ++ ys))) N m) := rfl
theorem ws_ownAdd : ws (sOwnAdd i f g r m) N R B X = wp (f r m) (KOA g i r N X) X := by
  with_unfolding_all
    unfold sOwnAdd
    rw [ws_of]
    refine wp_cg fun x m => ?_
    unfold KOfS KOA
    rw [ws_of]
    refine wp_cg fun y m => ?_
    unfold KOfS KOA2
    cases x <;> first | rfl | skip
    cases y <;> first | rfl | skip
    rename_i a b
    show ws (if a.length + b.length ≤ sizeLine then SOut.next (r.set i (.own (a ++ b))) m else .stuck) N R B X = _
    rw [ite_ws, sizeLine_eq]
    rfl
def KPh (i : Nat) (r : En) (ds : List D) (b : D) (N : QP En) (j : Nat) (m : Mem) : Prop := fo (r.set i (.own (ds.set j b))) N m
def KPg (i : Nat) (r : En) (ds : List D) (b : D) (N : QP En) (d : D) (m : Mem) : Prop := match d with
  | .int k => sm (ixN ds.length k) (KPh i r ds b N) m
  | _ => False
def KPf (i : Nat) (gb : En → Mem → Out D) (ds : List D) (b : D) (N : QP En) (X : XP) (r : En) (m : Mem) : Prop := wp (gb r m) (KPg i r ds b N) X
def KPe (i : Nat) (gb : En → Mem → Out D) (r : En) (ds : List D) (a b : D) (N : QP En) (X : XP) (j : Nat) (m : Mem) : Prop := fo (r.set i (.own (ds.set j a))) (KPf i gb (ds.set j a) b N X) m
def KPd (i : Nat) (gb : En → Mem → Out D) (r : En) (ds : List D) (a b : D) (N : QP En) (X : XP) (d : D) (m : Mem) : Prop := match d with
  | .int k => sm (ixN ds.length k) (KPe i gb r ds a b N X) m
  | _ => False
def KPc (i : Nat) (ga gb : En → Mem → Out D) (r : En) (ds : List D) (a : D) (N : QP En) (X : XP) (b : D) (m : Mem) : Prop := wp (ga r m) (KPd i gb r ds a b N X) X
def KPb (i : Nat) (fb ga gb : En → Mem → Out D) (r : En) (ds : List D) (N : QP En) (X : XP) (a : D) (m : Mem) : Prop := wp (fb r m) (KPc i ga gb r ds a N X) X
def KPa (i : Nat) (fa fb ga gb : En → Mem → Out D) (r : En) (N : QP En) (X : XP) (ds : List D) (m : Mem) : Prop := wp (fa r m) (KPb i fb ga gb r ds N X) X
theorem KPg_i : KPg i r ds b N (.int k) m = sm (ixN ds.length k) (KPh i r ds b N) m := rfl
theorem KPd_i : KPd i gb r ds a b N X (.int k) m = sm (ixN ds.length k) (KPe i gb r ds a b N X) m := rfl
theorem put1_own {v : D} (h : r[i]? = some (.own ds)) : put1 i v d r m = (match d with
    | .int k => (match ixN ds.length k with
      | some j => .next (r.set i (.own (ds.set j v))) m
      | none => .stuck)
    | _ => .stuck) := by
  simp only [put1, h] <;> cases d <;> rfl
theorem ws_put2 : ws (sPut2 i fa fb ga gb r m) N R B X = slO r[i]? (KPa i fa fb ga gb r N X) m := by
  with_unfolding_all
    unfold sPut2
    split
    · rename_i ds er
      rw [er]
      show _ = KPa i fa fb ga gb r N X ds m
      unfold KPa
      rw [ws_of]
      refine wp_cg fun a m => ?_
      unfold KOfS KPb
      rw [ws_of]
      refine wp_cg fun b m => ?_
      unfold KOfS KPc
      rw [ws_of]
      refine wp_cg fun j m => ?_
      unfold KOfS
      dsimp only
      rw [put1_own er]
      cases j <;> first | rfl | skip
      rename_i k
      show ws (match (match ixN ds.length k with
        | some j => SOut.next (r.set i (.own (ds.set j a))) m
        | none => .stuck) with
        | .next r m => sOf (gb r m) fun k m => put1 i b k r m
        | o => o) N R B X = sm (ixN ds.length k) (KPe i gb r ds a b N X) m
      cases ixN ds.length k with
      | none => rfl
      | some j =>
        show ws (sOf (gb (r.set i (.own (ds.set j a))) m) fun k m => put1 i b k (r.set i (.own (ds.set j a))) m) N R B X = wp (gb (r.set i (.own (ds.set j a))) m) (KPg i (r.set i (.own (ds.set j a))) (ds.set j a) b N) X
        rw [ws_of]
        refine wp_cg fun k m => ?_
        unfold KOfS
        dsimp only
        rw [put1_own (ds := ds.set j a) (by rw [List.getElem?_set_self (List.getElem?_eq_some_iff.mp er).1])]
        cases k <;> first | rfl | skip
        rename_i k
        show ws (match ixN (ds.set j a).length k with
          | some l => SOut.next ((r.set i (.own (ds.set j a))).set i (.own ((ds.set j a).set l b))) m
          | none => .stuck) N R B X = sm (ixN (ds.set j a).length k) (KPh i (r.set i (.own (ds.set j a))) (ds.set j a) b N) m
        cases ixN (ds.set j a).length k <;> rfl
    · rename_i h
      unfold slO
      split
      · rename_i h2; exact absurd h2 (h _)
      · rfl
end
end MT
set_option Elab.async false
set_option linter.all false
set_option maxRecDepth 100000
namespace MT
open PySem L2 TL NumText
mutual
def sml : D → Bool
  | .non => true
  | .bl _ => true
  | .int i => decide (i.natAbs < 10 ^ 40)
  | .str x => PyData.strOk x
  | .lst xs => smls xs
  | .tup xs => smls xs
  | _ => false
def smls : List D → Bool
  | [] => true
  | x :: xs => sml x && smls xs
end
mutual
def wtD : D → Nat
  | .int _ => 134
  | .str x => x.length
  | .lst xs => wtDs xs
  | .tup xs => wtDs xs
  | _ => 0
def wtDs : List D → Nat
  | [] => 0
  | x :: xs => wtD x + 1 + wtDs xs
end
theorem num_len {i : Int} (h : i.natAbs < 10 ^ 40) : (PyData.shown (.int i)).length ≤ 42 := by
  have := numS_len (k := 40) (by decide) h
  simp only [PyData.shown]
  show (numS i).length ≤ 42
  omega
theorem log_sml {n : Nat} (h : n < 10 ^ 40) : n.log2 < 133 := by
  by_cases z : n = 0
  · subst z; decide
  · exact (Nat.log2_lt z).mpr (Nat.lt_trans h (by decide))
mutual
theorem sml_dat : ∀ d : D, sml d = true → isDat d = true ∧ (toPy d).leavesShort 42 = true ∧ (toPy d).showable = true ∧ (toPy d).weight ≤ wtD d
  | .non, _ => ⟨rfl, rfl, rfl, Nat.le_refl _⟩
  | .bl b, _ => by
    refine ⟨rfl, ?_, ?_, ?_⟩
    · simp [toPy, PyData.leavesShort]
    · simp [toPy, PyData.showable]
    · simp [toPy, PyData.weight, wtD]
  | .int i, h => by
    have h' : i.natAbs < 10 ^ 40 := by simpa [sml] using h
    have hl := log_sml h'
    refine ⟨rfl, ?_, ?_, ?_⟩
    · simp only [toPy, PyData.leavesShort, decide_eq_true_eq]
      exact num_len h'
    · simp only [toPy, PyData.showable, decide_eq_true_eq]
      omega
    · simp only [toPy, PyData.weight, wtD]
      split <;> omega
  | .str x, h => by
    have h' : PyData.strOk x = true := by simpa [sml] using h
    refine ⟨by simp only [isDat]; exact h', ?_, ?_, ?_⟩
    · simp only [toPy, PyData.leavesShort, List.all_eq_true, decide_eq_true_eq]
      intro c hc
      unfold PyData.strOk at h'
      rw [Array.all_eq_true'] at h'
      have := h' c (by simpa using hc)
      simp at this
      omega
    · simp [toPy, PyData.showable]
    · simp only [toPy, PyData.weight, wtD]
      exact Nat.le_refl _
  | .lst xs, h => by
    obtain ⟨h1, h2, h3, h4⟩ := smls_dat xs (by simpa [sml] using h)
    refine ⟨by simp only [isDat]; exact h1, ?_, ?_, ?_⟩
    · simp only [toPy, PyData.leavesShort]; exact h2
    · simp only [toPy, PyData.showable]; exact h3
    · simp only [toPy, PyData.weight, wtD]; exact h4
  | .tup xs, h => by
    obtain ⟨h1, h2, h3, h4⟩ := smls_dat xs (by simpa [sml] using h)
    refine ⟨by simp only [isDat]; exact h1, ?_, ?_, ?_⟩
    · simp only [toPy, PyData.leavesShort]; exact h2
    · simp only [toPy, PyData.showable]; exact h3
    · simp only [toPy, PyData.weight, wtD]; exact h4
  | .dct _ _, h => by simp [sml] at h
  | .obj _ _ _, h => by simp [sml] at h
  | .hnd _, h => by simp [sml] at h
  | .ty _, h => by simp [sml] at h
  | .glo _, h => by simp [sml] at h
  | .exc _ _, h => by simp [sml] at h
  | .scr _, h => by simp [sml] at h
theorem smls_dat : ∀ ds : List D, smls ds = true → isDats ds = true ∧ PyData.leavesShortAll 42 (toPys ds) = true ∧ PyData.showableAll (toPys ds) = true ∧ PyData.weightAll (toPys ds) ≤ wtDs ds
  | [], _ => ⟨rfl, rfl, rfl, Nat.le_refl _⟩
  | d :: ds, h => by
    simp only [smls, Bool.and_eq_true] at h
    obtain ⟨a1, a2, a3, a4⟩ := sml_dat d h.1
    obtain ⟨b1, b2, b3, b4⟩ := smls_dat ds h.2
    refine ⟨?_, ?_, ?_, ?_⟩
    · simp only [isDats, a1, b1, Bool.and_self]
    · simp only [toPys, PyData.leavesShortAll, a2, b2, Bool.and_self]
    · simp only [toPys, PyData.showableAll, a3, b3, Bool.and_self]
    · simp only [toPys, PyData.weightAll, wtDs]; omega
end
theorem repr_ok {d : D} {m : Mem} (h : sml d = true) (hd : dep d ≤ 64) (hw : wtD d ≤ 380000) : reprD [d] m = .ok (.str (toPy d).shown) m := by
  obtain ⟨h1, h2, h3, h4⟩ := sml_dat d h
  have h5 := PyData.shown_le 42 (by decide) _ h2
  have : (toPy d).shown.length ≤ sizeLine := by
    rw [sizeLine_eq]
    omega
  have hok : datOk d = true := by simp [datOk, h1, hd]
  simp only [reprD, if_pos (show datOk d = true ∧ (toPy d).showable = true ∧ (toPy d).shown.length ≤ sizeLine from ⟨hok, h3, this⟩)]
def sg (s : Bool) : Str := if s then ">" else "<"
def sd (s : Bool) : Str := if s then "right" else "left"
theorem sg_eqL {s : Bool} : (sg s = ("<" : Str)) = (s = false) := by cases s <;> simp [sg, lit_iff]
theorem sg_eqR {s : Bool} : (sg s = (">" : Str)) = (s = true) := by cases s <;> simp [sg, lit_iff]
theorem sd_eqL {s : Bool} : (sd s = ("left" : Str)) = (s = false) := by cases s <;> simp [sd, lit_iff]
theorem sd_eqR {s : Bool} : (sd s = ("right" : Str)) = (s = true) := by cases s <;> simp [sd, lit_iff]
theorem sg_sg {s t : Bool} : (sg s = sg t) = (s = t) := by cases s <;> cases t <;> simp [sg, lit_iff]
theorem sd_sd {s t : Bool} : (sd s = sd t) = (s = t) := by cases s <;> cases t <;> simp [sd, lit_iff]
inductive Row where
  | on (p : Int) (s : Bool) | gone (e : Bool) (t : Int)
def Row.d : Row → D
  | .on p s => .tup [.int p, .str (sg s)]
  | .gone e t => .tup [.str (sd e), .int t]
end MT
namespace MT
open PySem L2 TL
def optD : Option Int → D
  | none => .non
  | some e => .int e
def EndK.wl : EndK → Option Int
  | .wall p => some p
  | _ => none
def EndK.of : EndK → Option Int
  | .off p => some p
  | _ => none
theorem optD_n : optD none = .non := rfl
theorem optD_s {e : Int} : optD (some e) = .int e := rfl
theorem at_free : EndK.free.at = none := rfl
theorem at_off {e : Int} : (EndK.off e).at = some e := rfl
theorem at_wall {e : Int} : (EndK.wall e).at = some e := rfl
theorem wl_free : EndK.free.wl = none := rfl
theorem wl_off {e : Int} : (EndK.off e).wl = none := rfl
theorem wl_wall {e : Int} : (EndK.wall e).wl = some e := rfl
theorem of_free : EndK.free.of = none := rfl
theorem of_off {e : Int} : (EndK.off e).of = some e := rfl
theorem of_wall {e : Int} : (EndK.wall e).of = none := rfl
theorem d_free : EndK.free.d = .tup [.str "free"] := rfl
theorem d_off {e : Int} : (EndK.off e).d = .tup [.str "off", .int e] := rfl
theorem d_wall {e : Int} : (EndK.wall e).d = .tup [.str "wall", .int e] := rfl
section
variable {α : Type} {r : En} {m : Mem} {X : XP} {tg : D → En → Option En} {ts : En → Mem → Out Bool} {el : En → Mem → Out D} {QL : QP (List D)}
theorem wp_compF (zs : List α) (e f : α → D) (P : α → Bool) (h : ∀ z ∈ zs, sm (tg (e z) r) (CT ts el (P z) (f z)) m) (hq : QL ((zs.filter P).map f) m) : wp (compL tg ts el r (zs.map e) m []) QL X := by
  with_unfolding_all
    have key : ∀ (zs : List α) (acc : List D), (∀ z ∈ zs, sm (tg (e z) r) (CT ts el (P z) (f z)) m) → QL (acc ++ (zs.filter P).map f) m → wp (compL tg ts el r (zs.map e) m acc) QL X := by
      intro zs
      induction zs with
      | nil =>
        intro acc _ hq
        rw [List.map_nil, wp_compN]
        simpa using hq
      | cons d zs ih =>
        intro acc h hq
        rw [List.map_cons, wp_compC]
        have h1 := h d (by simp)
        cases q : tg (e d) r with
        | none => rw [q] at h1; exact h1
        | some r1 =>
          rw [q] at h1
          obtain ⟨h2, h3⟩ : CT ts el (P d) (f d) r1 m := h1
          show wp (ts r1 m) _ _ .mk
          refine wp_mono (T := Bool) h2 fun b m1 hb => ?_
          obtain ⟨rfl, rfl⟩ := hb
          refine br_bl (fun e => ?_) fun e => ?_
          · refine wp_mono (h3 e) fun x m2 hx => ?_
            obtain ⟨rfl, rfl⟩ := hx
            apply ih
            · exact fun d' hd => h d' (List.mem_cons_of_mem _ hd)
            · simpa [List.filter_cons, e] using hq
          · apply ih
            · exact fun d' hd => h d' (List.mem_cons_of_mem _ hd)
            · simpa [List.filter_cons, e] using hq
    exact key zs [] h (by simpa using hq)
theorem wp_compZ (zs : List α) (e f : α → D) (h : ∀ z ∈ zs, sm (tg (e z) r) (CK el (f z)) m) (hq : QL (zs.map f) m) : wp (compL tg kT el r (zs.map e) m []) QL X := by
  with_unfolding_all
    refine wp_compF zs e f (fun _ => true) (fun d hd => ?_) ?_
    · have h1 := h d hd
      cases q : tg (e d) r with
      | none => rw [q] at h1; exact h1
      | some r1 =>
        rw [q] at h1
        exact ⟨⟨rfl, rfl⟩, fun _ => h1⟩
    · rw [List.filter_eq_self.mpr fun _ _ => rfl]
      exact hq
end
theorem w_eqIS {a : Int} {c : Str} {m : Mem} : eqD (.int a) (.str c) m = .ok (.bl false) m := rfl
theorem w_eqSI {a : Int} {c : Str} {m : Mem} : eqD (.str c) (.int a) m = .ok (.bl false) m := rfl
theorem sortD_length {ds : List D} : (sortD ds).length = ds.length := (sortD_perm ds).length_eq
def startS (ss : List Bool) : Str := ⟨(ss.map fun s => if s then 62 else 60).toArray⟩
theorem start_len {ss : List Bool} : (startS ss).length = ss.length := by
  show (startS ss).cps.size = _
  simp [startS]
def Row.tm : Row → Int
  | .gone _ t => t
  | .on p _ => p
theorem sg_eqL' {s : Bool} : (("<" : Str) = sg s) = (s = false) := by rw [← sg_eqL]; exact propext ⟨Eq.symm, Eq.symm⟩
theorem sg_eqR' {s : Bool} : ((">" : Str) = sg s) = (s = true) := by rw [← sg_eqR]; exact propext ⟨Eq.symm, Eq.symm⟩
theorem sd_eqL' {s : Bool} : (("left" : Str) = sd s) = (s = false) := by rw [← sd_eqL]; exact propext ⟨Eq.symm, Eq.symm⟩
theorem sd_eqR' {s : Bool} : (("right" : Str) = sd s) = (s = true) := by rw [← sd_eqR]; exact propext ⟨Eq.symm, Eq.symm⟩
theorem w_isiS {z : Str} {m : Mem} : isiD [.str z, .ty "str"] m = .ok (.bl true) m := by simp [isiD, tyN, tysT, subT]
theorem w_isiI {z : Int} {m : Mem} : isiD [.int z, .ty "int"] m = .ok (.bl true) m := by simp [isiD, tyN, tysT, subT]
theorem w_isiIB {z : Int} {m : Mem} : isiD [.int z, .ty "bool"] m = .ok (.bl false) m := by simp [isiD, tyN, tysT, subT]
theorem w_isiT {z : List D} {m : Mem} : isiD [.tup z, .ty "tuple"] m = .ok (.bl true) m := by simp [isiD, tyN, tysT, subT]
theorem lenO_way {L R : EndK} {ps : List Int} {m : Mem} {fm : List D → Mem → Out D} {Q : QP D} {X : XP} : wp (lenO "Way" fm [wayD L R ps] m) Q X = wp (fm [wayD L R ps] m) (KLen Q) X0 := wp_lenO
theorem prop_way {L R : EndK} {ps : List Int} {m : Mem} {fm : List D → Mem → Out D} {Q : QP D} {X : XP} : wp (propD "Way" fm (wayD L R ps) m) Q X = wp (fm [wayD L R ps] m) Q X0 := wp_prop
theorem powB {k : Int} (h : 0 ≤ k ∧ k ≤ 1000) : (Builtin.Int.intBits 10 : Int) * k ≤ 2 ^ 27 := by
  have e : (Builtin.Int.intBits 10 : Int) = 4 := by decide
  rw [e]
  omega
theorem w_pow6 {m : Mem} : powD (.int 10) (.int 6) m = .ok (.int 1000000) m := e_pow (by decide) (powB (by decide))
theorem w_pow8 {m : Mem} : powD (.int 10) (.int 8) m = .ok (.int 100000000) m := e_pow (by decide) (powB (by decide))
theorem w_pow10 {m : Mem} : powD (.int 10) (.int 10) m = .ok (.int 10000000000) m := e_pow (by decide) (powB (by decide))
theorem w_pow12 {m : Mem} : powD (.int 10) (.int 12) m = .ok (.int 1000000000000) m := e_pow (by decide) (powB (by decide))
theorem w_pow13 {m : Mem} : powD (.int 10) (.int 13) m = .ok (.int 10000000000000) m := e_pow (by decide) (powB (by decide))
theorem all_map {α : Type} {zs : List α} {m : Mem} : allD [.lst (zs.map fun _ => .bl true)] m = .ok (.bl true) m := e_allT fun x hx => by
  obtain ⟨_, _, rfl⟩ := List.mem_map.mp hx
  rfl
theorem tl_inj {a b : Str} (h : tl a = tl b) : a = b := by
  cases a; cases b
  have : (_ : Array Nat).toList = (_ : Array Nat).toList := h
  congr 1
  exact Array.toList_inj.mp this
end MT
set_option Elab.async false
set_option linter.all false
set_option maxRecDepth 100000
namespace MT
open PySem L2
def rlt : Row → Row → Prop
  | .gone false t, .gone false t' => t < t'
  | .gone false _, _ => True
  | .on p s, .on q s' => p < q ∨ (p = q ∧ s = false ∧ s' = true)
  | .on _ _, .gone true _ => True
  | .gone true t, .gone true t' => t' < t
  | _, _ => False
def chain {α : Type} (R : α → α → Prop) : List α → Prop
  | a :: b :: l => R a b ∧ chain R (b :: l)
  | _ => True
structure okRow (L R : EndK) (t : Int) (p : Int) (s : Bool) : Prop where
  par : (p - t) % 2 = 0
  lof : ∀ e, L.of = some e → e < p
  lwl : ∀ e, L.wl = some e → e ≤ p ∧ (p = e → s = true)
  rof : ∀ e, R.of = some e → p < e
  rwl : ∀ e, R.wl = some e → p ≤ e ∧ (p = e → s = false)
def okR (L R : EndK) (t : Int) : Row → Prop
  | .on p s => okRow L R t p s
  | .gone _ u => u ≤ t
structure Apart (L R : EndK) : Prop where
  lt : ∀ a b, L.at = some a → R.at = some b → a + 2 ≤ b
structure RowsOk (L R : EndK) (t : Int) (l : List Row) : Prop where
  ch : chain rlt l
  ok : ∀ r ∈ l, okR L R t r
end MT
set_option Elab.async false
set_option linter.all false
set_option maxRecDepth 100000
namespace MT
open PySem L2
inductive Say where
  | by (k t x : Int) | past (k t x : Int) | at (k t x : Int) | heads (k t x : Int) (s : Bool) | met (k t x : Int)
  | off (k : Int) (e : Bool) (t : Int) | on (k t : Int) | out (i j lo hi : Int) | often (k lo : Int)
def Say.d : Say → D
  | .by k t x => .tup [.str "by", .int k, .int t, .int x]
  | .past k t x => .tup [.str "past", .int k, .int t, .int x]
  | .at k t x => .tup [.str "at", .int k, .int t, .int x]
  | .heads k t x s => .tup [.str "heads", .int k, .int t, .int x, .str (sg s)]
  | .met k t x => .tup [.str "met", .int k, .int t, .int x]
  | .off k e t => .tup [.str "off", .int k, .str (sd e), .int t]
  | .on k t => .tup [.str "on", .int k, .int t]
  | .out i j lo hi => .tup [.str "out", .int i, .int j, .int lo, .int hi]
  | .often k lo => .tup [.str "often", .int k, .int lo]
end MT
set_option Elab.async false
set_option linter.all false
set_option maxRecDepth 100000
namespace MT
open PySem L2
theorem told_eqs : True := by
  have := @K1.eq_1
  have := @K2.eq_1
  have := @K3.eq_1
  have := @KIf.eq_1
  have := @KAnd.eq_1
  have := @KOr.eq_1
  have := @KNot.eq_1
  have := @MT.KOf.eq_1
  have := @KAndV.eq_1
  have := @KOrV.eq_1
  have := @KC2.eq_1
  have := @KC.eq_1
  have := @KApp.eq_1
  have := @MT.KT.eq_1
  have := @KL.eq_1
  have := @KL0.eq_1
  have := @KD.eq_1
  have := @KCh2.eq_1
  have := @KCh1.eq_1
  have := @KCh.eq_1
  have := @KCm.eq_1
  have := @KM.eq_1
  have := @KM1.eq_1
  have := @KRun.eq_1
  have := @KBd.eq_1
  have := @KOfS.eq_1
  have := @KAsg.eq_1
  have := @KExp.eq_1
  have := @KSif.eq_1
  have := @KOwn.eq_1
  have := @KOwnC.eq_1
  have := @KAp2.eq_1
  have := @KAp.eq_1
  have := @KExt.eq_1
  have := @KTg.eq_1
  have := @KFor.eq_1
  have := @KFr.eq_1
  have := @KOA.eq_1
  have := @KPh.eq_1
  have := @KPf.eq_1
  have := @KPe.eq_1
  have := @KPc.eq_1
  have := @KPb.eq_1
  have := @KPa.eq_1
  have := @KCt3.eq_1
  have := @KCt2.eq_1
  have := @KCt.eq_1
  have := @CT.eq_1
  have := @CK.eq_1
  have := @CI.eq_1
  trivial
end MT
set_option Elab.async false
set_option linter.all false
set_option maxRecDepth 100000
namespace MT
open PySem L2 TL
def KNewH (Q : QP D) (xs : List D) (m : Mem) : Prop := req (xs.length ≤ 16777216) (Q (.hnd m.length) (m ++ [.lst xs]))
def KPj (n : Nat) (ds : List D) (v : D) (r : En) (N : QP En) (j : Nat) (m : Mem) : Prop := fo r N (m.set n (.lst (ds.set j v)))
def KPh3 (v c : D) (r : En) (N : QP En) (k : D) (m : Mem) : Prop := match c, k with
  | .hnd n, .int k => (match m[n]? with
    | some (.lst ds) => sm (ixN ds.length k) (KPj n ds v r N) m
    | _ => False)
  | _, _ => False
def KPh2 (h : En → Mem → Out D) (v : D) (r : En) (N : QP En) (X : XP) (c : D) (m : Mem) : Prop := wp (h r m) (KPh3 v c r N) X
def KPh1 (g h : En → Mem → Out D) (r : En) (N : QP En) (X : XP) (v : D) (m : Mem) : Prop := wp (g r m) (KPh2 h v r N X) X
def KSf (i : Nat) (c f : Str) (r : En) (N : QP En) (d : D) (m : Mem) : Prop := match r[i]? with
  | some (.fz (.hnd n)) => (match m[n]? with
    | some (.ins c' ks ds) => req (c' = c ∧ ks.length < 1000) (fo r N (m.set n (.ins c (putK f d ks ds).1 (putK f d ks ds).2)))
    | _ => False)
  | _ => False
def KEnJ (Q : QP (List D)) (ds : List D) (m : Mem) : Prop := Q (enumD ds) m
section
variable {T : Type} {r : En} {m : Mem} {X : XP} {N B : QP En} {R : QP D} {i n : Nat} {xs : List D} {v c d : D}
theorem wp_newH {g : En → Mem → Out (List D)} {Q : QP D} : wp (newH g r m) Q X = wp (g r m) (KNewH Q) X := by
  with_unfolding_all
    unfold newH
    rw [wp_b1, sizeLine_eq]
    refine wp_cg fun xs m => ?_
    unfold K1 KNewH
    rw [ite_wp]
    rfl
theorem wp_enJ {g : En → Mem → Out (List D)} {Q : QP (List D)} : wp (enumJ g r m) Q X = wp (g r m) (KEnJ Q) X := by
  with_unfolding_all
    unfold enumJ
    rw [wp_b1]
    refine wp_cg fun xs m => ?_
    rfl
theorem wp_hixL {k : Int} {Q : QP D} : wp (hixD (.lst xs) (.int k) m) Q X = sm (atI xs k) Q m := wp_ixL
theorem wp_hixT {k : Int} {Q : QP D} : wp (hixD (.tup xs) (.int k) m) Q X = sm (atI xs k) Q m := wp_ixT
theorem ws_putH {f g h : En → Mem → Out D} : ws (sPutH f g h r m) N R B X = wp (f r m) (KPh1 g h r N X) X := by
  with_unfolding_all
    unfold sPutH
    rw [ws_of]
    refine wp_cg fun v m => ?_
    unfold KOfS KPh1
    dsimp only
    rw [ws_of]
    refine wp_cg fun c m => ?_
    unfold KOfS KPh2
    dsimp only
    rw [ws_of]
    refine wp_cg fun k m => ?_
    unfold KOfS KPh3
    dsimp only
    cases c <;> cases k <;> first | rfl | skip
    rename_i n k
    dsimp only
    cases e : m[n]? with
    | none => rfl
    | some mo =>
      cases mo <;> first | rfl | skip
      rename_i ds
      dsimp only
      cases ixN ds.length k <;> rfl
theorem ws_setF {f : Str} {c : Str} {h : En → Mem → Out D} : ws (sSetF i c f h r m) N R B X = wp (h r m) (KSf i c f r N) X := by
  with_unfolding_all
    unfold sSetF
    rw [ws_of]
    refine wp_cg fun d m => ?_
    unfold KOfS KSf
    dsimp only
    cases e : r[i]? with
    | none => rfl
    | some s =>
      cases s <;> first | rfl | skip
      rename_i d'
      cases d' <;> first | rfl | skip
      rename_i n
      dsimp only
      cases e2 : m[n]? with
      | none => rfl
      | some mo =>
        cases mo <;> first | rfl | skip
        dsimp only
        rw [ite_ws]
        rfl
end
mutual
def KPS : List (Nat × Itm) → En → En → QP En → XP → Mem → Prop
  | [], _, rp, N, _, m => fo rp N m
  | (i, .fz f) :: is, r, rp, N, X, m => wp (f r m) (fun d m => KPS is r (rp.set i (.fz d)) N X m) X
  | (i, .own g) :: is, r, rp, N, X, m => wp (g r m) (fun xs m => req (xs.length ≤ 16777216) (KPS is r (rp.set i (.own xs)) N X m)) X
end
def KPSf (i : Nat) (is : List (Nat × Itm)) (r rp : En) (N : QP En) (X : XP) (d : D) (m : Mem) : Prop := KPS is r (rp.set i (.fz d)) N X m
def KPSo (i : Nat) (is : List (Nat × Itm)) (r rp : En) (N : QP En) (X : XP) (xs : List D) (m : Mem) : Prop := req (xs.length ≤ 16777216) (KPS is r (rp.set i (.own xs)) N X m)
section
variable {r rp : En} {m : Mem} {X : XP} {N B : QP En} {R : QP D} {i : Nat} {is : List (Nat × Itm)}
theorem KPS_nil : KPS [] r rp N X m = fo rp N m := by with_unfolding_all exact rfl
theorem KPS_fz {f : En → Mem → Out D} : KPS ((i, .fz f) :: is) r rp N X m = wp (f r m) (KPSf i is r rp N X) X := by with_unfolding_all exact rfl
theorem KPS_own {g : En → Mem → Out (List D)} : KPS ((i, .own g) :: is) r rp N X m = wp (g r m) (KPSo i is r rp N X) X := by with_unfolding_all exact rfl
theorem parS_ws : ∀ (is : List (Nat × Itm)) (r rp : En) (m : Mem), ws (parS is r rp m) N R B X = KPS is r rp N X m
  | [], r, rp, m => by with_unfolding_all exact rfl
  | (i, .fz f) :: is, r, rp, m => by
    rw [KPS_fz]
    with_unfolding_all
      show ws (sOf (f r m) fun d m => parS is r (rp.set i (.fz d)) m) N R B X = _
      rw [ws_of]
      exact wp_cg fun d m => parS_ws is r (rp.set i (.fz d)) m
  | (i, .own g) :: is, r, rp, m => by
    rw [KPS_own]
    with_unfolding_all
      show ws (sOf (g r m) fun ds m => if ds.length ≤ sizeLine then parS is r (rp.set i (.own ds)) m else .stuck) N R B X = _
      rw [ws_of]
      refine wp_cg fun d m => ?_
      unfold KOfS KPSo
      rw [ite_ws, parS_ws is r (rp.set i (.own d)) m, sizeLine_eq]
theorem ws_parS : ws (sParS is r m) N R B X = KPS is r r N X m := parS_ws is r r m
end
theorem eqs_H : True := by
  have := @KNewH.eq_1
  have := @KPh1.eq_1
  have := @KPh2.eq_1
  have := @KPj.eq_1
  have := @KPSf.eq_1
  have := @KPSo.eq_1
  have := @KEnJ.eq_1
  trivial
def KLo (Q : QP D) (d : D) (m : Mem) : Prop := match d with
  | .lst z => Q (.lst z) m
  | _ => False
section
variable {Q1 : QP D} {X : XP} {r : En} {m : Mem} {x : D} {xs : List D}
theorem KLo_l {z : List D} : KLo Q1 (.lst z) m = Q1 (.lst z) m := by with_unfolding_all exact rfl
theorem wp_lstO {f : En → Mem → Out D} : wp (lstOnly f r m) Q1 X = wp (f r m) (KLo Q1) X := by
  with_unfolding_all
    unfold lstOnly
    rw [wp_b1]
    refine wp_cg fun d m => ?_
    cases d <;> rfl
theorem wp_inPT : wp (inP false x (.tup xs) m) Q1 X = req ((datS x && xs.all datS) = true) (Q1 (.bl (xs.any fun y => eqB y x)) m) := by
  with_unfolding_all
    have e : inP false x (.tup xs) m = if datS x && xs.all datS then .ok (.bl (xs.any fun y => eqB y x)) m else .stuck := rfl
    rw [e, ite_wp]
    rfl
theorem wp_inPL : wp (inP false x (.lst xs) m) Q1 X = req ((datS x && xs.all datS) = true) (Q1 (.bl (xs.any fun y => eqB y x)) m) := by
  with_unfolding_all
    have e : inP false x (.lst xs) m = if datS x && xs.all datS then .ok (.bl (xs.any fun y => eqB y x)) m else .stuck := rfl
    rw [e, ite_wp]
    rfl
theorem wp_cnt1 : wp (cntP1 (.lst xs) [x] m) Q1 X = req ((datS x && xs.all datS) = true) (Q1 (.int ((xs.countP fun y => eqB y x : Nat) : Int)) m) := by
  with_unfolding_all
    have e : cntP1 (.lst xs) [x] m = if datS x && xs.all datS then .ok (.int ((xs.countP fun y => eqB y x : Nat) : Int)) m else .stuck := rfl
    rw [e, ite_wp]
    rfl
end
end MT
set_option Elab.async false
set_option linter.all false
set_option maxRecDepth 100000
namespace MT
open PySem L2
def KRs (c : Str) (X : XP) (ds : List D) (m : Mem) : Prop := match ds with
  | [d] => X c d m
  | _ => False
theorem KRs_1 {c : Str} {X : XP} {d : D} {m : Mem} : KRs c X [d] m = X c d m := rfl
theorem ws_raise {c : Str} {g : En → Mem → Out (List D)} {r : En} {m : Mem} {N : QP En} {R : QP D} {B : QP En} {X : XP} : ws (sRaise c g r m) N R B X = wp (g r m) (KRs c X) X := by
  unfold sRaise
  rw [ws_of]
  with_unfolding_all
    cases g r m with
    | stuck => rfl
    | exc c d m => rfl
    | ok ds m1 => rcases ds with _ | ⟨d, _ | ⟨d2, ds⟩⟩ <;> rfl
def KTo (Q : QP D) (d : D) (m : Mem) : Prop := Q (.tup [.non, d]) m
def XTo (errs : List Str) (Q : QP D) : XP := fun c d m => if c ∈ errs then Q (.tup [.exc c d, .non]) m else False
theorem xto {errs : List Str} {Q : QP D} {c : Str} {d : D} {m : Mem} (h : c ∈ errs) : XTo errs Q c d m = Q (.tup [.exc c d, .non]) m := if_pos h
theorem wp_told {n : Nat} {x : Str} {errs : List Str} {f : En → Mem → Out D} {r : En} {m : Mem} {Q : QP D} {X : XP} (h : m[n]? = some (.tab x)) : wp (toldE n x errs f r m) Q X = wp (f r m) (KTo Q) (XTo errs Q) := by
  have e : toldE n x errs f r m = toldR errs (f r m) := by
    unfold toldE
    rw [h]
    exact if_pos rfl
  rw [e]
  cases f r m with
  | stuck => with_unfolding_all rfl
  | ok d m1 => with_unfolding_all rfl
  | exc c d m1 =>
    by_cases hc : c ∈ errs
    · have e2 : toldR errs (.exc c d m1) = .ok (.tup [.exc c d, .non]) m1 := if_pos hc
      rw [e2, wp_ok, wp_exc, xto hc]
    · have e2 : toldR errs (.exc c d m1) = .stuck := if_neg hc
      have e3 : XTo errs Q c d m1 = False := if_neg hc
      rw [e2, wp_exc, e3]
      with_unfolding_all rfl
theorem w_isX {C c : Str} {errs : List Str} {d : D} {m : Mem} (h : c ∈ errs) : isiX C errs [.exc c d, .glo C] m = .ok (.bl (decide (c = C) || decide (C = "TurnError"))) m := by
  show (if C = C ∧ c ∈ errs then _ else _) = _
  rw [if_pos ⟨rfl, h⟩]
theorem w_isXn {C : Str} {errs : List Str} {m : Mem} : isiX C errs [.non, .glo C] m = .ok (.bl false) m := by
  show (if C = C then _ else _) = _
  rw [if_pos rfl]
theorem w_xv {c : Str} {errs : List Str} {d : D} {m : Mem} (h : c ∈ errs) : xvD errs (.exc c d) m = .ok d m := if_pos h
theorem w_isXX {c : Str} {d : D} {m : Mem} : isD (.exc c d) .non m = .ok (.bl false) m := rfl
theorem w_isnXX {c : Str} {d : D} {m : Mem} : isntD (.exc c d) .non m = .ok (.bl true) m := rfl
theorem told_eqs2 : True := by
  have := @KTo.eq_1
  trivial
end MT
set_option Elab.async false
set_option linter.all false
set_option maxRecDepth 100000
namespace MT
open PySem PySem.Spec PyProof.Rows L2
def repr0D : List D → Mem → Out D
  | [.dct [] []], m => .ok (.str (PyData.shown (.dict []))) m
  | xs, m => reprD xs m
def rRepr0 (K : PySem.W.Frag) : List V → Hp → VK → Prop := fun xs H Q => rRepr K xs H Q ∨ ∃ a, xs = [.ref a] ∧ H a = some (.dK []) ∧ Q (.str (PyData.shown (.dict []))) H
section
variable {X : Cx} {K : PySem.W.Frag}
theorem cr_repr0 (gd : X.A.guards = some []) (hu : X.A.units + 66 < cLine) : CallR X (.builtin "repr") (rRepr0 X.K) := by
  rintro pins s σ H xs us Q I r (h | ⟨a, rfl, hH, q⟩)
  · exact cr_repr gd hu pins s σ H xs us Q I r h
  · obtain ⟨u, rfl, ru⟩ := vals1 r
    cases ru
    have ob := I.hok a _ hH
    obtain ⟨z, y, vs, kv, hd⟩ := ob
    obtain ⟨o, es, ep, ho, ex, he, ks, pr, nd⟩ := hd
    have e0 : vs = [] := by cases kv; rfl
    subst e0
    have e1 : es.toList = [] := by
      have := pr.length
      simpa using this
    have rd : Reads s.heap (.ref a) (.dict []) [a] := .dict (as := []) (bs := []) ho ex.1 he (by rw [e1]; exact .nil) (by rw [e1]; exact .nil)
    refine repr_of_reads' rd rfl (fun _ h => ?_) gd (by show X.A.units + (0 + 1 + 1) < cLine; omega) (fun _ _ e => e) (fun h' t tk hk => ⟨.str _, H, I.kept (t' := tk) hk, ⟨_, rfl⟩, q⟩) (by decide +kernel)
    rw [List.mem_singleton] at h
    rw [h] at y
    simp at y
theorem cp_repr0 : CpA K (rRepr0 K) repr0D := by
  intro E A F H m xs vs Q o r p
  unfold repr0D at p
  split at p
  · obtain ⟨v, rfl, r1⟩ := r.one
    have key : ∃ a, v = .ref a ∧ H a = some (.dK []) := by
      rcases r1 with x | ⟨a, vs, ds, e1, e2, e3, e4, e5, e6⟩ | ⟨a, ks, vs, ds, e1, e2, e3, e4, e5, e6, e7, e8⟩
      · simp only [Rep] at x
        obtain ⟨a, vs, rfl, h, _⟩ := x
        exact ⟨a, rfl, o.sub _ _ h⟩
      · cases e2
      · cases e2
        exact ⟨a, e1, e3⟩
    obtain ⟨a, rfl, h⟩ := key
    exact .inr ⟨a, rfl, h, p.ret o rep_str⟩
  · exact .inl (cp_repr E A F H m _ vs Q o r p)
end
end MT
set_option Elab.async false
set_option linter.all false
set_option maxRecDepth 100000
namespace MT
open PySem PySem.Spec PyProof.Rows L2
section
variable {X : Cx} {E : XK} {o e z : Expr} {apos cpos : Pos} {f g h : En → Mem → Out D}
end
section
variable {r : En} {m : Mem} {Q : QP D} {X : XP} {f : En → Mem → Out D} {ks : List Key} {ds : List D} {s : Str} {z : D}
end
section
variable {X : Cx} {E : XK} {A0 : List Addr} {F0 H0 : Hp} {e : Expr} {es : List Expr} {g : En → Mem → Out (List D)} {i : Nat} {x : Str} {pos pos' p2 p3 : Pos}
end
section
variable {r : En} {m : Mem} {N B : QP En} {R : QP D} {X : XP} {i : Nat} {g : En → Mem → Out (List D)} {ks : List Key} {ds : List D}
end
section
variable {r : En} {m : Mem} {N B : QP En} {R : QP D} {X : XP} {i : Nat} {ds : List D} {v : D}
end
end MT
section
set_option Elab.async false
set_option linter.all false
set_option maxRecDepth 100000
set_option maxHeartbeats 4000000
namespace MT
open PySem PySem.Spec PyProof.Rows L2 CwR
def replD (y z : Str) : D → Mem → Out D := fun d m => match d with
  | .str x => if x.length + (x.length + 1) * z.length ≤ 16777216 then .ok (.str (Txt.replace x y z)) m else .stuck
  | _ => .stuck
section
variable {X : Cx} {E : XK} {K : PySem.W.Frag} {A0 : List Addr} {F0 H0 : Hp} {e a b : Expr} {es : List Expr} {f h : En → Mem → Out D} {g : En → Mem → Out (List D)} {pos apos p : Pos} {te te' : TE} {ta ta' : TA} {st : Stmt} {t t' : TS} {y z : Str} {j k : Nat} {c0 c1 : Pos}
theorem PET.imp (q : PET X e te) (i : ∀ s H Q, te' s H Q → te s H Q) : PET X e te' := fun pins s σ H Q h0 I w => q pins s σ H Q h0 I (i _ _ _ w)
theorem PAT.imp (q : PAT X es ta) (i : ∀ s H Q, ta' s H Q → ta s H Q) : PAT X es ta' := fun pos pins s σ H Q h0 I w => q pos pins s σ H Q h0 I (i _ _ _ w)
theorem PST.imp (q : PST X st t) (i : ∀ D s H, t' D s H → t D s H) : PST X st t' := fun pins s σ H D h0 I w => q pins s σ H D h0 I (i _ _ _ w)
theorem wkT {f : En → Mem → Out D} (h : PET X e (LE K E f)) : PET X e (LW K E f) := PET.imp h fun s H Q ⟨H0, A, F, r, m, o, sl, p⟩ => ⟨H0, A, F, r, m, o, sl, by
  cases c : f r m with
  | ok d m' => rw [c] at p; exact fun v A' F' H' g k r => p v A' F' H' g k (.inl r)
  | exc _ _ _ => rw [c] at p; exact p
  | stuck => rw [c] at p; exact p⟩
theorem det_of (q : PE X e te) : PET X e te := PET.of q
theorem det_repl (ho : PE X e (LE K E f)) (hyz : (y == z) = false := by decide)
    (hst : starEach [.Constant (.str y) j c0, .Constant (.str z) k c1] X.env = [(false, eval (.Constant (.str y) j c0) X.env), (false, eval (.Constant (.str z) k c1) X.env)] := by rfl)
    (hbase : attributeBase e "replace" X.env (eval e X.env) = eval e X.env := by rfl) (hline : (apos.endLine == pos.line) = true := by rfl) :
    PET X (.Call (.Attribute e "replace" apos) [.Constant (.str y) j c0, .Constant (.str z) k c1] [] pos) (LE K E (bind1 f (replD y z))) :=
  PET.imp (pet_replC ho hyz hst hbase hline) fun s H Q q => LX.un q fun H0 A F r m d v H1 o sl r1 p => by
    unfold replD at p
    split at p
    · rename_i x
      split at p
      · rename_i c
        refine ⟨x, ?_, c, p.ret o rep_str⟩
        have r1' : Rep K A F (.str x) v := r1
        simpa only [Rep] using r1'
      · exact p.elim
    · exact p.elim
theorem dat_nil : PAT X [] (LA K E aNil) := PAT.imp pat_nil fun s H Q ⟨H0, A, F, ρ, m, o, sl, p⟩ => p.ret o Reps.nil
theorem dat_cons (ha : PET X e (LE K E f)) (hr : PAT X es (LA K E g)) (hs : starEach (e :: es) X.env = (false, eval e X.env) :: starEach es X.env := by rfl) : PAT X (e :: es) (LA K E (aCons f g)) :=
  PAT.imp (pat_cons ha hr hs) fun s H Q q => LX.bin q monoE fun H0 A F r m d ds v vs H1 o sl r1 r2 p => p.ret o (Reps.cons r1 r2)
theorem det_lst (q : PAT X es (LA K E g)) : PET X (.List es pos) (LE K E (mkL g)) := PET.imp (pet_lst q) fun s H Q q => LX.un q fun H0 A F r m ds vs H1 o sl r1 p => by
  by_cases c : ds.length ≤ sizeLine
  · rw [if_pos c] at p
    exact ⟨by rw [← r1.length]; exact c, fun q hq => p.newL o r1 hq⟩
  · rw [if_neg c] at p; exact p.elim
theorem det_op {op : Operator} {rr : R2} {g : D → D → Mem → Out D} (ho : OpR X (binaryOp op) rr) (c : Cp2 X.K rr g) (ha : PET X a (LW X.K E f)) (hb : PET X b (LW X.K E h)) : PET X (.BinOp a op b pos) (LE X.K E (bind2 f h g)) :=
  PET.imp (pet_op ho ha hb) fun s H Q q => LX.bin q monoW fun H0 A F r m d d' v v' H1 o sl r1 r2 p => c E A F H1 m d d' v v' Q o r1 r2 p
theorem dst_ret (he : PET X e (LE K E h)) : PST X (.Return (some e) pos) (LS K E A0 F0 H0 (sRet h)) := PST.imp (pst_ret he) fun D s H q => LS.ex q fun A F r m d v H1 g o sl r1 p => p v A F H1 g o r1
theorem pssT_one (h1 : PST X st t) : PSsT X [st] t := by
  intro pins s σ H D h0 I h
  refine wpAny_execs_cons (thn (h1 pins s σ H D h0 I h) fun f s1 q => ?_)
  cases f with
  | next => exact wpAny_execs_nil q
  | ret v => exact q
  | brk => exact q
  | cont => exact q
theorem ptk_cmp {op : CmpOp} {rr : R2} {i : Int} (ho : OpR X (compareOp op) rr) (ha : PE X a te) (hm : behindInMarks op (.Constant (.int i) j c0) = false) (pins : List (Addr × Obj)) (s : Shared) (σ : L2.St) (H : Hp) (Q : Bool → Hp → Prop) (I : Inv X pins σ H s) (w : tTest (tOp rr te (tC (.int i))) σ H Q) :
    wpAny (model X.prog X.w) X.A (isTrue (.Compare a [op] [.Constant (.int i) j c0] pos) X.env (eval (.Compare a [op] [.Constant (.int i) j c0] pos) X.env)) (fun d s1 => 1 ≤ s1.toks ∧ TP X pins σ Q d s1) X.xe s := by
  refine wpAny_isTrue_Compare1 (thn (ha.run pins s σ H _ I w) fun v s1 ⟨x, H1, I1, r1, q1⟩ => wpAny_Constant_int ?_) hm
  have I2 : Inv X pins σ H1 { s1 with toks := s1.toks + 1 } := I1.tok _
  refine wpAny_mono (PySem.wpAny_toks (ho pins { s1 with toks := s1.toks + 1 } σ H1 x (.int i) v _ _ I2 r1 ⟨_, rfl⟩ q1)) (fun c s3 qq => ?_) fun _ _ z => z.2
  obtain ⟨hk, z, H3, I3, r3, k, e, q3⟩ := qq
  subst e
  cases r3
  exact wpAny_truthy_bool ⟨Nat.le_trans (Nat.le_add_left 1 s1.toks) hk, H3, I3, q3⟩
theorem ds_ifT {op : CmpOp} {rr : R2} {i : Int} {g : D → D → Mem → Out D} {fs : En → Mem → SOut} (ho : OpR X (compareOp op) rr) (c : Cp2 X.K rr g) (ha : PE X a (LW X.K E f)) (hm : behindInMarks op (.Constant (.int i) j c0) = false) (hb : PST X st (LS X.K E A0 F0 H0 fs)) :
    PS X (.If (.Compare a [op] [.Constant (.int i) j c0] p) [st] [] pos) (LS X.K E A0 F0 H0 (sIf (toB (bind2 f (kC (.int i)) g)) fs sNil)) := by
  have hn : PSs X [] (LS X.K E A0 F0 H0 sNil) := ds_nil
  refine PS.imp (t := tIfS (tTest (tOp rr (LW X.K E f) (tC (.int i)))) (LS X.K E A0 F0 H0 fs) (LS X.K E A0 F0 H0 sNil)) ⟨fun pins s σ H D I w => ?_⟩ fun D s H q => ?_
  · refine wpAny_If (thn (ptk_cmp ho ha hm pins s σ H _ I w) fun d s1 ⟨hk, H1, I1, q1⟩ => ?_)
    cases d with
    | true => exact pssT_one hb pins s1 σ H1 D hk I1 q1
    | false => exact hn.run pins s1 σ H1 D I1 q1
  · have q0 : LT X.K E (toB (bind2 f (kC (.int i)) g)) s H fun k H' => if k = true then LS X.K E A0 F0 H0 fs D s H' else LS X.K E A0 F0 H0 sNil D s H' :=
      LS.ex q fun A F r m d v H1 gr o sl r1 p => by
        have e' : d = v := r1
        subst e'
        cases d with
        | true => exact iteT ⟨A, F, r, m, gr, o, sl, p⟩
        | false => exact iteF ⟨A, F, r, m, gr, o, sl, p⟩
    have q2 : LE X.K E (bind2 f (kC (.int i)) g) s H fun x H' => ∃ k, x = .bl k ∧ (if k = true then LS X.K E A0 F0 H0 fs D s H' else LS X.K E A0 F0 H0 sNil D s H') := LE_bl q0
    exact LX.un (f := f) (k := fun d m => g d (.int i) m) q2 fun H0 A F r m d v H1 o sl r1 p => c E A F H1 m d (.int i) v (.int i) _ o r1 (.inl (by simp only [Rep])) p
end
end MT
end
set_option Elab.async false
set_option linter.all false
set_option maxRecDepth 100000
open PySem MT L2 TL in
local macro_rules
  | `(tactic| simp_arith []) => `(tactic| (simp -implicitDefEqProofs (disch := (first | assumption | (simp only [List.length_cons,List.length_nil,lit_iff,inr_iff,sg_eqL,sg_eqR,sd_eqL,sd_eqR,sg_sg,sd_sd,Bool.false_eq_true,reduceCtorEq,String.reduceEq,not_false_eq_true] ; done) | omega | (simp only [List.length_map,List.length_cons,List.length_nil,List.length_append,List.length_reverse,List.length_zip,sortD_length,start_len,rangeD_length,List.length_range,List.length_set]; omega))) only [↓br_t,↓br_f,↓br_n,↓br_dT,↓br_dF,↓req_t,↓slF_fz,↓slW_fz,↓slW_own,↓slW_ownD,↓slO_own,↓slK_own,↓sm_s,↓tgo_N,↓K1.eq_1,↓K2.eq_1,↓K3.eq_1,↓KB_b,↓KIf.eq_1,↓KAnd.eq_1,↓KOr.eq_1,↓KNot.eq_1,↓MT.KOf.eq_1,↓KAndV.eq_1,↓KOrV.eq_1,↓KC2.eq_1,↓KC.eq_1,↓KApp.eq_1,↓KStar_t,↓KStar_l,↓MT.KT.eq_1,↓KL.eq_1,↓KL0.eq_1,↓KD.eq_1,↓KCh2.eq_1,↓KCh1.eq_1,↓KCh.eq_1,↓KO_i,↓KS_s,↓KSeq_l,↓KSeq_t,↓KSeq_s,↓KR1_i,↓KR2_i,↓KZ_ll,↓KZ_lt,↓KZ_tl,↓KZ_tt,↓KZ_ts,↓KZ_ls,↓KE_l,↓KE_t,↓KE_s,↓KCm.eq_1,↓KKv_p,↓KM.eq_1,↓KM1.eq_1,↓KLen_i,↓KRun.eq_1,↓KBd.eq_1,↓KOfS.eq_1,↓KAsg.eq_1,↓KExp.eq_1,↓KSif.eq_1,↓KOwn.eq_1,↓KOwnC.eq_1,↓KAp2.eq_1,↓KAp.eq_1,↓KEx2_l,↓KExt.eq_1,↓KTg.eq_1,↓KPar_l,↓KPar3_l,↓KFor.eq_1,↓KFr.eq_1,↓KOA.eq_1,↓KOA2_l,↓KPh.eq_1,↓KPg_i,↓KPf.eq_1,↓KPe.eq_1,↓KPd_i,↓KPc.eq_1,↓KPb.eq_1,↓KPa.eq_1,↓ws_ownAdd,↓ws_put2,↓KCt3.eq_1,↓KCt2.eq_1,↓KCt.eq_1,↓CT.eq_1,↓CK.eq_1,↓CI.eq_1,↓wp_ok,↓wp_exc,↓wp_kC,↓wp_vF,↓wp_vW,↓wp_bind,↓wp_b1,↓wp_b2,↓wp_b3,↓wp_toB,↓wp_ifE,↓wp_andB,↓wp_orB,↓wp_notB,↓wp_ofB,↓wp_andV,↓wp_orV,↓wp_notV,↓wp_aNil,↓wp_aCons,↓wp_aStar,↓wp_mkT,↓wp_mkL,↓wp_mkLI,↓wp_evN,↓wp_evC,↓wp_mkD,↓wp_chn,↓wp_oN,↓wp_oS,↓wp_strO,↓wp_ofL,↓wp_seqI,↓wp_rng1,↓wp_rng2,↓wp_zip,↓wp_enum,↓wp_comp,↓wp_kT,↓wp_ixL,↓wp_ixT,↓wp_dget,↓wp_inT,↓wp_inL,↓wp_ninT,↓wp_ninL,↓wp_fld,↓wp_prop,↓wp_meth,↓wp_lenO,↓wp_run,↓lenO_way,↓prop_way,↓ws_n,↓ws_r,↓ws_x,↓ws_of,↓ws_nil,↓ws_brk,↓ws_seq,↓ws_asg,↓ws_ret,↓ws_exp,↓ws_if,↓ws_own,↓ws_ownC,↓ws_app,↓ws_ext,↓ws_fz,↓ws_tg,↓ws_par,↓ws_par3,↓ws_for,↓ws_forN,↓wp_compN,↓wp_newH,↓KNewH.eq_1,↓wp_hixL,↓wp_hixT,↓ws_putH,↓KPh1.eq_1,↓KPh2.eq_1,↓KPj.eq_1,↓ws_setF,↓ws_parS,↓KPS_nil,↓KPS_fz,↓KPS_own,↓KPSf.eq_1,↓KPSo.eq_1,↓wp_enJ,↓KEnJ.eq_1,↓wp_lstO,↓KLo_l,↓wp_inPT,↓wp_inPL,↓wp_cnt1,↓ws_raise,↓KRs_1,↓wp_told,↓KTo.eq_1,w_add,w_addL,w_addT,w_addS,w_sub,w_mul,w_mulL,w_fdiv,w_mod,w_neg,w_lt,w_le,w_gt,w_ge,w_isN,w_isI,w_isS,w_isT,w_isL,w_isO,w_isnN,w_isnI,w_isnS,w_isnT,w_isnL,w_eqI,w_eqS,w_neI,w_neS,w_eqIS,w_eqSI,w_lenL,w_lenT,w_lenS,w_slen,w_abs,w_int,w_intB,w_max,w_min,w_str,w_strS,w_listL,w_listT,w_tupL,w_tupT,w_slL,w_slT,w_revL,w_revT,at0,at1,at2,at3,at4,at_m1,find_h,find_t,inr_iff,lit_iff,eqB_ss,eqB_is,eqB_si,eqB_ii,flds_obj,tg_N,tg_T,tg_C,tg_Z,fzA_s,fzA_o,fzA_d,fzA_f,fzA_n,fo_c,Bool.false_eq_true,sg_eqL,sg_eqR,sd_eqL,sd_eqR,sg_sg,sd_sd,MT.sg_eqL',MT.sg_eqR',MT.sd_eqL',MT.sd_eqR',w_isiS,w_isiI,w_isiIB,w_isiT,w_pow6,w_pow8,w_pow10,w_pow12,w_pow13,optD_n,optD_s,at_free,at_off,at_wall,wl_free,wl_off,wl_wall,of_free,of_off,of_wall,Option.map_none,Option.map_some,List.getElem?_cons_zero,List.getElem?_cons_succ,List.set_cons_zero,List.set_cons_succ,List.map_cons,List.map_nil,List.length_cons,List.length_nil,List.replicate_succ,List.replicate_zero,List.cons_append,List.nil_append,List.zip_cons_cons,List.zip_nil_left,enOf,wipeE,List.any_cons,List.any_nil,List.all_cons,List.all_nil,scl,Bool.and_true,Bool.true_and,Bool.and_self,Bool.or_false,Bool.false_or,Bool.or_true,Bool.true_or,Bool.not_true,Bool.not_false,List.mem_cons,List.not_mem_nil,or_false,false_or,not_false_eq_true,lk_h,lk_t,beq_self_eq_true,decide_true,decide_false,String.reduceEq,reduceIte,Option.bind_some,xto,w_isX,w_isXn,w_xv,w_isXX,w_isnXX]))
open PySem MT L2 TL in
local macro_rules
  | `(tactic| simp_arith [$ls,*]) => `(tactic| (simp -implicitDefEqProofs (disch := (first | assumption | (simp only [List.length_cons,List.length_nil,lit_iff,inr_iff,sg_eqL,sg_eqR,sd_eqL,sd_eqR,sg_sg,sd_sd,Bool.false_eq_true,reduceCtorEq,String.reduceEq,not_false_eq_true] ; done) | omega | (simp only [List.length_map,List.length_cons,List.length_nil,List.length_append,List.length_reverse,List.length_zip,sortD_length,start_len,rangeD_length,List.length_range,List.length_set]; omega))) only [$ls,*, ↓br_t,↓br_f,↓br_n,↓br_dT,↓br_dF,↓req_t,↓slF_fz,↓slW_fz,↓slW_own,↓slW_ownD,↓slO_own,↓slK_own,↓sm_s,↓tgo_N,↓K1.eq_1,↓K2.eq_1,↓K3.eq_1,↓KB_b,↓KIf.eq_1,↓KAnd.eq_1,↓KOr.eq_1,↓KNot.eq_1,↓MT.KOf.eq_1,↓KAndV.eq_1,↓KOrV.eq_1,↓KC2.eq_1,↓KC.eq_1,↓KApp.eq_1,↓KStar_t,↓KStar_l,↓MT.KT.eq_1,↓KL.eq_1,↓KL0.eq_1,↓KD.eq_1,↓KCh2.eq_1,↓KCh1.eq_1,↓KCh.eq_1,↓KO_i,↓KS_s,↓KSeq_l,↓KSeq_t,↓KSeq_s,↓KR1_i,↓KR2_i,↓KZ_ll,↓KZ_lt,↓KZ_tl,↓KZ_tt,↓KZ_ts,↓KZ_ls,↓KE_l,↓KE_t,↓KE_s,↓KCm.eq_1,↓KKv_p,↓KM.eq_1,↓KM1.eq_1,↓KLen_i,↓KRun.eq_1,↓KBd.eq_1,↓KOfS.eq_1,↓KAsg.eq_1,↓KExp.eq_1,↓KSif.eq_1,↓KOwn.eq_1,↓KOwnC.eq_1,↓KAp2.eq_1,↓KAp.eq_1,↓KEx2_l,↓KExt.eq_1,↓KTg.eq_1,↓KPar_l,↓KPar3_l,↓KFor.eq_1,↓KFr.eq_1,↓KOA.eq_1,↓KOA2_l,↓KPh.eq_1,↓KPg_i,↓KPf.eq_1,↓KPe.eq_1,↓KPd_i,↓KPc.eq_1,↓KPb.eq_1,↓KPa.eq_1,↓ws_ownAdd,↓ws_put2,↓KCt3.eq_1,↓KCt2.eq_1,↓KCt.eq_1,↓CT.eq_1,↓CK.eq_1,↓CI.eq_1,↓wp_ok,↓wp_exc,↓wp_kC,↓wp_vF,↓wp_vW,↓wp_bind,↓wp_b1,↓wp_b2,↓wp_b3,↓wp_toB,↓wp_ifE,↓wp_andB,↓wp_orB,↓wp_notB,↓wp_ofB,↓wp_andV,↓wp_orV,↓wp_notV,↓wp_aNil,↓wp_aCons,↓wp_aStar,↓wp_mkT,↓wp_mkL,↓wp_mkLI,↓wp_evN,↓wp_evC,↓wp_mkD,↓wp_chn,↓wp_oN,↓wp_oS,↓wp_strO,↓wp_ofL,↓wp_seqI,↓wp_rng1,↓wp_rng2,↓wp_zip,↓wp_enum,↓wp_comp,↓wp_kT,↓wp_ixL,↓wp_ixT,↓wp_dget,↓wp_inT,↓wp_inL,↓wp_ninT,↓wp_ninL,↓wp_fld,↓wp_prop,↓wp_meth,↓wp_lenO,↓wp_run,↓lenO_way,↓prop_way,↓ws_n,↓ws_r,↓ws_x,↓ws_of,↓ws_nil,↓ws_brk,↓ws_seq,↓ws_asg,↓ws_ret,↓ws_exp,↓ws_if,↓ws_own,↓ws_ownC,↓ws_app,↓ws_ext,↓ws_fz,↓ws_tg,↓ws_par,↓ws_par3,↓ws_for,↓ws_forN,↓wp_compN,↓wp_newH,↓KNewH.eq_1,↓wp_hixL,↓wp_hixT,↓ws_putH,↓KPh1.eq_1,↓KPh2.eq_1,↓KPj.eq_1,↓ws_setF,↓ws_parS,↓KPS_nil,↓KPS_fz,↓KPS_own,↓KPSf.eq_1,↓KPSo.eq_1,↓wp_enJ,↓KEnJ.eq_1,↓wp_lstO,↓KLo_l,↓wp_inPT,↓wp_inPL,↓wp_cnt1,↓ws_raise,↓KRs_1,↓wp_told,↓KTo.eq_1,w_add,w_addL,w_addT,w_addS,w_sub,w_mul,w_mulL,w_fdiv,w_mod,w_neg,w_lt,w_le,w_gt,w_ge,w_isN,w_isI,w_isS,w_isT,w_isL,w_isO,w_isnN,w_isnI,w_isnS,w_isnT,w_isnL,w_eqI,w_eqS,w_neI,w_neS,w_eqIS,w_eqSI,w_lenL,w_lenT,w_lenS,w_slen,w_abs,w_int,w_intB,w_max,w_min,w_str,w_strS,w_listL,w_listT,w_tupL,w_tupT,w_slL,w_slT,w_revL,w_revT,at0,at1,at2,at3,at4,at_m1,find_h,find_t,inr_iff,lit_iff,eqB_ss,eqB_is,eqB_si,eqB_ii,flds_obj,tg_N,tg_T,tg_C,tg_Z,fzA_s,fzA_o,fzA_d,fzA_f,fzA_n,fo_c,Bool.false_eq_true,sg_eqL,sg_eqR,sd_eqL,sd_eqR,sg_sg,sd_sd,MT.sg_eqL',MT.sg_eqR',MT.sd_eqL',MT.sd_eqR',w_isiS,w_isiI,w_isiIB,w_isiT,w_pow6,w_pow8,w_pow10,w_pow12,w_pow13,optD_n,optD_s,at_free,at_off,at_wall,wl_free,wl_off,wl_wall,of_free,of_off,of_wall,Option.map_none,Option.map_some,List.getElem?_cons_zero,List.getElem?_cons_succ,List.set_cons_zero,List.set_cons_succ,List.map_cons,List.map_nil,List.length_cons,List.length_nil,List.replicate_succ,List.replicate_zero,List.cons_append,List.nil_append,List.zip_cons_cons,List.zip_nil_left,enOf,wipeE,List.any_cons,List.any_nil,List.all_cons,List.all_nil,scl,Bool.and_true,Bool.true_and,Bool.and_self,Bool.or_false,Bool.false_or,Bool.or_true,Bool.true_or,Bool.not_true,Bool.not_false,List.mem_cons,List.not_mem_nil,or_false,false_or,not_false_eq_true,lk_h,lk_t,beq_self_eq_true,decide_true,decide_false,String.reduceEq,reduceIte,Option.bind_some,xto,w_isX,w_isXn,w_xv,w_isXX,w_isnXX]))
set_option Elab.async false
set_option linter.all false
set_option maxRecDepth 100000
namespace Gen
open PySem PySem.Spec PyProof.Rows L2 MT
def b__law_cells : En → Mem → SOut :=
  (sRet (mkLI (rngI1 (aCons (bind1 (aCons (kC (.int 1)) (aCons (bind1 (aCons (vW 1) (aCons (bind1 (aCons (vW 0) aNil) slenD) aNil)) min2D) aNil)) max2D) aNil))))
def m__law_cells : List D → Mem → Out D := runF 2 2 b__law_cells
def b__law_line : En → Mem → SOut :=
  (sRet (bind2 (strOnly (kC (.str " "))) (aCons (bind2 (mkL (aCons (vF 0) aNil)) (ofL (compF (seqI (vF 1)) (tgN 2) kT (bind1 (aCons (vW 2) aNil) strD) [2])) addD) aNil) joinD))
def m__law_line : List D → Mem → Out D := runF 2 3 b__law_line
def b__law_lines : En → Mem → SOut :=
  (sSeq (sAsg 1 (bind2 (strOnly (kC (.str " "))) (aCons (bind2 (mkL (aCons (kC (.str "at")) aNil)) (ofL (compF (seqI (bind2 (vW 0) (kC (.str "at")) dgetD)) (tgN 2) kT (bind1 (aCons (vW 2) aNil) strD) [2])) addD) aNil) joinD))
  (sRet (mkL (aCons (bind1 (aCons (kC (.str "left")) (aCons (bind2 (vW 0) (kC (.str "left")) dgetD) aNil)) m__law_line) (aCons (bind1 (aCons (kC (.str "right")) (aCons (bind2 (vW 0) (kC (.str "right")) dgetD) aNil)) m__law_line) (aCons (vF 1) aNil))))))
def m__law_lines : List D → Mem → Out D := runF 1 3 b__law_lines
def b__law_take : En → Mem → SOut :=
  (sSeq (sIf (toB (bind2 (bind2 (vW 0) (kC (.int 0)) pixD) (kC (.int 0)) gtD)) (sSeq (sAsg 4 (bind2 (bind1 (aCons (bind2 (vW 0) (kC (.int 0)) pixD) aNil) intD) (vW 1) modD))
  (sSeq (sPutP 0 (bind2 (bind2 (vW 0) (kC (.int 0)) pixD) (vW 1) fdivD) (kC (.int 0)))
  (sRet (vF 4)))) sNil)
  (sSeq (sPutP 0 (bind2 (bind2 (vW 0) (kC (.int 2)) pixD) (kC (.int 1)) addD) (kC (.int 2)))
  (sSeq (sAsg 2 (bind2 (mkL (aCons (kC (.int 2147483647)) (aCons (kC (.int 2147483629)) (aCons (kC (.int 2147483587)) (aCons (kC (.int 2147483579)) (aCons (kC (.int 2147483563)) aNil)))))) (bind2 (bind1 (aCons (bind2 (vW 0) (kC (.int 2)) pixD) aNil) intD) (kC (.int 5)) modD) ixD))
  (sSeq (sAsg 3 (bind2 (bind1 (aCons (bind2 (bind1 (aCons (bind2 (bind2 (bind2 (vW 0) (kC (.int 1)) pixD) (bind2 (bind2 (kC (.int 98561)) (bind2 (vW 0) (kC (.int 2)) pixD) mulD) (bind2 (vW 0) (kC (.int 2)) pixD) mulD) addD) (kC (.int 61)) addD) aNil) intD) (kC (.int 3)) powD) aNil) intD) (vW 2) modD))
  (sSeq (sAsg 3 (bind2 (bind1 (aCons (bind2 (vW 3) (bind2 (bind2 (bind1 (aCons (vW 3) aNil) intD) (kC (.int 10457)) modD) (bind2 (kC (.int 117)) (bind2 (vW 0) (kC (.int 2)) pixD) mulD) addD) mulD) aNil) intD) (kC (.int 2305843009213693907)) modD))
  (sRet (bind2 (bind1 (aCons (bind2 (vW 3) (kC (.int 139)) fdivD) aNil) intD) (vW 1) modD)))))))
def m__law_take : List D → Mem → Out D := runF 2 5 b__law_take
def b__law_places : En → Mem → SOut :=
  (sSeq (sOwn 3 (aCons (bind2 (bind2 (kC (.int 2)) (bind1 (aCons (vF 0) (aCons (kC (.int 9)) aNil)) m__law_take) mulD) (kC (.int 8)) subD) aNil))
  (sSeq (sFor (rngI1 (aCons (bind2 (vW 1) (kC (.int 1)) subD) aNil)) (tgN 4) (sApp 3 (bind2 (bind2 (bind2 (vW 3) (bind1 (kC (.int 1)) negD) ixD) (kC (.int 2)) addD) (bind2 (kC (.int 2)) (bind1 (aCons (vF 0) (aCons (vF 2) aNil)) m__law_take) mulD) addD)))
  (sFz 3 (sRet (vF 3)))))
def m__law_places : List D → Mem → Out D := runF 3 5 b__law_places
def b__law_end : En → Mem → SOut :=
  (sSeq (sAsg 4 (bind1 (aCons (vF 0) (aCons (ifE (toB (vF 3)) (kC (.int 4)) (kC (.int 3))) aNil)) m__law_take))
  (sSeq (sIf (toB (bind2 (vW 4) (kC (.int 0)) eqD)) (sRet (mkT (aCons (kC (.str "free")) aNil))) sNil)
  (sRet (mkT (aCons (ifE (toB (bind2 (vW 4) (kC (.int 3)) ltD)) (kC (.str "off")) (kC (.str "wall"))) (aCons (bind2 (vW 1) (bind2 (vW 2) (bind2 (kC (.int 2)) (bind2 (kC (.int 2)) (bind1 (aCons (vF 0) (aCons (kC (.int 5)) aNil)) m__law_take) mulD) addD) mulD) addD) aNil))))))
def m__law_end : List D → Mem → Out D := runF 4 5 b__law_end
def b__law_lore : En → Mem → SOut :=
  (sSeq (sAsg 3 (bind1 (aCons (vF 0) (aCons (bind2 (kC (.int 1)) (bind1 (aCons (vF 0) (aCons (vF 1) aNil)) m__law_take) addD) (aCons (vF 2) aNil))) m__law_places))
  (sSeq (sAsg 4 (bind1 (aCons (vF 0) (aCons (bind2 (vW 3) (kC (.int 0)) ixD) (aCons (bind1 (kC (.int 1)) negD) (aCons (kC (.bl true)) aNil)))) m__law_end))
  (sRet (mkD [("left", (vF 4)), ("right", (bind1 (aCons (vF 0) (aCons (bind2 (vW 3) (bind1 (kC (.int 1)) negD) ixD) (aCons (kC (.int 1)) (aCons (bind2 (bind2 (vW 4) (kC (.int 0)) ixD) (kC (.str "wall")) neD) aNil)))) m__law_end)), ("at", (vF 3))]))))
def m__law_lore : List D → Mem → Out D := runF 3 5 b__law_lore
def b__law_of : En → Mem → SOut :=
  (sRet (bind2 (vW 1) (bind1 (aCons (vF 0) (aCons (bind1 (aCons (vW 1) aNil) lenD) aNil)) m__law_take) ixD))
def m__law_of : List D → Mem → Out D := runF 2 2 b__law_of
def b__law_spoilt_word : En → Mem → SOut :=
  (sSeq (sPar 3 4 (aCons (bind2 (strOnly (bind2 (vW 1) (vW 2) ixD)) (aCons (kC (.str " ")) aNil) splitD) (aCons (bind1 (aCons (vF 0) (aCons (kC (.int 6)) aNil)) m__law_take) aNil)))
  (sSeq (sAsg 5 (bind1 (aCons (vF 0) (aCons (bind1 (aCons (vW 3) aNil) lenD) aNil)) m__law_take))
  (sSeq (sIf (toB (bind2 (vW 4) (kC (.int 0)) eqD)) (sAsg 3 (bind2 (bind3 (vW 3) oNone (oSome (vW 5)) slD) (bind3 (vW 3) (oSome (bind2 (vW 5) (kC (.int 1)) addD)) oNone slD) addD)) (sIf (toB (bind2 (vW 4) (kC (.int 1)) eqD)) (sAsg 3 (bind2 (bind3 (vW 3) oNone (oSome (bind2 (vW 5) (kC (.int 1)) addD)) slD) (bind3 (vW 3) (oSome (vW 5)) oNone slD) addD)) (sIf (toB (bind2 (vW 4) (kC (.int 2)) eqD)) (sAsg 3 (bind2 (bind3 (vW 3) oNone (oSome (kC (.int 1))) slD) (bind1 (bind3 (vW 3) (oSome (kC (.int 1))) oNone slD) revD) addD)) (sSeq (sAsg 6 (mkL (aCons (kC (.str "")) (aCons (kC (.str "free")) (aCons (kC (.str "off")) (aCons (kC (.str "wall")) (aCons (kC (.str "at")) (aCons (kC (.str "left")) (aCons (kC (.str "0")) (aCons (kC (.str "-0")) (aCons (kC (.str "00")) (aCons (kC (.str "+2")) (aCons (kC (.str "3")) (aCons (kC (.str "-7")) (aCons (kC (.str "x")) (aCons (kC (.str "2.0")) (aCons (kC (.str "200")) aNil)))))))))))))))))
  (sAsg 3 (bind2 (bind2 (bind3 (vW 3) oNone (oSome (vW 5)) slD) (mkL (aCons (bind1 (aCons (vF 0) (aCons (vF 6) aNil)) m__law_of) aNil)) addD) (bind3 (vW 3) (oSome (bind2 (vW 5) (bind1 (aCons (bind2 (vW 4) (kC (.int 5)) ltD) aNil) intD) addD)) oNone slD) addD))))))
  (sRet (bind2 (bind2 (bind3 (vW 1) oNone (oSome (vW 2)) slD) (mkL (aCons (bind2 (strOnly (kC (.str " "))) (aCons (vW 3) aNil) joinD) aNil)) addD) (bind3 (vW 1) (oSome (bind2 (vW 2) (kC (.int 1)) addD)) oNone slD) addD)))))
def m__law_spoilt_word : List D → Mem → Out D := runF 3 7 b__law_spoilt_word
def b__law_spoilt : En → Mem → SOut :=
  (sSeq (sPar 2 3 (aCons (bind1 (aCons (vF 0) (aCons (bind1 (aCons (vW 1) aNil) lenD) aNil)) m__law_take) (aCons (bind1 (aCons (vF 0) (aCons (kC (.int 9)) aNil)) m__law_take) aNil)))
  (sSeq (sIf (toB (bind2 (vW 3) (kC (.int 0)) eqD)) (sRet (bind2 (bind3 (vW 1) oNone (oSome (vW 2)) slD) (bind3 (vW 1) (oSome (bind2 (vW 2) (kC (.int 1)) addD)) oNone slD) addD)) sNil)
  (sSeq (sIf (toB (bind2 (vW 3) (kC (.int 1)) eqD)) (sRet (bind2 (bind3 (vW 1) oNone (oSome (bind2 (vW 2) (kC (.int 1)) addD)) slD) (bind3 (vW 1) (oSome (vW 2)) oNone slD) addD)) sNil)
  (sSeq (sIf (toB (bind2 (vW 3) (kC (.int 2)) eqD)) (sRet (bind1 (vW 1) revD)) sNil)
  (sSeq (sIf (toB (bind2 (vW 3) (kC (.int 3)) eqD)) (sSeq (sAsg 4 (bind1 (aCons (vF 0) (aCons (mkL (aCons (kC (.str "")) (aCons (kC (.str "left free")) (aCons (kC (.str "right free")) (aCons (kC (.str "at 0")) (aCons (bind2 (bind2 (vW 1) (vW 2) ixD) (kC (.str " ")) addD) (aCons (bind2 (kC (.str " ")) (bind2 (vW 1) (vW 2) ixD) addD) (aCons (kC (.str "right wall 60")) aNil)))))))) aNil)) m__law_of))
  (sRet (bind2 (bind2 (bind3 (vW 1) oNone (oSome (vW 2)) slD) (mkL (aCons (vF 4) aNil)) addD) (bind3 (vW 1) (oSome (vW 2)) oNone slD) addD))) sNil)
  (sSeq (sIf (toB (bind2 (vW 3) (kC (.int 4)) eqD)) (sRet (bind2 (bind2 (bind3 (vW 1) oNone (oSome (vW 2)) slD) (mkL (aCons (bind1 (bind2 (vW 1) (vW 2) ixD) (replD " " "  ")) aNil)) addD) (bind3 (vW 1) (oSome (bind2 (vW 2) (kC (.int 1)) addD)) oNone slD) addD)) sNil)
  (sRet (bind1 (aCons (vF 0) (aCons (vF 1) (aCons (vF 2) aNil))) m__law_spoilt_word))))))))
def m__law_spoilt : List D → Mem → Out D := runF 2 5 b__law_spoilt
def b__law_text_odd : En → Mem → SOut :=
  (sRet (bind1 (aCons (vF 0) (aCons (mkL (aCons (kC (.str "x")) (aCons (kC (.str "at 0")) (aCons (kC (.str "left")) (aCons (kC (.int 7)) (aCons (mkT aNil) (aCons (mkL (aCons (kC (.str "left free")) aNil)) (aCons (bind1 (kC (.int 1)) negD) aNil)))))))) aNil)) m__law_of))
def m__law_text_odd : List D → Mem → Out D := runF 1 1 b__law_text_odd
def b__law_number : En → Mem → SOut :=
  (sSeq (sAsg 1 (ifE (toB (bind2 (bind3 (vW 0) oNone (oSome (kC (.int 1))) slD) (kC (.str "-")) eqD)) (bind3 (vW 0) (oSome (kC (.int 1))) oNone slD) (vF 0)))
  (sSeq (sIf (orB (toB (bind2 (vW 1) (kC (.str "")) eqD)) (notB (toB (bind1 (aCons (ofL (compF (seqI (vF 1)) (tgN 2) kT (bind2 (vW 2) (kC (.str "0123456789")) inD) [2])) aNil) allD)))) (sRet (kC .non)) sNil)
  (sSeq (sIf (andB (toB (bind2 (bind2 (vW 1) (kC (.int 0)) ixD) (kC (.str "0")) eqD)) (toB (bind2 (vW 0) (kC (.str "0")) neD))) (sRet (kC .non)) sNil)
  (sRet (ifE (andB (toB (bind2 (bind2 (bind1 (aCons (vW 0) aNil) intD) (kC (.int 2)) modD) (kC (.int 0)) eqD)) (toB (bind2 (bind1 (aCons (bind1 (aCons (vW 0) aNil) intD) aNil) absD) (bind2 (kC (.int 10)) (kC (.int 12)) powD) leD))) (bind1 (aCons (vW 0) aNil) intD) (kC .non))))))
def m__law_number : List D → Mem → Out D := runF 1 3 b__law_number
def b__law_end_of : En → Mem → SOut :=
  (sSeq (sAsg 2 (bind2 (strOnly (vW 0)) (aCons (kC (.str " ")) aNil) splitD))
  (sSeq (sIf (toB (bind2 (vW 2) (mkL (aCons (vF 1) (aCons (kC (.str "free")) aNil))) eqD)) (sRet (mkT (aCons (kC (.str "free")) aNil))) sNil)
  (sSeq (sIf (orB (toB (bind2 (bind1 (aCons (vW 2) aNil) lenD) (kC (.int 3)) neD)) (orB (toB (bind2 (bind2 (vW 2) (kC (.int 0)) ixD) (vW 1) neD)) (orB (toB (bind2 (bind2 (vW 2) (kC (.int 1)) ixD) (mkT (aCons (kC (.str "off")) (aCons (kC (.str "wall")) aNil))) ninD)) (toB (bind2 (bind1 (aCons (bind2 (vW 2) (kC (.int 2)) ixD) aNil) m__law_number) (kC .non) isD))))) (sRet (kC .non)) sNil)
  (sRet (mkT (aCons (bind2 (vW 2) (kC (.int 1)) ixD) (aCons (bind1 (aCons (bind2 (vW 2) (kC (.int 2)) ixD) aNil) m__law_number) aNil)))))))
def m__law_end_of : List D → Mem → Out D := runF 2 3 b__law_end_of
def b__law_has_places : En → Mem → SOut :=
  (sSeq (sAsg 3 (bind2 (strOnly (vW 0)) (aCons (kC (.str " ")) aNil) splitD))
  (sSeq (sAsg 4 (ofL (compF (seqI (bind3 (vW 3) (oSome (kC (.int 1))) oNone slD)) (tgN 6) kT (bind1 (aCons (vF 6) aNil) m__law_number) [6])))
  (sSeq (sIf (orB (toB (bind2 (bind2 (vW 3) (kC (.int 0)) ixD) (kC (.str "at")) neD)) (orB (notB (toB (chn (kC (.int 0)) (bind1 (aCons (vW 4) aNil) lenD) (kC (.int 41)) ltD ltD))) (toB (bind2 (kC .non) (vW 4) (inP false))))) (sRet (kC (.bl false))) sNil)
  (sSeq (sAsg 5 (bind2 (bind2 (bind1 (aCons (bind3 (vW 1) (oSome (kC (.int 1))) oNone slD) aNil) listD) (vW 4) addD) (bind1 (aCons (bind3 (vW 2) (oSome (kC (.int 1))) oNone slD) aNil) listD) addD))
  (sRet (bind1 (aCons (ofL (compF (zipG (aCons (vF 5) (aCons (bind3 (vW 5) (oSome (kC (.int 1))) oNone slD) aNil))) (tgT 2 (tgCons (tgN 7) (tgCons (tgN 8) tgNil))) kT (bind2 (vW 7) (vW 8) ltD) [7, 8])) aNil) allD))))))
def m__law_has_places : List D → Mem → Out D := runF 3 9 b__law_has_places
def b__law_first_wrong : En → Mem → SOut :=
  (sSeq (sAsg 1 (bind2 (bind2 (strOnly (vW 0)) (aCons (kC (.str "\n")) aNil) splitD) (mkL (aCons (kC (.str "")) (aCons (kC (.str "")) aNil))) addD))
  (sSeq (sPar 2 3 (aCons (bind1 (aCons (bind2 (vW 1) (kC (.int 0)) ixD) (aCons (kC (.str "left")) aNil)) m__law_end_of) (aCons (bind1 (aCons (bind2 (vW 1) (kC (.int 1)) ixD) (aCons (kC (.str "right")) aNil)) m__law_end_of) aNil)))
  (sSeq (sIf (toB (bind2 (vW 2) (kC .non) isD)) (sRet (kC (.int 1))) sNil)
  (sSeq (sIf (orB (toB (bind2 (vW 3) (kC .non) isD)) (andB (toB (bind2 (bind2 (vW 2) (kC (.int 0)) ixD) (kC (.str "wall")) eqD)) (toB (bind2 (bind2 (vW 3) (kC (.int 0)) ixD) (kC (.str "wall")) eqD)))) (sRet (kC (.int 2))) sNil)
  (sSeq (sIf (notB (toB (bind1 (aCons (bind2 (vW 1) (kC (.int 2)) ixD) (aCons (vF 2) (aCons (vF 3) aNil))) m__law_has_places))) (sRet (kC (.int 3))) sNil)
  (sRet (ifE (toB (bind2 (bind1 (aCons (vW 1) aNil) lenD) (kC (.int 5)) gtD)) (kC (.int 4)) (kC (.int 0)))))))))
def m__law_first_wrong : List D → Mem → Out D := runF 1 4 b__law_first_wrong
def b_number_in : En → Mem → SOut :=
  (sSeq (sAsg 1 (bind2 (strOnly (vW 0)) (aCons (kC (.str "-")) aNil) rmpD))
  (sSeq (sIf (orB (notB (toB (chn (kC (.int 1)) (bind1 (aCons (vW 1) aNil) lenD) (kC (.int 20)) leD leD))) (notB (toB (bind1 (aCons (ofL (compF (seqI (vF 1)) (tgN 2) kT (bind2 (vW 2) (kC (.str "0123456789")) inD) [2])) aNil) allD)))) (sRet (kC .non)) sNil)
  (sSeq (sIf (andB (toB (bind2 (bind2 (vW 1) (kC (.int 0)) ixD) (kC (.str "0")) eqD)) (toB (bind2 (vW 0) (kC (.str "0")) neD))) (sRet (kC .non)) sNil)
  (sRet (bind1 (aCons (vW 0) aNil) intD)))))
def m_number_in : List D → Mem → Out D := runF 1 3 b_number_in
def b_is_place : En → Mem → SOut :=
  (sRet (andV (bind2 (vW 0) (kC .non) isntD) (andV (bind2 (bind2 (vW 0) (kC (.int 2)) modD) (kC (.int 0)) eqD) (bind2 (bind1 (aCons (vW 0) aNil) absD) (kC (.int 1000000000000)) leD))))
def m_is_place : List D → Mem → Out D := runF 1 1 b_is_place
def b_end_in : En → Mem → SOut :=
  (sSeq (sAsg 2 (bind2 (strOnly (vW 0)) (aCons (kC (.str " ")) aNil) splitD))
  (sSeq (sIf (toB (bind2 (vW 2) (mkL (aCons (vF 1) (aCons (kC (.str "free")) aNil))) eqD)) (sRet (mkT (aCons (kC (.str "free")) aNil))) sNil)
  (sSeq (sIf (orB (toB (bind2 (bind1 (aCons (vW 2) aNil) lenD) (kC (.int 3)) neD)) (orB (toB (bind2 (bind2 (vW 2) (kC (.int 0)) ixD) (vW 1) neD)) (toB (bind2 (bind2 (vW 2) (kC (.int 1)) ixD) (mkT (aCons (kC (.str "off")) (aCons (kC (.str "wall")) aNil))) ninD)))) (sRet (kC .non)) sNil)
  (sSeq (sAsg 3 (bind1 (aCons (bind2 (vW 2) (kC (.int 2)) ixD) aNil) m_number_in))
  (sRet (ifE (toB (bind1 (aCons (vF 3) aNil) m_is_place)) (mkT (aCons (bind2 (vW 2) (kC (.int 1)) ixD) (aCons (vF 3) aNil))) (kC .non)))))))
def m_end_in : List D → Mem → Out D := runF 2 4 b_end_in
def b_do_ascend : En → Mem → SOut :=
  (sRet (bind1 (aCons (ofL (compF (zipG (aCons (vF 0) (aCons (bind3 (vW 0) (oSome (kC (.int 1))) oNone slD) aNil))) (tgT 2 (tgCons (tgN 1) (tgCons (tgN 2) tgNil))) kT (bind2 (vW 1) (vW 2) ltD) [1, 2])) aNil) allD))
def m_do_ascend : List D → Mem → Out D := runF 1 3 b_do_ascend
def b_places_in : En → Mem → SOut :=
  (sSeq (sAsg 3 (bind2 (strOnly (vW 0)) (aCons (kC (.str " ")) aNil) splitD))
  (sSeq (sAsg 4 (ofL (compF (seqI (bind3 (vW 3) (oSome (kC (.int 1))) oNone slD)) (tgN 7) kT (bind1 (aCons (vF 7) aNil) m_number_in) [7])))
  (sSeq (sIf (orB (toB (bind2 (bind2 (vW 3) (kC (.int 0)) ixD) (kC (.str "at")) neD)) (orB (notB (toB (chn (kC (.int 1)) (bind1 (aCons (vW 4) aNil) lenD) (kC (.int 40)) leD leD))) (notB (toB (bind1 (aCons (ofL (compF (seqI (vF 4)) (tgN 8) kT (bind1 (aCons (vF 8) aNil) m_is_place) [8])) aNil) allD))))) (sRet (kC .non)) sNil)
  (sSeq (sAsg 5 (orV (bind2 (vW 1) (mkT (aCons (kC (.str "free")) aNil)) eqD) (bind2 (bind2 (vW 1) (kC (.int 1)) ixD) (bind2 (vW 4) (kC (.int 0)) ixD) ltD)))
  (sSeq (sAsg 6 (orV (bind2 (vW 2) (mkT (aCons (kC (.str "free")) aNil)) eqD) (bind2 (bind2 (vW 4) (bind1 (kC (.int 1)) negD) ixD) (bind2 (vW 2) (kC (.int 1)) ixD) ltD)))
  (sRet (ifE (andB (toB (bind1 (aCons (vF 4) aNil) m_do_ascend)) (andB (toB (vF 5)) (toB (vF 6)))) (bind1 (aCons (vW 4) aNil) tupleD) (kC .non))))))))
def m_places_in : List D → Mem → Out D := runF 3 9 b_places_in
def b_read_way : En → Mem → SOut :=
  (sSeq (sIf (notB (toB (bind1 (aCons (vW 0) (aCons (kC (.ty "str")) aNil)) isiD))) (sRaise "BadWay" (aCons (kC (.int 0)) aNil)) sNil)
  (sSeq (sAsg 1 (bind2 (strOnly (vW 0)) (aCons (kC (.str "\n")) aNil) splitD))
  (sSeq (sAsg 2 (bind1 (aCons (bind2 (vW 1) (kC (.int 0)) ixD) (aCons (kC (.str "left")) aNil)) m_end_in))
  (sSeq (sIf (toB (bind2 (vW 2) (kC .non) isD)) (sRaise "BadWay" (aCons (kC (.int 1)) aNil)) sNil)
  (sSeq (sAsg 3 (ifE (toB (bind2 (bind1 (aCons (vW 1) aNil) lenD) (kC (.int 1)) gtD)) (bind1 (aCons (bind2 (vW 1) (kC (.int 1)) ixD) (aCons (kC (.str "right")) aNil)) m_end_in) (kC .non)))
  (sSeq (sIf (orB (toB (bind2 (vW 3) (kC .non) isD)) (andB (toB (bind2 (bind2 (vW 2) (kC (.int 0)) ixD) (kC (.str "wall")) eqD)) (toB (bind2 (bind2 (vW 3) (kC (.int 0)) ixD) (kC (.str "wall")) eqD)))) (sRaise "BadWay" (aCons (kC (.int 2)) aNil)) sNil)
  (sSeq (sAsg 4 (ifE (toB (bind2 (bind1 (aCons (vW 1) aNil) lenD) (kC (.int 2)) gtD)) (bind1 (aCons (bind2 (vW 1) (kC (.int 2)) ixD) (aCons (vF 2) (aCons (vF 3) aNil))) m_places_in) (kC .non)))
  (sSeq (sIf (toB (bind2 (vW 4) (kC .non) isD)) (sRaise "BadWay" (aCons (kC (.int 3)) aNil)) sNil)
  (sSeq (sIf (toB (bind2 (bind1 (aCons (vW 1) aNil) lenD) (kC (.int 3)) gtD)) (sRaise "BadWay" (aCons (bind2 (kC (.int 3)) (kC (.int 1)) addD) aNil)) sNil)
  (sRet (mkT (aCons (vF 2) (aCons (vF 3) (aCons (vF 4) aNil))))))))))))))
def m_read_way : List D → Mem → Out D := runF 1 5 b_read_way
def b_Way___init__ : En → Mem → SOut :=
  (sSeq (sTg (tgT 3 (tgCons (tgN 2) (tgCons (tgN 3) (tgCons (tgN 4) tgNil)))) (bind1 (aCons (vF 1) aNil) m_read_way))
  (sSeq (sSetF 0 "Way" "own_text" (vF 1))
  (sSeq (sSetF 0 "Way" "own_left" (vF 2))
  (sSeq (sSetF 0 "Way" "own_right" (vF 3))
  (sSetF 0 "Way" "own_places" (vF 4))))))
def m_Way : List D → Mem → Out D := mkO "Way" (runF 2 5 b_Way___init__)
def b__law_is_judged : En → Mem → SOut :=
  (sSeq (sPar 1 2 (aCons (bind2 (toldE 0 "_law_is_judged" er (bind1 (aCons (vF 0) aNil) m_Way)) (kC (.int 0)) ixD) (aCons (bind1 (aCons (vF 0) aNil) m__law_first_wrong) aNil)))
  (sSeq (sIf (toB (bind2 (vW 2) (kC (.int 0)) eqD)) (sRet (bind2 (vW 1) (kC .non) isD)) sNil)
  (sRet (andV (bind1 (aCons (vW 1) (aCons (kC (.glo "BadWay")) aNil)) (isiX "BadWay" er)) (bind2 (bind1 (aCons (bind1 (vW 1) (xvD er)) aNil) reprD) (bind1 (aCons (vW 2) aNil) reprD) eqD)))))
def m__law_is_judged : List D → Mem → Out D := runF 1 3 b__law_is_judged
def b__law_right : En → Mem → SOut :=
  (sSeq (sAsg 1 (bind1 (aCons (bind1 (aCons (vF 0) (aCons (kC (.int 5)) (aCons (kC (.int 4)) aNil))) m__law_lore) aNil) m__law_lines))
  (sSeq (sFor (rngI1 (aCons (kC (.int 16)) aNil)) (tgN 2) (sSeq (sAsg 4 (bind1 (aCons (vF 0) (aCons (vF 1) aNil)) m__law_spoilt))
  (sSeq (sIf (andB (toB (bind2 (vW 4) (mkL aNil) neD)) (toB (bind2 (bind1 (aCons (vF 0) (aCons (kC (.int 4)) aNil)) m__law_take) (kC (.int 0)) eqD))) (sAsg 4 (bind1 (aCons (vF 0) (aCons (vF 4) aNil)) m__law_spoilt)) sNil)
  (sIf (notB (toB (bind1 (aCons (bind2 (strOnly (kC (.str "\n"))) (aCons (vW 4) aNil) joinD) aNil) m__law_is_judged))) (sRet (kC (.bl false))) sNil))))
  (sSeq (sFor (seqI (mkL (aCons (kC .non) (aCons (kC (.int 0)) (aCons (kC (.bl true)) (aCons (bind1 (aCons (vW 1) aNil) tupleD) (aCons (vF 1) (aCons (mkD []) (aCons (mkL (aCons (bind2 (vW 1) (kC (.int 0)) ixD) aNil)) (aCons (mkT (aCons (kC (.str "free")) aNil)) (aCons (bind1 (aCons (vF 0) aNil) m__law_text_odd) aNil))))))))))) (tgN 3) (sSeq (sAsg 5 (bind2 (toldE 1 "_law_right" er (bind1 (aCons (vF 3) aNil) m_Way)) (kC (.int 0)) ixD))
  (sIf (orB (notB (toB (bind1 (aCons (vW 5) (aCons (kC (.glo "BadWay")) aNil)) (isiX "BadWay" er)))) (andB (notB (toB (bind1 (aCons (vW 3) (aCons (kC (.ty "str")) aNil)) isiD))) (toB (bind2 (bind1 (aCons (bind1 (vW 5) (xvD er)) aNil) repr0D) (kC (.str "0")) neD)))) (sRet (kC (.bl false))) sNil)))
  (sRet (andV (bind1 (aCons (kC (.str "")) aNil) m__law_is_judged) (andV (bind1 (aCons (kC (.str "left free")) aNil) m__law_is_judged) (bind1 (aCons (kC (.str "left wall 0\nright wall 4\nat 2")) aNil) m__law_is_judged)))))))
def m__law_right : List D → Mem → Out D := runF 1 6 b__law_right
def b__law_pot : En → Mem → SOut :=
  (sSeq (sAsg 2 (ifE (toB (bind2 (vW 1) (bind1 (aCons (vW 0) aNil) slenD) ltD)) (bind2 (vW 0) (vW 1) pixD) (bind2 (bind2 (kC (.int 105)) (vW 1) mulD) (kC (.int 39)) addD)))
  (sSeq (sAsg 3 (bind2 (bind2 (bind1 (aCons (bind1 (aCons (vW 2) aNil) absD) aNil) intD) (bind2 (bind2 (kC (.int 10)) (kC (.int 60)) powD) (kC (.int 5)) powD) modD) (bind1 (aCons (bind2 (bind1 (aCons (vW 2) aNil) absD) (bind2 (kC (.int 10)) (kC (.int 18)) powD) geD) aNil) intD) mulD))
  (sSeq (sAsg 4 (bind2 (bind1 (aCons (vW 2) aNil) intD) (kC (.int 2305843009213693951)) modD))
  (sRetPot (aCons (vF 3) (aCons (bind2 (bind1 (aCons (bind2 (bind2 (bind2 (vW 4) (kC (.int 71019)) mulD) (bind2 (bind2 (kC (.int 7331)) (vW 1) mulD) (vW 1) mulD) addD) (kC (.int 157)) addD) aNil) intD) (kC (.int 2305843009213693921)) modD) (aCons (kC (.int 0)) aNil)))))))
def m__law_pot : List D → Mem → Out D := runF 2 5 b__law_pot
def b_law : En → Mem → SOut :=
  (sSeq (sFor (seqI (bind1 (aCons (vF 0) (aCons (kC (.int 4)) aNil)) m__law_cells)) (tgN 1) (sIf (notB (toB (bind1 (aCons (bind1 (aCons (vF 0) (aCons (vF 1) aNil)) m__law_pot) aNil) m__law_right))) (sRet (kC (.bl false))) sNil))
  (sRet (kC (.bl true))))
def m_law : List D → Mem → Out D := runF 1 2 b_law
end Gen
set_option linter.all false
set_option maxRecDepth 100000
namespace Gen
open PySem MT
theorem take_ok {n : Nat} {u : Int} {m : Mem} {a b c : Int} (hm : m[n]? = some (.pot a b c)) (ha : 0 ≤ a) (hb : 0 ≤ b ∧ b < 2 ^ 61) (hc : 0 ≤ c ∧ c < 1000000) (hu : 0 < u ∧ u < 2 ^ 64) :
    Ends (m__law_take [.hnd n, .int u] m) fun x m' => ∃ d a' c', x = .int d ∧ m' = m.set n (.pot a' b c') ∧ 0 ≤ d ∧ d < u ∧ 0 ≤ a' ∧ c ≤ c' ∧ c' ≤ c + 1 := by
  by_cases h : 0 < a
  · apply ends_of
    · apply e_run rfl
      unfold b__law_take
      apply e_seqR
      apply e_sifT
      repeat' (first
    | ((with_reducible apply e_pix hm); rfl)
      | ((with_reducible apply e_putP); rfl)
    | with_reducible exact okr
    | with_reducible exact retr
    | with_reducible exact e_kC
    | with_reducible exact e_aNil
    | with_reducible exact e_nil
    | with_reducible exact e_evN
    | with_reducible exact e_oN
    | with_reducible exact n_t
    | with_reducible exact n_f
    | with_reducible exact sq_r
    | with_reducible apply pk_t
    | with_reducible apply pk_f
    | with_reducible apply sq_n
    | ((with_reducible apply e_vF); rfl)
    | ((with_reducible apply e_vW); rfl)
    | ((with_reducible apply e_vWo); rfl)
    | ((with_reducible apply e_vWd); rfl)
    | with_reducible apply e_b1
    | with_reducible apply e_b2
    | with_reducible apply e_b3
    | with_reducible apply e_aCons
    | with_reducible apply e_evC
    | with_reducible apply e_mkD2
    | with_reducible apply e_toB
    | with_reducible apply e_ofB
    | with_reducible apply e_not
    | with_reducible apply e_notv
    | with_reducible apply e_and
    | with_reducible apply e_or
    | with_reducible apply e_if
    | with_reducible apply e_andv
    | with_reducible apply e_orv
    | with_reducible apply e_chn
    | with_reducible apply e_bnd
    | with_reducible apply e_oS
    | with_reducible apply e_strO
    | with_reducible apply e_ofL
    | with_reducible apply e_mkL
    | with_reducible apply e_mkT
    | with_reducible exact e_add
    | with_reducible exact e_sub
    | with_reducible exact e_neg
    | with_reducible exact e_abs
    | with_reducible exact e_intI
    | with_reducible exact e_intT
    | with_reducible exact e_intF
    | with_reducible exact e_intB
    | with_reducible exact e_max
    | with_reducible exact e_min
    | with_reducible exact e_lenL
    | with_reducible exact e_lenT
    | with_reducible exact e_slen
    | with_reducible exact e_tupL
    | with_reducible exact e_slL
    | with_reducible exact e_slT
    | with_reducible exact e_rev
    | with_reducible exact e_isT
    | with_reducible exact e_isntF
    | with_reducible exact e_strS
    | with_reducible exact e_ix0L
    | with_reducible exact e_ix0T
    | ((with_reducible apply e_isF); rfl)
    | ((with_reducible apply e_isntT); rfl)
    | ((with_reducible apply e_ltT); (first | assumption | omega | (simp only [List.length_cons, List.length_nil, List.length_map]; omega)))
    | ((with_reducible apply e_ltF); (first | assumption | omega | (simp only [List.length_cons, List.length_nil, List.length_map]; omega)))
    | ((with_reducible apply e_leT); (first | assumption | omega | (simp only [List.length_cons, List.length_nil, List.length_map]; omega)))
    | ((with_reducible apply e_leF); (first | assumption | omega | (simp only [List.length_cons, List.length_nil, List.length_map]; omega)))
    | ((with_reducible apply e_gtT); (first | assumption | omega | (simp only [List.length_cons, List.length_nil, List.length_map]; omega)))
    | ((with_reducible apply e_gtF); (first | assumption | omega | (simp only [List.length_cons, List.length_nil, List.length_map]; omega)))
    | ((with_reducible apply e_geT); (first | assumption | omega | (simp only [List.length_cons, List.length_nil, List.length_map]; omega)))
    | ((with_reducible apply e_geF); (first | assumption | omega | (simp only [List.length_cons, List.length_nil, List.length_map]; omega)))
    | ((with_reducible apply e_eqIT); (first | assumption | omega | (simp only [List.length_cons, List.length_nil, List.length_map]; omega)))
    | ((with_reducible apply e_eqIF); (first | assumption | omega | (simp only [List.length_cons, List.length_nil, List.length_map]; omega)))
    | ((with_reducible apply e_neIT); (first | assumption | omega | (simp only [List.length_cons, List.length_nil, List.length_map]; omega)))
    | ((with_reducible apply e_neIF); (first | assumption | omega | (simp only [List.length_cons, List.length_nil, List.length_map]; omega)))
    | ((with_reducible apply e_eqST); (first | rfl | assumption | decide | decide +kernel))
    | ((with_reducible apply e_eqSF); (first | rfl | assumption | decide | decide +kernel))
    | ((with_reducible apply e_neST); (first | rfl | assumption | decide | decide +kernel))
    | ((with_reducible apply e_neSF); (first | rfl | assumption | decide | decide +kernel))
    | ((with_reducible apply e_mod); (first | assumption | omega | (simp only [List.length_cons, List.length_nil, List.length_map]; omega)))
    | ((with_reducible apply e_fdiv); (first | assumption | omega | (simp only [List.length_cons, List.length_nil, List.length_map]; omega)))
    | ((with_reducible apply e_mul); (first | assumption | omega | (simp only [List.length_cons, List.length_nil, List.length_map]; omega)))
    | ((with_reducible apply e_pixS); rfl)
    | ((with_reducible apply e_ixL); rfl)
    | ((with_reducible apply e_ixT); rfl)
    | ((with_reducible apply e_dget); rfl)
    | (rw [sizeLine_eq]; simp only [List.length_cons, List.length_nil]; omega)
    | ((show List.map _ _ = (_ : List L2.Key)); rfl)
    | with_reducible apply e_asg
    | with_reducible apply e_ret
    | with_reducible apply e_exp
    | with_reducible apply e_par
    | with_reducible apply e_par3
    | with_reducible apply e_retPot
    | with_reducible apply e_sif
    | with_reducible apply e_sq)
      · exact hm
      · exact .inl ⟨rfl, rfl⟩
      repeat' (first
    | with_reducible exact okr
    | with_reducible exact retr
    | with_reducible exact e_kC
    | with_reducible exact e_aNil
    | with_reducible exact e_nil
    | with_reducible exact e_evN
    | with_reducible exact e_oN
    | with_reducible exact n_t
    | with_reducible exact n_f
    | with_reducible exact sq_r
    | with_reducible apply pk_t
    | with_reducible apply pk_f
    | with_reducible apply sq_n
    | ((with_reducible apply e_vF); rfl)
    | ((with_reducible apply e_vW); rfl)
    | ((with_reducible apply e_vWo); rfl)
    | ((with_reducible apply e_vWd); rfl)
    | with_reducible apply e_b1
    | with_reducible apply e_b2
    | with_reducible apply e_b3
    | with_reducible apply e_aCons
    | with_reducible apply e_evC
    | with_reducible apply e_mkD2
    | with_reducible apply e_toB
    | with_reducible apply e_ofB
    | with_reducible apply e_not
    | with_reducible apply e_notv
    | with_reducible apply e_and
    | with_reducible apply e_or
    | with_reducible apply e_if
    | with_reducible apply e_andv
    | with_reducible apply e_orv
    | with_reducible apply e_chn
    | with_reducible apply e_bnd
    | with_reducible apply e_oS
    | with_reducible apply e_strO
    | with_reducible apply e_ofL
    | with_reducible apply e_mkL
    | with_reducible apply e_mkT
    | with_reducible exact e_add
    | with_reducible exact e_sub
    | with_reducible exact e_neg
    | with_reducible exact e_abs
    | with_reducible exact e_intI
    | with_reducible exact e_intT
    | with_reducible exact e_intF
    | with_reducible exact e_intB
    | with_reducible exact e_max
    | with_reducible exact e_min
    | with_reducible exact e_lenL
    | with_reducible exact e_lenT
    | with_reducible exact e_slen
    | with_reducible exact e_tupL
    | with_reducible exact e_slL
    | with_reducible exact e_slT
    | with_reducible exact e_rev
    | with_reducible exact e_isT
    | with_reducible exact e_isntF
    | with_reducible exact e_strS
    | with_reducible exact e_ix0L
    | with_reducible exact e_ix0T
    | ((with_reducible apply e_isF); rfl)
    | ((with_reducible apply e_isntT); rfl)
    | ((with_reducible apply e_ltT); (first | assumption | omega | (simp only [List.length_cons, List.length_nil, List.length_map]; omega)))
    | ((with_reducible apply e_ltF); (first | assumption | omega | (simp only [List.length_cons, List.length_nil, List.length_map]; omega)))
    | ((with_reducible apply e_leT); (first | assumption | omega | (simp only [List.length_cons, List.length_nil, List.length_map]; omega)))
    | ((with_reducible apply e_leF); (first | assumption | omega | (simp only [List.length_cons, List.length_nil, List.length_map]; omega)))
    | ((with_reducible apply e_gtT); (first | assumption | omega | (simp only [List.length_cons, List.length_nil, List.length_map]; omega)))
    | ((with_reducible apply e_gtF); (first | assumption | omega | (simp only [List.length_cons, List.length_nil, List.length_map]; omega)))
    | ((with_reducible apply e_geT); (first | assumption | omega | (simp only [List.length_cons, List.length_nil, List.length_map]; omega)))
    | ((with_reducible apply e_geF); (first | assumption | omega | (simp only [List.length_cons, List.length_nil, List.length_map]; omega)))
    | ((with_reducible apply e_eqIT); (first | assumption | omega | (simp only [List.length_cons, List.length_nil, List.length_map]; omega)))
    | ((with_reducible apply e_eqIF); (first | assumption | omega | (simp only [List.length_cons, List.length_nil, List.length_map]; omega)))
    | ((with_reducible apply e_neIT); (first | assumption | omega | (simp only [List.length_cons, List.length_nil, List.length_map]; omega)))
    | ((with_reducible apply e_neIF); (first | assumption | omega | (simp only [List.length_cons, List.length_nil, List.length_map]; omega)))
    | ((with_reducible apply e_eqST); (first | rfl | assumption | decide | decide +kernel))
    | ((with_reducible apply e_eqSF); (first | rfl | assumption | decide | decide +kernel))
    | ((with_reducible apply e_neST); (first | rfl | assumption | decide | decide +kernel))
    | ((with_reducible apply e_neSF); (first | rfl | assumption | decide | decide +kernel))
    | ((with_reducible apply e_mod); (first | assumption | omega | (simp only [List.length_cons, List.length_nil, List.length_map]; omega)))
    | ((with_reducible apply e_fdiv); (first | assumption | omega | (simp only [List.length_cons, List.length_nil, List.length_map]; omega)))
    | ((with_reducible apply e_mul); (first | assumption | omega | (simp only [List.length_cons, List.length_nil, List.length_map]; omega)))
    | ((with_reducible apply e_pixS); rfl)
    | ((with_reducible apply e_ixL); rfl)
    | ((with_reducible apply e_ixT); rfl)
    | ((with_reducible apply e_dget); rfl)
    | (rw [sizeLine_eq]; simp only [List.length_cons, List.length_nil]; omega)
    | ((show List.map _ _ = (_ : List L2.Key)); rfl)
    | with_reducible apply e_asg
    | with_reducible apply e_ret
    | with_reducible apply e_exp
    | with_reducible apply e_par
    | with_reducible apply e_par3
    | with_reducible apply e_retPot
    | with_reducible apply e_sif
    | with_reducible apply e_sq)
    · exact ⟨a % u, a / u, c, rfl, rfl, Int.emod_nonneg _ (by omega), Int.emod_lt_of_pos _ (by omega), Int.ediv_nonneg ha (by omega), Int.le_refl _, by omega⟩
  · have h0 : a = 0 := by omega
    subst h0
    have hm2 : (m.set n (.pot 0 b (c + 1)))[n]? = some (.pot 0 b (c + 1)) := setpot hm _
    obtain ⟨pr, hpr, hcs⟩ := five (p0 := .int 2147483647) (p1 := .int 2147483629) (p2 := .int 2147483587) (p3 := .int 2147483579) (p4 := .int 2147483563) (c + 1)
    obtain ⟨p, rfl, hp⟩ : ∃ p, pr = .int p ∧ 2147483563 ≤ p ∧ p ≤ 2147483647 := by
      rcases hcs with rfl | rfl | rfl | rfl | rfl <;> exact ⟨_, rfl, by decide, by decide⟩
    apply ends_of
    · apply e_run rfl
      unfold b__law_take
      apply e_seq
      · apply e_sifF
        repeat' (first
    | ((with_reducible apply e_pix hm); rfl)
    | with_reducible exact okr
    | with_reducible exact retr
    | with_reducible exact e_kC
    | with_reducible exact e_aNil
    | with_reducible exact e_nil
    | with_reducible exact e_evN
    | with_reducible exact e_oN
    | with_reducible exact n_t
    | with_reducible exact n_f
    | with_reducible exact sq_r
    | with_reducible apply pk_t
    | with_reducible apply pk_f
    | with_reducible apply sq_n
    | ((with_reducible apply e_vF); rfl)
    | ((with_reducible apply e_vW); rfl)
    | ((with_reducible apply e_vWo); rfl)
    | ((with_reducible apply e_vWd); rfl)
    | with_reducible apply e_b1
    | with_reducible apply e_b2
    | with_reducible apply e_b3
    | with_reducible apply e_aCons
    | with_reducible apply e_evC
    | with_reducible apply e_mkD2
    | with_reducible apply e_toB
    | with_reducible apply e_ofB
    | with_reducible apply e_not
    | with_reducible apply e_notv
    | with_reducible apply e_and
    | with_reducible apply e_or
    | with_reducible apply e_if
    | with_reducible apply e_andv
    | with_reducible apply e_orv
    | with_reducible apply e_chn
    | with_reducible apply e_bnd
    | with_reducible apply e_oS
    | with_reducible apply e_strO
    | with_reducible apply e_ofL
    | with_reducible apply e_mkL
    | with_reducible apply e_mkT
    | with_reducible exact e_add
    | with_reducible exact e_sub
    | with_reducible exact e_neg
    | with_reducible exact e_abs
    | with_reducible exact e_intI
    | with_reducible exact e_intT
    | with_reducible exact e_intF
    | with_reducible exact e_intB
    | with_reducible exact e_max
    | with_reducible exact e_min
    | with_reducible exact e_lenL
    | with_reducible exact e_lenT
    | with_reducible exact e_slen
    | with_reducible exact e_tupL
    | with_reducible exact e_slL
    | with_reducible exact e_slT
    | with_reducible exact e_rev
    | with_reducible exact e_isT
    | with_reducible exact e_isntF
    | with_reducible exact e_strS
    | with_reducible exact e_ix0L
    | with_reducible exact e_ix0T
    | ((with_reducible apply e_isF); rfl)
    | ((with_reducible apply e_isntT); rfl)
    | ((with_reducible apply e_ltT); (first | assumption | omega | (simp only [List.length_cons, List.length_nil, List.length_map]; omega)))
    | ((with_reducible apply e_ltF); (first | assumption | omega | (simp only [List.length_cons, List.length_nil, List.length_map]; omega)))
    | ((with_reducible apply e_leT); (first | assumption | omega | (simp only [List.length_cons, List.length_nil, List.length_map]; omega)))
    | ((with_reducible apply e_leF); (first | assumption | omega | (simp only [List.length_cons, List.length_nil, List.length_map]; omega)))
    | ((with_reducible apply e_gtT); (first | assumption | omega | (simp only [List.length_cons, List.length_nil, List.length_map]; omega)))
    | ((with_reducible apply e_gtF); (first | assumption | omega | (simp only [List.length_cons, List.length_nil, List.length_map]; omega)))
    | ((with_reducible apply e_geT); (first | assumption | omega | (simp only [List.length_cons, List.length_nil, List.length_map]; omega)))
    | ((with_reducible apply e_geF); (first | assumption | omega | (simp only [List.length_cons, List.length_nil, List.length_map]; omega)))
    | ((with_reducible apply e_eqIT); (first | assumption | omega | (simp only [List.length_cons, List.length_nil, List.length_map]; omega)))
    | ((with_reducible apply e_eqIF); (first | assumption | omega | (simp only [List.length_cons, List.length_nil, List.length_map]; omega)))
    | ((with_reducible apply e_neIT); (first | assumption | omega | (simp only [List.length_cons, List.length_nil, List.length_map]; omega)))
    | ((with_reducible apply e_neIF); (first | assumption | omega | (simp only [List.length_cons, List.length_nil, List.length_map]; omega)))
    | ((with_reducible apply e_eqST); (first | rfl | assumption | decide | decide +kernel))
    | ((with_reducible apply e_eqSF); (first | rfl | assumption | decide | decide +kernel))
    | ((with_reducible apply e_neST); (first | rfl | assumption | decide | decide +kernel))
    | ((with_reducible apply e_neSF); (first | rfl | assumption | decide | decide +kernel))
    | ((with_reducible apply e_mod); (first | assumption | omega | (simp only [List.length_cons, List.length_nil, List.length_map]; omega)))
    | ((with_reducible apply e_fdiv); (first | assumption | omega | (simp only [List.length_cons, List.length_nil, List.length_map]; omega)))
    | ((with_reducible apply e_mul); (first | assumption | omega | (simp only [List.length_cons, List.length_nil, List.length_map]; omega)))
    | ((with_reducible apply e_pixS); rfl)
    | ((with_reducible apply e_ixL); rfl)
    | ((with_reducible apply e_ixT); rfl)
    | ((with_reducible apply e_dget); rfl)
    | (rw [sizeLine_eq]; simp only [List.length_cons, List.length_nil]; omega)
    | ((show List.map _ _ = (_ : List L2.Key)); rfl)
    | with_reducible apply e_asg
    | with_reducible apply e_ret
    | with_reducible apply e_exp
    | with_reducible apply e_par
    | with_reducible apply e_par3
    | with_reducible apply e_retPot
    | with_reducible apply e_sif
    | with_reducible apply e_sq)
      apply e_seq
      · apply e_putP
        · rfl
        repeat' (first
    | ((with_reducible apply e_pix hm); rfl)
    | with_reducible exact okr
    | with_reducible exact retr
    | with_reducible exact e_kC
    | with_reducible exact e_aNil
    | with_reducible exact e_nil
    | with_reducible exact e_evN
    | with_reducible exact e_oN
    | with_reducible exact n_t
    | with_reducible exact n_f
    | with_reducible exact sq_r
    | with_reducible apply pk_t
    | with_reducible apply pk_f
    | with_reducible apply sq_n
    | ((with_reducible apply e_vF); rfl)
    | ((with_reducible apply e_vW); rfl)
    | ((with_reducible apply e_vWo); rfl)
    | ((with_reducible apply e_vWd); rfl)
    | with_reducible apply e_b1
    | with_reducible apply e_b2
    | with_reducible apply e_b3
    | with_reducible apply e_aCons
    | with_reducible apply e_evC
    | with_reducible apply e_mkD2
    | with_reducible apply e_toB
    | with_reducible apply e_ofB
    | with_reducible apply e_not
    | with_reducible apply e_notv
    | with_reducible apply e_and
    | with_reducible apply e_or
    | with_reducible apply e_if
    | with_reducible apply e_andv
    | with_reducible apply e_orv
    | with_reducible apply e_chn
    | with_reducible apply e_bnd
    | with_reducible apply e_oS
    | with_reducible apply e_strO
    | with_reducible apply e_ofL
    | with_reducible apply e_mkL
    | with_reducible apply e_mkT
    | with_reducible exact e_add
    | with_reducible exact e_sub
    | with_reducible exact e_neg
    | with_reducible exact e_abs
    | with_reducible exact e_intI
    | with_reducible exact e_intT
    | with_reducible exact e_intF
    | with_reducible exact e_intB
    | with_reducible exact e_max
    | with_reducible exact e_min
    | with_reducible exact e_lenL
    | with_reducible exact e_lenT
    | with_reducible exact e_slen
    | with_reducible exact e_tupL
    | with_reducible exact e_slL
    | with_reducible exact e_slT
    | with_reducible exact e_rev
    | with_reducible exact e_isT
    | with_reducible exact e_isntF
    | with_reducible exact e_strS
    | with_reducible exact e_ix0L
    | with_reducible exact e_ix0T
    | ((with_reducible apply e_isF); rfl)
    | ((with_reducible apply e_isntT); rfl)
    | ((with_reducible apply e_ltT); (first | assumption | omega | (simp only [List.length_cons, List.length_nil, List.length_map]; omega)))
    | ((with_reducible apply e_ltF); (first | assumption | omega | (simp only [List.length_cons, List.length_nil, List.length_map]; omega)))
    | ((with_reducible apply e_leT); (first | assumption | omega | (simp only [List.length_cons, List.length_nil, List.length_map]; omega)))
    | ((with_reducible apply e_leF); (first | assumption | omega | (simp only [List.length_cons, List.length_nil, List.length_map]; omega)))
    | ((with_reducible apply e_gtT); (first | assumption | omega | (simp only [List.length_cons, List.length_nil, List.length_map]; omega)))
    | ((with_reducible apply e_gtF); (first | assumption | omega | (simp only [List.length_cons, List.length_nil, List.length_map]; omega)))
    | ((with_reducible apply e_geT); (first | assumption | omega | (simp only [List.length_cons, List.length_nil, List.length_map]; omega)))
    | ((with_reducible apply e_geF); (first | assumption | omega | (simp only [List.length_cons, List.length_nil, List.length_map]; omega)))
    | ((with_reducible apply e_eqIT); (first | assumption | omega | (simp only [List.length_cons, List.length_nil, List.length_map]; omega)))
    | ((with_reducible apply e_eqIF); (first | assumption | omega | (simp only [List.length_cons, List.length_nil, List.length_map]; omega)))
    | ((with_reducible apply e_neIT); (first | assumption | omega | (simp only [List.length_cons, List.length_nil, List.length_map]; omega)))
    | ((with_reducible apply e_neIF); (first | assumption | omega | (simp only [List.length_cons, List.length_nil, List.length_map]; omega)))
    | ((with_reducible apply e_eqST); (first | rfl | assumption | decide | decide +kernel))
    | ((with_reducible apply e_eqSF); (first | rfl | assumption | decide | decide +kernel))
    | ((with_reducible apply e_neST); (first | rfl | assumption | decide | decide +kernel))
    | ((with_reducible apply e_neSF); (first | rfl | assumption | decide | decide +kernel))
    | ((with_reducible apply e_mod); (first | assumption | omega | (simp only [List.length_cons, List.length_nil, List.length_map]; omega)))
    | ((with_reducible apply e_fdiv); (first | assumption | omega | (simp only [List.length_cons, List.length_nil, List.length_map]; omega)))
    | ((with_reducible apply e_mul); (first | assumption | omega | (simp only [List.length_cons, List.length_nil, List.length_map]; omega)))
    | ((with_reducible apply e_pixS); rfl)
    | ((with_reducible apply e_ixL); rfl)
    | ((with_reducible apply e_ixT); rfl)
    | ((with_reducible apply e_dget); rfl)
    | (rw [sizeLine_eq]; simp only [List.length_cons, List.length_nil]; omega)
    | ((show List.map _ _ = (_ : List L2.Key)); rfl)
    | with_reducible apply e_asg
    | with_reducible apply e_ret
    | with_reducible apply e_exp
    | with_reducible apply e_par
    | with_reducible apply e_par3
    | with_reducible apply e_retPot
    | with_reducible apply e_sif
    | with_reducible apply e_sq)
        · exact hm
        · exact .inr (.inr ⟨rfl, rfl⟩)
      have hsq : 0 ≤ (c + 1) * (c + 1) ∧ (c + 1) * (c + 1) ≤ 1000000 * 1000000 := ⟨Int.mul_nonneg (by omega) (by omega), Int.mul_le_mul (by omega) (by omega) (by omega) (by omega)⟩
      repeat' (first
    | ((with_reducible apply e_pix hm2); rfl)
      | with_reducible exact e_ixL hpr
      | with_reducible apply e_pow
    | with_reducible exact okr
    | with_reducible exact retr
    | with_reducible exact e_kC
    | with_reducible exact e_aNil
    | with_reducible exact e_nil
    | with_reducible exact e_evN
    | with_reducible exact e_oN
    | with_reducible exact n_t
    | with_reducible exact n_f
    | with_reducible exact sq_r
    | with_reducible apply pk_t
    | with_reducible apply pk_f
    | with_reducible apply sq_n
    | ((with_reducible apply e_vF); rfl)
    | ((with_reducible apply e_vW); rfl)
    | ((with_reducible apply e_vWo); rfl)
    | ((with_reducible apply e_vWd); rfl)
    | with_reducible apply e_b1
    | with_reducible apply e_b2
    | with_reducible apply e_b3
    | with_reducible apply e_aCons
    | with_reducible apply e_evC
    | with_reducible apply e_mkD2
    | with_reducible apply e_toB
    | with_reducible apply e_ofB
    | with_reducible apply e_not
    | with_reducible apply e_notv
    | with_reducible apply e_and
    | with_reducible apply e_or
    | with_reducible apply e_if
    | with_reducible apply e_andv
    | with_reducible apply e_orv
    | with_reducible apply e_chn
    | with_reducible apply e_bnd
    | with_reducible apply e_oS
    | with_reducible apply e_strO
    | with_reducible apply e_ofL
    | with_reducible apply e_mkL
    | with_reducible apply e_mkT
    | with_reducible exact e_add
    | with_reducible exact e_sub
    | with_reducible exact e_neg
    | with_reducible exact e_abs
    | with_reducible exact e_intI
    | with_reducible exact e_intT
    | with_reducible exact e_intF
    | with_reducible exact e_intB
    | with_reducible exact e_max
    | with_reducible exact e_min
    | with_reducible exact e_lenL
    | with_reducible exact e_lenT
    | with_reducible exact e_slen
    | with_reducible exact e_tupL
    | with_reducible exact e_slL
    | with_reducible exact e_slT
    | with_reducible exact e_rev
    | with_reducible exact e_isT
    | with_reducible exact e_isntF
    | with_reducible exact e_strS
    | with_reducible exact e_ix0L
    | with_reducible exact e_ix0T
    | ((with_reducible apply e_isF); rfl)
    | ((with_reducible apply e_isntT); rfl)
    | ((with_reducible apply e_ltT); (first | assumption | omega | (simp only [List.length_cons, List.length_nil, List.length_map]; omega)))
    | ((with_reducible apply e_ltF); (first | assumption | omega | (simp only [List.length_cons, List.length_nil, List.length_map]; omega)))
    | ((with_reducible apply e_leT); (first | assumption | omega | (simp only [List.length_cons, List.length_nil, List.length_map]; omega)))
    | ((with_reducible apply e_leF); (first | assumption | omega | (simp only [List.length_cons, List.length_nil, List.length_map]; omega)))
    | ((with_reducible apply e_gtT); (first | assumption | omega | (simp only [List.length_cons, List.length_nil, List.length_map]; omega)))
    | ((with_reducible apply e_gtF); (first | assumption | omega | (simp only [List.length_cons, List.length_nil, List.length_map]; omega)))
    | ((with_reducible apply e_geT); (first | assumption | omega | (simp only [List.length_cons, List.length_nil, List.length_map]; omega)))
    | ((with_reducible apply e_geF); (first | assumption | omega | (simp only [List.length_cons, List.length_nil, List.length_map]; omega)))
    | ((with_reducible apply e_eqIT); (first | assumption | omega | (simp only [List.length_cons, List.length_nil, List.length_map]; omega)))
    | ((with_reducible apply e_eqIF); (first | assumption | omega | (simp only [List.length_cons, List.length_nil, List.length_map]; omega)))
    | ((with_reducible apply e_neIT); (first | assumption | omega | (simp only [List.length_cons, List.length_nil, List.length_map]; omega)))
    | ((with_reducible apply e_neIF); (first | assumption | omega | (simp only [List.length_cons, List.length_nil, List.length_map]; omega)))
    | ((with_reducible apply e_eqST); (first | rfl | assumption | decide | decide +kernel))
    | ((with_reducible apply e_eqSF); (first | rfl | assumption | decide | decide +kernel))
    | ((with_reducible apply e_neST); (first | rfl | assumption | decide | decide +kernel))
    | ((with_reducible apply e_neSF); (first | rfl | assumption | decide | decide +kernel))
    | ((with_reducible apply e_mod); (first | assumption | omega | (simp only [List.length_cons, List.length_nil, List.length_map]; omega)))
    | ((with_reducible apply e_fdiv); (first | assumption | omega | (simp only [List.length_cons, List.length_nil, List.length_map]; omega)))
    | ((with_reducible apply e_mul); (first | assumption | omega | (simp only [List.length_cons, List.length_nil, List.length_map]; omega)))
    | ((with_reducible apply e_pixS); rfl)
    | ((with_reducible apply e_ixL); rfl)
    | ((with_reducible apply e_ixT); rfl)
    | ((with_reducible apply e_dget); rfl)
    | (rw [sizeLine_eq]; simp only [List.length_cons, List.length_nil]; omega)
    | ((show List.map _ _ = (_ : List L2.Key)); rfl)
    | with_reducible apply e_asg
    | with_reducible apply e_ret
    | with_reducible apply e_exp
    | with_reducible apply e_par
    | with_reducible apply e_par3
    | with_reducible apply e_retPot
    | with_reducible apply e_sif
    | with_reducible apply e_sq)
      · decide
      · refine bits_small ⟨?_, ?_⟩
        · rw [Int.mul_assoc]; omega
        · rw [Int.mul_assoc]; omega
    · exact ⟨_, 0, c + 1, rfl, rfl, Int.emod_nonneg _ (by omega), Int.emod_lt_of_pos _ (by omega), Int.le_refl _, by omega, Int.le_refl _⟩
end Gen
section
set_option linter.all false
set_option maxRecDepth 100000
set_option maxHeartbeats 4000000
namespace Gen
open PySem MT L2 TL
theorem number_ok {i : Int} {m : Mem} (h : i.natAbs < 10 ^ 20) : m_number_in [.str (numS i)] m = .ok (.int i) m := by
  have hl := numS_len (k := 20) (by decide) h
  have hf := numL_len (by decide) h
  have htl := tl_rmp i
  have hfl : (Txt.removeprefix (numS i) "-").length = (numL i.natAbs).length := by rw [len_tl, htl]
  have hne : 1 ≤ (numL i.natAbs).length := by
    have := numL_ne i.natAbs
    cases q : numL i.natAbs with
    | nil => exact absurd q this
    | cons _ _ => simp
  have hcs : chars (Txt.removeprefix (numS i) "-") = (numL i.natAbs).map fun c => .str ⟨#[c]⟩ := by
    unfold chars
    rw [show (Txt.removeprefix (numS i) "-").cps.toList = numL i.natAbs from htl]
  have dig : tl (Str.ofString "0123456789") = [48, 49, 50, 51, 52, 53, 54, 55, 56, 57] := by rw [tl_ofString]; rfl
  have hcomp : compF (seqI (vF 1)) (tgN 2) kT (bind2 (vW 2) (kC (.str "0123456789")) inD) [2] ((enOf 3 [.str (numS i)]).set 1 (.fz (.str (Txt.removeprefix (numS i) "-")))) m = .ok ((chars (Txt.removeprefix (numS i) "-")).map fun _ => .bl true) m := by
    apply e_comp
    · apply e_seqS
      apply e_vF
      rfl
    · rw [hcs, List.length_map, sizeLine_eq]; omega
    · refine (comp_map (g := fun _ => .bl true) fun d hd => ?_).trans (by rw [List.nil_append])
      rw [hcs] at hd
      obtain ⟨c, hc, rfl⟩ := List.mem_map.mp hd
      have h1 := numL_digits i.natAbs c hc
      refine ⟨_, rfl, ?_⟩
      apply e_b2
      · apply e_vW
        rfl
      · exact e_kC
      · rw [e_in1, dig, decide_eq_true]
        simp only [List.mem_cons, List.not_mem_nil, or_false]
        omega
  have hall : allD [.lst ((chars (Txt.removeprefix (numS i) "-")).map fun _ => .bl true)] m = .ok (.bl true) m := e_allT fun x hx => by
    obtain ⟨_, _, rfl⟩ := List.mem_map.mp hx
    rfl
  obtain ⟨c, hc, hc0⟩ : ∃ c, atI (Txt.removeprefix (numS i) "-").cps.toList 0 = some c ∧ ((⟨#[c]⟩ : Str) = "0" → numS i = "0") := by
    have e : (Txt.removeprefix (numS i) "-").cps.toList = numL i.natAbs := htl
    rw [e]
    by_cases z : i = 0
    · subst z
      exact ⟨48, rfl, fun _ => rfl⟩
    · obtain ⟨c, l, q, ne⟩ := numL_head i.natAbs (by omega)
      rw [q]
      refine ⟨c, by unfold atI; simp [ixN], fun he => absurd ?_ ne⟩
      have := congrArg tl he
      rw [tl_ofString] at this
      have q2 : [c] = [48] := this
      simpa using q2
  have hint := numS_int h
  apply e_run rfl
  unfold b_number_in
  have hzl : (Txt.removeprefix (numS i) "-").length ≤ sizeLine := by rw [sizeLine_eq]; omega
  have hin : intD [.str (numS i)] m = .ok (.int i) m := e_intS (by omega) hint
  by_cases z : (⟨#[c]⟩ : Str) = "0"
  · have hz := hc0 z
    repeat' (first
    | ((with_reducible apply e_rmp); (rw [sizeLine_eq]; omega))
      | ((with_reducible apply e_lenS); exact hzl)
      | with_reducible exact hcomp
      | with_reducible exact hall
      | with_reducible exact e_ixS hzl hc
      | with_reducible exact hin
    | with_reducible exact okr
    | with_reducible exact retr
    | with_reducible exact e_kC
    | with_reducible exact e_aNil
    | with_reducible exact e_nil
    | with_reducible exact e_evN
    | with_reducible exact e_oN
    | with_reducible exact n_t
    | with_reducible exact n_f
    | with_reducible exact sq_r
    | with_reducible apply pk_t
    | with_reducible apply pk_f
    | with_reducible apply sq_n
    | ((with_reducible apply e_vF); rfl)
    | ((with_reducible apply e_vW); rfl)
    | ((with_reducible apply e_vWo); rfl)
    | ((with_reducible apply e_vWd); rfl)
    | with_reducible apply e_b1
    | with_reducible apply e_b2
    | with_reducible apply e_b3
    | with_reducible apply e_aCons
    | with_reducible apply e_evC
    | with_reducible apply e_mkD2
    | with_reducible apply e_toB
    | with_reducible apply e_ofB
    | with_reducible apply e_not
    | with_reducible apply e_notv
    | with_reducible apply e_and
    | with_reducible apply e_or
    | with_reducible apply e_if
    | with_reducible apply e_andv
    | with_reducible apply e_orv
    | with_reducible apply e_chn
    | with_reducible apply e_bnd
    | with_reducible apply e_oS
    | with_reducible apply e_strO
    | with_reducible apply e_ofL
    | with_reducible apply e_mkL
    | with_reducible apply e_mkT
    | with_reducible exact e_add
    | with_reducible exact e_sub
    | with_reducible exact e_neg
    | with_reducible exact e_abs
    | with_reducible exact e_intI
    | with_reducible exact e_intT
    | with_reducible exact e_intF
    | with_reducible exact e_intB
    | with_reducible exact e_max
    | with_reducible exact e_min
    | with_reducible exact e_lenL
    | with_reducible exact e_lenT
    | with_reducible exact e_slen
    | with_reducible exact e_tupL
    | with_reducible exact e_slL
    | with_reducible exact e_slT
    | with_reducible exact e_rev
    | with_reducible exact e_isT
    | with_reducible exact e_isntF
    | with_reducible exact e_strS
    | with_reducible exact e_ix0L
    | with_reducible exact e_ix0T
    | ((with_reducible apply e_isF); rfl)
    | ((with_reducible apply e_isntT); rfl)
    | ((with_reducible apply e_ltT); (first | assumption | omega | (simp only [List.length_cons, List.length_nil, List.length_map]; omega)))
    | ((with_reducible apply e_ltF); (first | assumption | omega | (simp only [List.length_cons, List.length_nil, List.length_map]; omega)))
    | ((with_reducible apply e_leT); (first | assumption | omega | (simp only [List.length_cons, List.length_nil, List.length_map]; omega)))
    | ((with_reducible apply e_leF); (first | assumption | omega | (simp only [List.length_cons, List.length_nil, List.length_map]; omega)))
    | ((with_reducible apply e_gtT); (first | assumption | omega | (simp only [List.length_cons, List.length_nil, List.length_map]; omega)))
    | ((with_reducible apply e_gtF); (first | assumption | omega | (simp only [List.length_cons, List.length_nil, List.length_map]; omega)))
    | ((with_reducible apply e_geT); (first | assumption | omega | (simp only [List.length_cons, List.length_nil, List.length_map]; omega)))
    | ((with_reducible apply e_geF); (first | assumption | omega | (simp only [List.length_cons, List.length_nil, List.length_map]; omega)))
    | ((with_reducible apply e_eqIT); (first | assumption | omega | (simp only [List.length_cons, List.length_nil, List.length_map]; omega)))
    | ((with_reducible apply e_eqIF); (first | assumption | omega | (simp only [List.length_cons, List.length_nil, List.length_map]; omega)))
    | ((with_reducible apply e_neIT); (first | assumption | omega | (simp only [List.length_cons, List.length_nil, List.length_map]; omega)))
    | ((with_reducible apply e_neIF); (first | assumption | omega | (simp only [List.length_cons, List.length_nil, List.length_map]; omega)))
    | ((with_reducible apply e_eqST); (first | rfl | assumption | decide | decide +kernel))
    | ((with_reducible apply e_eqSF); (first | rfl | assumption | decide | decide +kernel))
    | ((with_reducible apply e_neST); (first | rfl | assumption | decide | decide +kernel))
    | ((with_reducible apply e_neSF); (first | rfl | assumption | decide | decide +kernel))
    | ((with_reducible apply e_mod); (first | assumption | omega | (simp only [List.length_cons, List.length_nil, List.length_map]; omega)))
    | ((with_reducible apply e_fdiv); (first | assumption | omega | (simp only [List.length_cons, List.length_nil, List.length_map]; omega)))
    | ((with_reducible apply e_mul); (first | assumption | omega | (simp only [List.length_cons, List.length_nil, List.length_map]; omega)))
    | ((with_reducible apply e_pixS); rfl)
    | ((with_reducible apply e_ixL); rfl)
    | ((with_reducible apply e_ixT); rfl)
    | ((with_reducible apply e_dget); rfl)
    | (rw [sizeLine_eq]; simp only [List.length_cons, List.length_nil]; omega)
    | ((show List.map _ _ = (_ : List L2.Key)); rfl)
    | with_reducible apply e_asg
    | with_reducible apply e_ret
    | with_reducible apply e_exp
    | with_reducible apply e_par
    | with_reducible apply e_par3
    | with_reducible apply e_retPot
    | with_reducible apply e_sif
    | with_reducible apply e_sq)
  · repeat' (first
    | ((with_reducible apply e_rmp); (rw [sizeLine_eq]; omega))
      | ((with_reducible apply e_lenS); exact hzl)
      | with_reducible exact hcomp
      | with_reducible exact hall
      | with_reducible exact e_ixS hzl hc
      | with_reducible exact hin
    | with_reducible exact okr
    | with_reducible exact retr
    | with_reducible exact e_kC
    | with_reducible exact e_aNil
    | with_reducible exact e_nil
    | with_reducible exact e_evN
    | with_reducible exact e_oN
    | with_reducible exact n_t
    | with_reducible exact n_f
    | with_reducible exact sq_r
    | with_reducible apply pk_t
    | with_reducible apply pk_f
    | with_reducible apply sq_n
    | ((with_reducible apply e_vF); rfl)
    | ((with_reducible apply e_vW); rfl)
    | ((with_reducible apply e_vWo); rfl)
    | ((with_reducible apply e_vWd); rfl)
    | with_reducible apply e_b1
    | with_reducible apply e_b2
    | with_reducible apply e_b3
    | with_reducible apply e_aCons
    | with_reducible apply e_evC
    | with_reducible apply e_mkD2
    | with_reducible apply e_toB
    | with_reducible apply e_ofB
    | with_reducible apply e_not
    | with_reducible apply e_notv
    | with_reducible apply e_and
    | with_reducible apply e_or
    | with_reducible apply e_if
    | with_reducible apply e_andv
    | with_reducible apply e_orv
    | with_reducible apply e_chn
    | with_reducible apply e_bnd
    | with_reducible apply e_oS
    | with_reducible apply e_strO
    | with_reducible apply e_ofL
    | with_reducible apply e_mkL
    | with_reducible apply e_mkT
    | with_reducible exact e_add
    | with_reducible exact e_sub
    | with_reducible exact e_neg
    | with_reducible exact e_abs
    | with_reducible exact e_intI
    | with_reducible exact e_intT
    | with_reducible exact e_intF
    | with_reducible exact e_intB
    | with_reducible exact e_max
    | with_reducible exact e_min
    | with_reducible exact e_lenL
    | with_reducible exact e_lenT
    | with_reducible exact e_slen
    | with_reducible exact e_tupL
    | with_reducible exact e_slL
    | with_reducible exact e_slT
    | with_reducible exact e_rev
    | with_reducible exact e_isT
    | with_reducible exact e_isntF
    | with_reducible exact e_strS
    | with_reducible exact e_ix0L
    | with_reducible exact e_ix0T
    | ((with_reducible apply e_isF); rfl)
    | ((with_reducible apply e_isntT); rfl)
    | ((with_reducible apply e_ltT); (first | assumption | omega | (simp only [List.length_cons, List.length_nil, List.length_map]; omega)))
    | ((with_reducible apply e_ltF); (first | assumption | omega | (simp only [List.length_cons, List.length_nil, List.length_map]; omega)))
    | ((with_reducible apply e_leT); (first | assumption | omega | (simp only [List.length_cons, List.length_nil, List.length_map]; omega)))
    | ((with_reducible apply e_leF); (first | assumption | omega | (simp only [List.length_cons, List.length_nil, List.length_map]; omega)))
    | ((with_reducible apply e_gtT); (first | assumption | omega | (simp only [List.length_cons, List.length_nil, List.length_map]; omega)))
    | ((with_reducible apply e_gtF); (first | assumption | omega | (simp only [List.length_cons, List.length_nil, List.length_map]; omega)))
    | ((with_reducible apply e_geT); (first | assumption | omega | (simp only [List.length_cons, List.length_nil, List.length_map]; omega)))
    | ((with_reducible apply e_geF); (first | assumption | omega | (simp only [List.length_cons, List.length_nil, List.length_map]; omega)))
    | ((with_reducible apply e_eqIT); (first | assumption | omega | (simp only [List.length_cons, List.length_nil, List.length_map]; omega)))
    | ((with_reducible apply e_eqIF); (first | assumption | omega | (simp only [List.length_cons, List.length_nil, List.length_map]; omega)))
    | ((with_reducible apply e_neIT); (first | assumption | omega | (simp only [List.length_cons, List.length_nil, List.length_map]; omega)))
    | ((with_reducible apply e_neIF); (first | assumption | omega | (simp only [List.length_cons, List.length_nil, List.length_map]; omega)))
    | ((with_reducible apply e_eqST); (first | rfl | assumption | decide | decide +kernel))
    | ((with_reducible apply e_eqSF); (first | rfl | assumption | decide | decide +kernel))
    | ((with_reducible apply e_neST); (first | rfl | assumption | decide | decide +kernel))
    | ((with_reducible apply e_neSF); (first | rfl | assumption | decide | decide +kernel))
    | ((with_reducible apply e_mod); (first | assumption | omega | (simp only [List.length_cons, List.length_nil, List.length_map]; omega)))
    | ((with_reducible apply e_fdiv); (first | assumption | omega | (simp only [List.length_cons, List.length_nil, List.length_map]; omega)))
    | ((with_reducible apply e_mul); (first | assumption | omega | (simp only [List.length_cons, List.length_nil, List.length_map]; omega)))
    | ((with_reducible apply e_pixS); rfl)
    | ((with_reducible apply e_ixL); rfl)
    | ((with_reducible apply e_ixT); rfl)
    | ((with_reducible apply e_dget); rfl)
    | (rw [sizeLine_eq]; simp only [List.length_cons, List.length_nil]; omega)
    | ((show List.map _ _ = (_ : List L2.Key)); rfl)
    | with_reducible apply e_asg
    | with_reducible apply e_ret
    | with_reducible apply e_exp
    | with_reducible apply e_par
    | with_reducible apply e_par3
    | with_reducible apply e_retPot
    | with_reducible apply e_sif
    | with_reducible apply e_sq)
theorem place_ok {p : Int} {m : Mem} (h : p % 2 = 0) (h1 : -1000000000000 ≤ p) (h2 : p ≤ 1000000000000) : m_is_place [.int p] m = .ok (.bl true) m := by
  apply e_run rfl
  unfold b_is_place
  repeat' (first
    | with_reducible exact okr
    | with_reducible exact retr
    | with_reducible exact e_kC
    | with_reducible exact e_aNil
    | with_reducible exact e_nil
    | with_reducible exact e_evN
    | with_reducible exact e_oN
    | with_reducible exact n_t
    | with_reducible exact n_f
    | with_reducible exact sq_r
    | with_reducible apply pk_t
    | with_reducible apply pk_f
    | with_reducible apply sq_n
    | ((with_reducible apply e_vF); rfl)
    | ((with_reducible apply e_vW); rfl)
    | ((with_reducible apply e_vWo); rfl)
    | ((with_reducible apply e_vWd); rfl)
    | with_reducible apply e_b1
    | with_reducible apply e_b2
    | with_reducible apply e_b3
    | with_reducible apply e_aCons
    | with_reducible apply e_evC
    | with_reducible apply e_mkD2
    | with_reducible apply e_toB
    | with_reducible apply e_ofB
    | with_reducible apply e_not
    | with_reducible apply e_notv
    | with_reducible apply e_and
    | with_reducible apply e_or
    | with_reducible apply e_if
    | with_reducible apply e_andv
    | with_reducible apply e_orv
    | with_reducible apply e_chn
    | with_reducible apply e_bnd
    | with_reducible apply e_oS
    | with_reducible apply e_strO
    | with_reducible apply e_ofL
    | with_reducible apply e_mkL
    | with_reducible apply e_mkT
    | with_reducible exact e_add
    | with_reducible exact e_sub
    | with_reducible exact e_neg
    | with_reducible exact e_abs
    | with_reducible exact e_intI
    | with_reducible exact e_intT
    | with_reducible exact e_intF
    | with_reducible exact e_intB
    | with_reducible exact e_max
    | with_reducible exact e_min
    | with_reducible exact e_lenL
    | with_reducible exact e_lenT
    | with_reducible exact e_slen
    | with_reducible exact e_tupL
    | with_reducible exact e_slL
    | with_reducible exact e_slT
    | with_reducible exact e_rev
    | with_reducible exact e_isT
    | with_reducible exact e_isntF
    | with_reducible exact e_strS
    | with_reducible exact e_ix0L
    | with_reducible exact e_ix0T
    | ((with_reducible apply e_isF); rfl)
    | ((with_reducible apply e_isntT); rfl)
    | ((with_reducible apply e_ltT); (first | assumption | omega | (simp only [List.length_cons, List.length_nil, List.length_map]; omega)))
    | ((with_reducible apply e_ltF); (first | assumption | omega | (simp only [List.length_cons, List.length_nil, List.length_map]; omega)))
    | ((with_reducible apply e_leT); (first | assumption | omega | (simp only [List.length_cons, List.length_nil, List.length_map]; omega)))
    | ((with_reducible apply e_leF); (first | assumption | omega | (simp only [List.length_cons, List.length_nil, List.length_map]; omega)))
    | ((with_reducible apply e_gtT); (first | assumption | omega | (simp only [List.length_cons, List.length_nil, List.length_map]; omega)))
    | ((with_reducible apply e_gtF); (first | assumption | omega | (simp only [List.length_cons, List.length_nil, List.length_map]; omega)))
    | ((with_reducible apply e_geT); (first | assumption | omega | (simp only [List.length_cons, List.length_nil, List.length_map]; omega)))
    | ((with_reducible apply e_geF); (first | assumption | omega | (simp only [List.length_cons, List.length_nil, List.length_map]; omega)))
    | ((with_reducible apply e_eqIT); (first | assumption | omega | (simp only [List.length_cons, List.length_nil, List.length_map]; omega)))
    | ((with_reducible apply e_eqIF); (first | assumption | omega | (simp only [List.length_cons, List.length_nil, List.length_map]; omega)))
    | ((with_reducible apply e_neIT); (first | assumption | omega | (simp only [List.length_cons, List.length_nil, List.length_map]; omega)))
    | ((with_reducible apply e_neIF); (first | assumption | omega | (simp only [List.length_cons, List.length_nil, List.length_map]; omega)))
    | ((with_reducible apply e_eqST); (first | rfl | assumption | decide | decide +kernel))
    | ((with_reducible apply e_eqSF); (first | rfl | assumption | decide | decide +kernel))
    | ((with_reducible apply e_neST); (first | rfl | assumption | decide | decide +kernel))
    | ((with_reducible apply e_neSF); (first | rfl | assumption | decide | decide +kernel))
    | ((with_reducible apply e_mod); (first | assumption | omega | (simp only [List.length_cons, List.length_nil, List.length_map]; omega)))
    | ((with_reducible apply e_fdiv); (first | assumption | omega | (simp only [List.length_cons, List.length_nil, List.length_map]; omega)))
    | ((with_reducible apply e_mul); (first | assumption | omega | (simp only [List.length_cons, List.length_nil, List.length_map]; omega)))
    | ((with_reducible apply e_pixS); rfl)
    | ((with_reducible apply e_ixL); rfl)
    | ((with_reducible apply e_ixT); rfl)
    | ((with_reducible apply e_dget); rfl)
    | (rw [sizeLine_eq]; simp only [List.length_cons, List.length_nil]; omega)
    | ((show List.map _ _ = (_ : List L2.Key)); rfl)
    | with_reducible apply e_asg
    | with_reducible apply e_ret
    | with_reducible apply e_exp
    | with_reducible apply e_par
    | with_reducible apply e_par3
    | with_reducible apply e_retPot
    | with_reducible apply e_sif
    | with_reducible apply e_sq)
theorem end_ok {w : Str} {e : EndK} {m : Mem} (hw : w = "left" ∨ w = "right") (h : ∀ p, e.at = some p → okP p) : m_end_in [.str (lineS w e), .str w] m = .ok e.d m := by
  have wd : Wd w := by rcases hw with rfl | rfl <;> exact wd_lit (by decide)
  have hsw : PyData.strOk w = true := by rcases hw with rfl | rfl <;> decide +kernel
  obtain ⟨h1, h2, h3, h4⟩ := line_end (w := w) h wd
  have hsp : splitD (.str (lineS w e)) [.str " "] m = .ok (.lst ((w :: e.words).map .str)) m := by
    rw [e_split (by decide +kernel) (by rw [sizeLine_eq]; omega), h1]
  have hf : PyData.strOk (Str.ofString "free") = true := by decide +kernel
  cases e with
  | free =>
    show m_end_in [.str (lineS w .free), .str w] m = .ok (.tup [.str "free"]) m
    have hsp : splitD (.str (lineS w .free)) [.str " "] m = .ok (.lst [.str w, .str "free"]) m := hsp
    have heq : eqD (.lst [.str w, .str "free"]) (.lst [.str w, .str "free"]) m = .ok (.bl true) m := by
      apply e_eqT
      · simp [eqOk, datOk, isDat, isDats, dep, deps, hsw, hf]
      · simp [eqB, eqBs]
    apply e_run rfl
    unfold b_end_in
    repeat' (first
    | with_reducible exact hsp
      | with_reducible exact heq
    | with_reducible exact okr
    | with_reducible exact retr
    | with_reducible exact e_kC
    | with_reducible exact e_aNil
    | with_reducible exact e_nil
    | with_reducible exact e_evN
    | with_reducible exact e_oN
    | with_reducible exact n_t
    | with_reducible exact n_f
    | with_reducible exact sq_r
    | with_reducible apply pk_t
    | with_reducible apply pk_f
    | with_reducible apply sq_n
    | ((with_reducible apply e_vF); rfl)
    | ((with_reducible apply e_vW); rfl)
    | ((with_reducible apply e_vWo); rfl)
    | ((with_reducible apply e_vWd); rfl)
    | with_reducible apply e_b1
    | with_reducible apply e_b2
    | with_reducible apply e_b3
    | with_reducible apply e_aCons
    | with_reducible apply e_evC
    | with_reducible apply e_mkD2
    | with_reducible apply e_toB
    | with_reducible apply e_ofB
    | with_reducible apply e_not
    | with_reducible apply e_notv
    | with_reducible apply e_and
    | with_reducible apply e_or
    | with_reducible apply e_if
    | with_reducible apply e_andv
    | with_reducible apply e_orv
    | with_reducible apply e_chn
    | with_reducible apply e_bnd
    | with_reducible apply e_oS
    | with_reducible apply e_strO
    | with_reducible apply e_ofL
    | with_reducible apply e_mkL
    | with_reducible apply e_mkT
    | with_reducible exact e_add
    | with_reducible exact e_sub
    | with_reducible exact e_neg
    | with_reducible exact e_abs
    | with_reducible exact e_intI
    | with_reducible exact e_intT
    | with_reducible exact e_intF
    | with_reducible exact e_intB
    | with_reducible exact e_max
    | with_reducible exact e_min
    | with_reducible exact e_lenL
    | with_reducible exact e_lenT
    | with_reducible exact e_slen
    | with_reducible exact e_tupL
    | with_reducible exact e_slL
    | with_reducible exact e_slT
    | with_reducible exact e_rev
    | with_reducible exact e_isT
    | with_reducible exact e_isntF
    | with_reducible exact e_strS
    | with_reducible exact e_ix0L
    | with_reducible exact e_ix0T
    | ((with_reducible apply e_isF); rfl)
    | ((with_reducible apply e_isntT); rfl)
    | ((with_reducible apply e_ltT); (first | assumption | omega | (simp only [List.length_cons, List.length_nil, List.length_map]; omega)))
    | ((with_reducible apply e_ltF); (first | assumption | omega | (simp only [List.length_cons, List.length_nil, List.length_map]; omega)))
    | ((with_reducible apply e_leT); (first | assumption | omega | (simp only [List.length_cons, List.length_nil, List.length_map]; omega)))
    | ((with_reducible apply e_leF); (first | assumption | omega | (simp only [List.length_cons, List.length_nil, List.length_map]; omega)))
    | ((with_reducible apply e_gtT); (first | assumption | omega | (simp only [List.length_cons, List.length_nil, List.length_map]; omega)))
    | ((with_reducible apply e_gtF); (first | assumption | omega | (simp only [List.length_cons, List.length_nil, List.length_map]; omega)))
    | ((with_reducible apply e_geT); (first | assumption | omega | (simp only [List.length_cons, List.length_nil, List.length_map]; omega)))
    | ((with_reducible apply e_geF); (first | assumption | omega | (simp only [List.length_cons, List.length_nil, List.length_map]; omega)))
    | ((with_reducible apply e_eqIT); (first | assumption | omega | (simp only [List.length_cons, List.length_nil, List.length_map]; omega)))
    | ((with_reducible apply e_eqIF); (first | assumption | omega | (simp only [List.length_cons, List.length_nil, List.length_map]; omega)))
    | ((with_reducible apply e_neIT); (first | assumption | omega | (simp only [List.length_cons, List.length_nil, List.length_map]; omega)))
    | ((with_reducible apply e_neIF); (first | assumption | omega | (simp only [List.length_cons, List.length_nil, List.length_map]; omega)))
    | ((with_reducible apply e_eqST); (first | rfl | assumption | decide | decide +kernel))
    | ((with_reducible apply e_eqSF); (first | rfl | assumption | decide | decide +kernel))
    | ((with_reducible apply e_neST); (first | rfl | assumption | decide | decide +kernel))
    | ((with_reducible apply e_neSF); (first | rfl | assumption | decide | decide +kernel))
    | ((with_reducible apply e_mod); (first | assumption | omega | (simp only [List.length_cons, List.length_nil, List.length_map]; omega)))
    | ((with_reducible apply e_fdiv); (first | assumption | omega | (simp only [List.length_cons, List.length_nil, List.length_map]; omega)))
    | ((with_reducible apply e_mul); (first | assumption | omega | (simp only [List.length_cons, List.length_nil, List.length_map]; omega)))
    | ((with_reducible apply e_pixS); rfl)
    | ((with_reducible apply e_ixL); rfl)
    | ((with_reducible apply e_ixT); rfl)
    | ((with_reducible apply e_dget); rfl)
    | (rw [sizeLine_eq]; simp only [List.length_cons, List.length_nil]; omega)
    | ((show List.map _ _ = (_ : List L2.Key)); rfl)
    | with_reducible apply e_asg
    | with_reducible apply e_ret
    | with_reducible apply e_exp
    | with_reducible apply e_par
    | with_reducible apply e_par3
    | with_reducible apply e_retPot
    | with_reducible apply e_sif
    | with_reducible apply e_sq)
  | off p =>
    have hp := h p rfl
    have hn := number_ok (m := m) hp.nat
    have hpl := place_ok (m := m) hp.1 hp.2.1 hp.2.2
    have hsn := strOk_num p
    show m_end_in [.str (lineS w (.off p)), .str w] m = .ok (.tup [.str "off", .int p]) m
    have hsp : splitD (.str (lineS w (.off p))) [.str " "] m = .ok (.lst [.str w, .str "off", .str (numS p)]) m := hsp
    have heq : eqD (.lst [.str w, .str "off", .str (numS p)]) (.lst [.str w, .str "free"]) m = .ok (.bl false) m := by
      apply e_eqF
      · have ho : PyData.strOk (Str.ofString "off") = true := by decide +kernel
        simp [eqOk, datOk, isDat, isDats, dep, deps, hsw, hf, ho, hsn]
      · simp [eqB, eqBs]
    apply e_run rfl
    unfold b_end_in
    repeat' (first
    | with_reducible exact hsp
      | with_reducible exact heq
      | with_reducible exact hn
      | with_reducible exact hpl
      | (with_reducible exact nin_off)
    | with_reducible exact okr
    | with_reducible exact retr
    | with_reducible exact e_kC
    | with_reducible exact e_aNil
    | with_reducible exact e_nil
    | with_reducible exact e_evN
    | with_reducible exact e_oN
    | with_reducible exact n_t
    | with_reducible exact n_f
    | with_reducible exact sq_r
    | with_reducible apply pk_t
    | with_reducible apply pk_f
    | with_reducible apply sq_n
    | ((with_reducible apply e_vF); rfl)
    | ((with_reducible apply e_vW); rfl)
    | ((with_reducible apply e_vWo); rfl)
    | ((with_reducible apply e_vWd); rfl)
    | with_reducible apply e_b1
    | with_reducible apply e_b2
    | with_reducible apply e_b3
    | with_reducible apply e_aCons
    | with_reducible apply e_evC
    | with_reducible apply e_mkD2
    | with_reducible apply e_toB
    | with_reducible apply e_ofB
    | with_reducible apply e_not
    | with_reducible apply e_notv
    | with_reducible apply e_and
    | with_reducible apply e_or
    | with_reducible apply e_if
    | with_reducible apply e_andv
    | with_reducible apply e_orv
    | with_reducible apply e_chn
    | with_reducible apply e_bnd
    | with_reducible apply e_oS
    | with_reducible apply e_strO
    | with_reducible apply e_ofL
    | with_reducible apply e_mkL
    | with_reducible apply e_mkT
    | with_reducible exact e_add
    | with_reducible exact e_sub
    | with_reducible exact e_neg
    | with_reducible exact e_abs
    | with_reducible exact e_intI
    | with_reducible exact e_intT
    | with_reducible exact e_intF
    | with_reducible exact e_intB
    | with_reducible exact e_max
    | with_reducible exact e_min
    | with_reducible exact e_lenL
    | with_reducible exact e_lenT
    | with_reducible exact e_slen
    | with_reducible exact e_tupL
    | with_reducible exact e_slL
    | with_reducible exact e_slT
    | with_reducible exact e_rev
    | with_reducible exact e_isT
    | with_reducible exact e_isntF
    | with_reducible exact e_strS
    | with_reducible exact e_ix0L
    | with_reducible exact e_ix0T
    | ((with_reducible apply e_isF); rfl)
    | ((with_reducible apply e_isntT); rfl)
    | ((with_reducible apply e_ltT); (first | assumption | omega | (simp only [List.length_cons, List.length_nil, List.length_map]; omega)))
    | ((with_reducible apply e_ltF); (first | assumption | omega | (simp only [List.length_cons, List.length_nil, List.length_map]; omega)))
    | ((with_reducible apply e_leT); (first | assumption | omega | (simp only [List.length_cons, List.length_nil, List.length_map]; omega)))
    | ((with_reducible apply e_leF); (first | assumption | omega | (simp only [List.length_cons, List.length_nil, List.length_map]; omega)))
    | ((with_reducible apply e_gtT); (first | assumption | omega | (simp only [List.length_cons, List.length_nil, List.length_map]; omega)))
    | ((with_reducible apply e_gtF); (first | assumption | omega | (simp only [List.length_cons, List.length_nil, List.length_map]; omega)))
    | ((with_reducible apply e_geT); (first | assumption | omega | (simp only [List.length_cons, List.length_nil, List.length_map]; omega)))
    | ((with_reducible apply e_geF); (first | assumption | omega | (simp only [List.length_cons, List.length_nil, List.length_map]; omega)))
    | ((with_reducible apply e_eqIT); (first | assumption | omega | (simp only [List.length_cons, List.length_nil, List.length_map]; omega)))
    | ((with_reducible apply e_eqIF); (first | assumption | omega | (simp only [List.length_cons, List.length_nil, List.length_map]; omega)))
    | ((with_reducible apply e_neIT); (first | assumption | omega | (simp only [List.length_cons, List.length_nil, List.length_map]; omega)))
    | ((with_reducible apply e_neIF); (first | assumption | omega | (simp only [List.length_cons, List.length_nil, List.length_map]; omega)))
    | ((with_reducible apply e_eqST); (first | rfl | assumption | decide | decide +kernel))
    | ((with_reducible apply e_eqSF); (first | rfl | assumption | decide | decide +kernel))
    | ((with_reducible apply e_neST); (first | rfl | assumption | decide | decide +kernel))
    | ((with_reducible apply e_neSF); (first | rfl | assumption | decide | decide +kernel))
    | ((with_reducible apply e_mod); (first | assumption | omega | (simp only [List.length_cons, List.length_nil, List.length_map]; omega)))
    | ((with_reducible apply e_fdiv); (first | assumption | omega | (simp only [List.length_cons, List.length_nil, List.length_map]; omega)))
    | ((with_reducible apply e_mul); (first | assumption | omega | (simp only [List.length_cons, List.length_nil, List.length_map]; omega)))
    | ((with_reducible apply e_pixS); rfl)
    | ((with_reducible apply e_ixL); rfl)
    | ((with_reducible apply e_ixT); rfl)
    | ((with_reducible apply e_dget); rfl)
    | (rw [sizeLine_eq]; simp only [List.length_cons, List.length_nil]; omega)
    | ((show List.map _ _ = (_ : List L2.Key)); rfl)
    | with_reducible apply e_asg
    | with_reducible apply e_ret
    | with_reducible apply e_exp
    | with_reducible apply e_par
    | with_reducible apply e_par3
    | with_reducible apply e_retPot
    | with_reducible apply e_sif
    | with_reducible apply e_sq)
  | wall p =>
    have hp := h p rfl
    have hn := number_ok (m := m) hp.nat
    have hpl := place_ok (m := m) hp.1 hp.2.1 hp.2.2
    have hsn := strOk_num p
    show m_end_in [.str (lineS w (.wall p)), .str w] m = .ok (.tup [.str "wall", .int p]) m
    have hsp : splitD (.str (lineS w (.wall p))) [.str " "] m = .ok (.lst [.str w, .str "wall", .str (numS p)]) m := hsp
    have heq : eqD (.lst [.str w, .str "wall", .str (numS p)]) (.lst [.str w, .str "free"]) m = .ok (.bl false) m := by
      apply e_eqF
      · have ho : PyData.strOk (Str.ofString "wall") = true := by decide +kernel
        simp [eqOk, datOk, isDat, isDats, dep, deps, hsw, hf, ho, hsn]
      · simp [eqB, eqBs]
    apply e_run rfl
    unfold b_end_in
    repeat' (first
    | with_reducible exact hsp
      | with_reducible exact heq
      | with_reducible exact hn
      | with_reducible exact hpl
      | (with_reducible exact nin_wall)
    | with_reducible exact okr
    | with_reducible exact retr
    | with_reducible exact e_kC
    | with_reducible exact e_aNil
    | with_reducible exact e_nil
    | with_reducible exact e_evN
    | with_reducible exact e_oN
    | with_reducible exact n_t
    | with_reducible exact n_f
    | with_reducible exact sq_r
    | with_reducible apply pk_t
    | with_reducible apply pk_f
    | with_reducible apply sq_n
    | ((with_reducible apply e_vF); rfl)
    | ((with_reducible apply e_vW); rfl)
    | ((with_reducible apply e_vWo); rfl)
    | ((with_reducible apply e_vWd); rfl)
    | with_reducible apply e_b1
    | with_reducible apply e_b2
    | with_reducible apply e_b3
    | with_reducible apply e_aCons
    | with_reducible apply e_evC
    | with_reducible apply e_mkD2
    | with_reducible apply e_toB
    | with_reducible apply e_ofB
    | with_reducible apply e_not
    | with_reducible apply e_notv
    | with_reducible apply e_and
    | with_reducible apply e_or
    | with_reducible apply e_if
    | with_reducible apply e_andv
    | with_reducible apply e_orv
    | with_reducible apply e_chn
    | with_reducible apply e_bnd
    | with_reducible apply e_oS
    | with_reducible apply e_strO
    | with_reducible apply e_ofL
    | with_reducible apply e_mkL
    | with_reducible apply e_mkT
    | with_reducible exact e_add
    | with_reducible exact e_sub
    | with_reducible exact e_neg
    | with_reducible exact e_abs
    | with_reducible exact e_intI
    | with_reducible exact e_intT
    | with_reducible exact e_intF
    | with_reducible exact e_intB
    | with_reducible exact e_max
    | with_reducible exact e_min
    | with_reducible exact e_lenL
    | with_reducible exact e_lenT
    | with_reducible exact e_slen
    | with_reducible exact e_tupL
    | with_reducible exact e_slL
    | with_reducible exact e_slT
    | with_reducible exact e_rev
    | with_reducible exact e_isT
    | with_reducible exact e_isntF
    | with_reducible exact e_strS
    | with_reducible exact e_ix0L
    | with_reducible exact e_ix0T
    | ((with_reducible apply e_isF); rfl)
    | ((with_reducible apply e_isntT); rfl)
    | ((with_reducible apply e_ltT); (first | assumption | omega | (simp only [List.length_cons, List.length_nil, List.length_map]; omega)))
    | ((with_reducible apply e_ltF); (first | assumption | omega | (simp only [List.length_cons, List.length_nil, List.length_map]; omega)))
    | ((with_reducible apply e_leT); (first | assumption | omega | (simp only [List.length_cons, List.length_nil, List.length_map]; omega)))
    | ((with_reducible apply e_leF); (first | assumption | omega | (simp only [List.length_cons, List.length_nil, List.length_map]; omega)))
    | ((with_reducible apply e_gtT); (first | assumption | omega | (simp only [List.length_cons, List.length_nil, List.length_map]; omega)))
    | ((with_reducible apply e_gtF); (first | assumption | omega | (simp only [List.length_cons, List.length_nil, List.length_map]; omega)))
    | ((with_reducible apply e_geT); (first | assumption | omega | (simp only [List.length_cons, List.length_nil, List.length_map]; omega)))
    | ((with_reducible apply e_geF); (first | assumption | omega | (simp only [List.length_cons, List.length_nil, List.length_map]; omega)))
    | ((with_reducible apply e_eqIT); (first | assumption | omega | (simp only [List.length_cons, List.length_nil, List.length_map]; omega)))
    | ((with_reducible apply e_eqIF); (first | assumption | omega | (simp only [List.length_cons, List.length_nil, List.length_map]; omega)))
    | ((with_reducible apply e_neIT); (first | assumption | omega | (simp only [List.length_cons, List.length_nil, List.length_map]; omega)))
    | ((with_reducible apply e_neIF); (first | assumption | omega | (simp only [List.length_cons, List.length_nil, List.length_map]; omega)))
    | ((with_reducible apply e_eqST); (first | rfl | assumption | decide | decide +kernel))
    | ((with_reducible apply e_eqSF); (first | rfl | assumption | decide | decide +kernel))
    | ((with_reducible apply e_neST); (first | rfl | assumption | decide | decide +kernel))
    | ((with_reducible apply e_neSF); (first | rfl | assumption | decide | decide +kernel))
    | ((with_reducible apply e_mod); (first | assumption | omega | (simp only [List.length_cons, List.length_nil, List.length_map]; omega)))
    | ((with_reducible apply e_fdiv); (first | assumption | omega | (simp only [List.length_cons, List.length_nil, List.length_map]; omega)))
    | ((with_reducible apply e_mul); (first | assumption | omega | (simp only [List.length_cons, List.length_nil, List.length_map]; omega)))
    | ((with_reducible apply e_pixS); rfl)
    | ((with_reducible apply e_ixL); rfl)
    | ((with_reducible apply e_ixT); rfl)
    | ((with_reducible apply e_dget); rfl)
    | (rw [sizeLine_eq]; simp only [List.length_cons, List.length_nil]; omega)
    | ((show List.map _ _ = (_ : List L2.Key)); rfl)
    | with_reducible apply e_asg
    | with_reducible apply e_ret
    | with_reducible apply e_exp
    | with_reducible apply e_par
    | with_reducible apply e_par3
    | with_reducible apply e_retPot
    | with_reducible apply e_sif
    | with_reducible apply e_sq)
theorem ascend_ok {ps : List Int} {m : Mem} (h : ps.Pairwise (· < ·)) (hl : ps.length ≤ 40) : m_do_ascend [.lst (ps.map .int)] m = .ok (.bl true) m := by
  have hz : zipD (ps.map .int) ((ps.map .int).drop 1) = (ps.zip (ps.drop 1)).map fun q => .tup [.int q.1, .int q.2] := by
    unfold zipD
    rw [← List.map_drop]
    generalize ps.drop 1 = qs
    induction ps generalizing qs with
    | nil => rfl
    | cons a l ih =>
      cases qs with
      | nil => rfl
      | cons b qs => simp only [List.map_cons, List.zipWith_cons_cons, List.zip_cons_cons]; rw [ih (List.pairwise_cons.mp h).2 (by simp at hl; omega)]
  have hcomp : compF (zipG (aCons (vF 0) (aCons (bind3 (vW 0) (oSome (kC (.int 1))) oNone slD) aNil))) (tgT 2 (tgCons (tgN 1) (tgCons (tgN 2) tgNil))) kT (bind2 (vW 1) (vW 2) ltD) [1, 2] (enOf 3 [.lst (ps.map .int)]) m = .ok ((zipD (ps.map .int) ((ps.map .int).drop 1)).map fun _ => .bl true) m := by
    apply e_comp
    · apply e_zip
      · repeat' (first
    | with_reducible exact okr
    | with_reducible exact retr
    | with_reducible exact e_kC
    | with_reducible exact e_aNil
    | with_reducible exact e_nil
    | with_reducible exact e_evN
    | with_reducible exact e_oN
    | with_reducible exact n_t
    | with_reducible exact n_f
    | with_reducible exact sq_r
    | with_reducible apply pk_t
    | with_reducible apply pk_f
    | with_reducible apply sq_n
    | ((with_reducible apply e_vF); rfl)
    | ((with_reducible apply e_vW); rfl)
    | ((with_reducible apply e_vWo); rfl)
    | ((with_reducible apply e_vWd); rfl)
    | with_reducible apply e_b1
    | with_reducible apply e_b2
    | with_reducible apply e_b3
    | with_reducible apply e_aCons
    | with_reducible apply e_evC
    | with_reducible apply e_mkD2
    | with_reducible apply e_toB
    | with_reducible apply e_ofB
    | with_reducible apply e_not
    | with_reducible apply e_notv
    | with_reducible apply e_and
    | with_reducible apply e_or
    | with_reducible apply e_if
    | with_reducible apply e_andv
    | with_reducible apply e_orv
    | with_reducible apply e_chn
    | with_reducible apply e_bnd
    | with_reducible apply e_oS
    | with_reducible apply e_strO
    | with_reducible apply e_ofL
    | with_reducible apply e_mkL
    | with_reducible apply e_mkT
    | with_reducible exact e_add
    | with_reducible exact e_sub
    | with_reducible exact e_neg
    | with_reducible exact e_abs
    | with_reducible exact e_intI
    | with_reducible exact e_intT
    | with_reducible exact e_intF
    | with_reducible exact e_intB
    | with_reducible exact e_max
    | with_reducible exact e_min
    | with_reducible exact e_lenL
    | with_reducible exact e_lenT
    | with_reducible exact e_slen
    | with_reducible exact e_tupL
    | with_reducible exact e_slL
    | with_reducible exact e_slT
    | with_reducible exact e_rev
    | with_reducible exact e_isT
    | with_reducible exact e_isntF
    | with_reducible exact e_strS
    | with_reducible exact e_ix0L
    | with_reducible exact e_ix0T
    | ((with_reducible apply e_isF); rfl)
    | ((with_reducible apply e_isntT); rfl)
    | ((with_reducible apply e_ltT); (first | assumption | omega | (simp only [List.length_cons, List.length_nil, List.length_map]; omega)))
    | ((with_reducible apply e_ltF); (first | assumption | omega | (simp only [List.length_cons, List.length_nil, List.length_map]; omega)))
    | ((with_reducible apply e_leT); (first | assumption | omega | (simp only [List.length_cons, List.length_nil, List.length_map]; omega)))
    | ((with_reducible apply e_leF); (first | assumption | omega | (simp only [List.length_cons, List.length_nil, List.length_map]; omega)))
    | ((with_reducible apply e_gtT); (first | assumption | omega | (simp only [List.length_cons, List.length_nil, List.length_map]; omega)))
    | ((with_reducible apply e_gtF); (first | assumption | omega | (simp only [List.length_cons, List.length_nil, List.length_map]; omega)))
    | ((with_reducible apply e_geT); (first | assumption | omega | (simp only [List.length_cons, List.length_nil, List.length_map]; omega)))
    | ((with_reducible apply e_geF); (first | assumption | omega | (simp only [List.length_cons, List.length_nil, List.length_map]; omega)))
    | ((with_reducible apply e_eqIT); (first | assumption | omega | (simp only [List.length_cons, List.length_nil, List.length_map]; omega)))
    | ((with_reducible apply e_eqIF); (first | assumption | omega | (simp only [List.length_cons, List.length_nil, List.length_map]; omega)))
    | ((with_reducible apply e_neIT); (first | assumption | omega | (simp only [List.length_cons, List.length_nil, List.length_map]; omega)))
    | ((with_reducible apply e_neIF); (first | assumption | omega | (simp only [List.length_cons, List.length_nil, List.length_map]; omega)))
    | ((with_reducible apply e_eqST); (first | rfl | assumption | decide | decide +kernel))
    | ((with_reducible apply e_eqSF); (first | rfl | assumption | decide | decide +kernel))
    | ((with_reducible apply e_neST); (first | rfl | assumption | decide | decide +kernel))
    | ((with_reducible apply e_neSF); (first | rfl | assumption | decide | decide +kernel))
    | ((with_reducible apply e_mod); (first | assumption | omega | (simp only [List.length_cons, List.length_nil, List.length_map]; omega)))
    | ((with_reducible apply e_fdiv); (first | assumption | omega | (simp only [List.length_cons, List.length_nil, List.length_map]; omega)))
    | ((with_reducible apply e_mul); (first | assumption | omega | (simp only [List.length_cons, List.length_nil, List.length_map]; omega)))
    | ((with_reducible apply e_pixS); rfl)
    | ((with_reducible apply e_ixL); rfl)
    | ((with_reducible apply e_ixT); rfl)
    | ((with_reducible apply e_dget); rfl)
    | (rw [sizeLine_eq]; simp only [List.length_cons, List.length_nil]; omega)
    | ((show List.map _ _ = (_ : List L2.Key)); rfl)
    | with_reducible apply e_asg
    | with_reducible apply e_ret
    | with_reducible apply e_exp
    | with_reducible apply e_par
    | with_reducible apply e_par3
    | with_reducible apply e_retPot
    | with_reducible apply e_sif
    | with_reducible apply e_sq)
      · rfl
      · rfl
    · rw [cut1, zipD_length, sizeLine_eq]; simp; omega
    · rw [cut1]
      refine (comp_map (g := fun _ => .bl true) fun d hd => ?_).trans (by rw [List.nil_append])
      rw [hz] at hd
      obtain ⟨q, hq, rfl⟩ := List.mem_map.mp hd
      have hlt : q.1 < q.2 := by
        obtain ⟨i, hi, e⟩ := List.mem_iff_getElem.mp hq
        rw [List.getElem_zip] at e
        subst e
        simp only [List.length_zip, List.length_drop] at hi
        simp only [List.getElem_drop]
        exact List.pairwise_iff_getElem.mp h i (1 + i) (by omega) (by omega) (by omega)
      refine ⟨_, rfl, ?_⟩
      repeat' (first
    | with_reducible exact okr
    | with_reducible exact retr
    | with_reducible exact e_kC
    | with_reducible exact e_aNil
    | with_reducible exact e_nil
    | with_reducible exact e_evN
    | with_reducible exact e_oN
    | with_reducible exact n_t
    | with_reducible exact n_f
    | with_reducible exact sq_r
    | with_reducible apply pk_t
    | with_reducible apply pk_f
    | with_reducible apply sq_n
    | ((with_reducible apply e_vF); rfl)
    | ((with_reducible apply e_vW); rfl)
    | ((with_reducible apply e_vWo); rfl)
    | ((with_reducible apply e_vWd); rfl)
    | with_reducible apply e_b1
    | with_reducible apply e_b2
    | with_reducible apply e_b3
    | with_reducible apply e_aCons
    | with_reducible apply e_evC
    | with_reducible apply e_mkD2
    | with_reducible apply e_toB
    | with_reducible apply e_ofB
    | with_reducible apply e_not
    | with_reducible apply e_notv
    | with_reducible apply e_and
    | with_reducible apply e_or
    | with_reducible apply e_if
    | with_reducible apply e_andv
    | with_reducible apply e_orv
    | with_reducible apply e_chn
    | with_reducible apply e_bnd
    | with_reducible apply e_oS
    | with_reducible apply e_strO
    | with_reducible apply e_ofL
    | with_reducible apply e_mkL
    | with_reducible apply e_mkT
    | with_reducible exact e_add
    | with_reducible exact e_sub
    | with_reducible exact e_neg
    | with_reducible exact e_abs
    | with_reducible exact e_intI
    | with_reducible exact e_intT
    | with_reducible exact e_intF
    | with_reducible exact e_intB
    | with_reducible exact e_max
    | with_reducible exact e_min
    | with_reducible exact e_lenL
    | with_reducible exact e_lenT
    | with_reducible exact e_slen
    | with_reducible exact e_tupL
    | with_reducible exact e_slL
    | with_reducible exact e_slT
    | with_reducible exact e_rev
    | with_reducible exact e_isT
    | with_reducible exact e_isntF
    | with_reducible exact e_strS
    | with_reducible exact e_ix0L
    | with_reducible exact e_ix0T
    | ((with_reducible apply e_isF); rfl)
    | ((with_reducible apply e_isntT); rfl)
    | ((with_reducible apply e_ltT); (first | assumption | omega | (simp only [List.length_cons, List.length_nil, List.length_map]; omega)))
    | ((with_reducible apply e_ltF); (first | assumption | omega | (simp only [List.length_cons, List.length_nil, List.length_map]; omega)))
    | ((with_reducible apply e_leT); (first | assumption | omega | (simp only [List.length_cons, List.length_nil, List.length_map]; omega)))
    | ((with_reducible apply e_leF); (first | assumption | omega | (simp only [List.length_cons, List.length_nil, List.length_map]; omega)))
    | ((with_reducible apply e_gtT); (first | assumption | omega | (simp only [List.length_cons, List.length_nil, List.length_map]; omega)))
    | ((with_reducible apply e_gtF); (first | assumption | omega | (simp only [List.length_cons, List.length_nil, List.length_map]; omega)))
    | ((with_reducible apply e_geT); (first | assumption | omega | (simp only [List.length_cons, List.length_nil, List.length_map]; omega)))
    | ((with_reducible apply e_geF); (first | assumption | omega | (simp only [List.length_cons, List.length_nil, List.length_map]; omega)))
    | ((with_reducible apply e_eqIT); (first | assumption | omega | (simp only [List.length_cons, List.length_nil, List.length_map]; omega)))
    | ((with_reducible apply e_eqIF); (first | assumption | omega | (simp only [List.length_cons, List.length_nil, List.length_map]; omega)))
    | ((with_reducible apply e_neIT); (first | assumption | omega | (simp only [List.length_cons, List.length_nil, List.length_map]; omega)))
    | ((with_reducible apply e_neIF); (first | assumption | omega | (simp only [List.length_cons, List.length_nil, List.length_map]; omega)))
    | ((with_reducible apply e_eqST); (first | rfl | assumption | decide | decide +kernel))
    | ((with_reducible apply e_eqSF); (first | rfl | assumption | decide | decide +kernel))
    | ((with_reducible apply e_neST); (first | rfl | assumption | decide | decide +kernel))
    | ((with_reducible apply e_neSF); (first | rfl | assumption | decide | decide +kernel))
    | ((with_reducible apply e_mod); (first | assumption | omega | (simp only [List.length_cons, List.length_nil, List.length_map]; omega)))
    | ((with_reducible apply e_fdiv); (first | assumption | omega | (simp only [List.length_cons, List.length_nil, List.length_map]; omega)))
    | ((with_reducible apply e_mul); (first | assumption | omega | (simp only [List.length_cons, List.length_nil, List.length_map]; omega)))
    | ((with_reducible apply e_pixS); rfl)
    | ((with_reducible apply e_ixL); rfl)
    | ((with_reducible apply e_ixT); rfl)
    | ((with_reducible apply e_dget); rfl)
    | (rw [sizeLine_eq]; simp only [List.length_cons, List.length_nil]; omega)
    | ((show List.map _ _ = (_ : List L2.Key)); rfl)
    | with_reducible apply e_asg
    | with_reducible apply e_ret
    | with_reducible apply e_exp
    | with_reducible apply e_par
    | with_reducible apply e_par3
    | with_reducible apply e_retPot
    | with_reducible apply e_sif
    | with_reducible apply e_sq)
  apply e_run rfl
  unfold b_do_ascend
  repeat' (first
    | with_reducible exact hcomp
    | with_reducible exact okr
    | with_reducible exact retr
    | with_reducible exact e_kC
    | with_reducible exact e_aNil
    | with_reducible exact e_nil
    | with_reducible exact e_evN
    | with_reducible exact e_oN
    | with_reducible exact n_t
    | with_reducible exact n_f
    | with_reducible exact sq_r
    | with_reducible apply pk_t
    | with_reducible apply pk_f
    | with_reducible apply sq_n
    | ((with_reducible apply e_vF); rfl)
    | ((with_reducible apply e_vW); rfl)
    | ((with_reducible apply e_vWo); rfl)
    | ((with_reducible apply e_vWd); rfl)
    | with_reducible apply e_b1
    | with_reducible apply e_b2
    | with_reducible apply e_b3
    | with_reducible apply e_aCons
    | with_reducible apply e_evC
    | with_reducible apply e_mkD2
    | with_reducible apply e_toB
    | with_reducible apply e_ofB
    | with_reducible apply e_not
    | with_reducible apply e_notv
    | with_reducible apply e_and
    | with_reducible apply e_or
    | with_reducible apply e_if
    | with_reducible apply e_andv
    | with_reducible apply e_orv
    | with_reducible apply e_chn
    | with_reducible apply e_bnd
    | with_reducible apply e_oS
    | with_reducible apply e_strO
    | with_reducible apply e_ofL
    | with_reducible apply e_mkL
    | with_reducible apply e_mkT
    | with_reducible exact e_add
    | with_reducible exact e_sub
    | with_reducible exact e_neg
    | with_reducible exact e_abs
    | with_reducible exact e_intI
    | with_reducible exact e_intT
    | with_reducible exact e_intF
    | with_reducible exact e_intB
    | with_reducible exact e_max
    | with_reducible exact e_min
    | with_reducible exact e_lenL
    | with_reducible exact e_lenT
    | with_reducible exact e_slen
    | with_reducible exact e_tupL
    | with_reducible exact e_slL
    | with_reducible exact e_slT
    | with_reducible exact e_rev
    | with_reducible exact e_isT
    | with_reducible exact e_isntF
    | with_reducible exact e_strS
    | with_reducible exact e_ix0L
    | with_reducible exact e_ix0T
    | ((with_reducible apply e_isF); rfl)
    | ((with_reducible apply e_isntT); rfl)
    | ((with_reducible apply e_ltT); (first | assumption | omega | (simp only [List.length_cons, List.length_nil, List.length_map]; omega)))
    | ((with_reducible apply e_ltF); (first | assumption | omega | (simp only [List.length_cons, List.length_nil, List.length_map]; omega)))
    | ((with_reducible apply e_leT); (first | assumption | omega | (simp only [List.length_cons, List.length_nil, List.length_map]; omega)))
    | ((with_reducible apply e_leF); (first | assumption | omega | (simp only [List.length_cons, List.length_nil, List.length_map]; omega)))
    | ((with_reducible apply e_gtT); (first | assumption | omega | (simp only [List.length_cons, List.length_nil, List.length_map]; omega)))
    | ((with_reducible apply e_gtF); (first | assumption | omega | (simp only [List.length_cons, List.length_nil, List.length_map]; omega)))
    | ((with_reducible apply e_geT); (first | assumption | omega | (simp only [List.length_cons, List.length_nil, List.length_map]; omega)))
    | ((with_reducible apply e_geF); (first | assumption | omega | (simp only [List.length_cons, List.length_nil, List.length_map]; omega)))
    | ((with_reducible apply e_eqIT); (first | assumption | omega | (simp only [List.length_cons, List.length_nil, List.length_map]; omega)))
    | ((with_reducible apply e_eqIF); (first | assumption | omega | (simp only [List.length_cons, List.length_nil, List.length_map]; omega)))
    | ((with_reducible apply e_neIT); (first | assumption | omega | (simp only [List.length_cons, List.length_nil, List.length_map]; omega)))
    | ((with_reducible apply e_neIF); (first | assumption | omega | (simp only [List.length_cons, List.length_nil, List.length_map]; omega)))
    | ((with_reducible apply e_eqST); (first | rfl | assumption | decide | decide +kernel))
    | ((with_reducible apply e_eqSF); (first | rfl | assumption | decide | decide +kernel))
    | ((with_reducible apply e_neST); (first | rfl | assumption | decide | decide +kernel))
    | ((with_reducible apply e_neSF); (first | rfl | assumption | decide | decide +kernel))
    | ((with_reducible apply e_mod); (first | assumption | omega | (simp only [List.length_cons, List.length_nil, List.length_map]; omega)))
    | ((with_reducible apply e_fdiv); (first | assumption | omega | (simp only [List.length_cons, List.length_nil, List.length_map]; omega)))
    | ((with_reducible apply e_mul); (first | assumption | omega | (simp only [List.length_cons, List.length_nil, List.length_map]; omega)))
    | ((with_reducible apply e_pixS); rfl)
    | ((with_reducible apply e_ixL); rfl)
    | ((with_reducible apply e_ixT); rfl)
    | ((with_reducible apply e_dget); rfl)
    | (rw [sizeLine_eq]; simp only [List.length_cons, List.length_nil]; omega)
    | ((show List.map _ _ = (_ : List L2.Key)); rfl)
    | with_reducible apply e_asg
    | with_reducible apply e_ret
    | with_reducible apply e_exp
    | with_reducible apply e_par
    | with_reducible apply e_par3
    | with_reducible apply e_retPot
    | with_reducible apply e_sif
    | with_reducible apply e_sq)
  apply e_allT
  intro x hx
  obtain ⟨_, _, rfl⟩ := List.mem_map.mp hx
  rfl
theorem places_ok {L R : EndK} {ps : List Int} {m : Mem} (g : GoodW L R ps) : m_places_in [.str (atS ps), L.d, R.d] m = .ok (.tup (ps.map .int)) m := by
  obtain ⟨h1, h2, h3, h4⟩ := line_at g.ok g.len
  obtain ⟨a, ha, ea⟩ := first_at g.one
  obtain ⟨z, hz, ez⟩ := last_at g.one
  have hlen := g.len
  have hone := g.one
  have hsp : splitD (.str (atS ps)) [.str " "] m = .ok (.lst (.str "at" :: (ps.map numS).map .str)) m := by
    rw [e_split (by decide +kernel) (by rw [sizeLine_eq]; omega), h1]
    rfl
  have hc1 : ∀ r : En, r[3]? = some (.fz (.lst (.str "at" :: (ps.map numS).map .str))) → r.length = 9 → compF (seqI (bind3 (vW 3) (oSome (kC (.int 1))) oNone slD)) (tgN 7) kT (bind1 (aCons (vF 7) aNil) m_number_in) [7] r m = .ok (ps.map .int) m := by
    intro r hr hrl
    apply e_comp (xs := (ps.map numS).map .str) (m1 := m)
    · apply e_seqL
      apply e_b3
      · exact e_vW hr
      · exact e_oS e_kC
      · exact e_oN
      · rw [e_slL, cut1]; rfl
    · rw [sizeLine_eq]; simp; omega
    · rw [← intOf_nums g.ok]
      refine (comp_map (g := intOf) fun d hd => ?_).trans (by rw [List.nil_append])
      obtain ⟨s, hs, rfl⟩ := List.mem_map.mp hd
      obtain ⟨p, hp, rfl⟩ := List.mem_map.mp hs
      refine ⟨_, rfl, ?_⟩
      apply e_b1
      · apply e_aCons
        · apply e_vF
          rw [List.getElem?_set_self (by simp [wipeE, hrl])]
        · exact e_aNil
      · rw [number_ok (g.ok p hp).nat, intOf, numS_int (g.ok p hp).nat]
        rfl
  have hc2 : ∀ r : En, r[4]? = some (.fz (.lst (ps.map .int))) → r.length = 9 → compF (seqI (vF 4)) (tgN 8) kT (bind1 (aCons (vF 8) aNil) m_is_place) [8] r m = .ok ((ps.map D.int).map fun _ => .bl true) m := by
    intro r hr hrl
    apply e_comp (xs := ps.map .int) (m1 := m)
    · apply e_seqL
      exact e_vF hr
    · rw [sizeLine_eq]; simp; omega
    · refine (comp_map (g := fun _ => .bl true) fun d hd => ?_).trans (by rw [List.nil_append])
      obtain ⟨p, hp, rfl⟩ := List.mem_map.mp hd
      refine ⟨_, rfl, ?_⟩
      apply e_b1
      · apply e_aCons
        · apply e_vF
          rw [List.getElem?_set_self (by simp [wipeE, hrl])]
        · exact e_aNil
      · exact place_ok (g.ok p hp).1 (g.ok p hp).2.1 (g.ok p hp).2.2
  have hall : allD [.lst ((ps.map D.int).map fun _ => .bl true)] m = .ok (.bl true) m := e_allT fun x hx => by
    obtain ⟨_, _, rfl⟩ := List.mem_map.mp hx
    rfl
  have hasc := ascend_ok (m := m) g.asc g.len
  have pL := g.lok
  have pR := g.rok
  have hL : ∃ w q, (L = .free ∧ L.d = .tup [.str "free"]) ∨ (L.d = .tup [.str w, .int q] ∧ PyData.strOk w = true ∧ q < a) := by
    cases L with
    | free => exact ⟨"free", 0, .inl ⟨rfl, rfl⟩⟩
    | off q => exact ⟨"off", q, .inr ⟨rfl, ok_off, (pL q rfl).2 a ha⟩⟩
    | wall q => exact ⟨"wall", q, .inr ⟨rfl, ok_wall, (pL q rfl).2 a ha⟩⟩
  have hR : ∃ w q, (R = .free ∧ R.d = .tup [.str "free"]) ∨ (R.d = .tup [.str w, .int q] ∧ PyData.strOk w = true ∧ z < q) := by
    cases R with
    | free => exact ⟨"free", 0, .inl ⟨rfl, rfl⟩⟩
    | off q => exact ⟨"off", q, .inr ⟨rfl, ok_off, (pR q rfl).2 z hz⟩⟩
    | wall q => exact ⟨"wall", q, .inr ⟨rfl, ok_wall, (pR q rfl).2 z hz⟩⟩
  obtain ⟨w, q, hL⟩ := hL
  obtain ⟨v, t, hR⟩ := hR
  generalize L.d = Ld at hL
  generalize R.d = Rd at hR
  apply e_run rfl
  unfold b_places_in
  rcases hL with ⟨_, rfl⟩ | ⟨rfl, hw, hq⟩ <;> rcases hR with ⟨_, rfl⟩ | ⟨rfl, hv, ht⟩
  all_goals
    repeat' (first
    | with_reducible exact hsp
      | ((with_reducible apply hc1) <;> rfl)
      | ((with_reducible apply hc2) <;> rfl)
      | with_reducible exact hall
      | with_reducible exact hasc
      | with_reducible exact eq_free
      | with_reducible exact ne_free hw
      | with_reducible exact ne_free hv
      | with_reducible exact e_ixL ea
      | with_reducible exact e_ixL ez
    | with_reducible exact okr
    | with_reducible exact retr
    | with_reducible exact e_kC
    | with_reducible exact e_aNil
    | with_reducible exact e_nil
    | with_reducible exact e_evN
    | with_reducible exact e_oN
    | with_reducible exact n_t
    | with_reducible exact n_f
    | with_reducible exact sq_r
    | with_reducible apply pk_t
    | with_reducible apply pk_f
    | with_reducible apply sq_n
    | ((with_reducible apply e_vF); rfl)
    | ((with_reducible apply e_vW); rfl)
    | ((with_reducible apply e_vWo); rfl)
    | ((with_reducible apply e_vWd); rfl)
    | with_reducible apply e_b1
    | with_reducible apply e_b2
    | with_reducible apply e_b3
    | with_reducible apply e_aCons
    | with_reducible apply e_evC
    | with_reducible apply e_mkD2
    | with_reducible apply e_toB
    | with_reducible apply e_ofB
    | with_reducible apply e_not
    | with_reducible apply e_notv
    | with_reducible apply e_and
    | with_reducible apply e_or
    | with_reducible apply e_if
    | with_reducible apply e_andv
    | with_reducible apply e_orv
    | with_reducible apply e_chn
    | with_reducible apply e_bnd
    | with_reducible apply e_oS
    | with_reducible apply e_strO
    | with_reducible apply e_ofL
    | with_reducible apply e_mkL
    | with_reducible apply e_mkT
    | with_reducible exact e_add
    | with_reducible exact e_sub
    | with_reducible exact e_neg
    | with_reducible exact e_abs
    | with_reducible exact e_intI
    | with_reducible exact e_intT
    | with_reducible exact e_intF
    | with_reducible exact e_intB
    | with_reducible exact e_max
    | with_reducible exact e_min
    | with_reducible exact e_lenL
    | with_reducible exact e_lenT
    | with_reducible exact e_slen
    | with_reducible exact e_tupL
    | with_reducible exact e_slL
    | with_reducible exact e_slT
    | with_reducible exact e_rev
    | with_reducible exact e_isT
    | with_reducible exact e_isntF
    | with_reducible exact e_strS
    | with_reducible exact e_ix0L
    | with_reducible exact e_ix0T
    | ((with_reducible apply e_isF); rfl)
    | ((with_reducible apply e_isntT); rfl)
    | ((with_reducible apply e_ltT); (first | assumption | omega | (simp only [List.length_cons, List.length_nil, List.length_map]; omega)))
    | ((with_reducible apply e_ltF); (first | assumption | omega | (simp only [List.length_cons, List.length_nil, List.length_map]; omega)))
    | ((with_reducible apply e_leT); (first | assumption | omega | (simp only [List.length_cons, List.length_nil, List.length_map]; omega)))
    | ((with_reducible apply e_leF); (first | assumption | omega | (simp only [List.length_cons, List.length_nil, List.length_map]; omega)))
    | ((with_reducible apply e_gtT); (first | assumption | omega | (simp only [List.length_cons, List.length_nil, List.length_map]; omega)))
    | ((with_reducible apply e_gtF); (first | assumption | omega | (simp only [List.length_cons, List.length_nil, List.length_map]; omega)))
    | ((with_reducible apply e_geT); (first | assumption | omega | (simp only [List.length_cons, List.length_nil, List.length_map]; omega)))
    | ((with_reducible apply e_geF); (first | assumption | omega | (simp only [List.length_cons, List.length_nil, List.length_map]; omega)))
    | ((with_reducible apply e_eqIT); (first | assumption | omega | (simp only [List.length_cons, List.length_nil, List.length_map]; omega)))
    | ((with_reducible apply e_eqIF); (first | assumption | omega | (simp only [List.length_cons, List.length_nil, List.length_map]; omega)))
    | ((with_reducible apply e_neIT); (first | assumption | omega | (simp only [List.length_cons, List.length_nil, List.length_map]; omega)))
    | ((with_reducible apply e_neIF); (first | assumption | omega | (simp only [List.length_cons, List.length_nil, List.length_map]; omega)))
    | ((with_reducible apply e_eqST); (first | rfl | assumption | decide | decide +kernel))
    | ((with_reducible apply e_eqSF); (first | rfl | assumption | decide | decide +kernel))
    | ((with_reducible apply e_neST); (first | rfl | assumption | decide | decide +kernel))
    | ((with_reducible apply e_neSF); (first | rfl | assumption | decide | decide +kernel))
    | ((with_reducible apply e_mod); (first | assumption | omega | (simp only [List.length_cons, List.length_nil, List.length_map]; omega)))
    | ((with_reducible apply e_fdiv); (first | assumption | omega | (simp only [List.length_cons, List.length_nil, List.length_map]; omega)))
    | ((with_reducible apply e_mul); (first | assumption | omega | (simp only [List.length_cons, List.length_nil, List.length_map]; omega)))
    | ((with_reducible apply e_pixS); rfl)
    | ((with_reducible apply e_ixL); rfl)
    | ((with_reducible apply e_ixT); rfl)
    | ((with_reducible apply e_dget); rfl)
    | (rw [sizeLine_eq]; simp only [List.length_cons, List.length_nil]; omega)
    | ((show List.map _ _ = (_ : List L2.Key)); rfl)
    | with_reducible apply e_asg
    | with_reducible apply e_ret
    | with_reducible apply e_exp
    | with_reducible apply e_par
    | with_reducible apply e_par3
    | with_reducible apply e_retPot
    | with_reducible apply e_sif
    | with_reducible apply e_sq)
theorem read_ok {L R : EndK} {ps : List Int} {m : Mem} (g : GoodW L R ps) : m_read_way [.str (textS L R ps)] m = .ok (.tup [L.d, R.d, .tup (ps.map .int)]) m := by
  obtain ⟨h1, h2⟩ := text_facts g
  have hsp : splitD (.str (textS L R ps)) [.str "\n"] m = .ok (.lst [.str (lineS "left" L), .str (lineS "right" R), .str (atS ps)]) m := by
    rw [e_split (by decide +kernel) (by rw [sizeLine_eq]; omega), h1]
    rfl
  have hisi : isiD [.str (textS L R ps), .ty "str"] m = .ok (.bl true) m := by
    simp [isiD, tyN, tysT, subT]
  have hl := end_ok (w := "left") (e := L) (m := m) (.inl rfl) fun p hp => (g.lok p hp).1
  have hr := end_ok (w := "right") (e := R) (m := m) (.inr rfl) fun p hp => (g.rok p hp).1
  have hp := places_ok (m := m) g
  have kL : ∃ w t, L.d = .tup (.str w :: t) ∧ (w = "wall" → L.isWall = true) := by
    cases L with
    | free => exact ⟨_, _, rfl, fun h => absurd h (by decide +kernel)⟩
    | off q => exact ⟨_, _, rfl, fun h => absurd h (by decide +kernel)⟩
    | wall q => exact ⟨_, _, rfl, fun _ => rfl⟩
  have kR : ∃ w t, R.d = .tup (.str w :: t) ∧ (w = "wall" → R.isWall = true) := by
    cases R with
    | free => exact ⟨_, _, rfl, fun h => absurd h (by decide +kernel)⟩
    | off q => exact ⟨_, _, rfl, fun h => absurd h (by decide +kernel)⟩
    | wall q => exact ⟨_, _, rfl, fun _ => rfl⟩
  obtain ⟨w, t, eL, wL⟩ := kL
  obtain ⟨v, u, eR, wR⟩ := kR
  rw [eL] at hl hp ⊢
  rw [eR] at hr hp ⊢
  by_cases c : w = "wall"
  · have c2 : ¬v = "wall" := fun c2 => g.nw ⟨wL c, wR c2⟩
    apply e_run rfl
    unfold b_read_way
    repeat' (first
    | with_reducible exact hsp
      | with_reducible exact hisi
      | with_reducible exact hl
      | with_reducible exact hr
      | with_reducible exact hp
    | with_reducible exact okr
    | with_reducible exact retr
    | with_reducible exact e_kC
    | with_reducible exact e_aNil
    | with_reducible exact e_nil
    | with_reducible exact e_evN
    | with_reducible exact e_oN
    | with_reducible exact n_t
    | with_reducible exact n_f
    | with_reducible exact sq_r
    | with_reducible apply pk_t
    | with_reducible apply pk_f
    | with_reducible apply sq_n
    | ((with_reducible apply e_vF); rfl)
    | ((with_reducible apply e_vW); rfl)
    | ((with_reducible apply e_vWo); rfl)
    | ((with_reducible apply e_vWd); rfl)
    | with_reducible apply e_b1
    | with_reducible apply e_b2
    | with_reducible apply e_b3
    | with_reducible apply e_aCons
    | with_reducible apply e_evC
    | with_reducible apply e_mkD2
    | with_reducible apply e_toB
    | with_reducible apply e_ofB
    | with_reducible apply e_not
    | with_reducible apply e_notv
    | with_reducible apply e_and
    | with_reducible apply e_or
    | with_reducible apply e_if
    | with_reducible apply e_andv
    | with_reducible apply e_orv
    | with_reducible apply e_chn
    | with_reducible apply e_bnd
    | with_reducible apply e_oS
    | with_reducible apply e_strO
    | with_reducible apply e_ofL
    | with_reducible apply e_mkL
    | with_reducible apply e_mkT
    | with_reducible exact e_add
    | with_reducible exact e_sub
    | with_reducible exact e_neg
    | with_reducible exact e_abs
    | with_reducible exact e_intI
    | with_reducible exact e_intT
    | with_reducible exact e_intF
    | with_reducible exact e_intB
    | with_reducible exact e_max
    | with_reducible exact e_min
    | with_reducible exact e_lenL
    | with_reducible exact e_lenT
    | with_reducible exact e_slen
    | with_reducible exact e_tupL
    | with_reducible exact e_slL
    | with_reducible exact e_slT
    | with_reducible exact e_rev
    | with_reducible exact e_isT
    | with_reducible exact e_isntF
    | with_reducible exact e_strS
    | with_reducible exact e_ix0L
    | with_reducible exact e_ix0T
    | ((with_reducible apply e_isF); rfl)
    | ((with_reducible apply e_isntT); rfl)
    | ((with_reducible apply e_ltT); (first | assumption | omega | (simp only [List.length_cons, List.length_nil, List.length_map]; omega)))
    | ((with_reducible apply e_ltF); (first | assumption | omega | (simp only [List.length_cons, List.length_nil, List.length_map]; omega)))
    | ((with_reducible apply e_leT); (first | assumption | omega | (simp only [List.length_cons, List.length_nil, List.length_map]; omega)))
    | ((with_reducible apply e_leF); (first | assumption | omega | (simp only [List.length_cons, List.length_nil, List.length_map]; omega)))
    | ((with_reducible apply e_gtT); (first | assumption | omega | (simp only [List.length_cons, List.length_nil, List.length_map]; omega)))
    | ((with_reducible apply e_gtF); (first | assumption | omega | (simp only [List.length_cons, List.length_nil, List.length_map]; omega)))
    | ((with_reducible apply e_geT); (first | assumption | omega | (simp only [List.length_cons, List.length_nil, List.length_map]; omega)))
    | ((with_reducible apply e_geF); (first | assumption | omega | (simp only [List.length_cons, List.length_nil, List.length_map]; omega)))
    | ((with_reducible apply e_eqIT); (first | assumption | omega | (simp only [List.length_cons, List.length_nil, List.length_map]; omega)))
    | ((with_reducible apply e_eqIF); (first | assumption | omega | (simp only [List.length_cons, List.length_nil, List.length_map]; omega)))
    | ((with_reducible apply e_neIT); (first | assumption | omega | (simp only [List.length_cons, List.length_nil, List.length_map]; omega)))
    | ((with_reducible apply e_neIF); (first | assumption | omega | (simp only [List.length_cons, List.length_nil, List.length_map]; omega)))
    | ((with_reducible apply e_eqST); (first | rfl | assumption | decide | decide +kernel))
    | ((with_reducible apply e_eqSF); (first | rfl | assumption | decide | decide +kernel))
    | ((with_reducible apply e_neST); (first | rfl | assumption | decide | decide +kernel))
    | ((with_reducible apply e_neSF); (first | rfl | assumption | decide | decide +kernel))
    | ((with_reducible apply e_mod); (first | assumption | omega | (simp only [List.length_cons, List.length_nil, List.length_map]; omega)))
    | ((with_reducible apply e_fdiv); (first | assumption | omega | (simp only [List.length_cons, List.length_nil, List.length_map]; omega)))
    | ((with_reducible apply e_mul); (first | assumption | omega | (simp only [List.length_cons, List.length_nil, List.length_map]; omega)))
    | ((with_reducible apply e_pixS); rfl)
    | ((with_reducible apply e_ixL); rfl)
    | ((with_reducible apply e_ixT); rfl)
    | ((with_reducible apply e_dget); rfl)
    | (rw [sizeLine_eq]; simp only [List.length_cons, List.length_nil]; omega)
    | ((show List.map _ _ = (_ : List L2.Key)); rfl)
    | with_reducible apply e_asg
    | with_reducible apply e_ret
    | with_reducible apply e_exp
    | with_reducible apply e_par
    | with_reducible apply e_par3
    | with_reducible apply e_retPot
    | with_reducible apply e_sif
    | with_reducible apply e_sq)
  · apply e_run rfl
    unfold b_read_way
    repeat' (first
    | with_reducible exact hsp
      | with_reducible exact hisi
      | with_reducible exact hl
      | with_reducible exact hr
      | with_reducible exact hp
    | with_reducible exact okr
    | with_reducible exact retr
    | with_reducible exact e_kC
    | with_reducible exact e_aNil
    | with_reducible exact e_nil
    | with_reducible exact e_evN
    | with_reducible exact e_oN
    | with_reducible exact n_t
    | with_reducible exact n_f
    | with_reducible exact sq_r
    | with_reducible apply pk_t
    | with_reducible apply pk_f
    | with_reducible apply sq_n
    | ((with_reducible apply e_vF); rfl)
    | ((with_reducible apply e_vW); rfl)
    | ((with_reducible apply e_vWo); rfl)
    | ((with_reducible apply e_vWd); rfl)
    | with_reducible apply e_b1
    | with_reducible apply e_b2
    | with_reducible apply e_b3
    | with_reducible apply e_aCons
    | with_reducible apply e_evC
    | with_reducible apply e_mkD2
    | with_reducible apply e_toB
    | with_reducible apply e_ofB
    | with_reducible apply e_not
    | with_reducible apply e_notv
    | with_reducible apply e_and
    | with_reducible apply e_or
    | with_reducible apply e_if
    | with_reducible apply e_andv
    | with_reducible apply e_orv
    | with_reducible apply e_chn
    | with_reducible apply e_bnd
    | with_reducible apply e_oS
    | with_reducible apply e_strO
    | with_reducible apply e_ofL
    | with_reducible apply e_mkL
    | with_reducible apply e_mkT
    | with_reducible exact e_add
    | with_reducible exact e_sub
    | with_reducible exact e_neg
    | with_reducible exact e_abs
    | with_reducible exact e_intI
    | with_reducible exact e_intT
    | with_reducible exact e_intF
    | with_reducible exact e_intB
    | with_reducible exact e_max
    | with_reducible exact e_min
    | with_reducible exact e_lenL
    | with_reducible exact e_lenT
    | with_reducible exact e_slen
    | with_reducible exact e_tupL
    | with_reducible exact e_slL
    | with_reducible exact e_slT
    | with_reducible exact e_rev
    | with_reducible exact e_isT
    | with_reducible exact e_isntF
    | with_reducible exact e_strS
    | with_reducible exact e_ix0L
    | with_reducible exact e_ix0T
    | ((with_reducible apply e_isF); rfl)
    | ((with_reducible apply e_isntT); rfl)
    | ((with_reducible apply e_ltT); (first | assumption | omega | (simp only [List.length_cons, List.length_nil, List.length_map]; omega)))
    | ((with_reducible apply e_ltF); (first | assumption | omega | (simp only [List.length_cons, List.length_nil, List.length_map]; omega)))
    | ((with_reducible apply e_leT); (first | assumption | omega | (simp only [List.length_cons, List.length_nil, List.length_map]; omega)))
    | ((with_reducible apply e_leF); (first | assumption | omega | (simp only [List.length_cons, List.length_nil, List.length_map]; omega)))
    | ((with_reducible apply e_gtT); (first | assumption | omega | (simp only [List.length_cons, List.length_nil, List.length_map]; omega)))
    | ((with_reducible apply e_gtF); (first | assumption | omega | (simp only [List.length_cons, List.length_nil, List.length_map]; omega)))
    | ((with_reducible apply e_geT); (first | assumption | omega | (simp only [List.length_cons, List.length_nil, List.length_map]; omega)))
    | ((with_reducible apply e_geF); (first | assumption | omega | (simp only [List.length_cons, List.length_nil, List.length_map]; omega)))
    | ((with_reducible apply e_eqIT); (first | assumption | omega | (simp only [List.length_cons, List.length_nil, List.length_map]; omega)))
    | ((with_reducible apply e_eqIF); (first | assumption | omega | (simp only [List.length_cons, List.length_nil, List.length_map]; omega)))
    | ((with_reducible apply e_neIT); (first | assumption | omega | (simp only [List.length_cons, List.length_nil, List.length_map]; omega)))
    | ((with_reducible apply e_neIF); (first | assumption | omega | (simp only [List.length_cons, List.length_nil, List.length_map]; omega)))
    | ((with_reducible apply e_eqST); (first | rfl | assumption | decide | decide +kernel))
    | ((with_reducible apply e_eqSF); (first | rfl | assumption | decide | decide +kernel))
    | ((with_reducible apply e_neST); (first | rfl | assumption | decide | decide +kernel))
    | ((with_reducible apply e_neSF); (first | rfl | assumption | decide | decide +kernel))
    | ((with_reducible apply e_mod); (first | assumption | omega | (simp only [List.length_cons, List.length_nil, List.length_map]; omega)))
    | ((with_reducible apply e_fdiv); (first | assumption | omega | (simp only [List.length_cons, List.length_nil, List.length_map]; omega)))
    | ((with_reducible apply e_mul); (first | assumption | omega | (simp only [List.length_cons, List.length_nil, List.length_map]; omega)))
    | ((with_reducible apply e_pixS); rfl)
    | ((with_reducible apply e_ixL); rfl)
    | ((with_reducible apply e_ixT); rfl)
    | ((with_reducible apply e_dget); rfl)
    | (rw [sizeLine_eq]; simp only [List.length_cons, List.length_nil]; omega)
    | ((show List.map _ _ = (_ : List L2.Key)); rfl)
    | with_reducible apply e_asg
    | with_reducible apply e_ret
    | with_reducible apply e_exp
    | with_reducible apply e_par
    | with_reducible apply e_par3
    | with_reducible apply e_retPot
    | with_reducible apply e_sif
    | with_reducible apply e_sq)
theorem way_ok {L R : EndK} {ps : List Int} {m : Mem} (g : GoodW L R ps) (hm : m.all noHm = true) : m_Way [.str (textS L R ps)] m = .ok (wayD L R ps) m := by
  have hrd := read_ok (m := m ++ [.ins "Way" [] []]) g
  apply e_mkO (ks := ["own_text", "own_left", "own_right", "own_places"]) (es := [.str (textS L R ps), L.d, R.d, .tup (ps.map .int)])
  · apply e_runN rfl
    unfold b_Way___init__
    apply e_seq
    · apply e_tg
      · repeat' (first
    | with_reducible exact hrd
    | with_reducible exact okr
    | with_reducible exact retr
    | with_reducible exact e_kC
    | with_reducible exact e_aNil
    | with_reducible exact e_nil
    | with_reducible exact e_evN
    | with_reducible exact e_oN
    | with_reducible exact n_t
    | with_reducible exact n_f
    | with_reducible exact sq_r
    | with_reducible apply pk_t
    | with_reducible apply pk_f
    | with_reducible apply sq_n
    | ((with_reducible apply e_vF); rfl)
    | ((with_reducible apply e_vW); rfl)
    | ((with_reducible apply e_vWo); rfl)
    | ((with_reducible apply e_vWd); rfl)
    | with_reducible apply e_b1
    | with_reducible apply e_b2
    | with_reducible apply e_b3
    | with_reducible apply e_aCons
    | with_reducible apply e_evC
    | with_reducible apply e_mkD2
    | with_reducible apply e_toB
    | with_reducible apply e_ofB
    | with_reducible apply e_not
    | with_reducible apply e_notv
    | with_reducible apply e_and
    | with_reducible apply e_or
    | with_reducible apply e_if
    | with_reducible apply e_andv
    | with_reducible apply e_orv
    | with_reducible apply e_chn
    | with_reducible apply e_bnd
    | with_reducible apply e_oS
    | with_reducible apply e_strO
    | with_reducible apply e_ofL
    | with_reducible apply e_mkL
    | with_reducible apply e_mkT
    | with_reducible exact e_add
    | with_reducible exact e_sub
    | with_reducible exact e_neg
    | with_reducible exact e_abs
    | with_reducible exact e_intI
    | with_reducible exact e_intT
    | with_reducible exact e_intF
    | with_reducible exact e_intB
    | with_reducible exact e_max
    | with_reducible exact e_min
    | with_reducible exact e_lenL
    | with_reducible exact e_lenT
    | with_reducible exact e_slen
    | with_reducible exact e_tupL
    | with_reducible exact e_slL
    | with_reducible exact e_slT
    | with_reducible exact e_rev
    | with_reducible exact e_isT
    | with_reducible exact e_isntF
    | with_reducible exact e_strS
    | with_reducible exact e_ix0L
    | with_reducible exact e_ix0T
    | ((with_reducible apply e_isF); rfl)
    | ((with_reducible apply e_isntT); rfl)
    | ((with_reducible apply e_ltT); (first | assumption | omega | (simp only [List.length_cons, List.length_nil, List.length_map]; omega)))
    | ((with_reducible apply e_ltF); (first | assumption | omega | (simp only [List.length_cons, List.length_nil, List.length_map]; omega)))
    | ((with_reducible apply e_leT); (first | assumption | omega | (simp only [List.length_cons, List.length_nil, List.length_map]; omega)))
    | ((with_reducible apply e_leF); (first | assumption | omega | (simp only [List.length_cons, List.length_nil, List.length_map]; omega)))
    | ((with_reducible apply e_gtT); (first | assumption | omega | (simp only [List.length_cons, List.length_nil, List.length_map]; omega)))
    | ((with_reducible apply e_gtF); (first | assumption | omega | (simp only [List.length_cons, List.length_nil, List.length_map]; omega)))
    | ((with_reducible apply e_geT); (first | assumption | omega | (simp only [List.length_cons, List.length_nil, List.length_map]; omega)))
    | ((with_reducible apply e_geF); (first | assumption | omega | (simp only [List.length_cons, List.length_nil, List.length_map]; omega)))
    | ((with_reducible apply e_eqIT); (first | assumption | omega | (simp only [List.length_cons, List.length_nil, List.length_map]; omega)))
    | ((with_reducible apply e_eqIF); (first | assumption | omega | (simp only [List.length_cons, List.length_nil, List.length_map]; omega)))
    | ((with_reducible apply e_neIT); (first | assumption | omega | (simp only [List.length_cons, List.length_nil, List.length_map]; omega)))
    | ((with_reducible apply e_neIF); (first | assumption | omega | (simp only [List.length_cons, List.length_nil, List.length_map]; omega)))
    | ((with_reducible apply e_eqST); (first | rfl | assumption | decide | decide +kernel))
    | ((with_reducible apply e_eqSF); (first | rfl | assumption | decide | decide +kernel))
    | ((with_reducible apply e_neST); (first | rfl | assumption | decide | decide +kernel))
    | ((with_reducible apply e_neSF); (first | rfl | assumption | decide | decide +kernel))
    | ((with_reducible apply e_mod); (first | assumption | omega | (simp only [List.length_cons, List.length_nil, List.length_map]; omega)))
    | ((with_reducible apply e_fdiv); (first | assumption | omega | (simp only [List.length_cons, List.length_nil, List.length_map]; omega)))
    | ((with_reducible apply e_mul); (first | assumption | omega | (simp only [List.length_cons, List.length_nil, List.length_map]; omega)))
    | ((with_reducible apply e_pixS); rfl)
    | ((with_reducible apply e_ixL); rfl)
    | ((with_reducible apply e_ixT); rfl)
    | ((with_reducible apply e_dget); rfl)
    | (rw [sizeLine_eq]; simp only [List.length_cons, List.length_nil]; omega)
    | ((show List.map _ _ = (_ : List L2.Key)); rfl)
    | with_reducible apply e_asg
    | with_reducible apply e_ret
    | with_reducible apply e_exp
    | with_reducible apply e_par
    | with_reducible apply e_par3
    | with_reducible apply e_retPot
    | with_reducible apply e_sif
    | with_reducible apply e_sq)
      · rfl
    apply e_seq
    · apply e_setL rfl (e_vF rfl) (by decide)
      rfl
    apply e_seq
    · apply e_setL rfl (e_vF rfl) (by decide)
      exact putK_new ⟨by decide +kernel, rfl⟩
    apply e_seq
    · apply e_setL rfl (e_vF rfl) (by decide)
      exact putK_new ⟨by decide +kernel, rfl⟩
    · apply e_setL rfl (e_vF rfl) (by decide)
      exact putK_new ⟨by decide +kernel, rfl⟩
  · have hi : ∀ l : List Int, noHs (l.map .int) = true := fun l => by
      induction l with
      | nil => rfl
      | cons a l ih => simp [noHs, noH, ih]
    have hd : ∀ e : EndK, noH e.d = true := fun e => by cases e <;> rfl
    simp [noHs, noH, hd, hi]
  · exact hm
end Gen
end
section
set_option linter.all false
set_option maxRecDepth 100000
set_option maxHeartbeats 4000000
namespace Gen
open PySem MT L2 TL
def TB (m : Mem) : Prop := ∀ (i : Nat) (x : Str), tf[i]? = some x → m[i]? = some (.tab x)
theorem TB.set {m : Mem} {n : Nat} {x : MO} {a b c : Int} (h : TB m) (e : m[n]? = some (.pot a b c)) : TB (m.set n x) := fun i y hy => by
  have q := h i y hy
  rw [List.getElem?_set_ne (by rintro rfl; rw [e] at q; cases q)]
  exact q
theorem TB.app {m : Mem} {x : MO} (h : TB m) : TB (m ++ [x]) := fun i y hy => by
  have q := h i y hy
  rw [List.getElem?_append_left (List.getElem?_eq_some_iff.mp q).1]
  exact q
theorem TB.start : TB (tf.map .tab) := fun i x h => by rw [List.getElem?_map, h]; rfl
end Gen
end
section
set_option linter.all false
set_option maxRecDepth 100000
set_option maxHeartbeats 4000000
namespace Gen
open PySem MT L2 TL
def loreD (L R : EndK) (ps : List Int) : D := .dct [.inr "left", .inr "right", .inr "at"] [L.d, R.d, .lst (ps.map .int)]
def strOf : D → D
  | .int i => .str (numS i)
  | d => d
theorem strOf_nums {ps : List Int} : (ps.map D.int).map strOf = (ps.map numS).map .str := by
  rw [List.map_map, List.map_map]
  rfl
theorem strs_end {e : EndK} (h : ∀ p, e.at = some p → okP p) : ∃ ds, e.d = .tup ds ∧ ds.length ≤ 2 ∧ ds.map strOf = e.words.map .str ∧ ∀ d ∈ ds, ∀ m : Mem, strD [d] m = .ok (strOf d) m := by
  cases e with
  | free => exact ⟨_, rfl, by decide, rfl, fun d hd m => by simp only [List.mem_singleton] at hd; subst hd; rfl⟩
  | off p =>
    refine ⟨_, rfl, by simp, rfl, fun d hd m => ?_⟩
    simp only [List.mem_cons, List.not_mem_nil, or_false] at hd
    rcases hd with rfl | rfl
    · rfl
    · have := (h p rfl).2
      exact e_strI (by omega)
  | wall p =>
    refine ⟨_, rfl, by simp, rfl, fun d hd m => ?_⟩
    simp only [List.mem_cons, List.not_mem_nil, or_false] at hd
    rcases hd with rfl | rfl
    · rfl
    · have := (h p rfl).2
      exact e_strI (by omega)
theorem line_ok {w : Str} {e : EndK} {m : Mem} (hw : w = "left" ∨ w = "right") (h : ∀ p, e.at = some p → okP p) : m__law_line [.str w, e.d] m = .ok (.str (lineS w e)) m := by
  have wd : Wd w := by rcases hw with rfl | rfl <;> exact wd_lit (by decide)
  obtain ⟨h1, h2, h3, h4⟩ := line_end (w := w) h wd
  obtain ⟨ds, ed, hl, hs, hd⟩ := strs_end h
  have hj : joinD (.str " ") [.lst ([.str w] ++ ds.map strOf)] m = .ok (.str (lineS w e)) m := by
    rw [hs]
    exact e_join (ys := w :: e.words) (by omega)
  rw [ed]
  have hc : compF (seqI (vF 1)) (tgN 2) kT (bind1 (aCons (vW 2) aNil) strD) [2] (enOf 3 [.str w, .tup ds]) m = .ok (ds.map strOf) m := by
    apply e_comp
    · apply e_seqT
      apply e_vF
      rfl
    · rw [sizeLine_eq]; omega
    · refine (comp_map (g := strOf) fun d hd' => ?_).trans (by rw [List.nil_append])
      refine ⟨_, rfl, ?_⟩
      repeat' (first
    | with_reducible exact hd d hd' m
    | with_reducible exact okr
    | with_reducible exact retr
    | with_reducible exact e_kC
    | with_reducible exact e_aNil
    | with_reducible exact e_nil
    | with_reducible exact e_evN
    | with_reducible exact e_oN
    | with_reducible exact n_t
    | with_reducible exact n_f
    | with_reducible exact sq_r
    | with_reducible apply pk_t
    | with_reducible apply pk_f
    | with_reducible apply sq_n
    | ((with_reducible apply e_vF); rfl)
    | ((with_reducible apply e_vW); rfl)
    | ((with_reducible apply e_vWo); rfl)
    | ((with_reducible apply e_vWd); rfl)
    | with_reducible apply e_b1
    | with_reducible apply e_b2
    | with_reducible apply e_b3
    | with_reducible apply e_aCons
    | with_reducible apply e_evC
    | with_reducible apply e_mkD2
    | with_reducible apply e_toB
    | with_reducible apply e_ofB
    | with_reducible apply e_not
    | with_reducible apply e_notv
    | with_reducible apply e_and
    | with_reducible apply e_or
    | with_reducible apply e_if
    | with_reducible apply e_andv
    | with_reducible apply e_orv
    | with_reducible apply e_chn
    | with_reducible apply e_bnd
    | with_reducible apply e_oS
    | with_reducible apply e_strO
    | with_reducible apply e_ofL
    | with_reducible apply e_mkL
    | with_reducible apply e_mkT
    | with_reducible exact e_add
    | with_reducible exact e_sub
    | with_reducible exact e_neg
    | with_reducible exact e_abs
    | with_reducible exact e_intI
    | with_reducible exact e_intT
    | with_reducible exact e_intF
    | with_reducible exact e_intB
    | with_reducible exact e_max
    | with_reducible exact e_min
    | with_reducible exact e_lenL
    | with_reducible exact e_lenT
    | with_reducible exact e_slen
    | with_reducible exact e_tupL
    | with_reducible exact e_slL
    | with_reducible exact e_slT
    | with_reducible exact e_rev
    | with_reducible exact e_isT
    | with_reducible exact e_isntF
    | with_reducible exact e_strS
    | with_reducible exact e_ix0L
    | with_reducible exact e_ix0T
    | ((with_reducible apply e_isF); rfl)
    | ((with_reducible apply e_isntT); rfl)
    | ((with_reducible apply e_ltT); (first | assumption | omega | (simp only [List.length_cons, List.length_nil, List.length_map]; omega)))
    | ((with_reducible apply e_ltF); (first | assumption | omega | (simp only [List.length_cons, List.length_nil, List.length_map]; omega)))
    | ((with_reducible apply e_leT); (first | assumption | omega | (simp only [List.length_cons, List.length_nil, List.length_map]; omega)))
    | ((with_reducible apply e_leF); (first | assumption | omega | (simp only [List.length_cons, List.length_nil, List.length_map]; omega)))
    | ((with_reducible apply e_gtT); (first | assumption | omega | (simp only [List.length_cons, List.length_nil, List.length_map]; omega)))
    | ((with_reducible apply e_gtF); (first | assumption | omega | (simp only [List.length_cons, List.length_nil, List.length_map]; omega)))
    | ((with_reducible apply e_geT); (first | assumption | omega | (simp only [List.length_cons, List.length_nil, List.length_map]; omega)))
    | ((with_reducible apply e_geF); (first | assumption | omega | (simp only [List.length_cons, List.length_nil, List.length_map]; omega)))
    | ((with_reducible apply e_eqIT); (first | assumption | omega | (simp only [List.length_cons, List.length_nil, List.length_map]; omega)))
    | ((with_reducible apply e_eqIF); (first | assumption | omega | (simp only [List.length_cons, List.length_nil, List.length_map]; omega)))
    | ((with_reducible apply e_neIT); (first | assumption | omega | (simp only [List.length_cons, List.length_nil, List.length_map]; omega)))
    | ((with_reducible apply e_neIF); (first | assumption | omega | (simp only [List.length_cons, List.length_nil, List.length_map]; omega)))
    | ((with_reducible apply e_eqST); (first | rfl | assumption | decide | decide +kernel))
    | ((with_reducible apply e_eqSF); (first | rfl | assumption | decide | decide +kernel))
    | ((with_reducible apply e_neST); (first | rfl | assumption | decide | decide +kernel))
    | ((with_reducible apply e_neSF); (first | rfl | assumption | decide | decide +kernel))
    | ((with_reducible apply e_mod); (first | assumption | omega | (simp only [List.length_cons, List.length_nil, List.length_map]; omega)))
    | ((with_reducible apply e_fdiv); (first | assumption | omega | (simp only [List.length_cons, List.length_nil, List.length_map]; omega)))
    | ((with_reducible apply e_mul); (first | assumption | omega | (simp only [List.length_cons, List.length_nil, List.length_map]; omega)))
    | ((with_reducible apply e_pixS); rfl)
    | ((with_reducible apply e_ixL); rfl)
    | ((with_reducible apply e_ixT); rfl)
    | ((with_reducible apply e_dget); rfl)
    | (rw [sizeLine_eq]; simp only [List.length_cons, List.length_nil]; omega)
    | ((show List.map _ _ = (_ : List L2.Key)); rfl)
    | with_reducible apply e_asg
    | with_reducible apply e_ret
    | with_reducible apply e_exp
    | with_reducible apply e_par
    | with_reducible apply e_par3
    | with_reducible apply e_retPot
    | with_reducible apply e_sif
    | with_reducible apply e_sq)
  apply e_run rfl
  unfold b__law_line
  repeat' (first
    | with_reducible exact hc
    | with_reducible exact hj
    | ((with_reducible apply e_addL); (rw [sizeLine_eq]; simp; omega))
    | with_reducible exact okr
    | with_reducible exact retr
    | with_reducible exact e_kC
    | with_reducible exact e_aNil
    | with_reducible exact e_nil
    | with_reducible exact e_evN
    | with_reducible exact e_oN
    | with_reducible exact n_t
    | with_reducible exact n_f
    | with_reducible exact sq_r
    | with_reducible apply pk_t
    | with_reducible apply pk_f
    | with_reducible apply sq_n
    | ((with_reducible apply e_vF); rfl)
    | ((with_reducible apply e_vW); rfl)
    | ((with_reducible apply e_vWo); rfl)
    | ((with_reducible apply e_vWd); rfl)
    | with_reducible apply e_b1
    | with_reducible apply e_b2
    | with_reducible apply e_b3
    | with_reducible apply e_aCons
    | with_reducible apply e_evC
    | with_reducible apply e_mkD2
    | with_reducible apply e_toB
    | with_reducible apply e_ofB
    | with_reducible apply e_not
    | with_reducible apply e_notv
    | with_reducible apply e_and
    | with_reducible apply e_or
    | with_reducible apply e_if
    | with_reducible apply e_andv
    | with_reducible apply e_orv
    | with_reducible apply e_chn
    | with_reducible apply e_bnd
    | with_reducible apply e_oS
    | with_reducible apply e_strO
    | with_reducible apply e_ofL
    | with_reducible apply e_mkL
    | with_reducible apply e_mkT
    | with_reducible exact e_add
    | with_reducible exact e_sub
    | with_reducible exact e_neg
    | with_reducible exact e_abs
    | with_reducible exact e_intI
    | with_reducible exact e_intT
    | with_reducible exact e_intF
    | with_reducible exact e_intB
    | with_reducible exact e_max
    | with_reducible exact e_min
    | with_reducible exact e_lenL
    | with_reducible exact e_lenT
    | with_reducible exact e_slen
    | with_reducible exact e_tupL
    | with_reducible exact e_slL
    | with_reducible exact e_slT
    | with_reducible exact e_rev
    | with_reducible exact e_isT
    | with_reducible exact e_isntF
    | with_reducible exact e_strS
    | with_reducible exact e_ix0L
    | with_reducible exact e_ix0T
    | ((with_reducible apply e_isF); rfl)
    | ((with_reducible apply e_isntT); rfl)
    | ((with_reducible apply e_ltT); (first | assumption | omega | (simp only [List.length_cons, List.length_nil, List.length_map]; omega)))
    | ((with_reducible apply e_ltF); (first | assumption | omega | (simp only [List.length_cons, List.length_nil, List.length_map]; omega)))
    | ((with_reducible apply e_leT); (first | assumption | omega | (simp only [List.length_cons, List.length_nil, List.length_map]; omega)))
    | ((with_reducible apply e_leF); (first | assumption | omega | (simp only [List.length_cons, List.length_nil, List.length_map]; omega)))
    | ((with_reducible apply e_gtT); (first | assumption | omega | (simp only [List.length_cons, List.length_nil, List.length_map]; omega)))
    | ((with_reducible apply e_gtF); (first | assumption | omega | (simp only [List.length_cons, List.length_nil, List.length_map]; omega)))
    | ((with_reducible apply e_geT); (first | assumption | omega | (simp only [List.length_cons, List.length_nil, List.length_map]; omega)))
    | ((with_reducible apply e_geF); (first | assumption | omega | (simp only [List.length_cons, List.length_nil, List.length_map]; omega)))
    | ((with_reducible apply e_eqIT); (first | assumption | omega | (simp only [List.length_cons, List.length_nil, List.length_map]; omega)))
    | ((with_reducible apply e_eqIF); (first | assumption | omega | (simp only [List.length_cons, List.length_nil, List.length_map]; omega)))
    | ((with_reducible apply e_neIT); (first | assumption | omega | (simp only [List.length_cons, List.length_nil, List.length_map]; omega)))
    | ((with_reducible apply e_neIF); (first | assumption | omega | (simp only [List.length_cons, List.length_nil, List.length_map]; omega)))
    | ((with_reducible apply e_eqST); (first | rfl | assumption | decide | decide +kernel))
    | ((with_reducible apply e_eqSF); (first | rfl | assumption | decide | decide +kernel))
    | ((with_reducible apply e_neST); (first | rfl | assumption | decide | decide +kernel))
    | ((with_reducible apply e_neSF); (first | rfl | assumption | decide | decide +kernel))
    | ((with_reducible apply e_mod); (first | assumption | omega | (simp only [List.length_cons, List.length_nil, List.length_map]; omega)))
    | ((with_reducible apply e_fdiv); (first | assumption | omega | (simp only [List.length_cons, List.length_nil, List.length_map]; omega)))
    | ((with_reducible apply e_mul); (first | assumption | omega | (simp only [List.length_cons, List.length_nil, List.length_map]; omega)))
    | ((with_reducible apply e_pixS); rfl)
    | ((with_reducible apply e_ixL); rfl)
    | ((with_reducible apply e_ixT); rfl)
    | ((with_reducible apply e_dget); rfl)
    | (rw [sizeLine_eq]; simp only [List.length_cons, List.length_nil]; omega)
    | ((show List.map _ _ = (_ : List L2.Key)); rfl)
    | with_reducible apply e_asg
    | with_reducible apply e_ret
    | with_reducible apply e_exp
    | with_reducible apply e_par
    | with_reducible apply e_par3
    | with_reducible apply e_retPot
    | with_reducible apply e_sif
    | with_reducible apply e_sq)
end Gen
end
section
set_option linter.all false
set_option maxRecDepth 100000
set_option maxHeartbeats 4000000
namespace Gen
open PySem MT L2 TL
def MemI (m : Mem) (n : Nat) (k : Int) : Prop := (∃ a b c, m[n]? = some (.pot a b c) ∧ 0 ≤ a ∧ (0 ≤ b ∧ b < 2 ^ 61) ∧ 0 ≤ c ∧ c ≤ k ∧ TB m) ∧ m.all noHm = true
theorem MemI.mono {m : Mem} {n : Nat} {k k' : Int} (h : MemI m n k) (l : k ≤ k') : MemI m n k' := by
  obtain ⟨⟨a, b, c, h1, h2, h3, h4, h5, h7⟩, h6⟩ := h
  exact ⟨⟨a, b, c, h1, h2, h3, h4, by omega, h7⟩, h6⟩
theorem all_set {m : Mem} {n : Nat} {x : MO} (h : m.all noHm = true) (hx : noHm x = true) : (m.set n x).all noHm = true := by
  rw [List.all_eq_true] at h ⊢
  intro y hy
  rcases List.mem_or_eq_of_mem_set hy with h1 | rfl
  · exact h y h1
  · exact hx
theorem take_I {n : Nat} {u k : Int} {m : Mem} (h : MemI m n k) (hk : k < 1000000) (hu : 0 < u ∧ u < 2 ^ 64) :
    Ends (m__law_take [.hnd n, .int u] m) fun x m' => (∃ d, x = .int d ∧ 0 ≤ d ∧ d < u) ∧ MemI m' n (k + 1) := by
  obtain ⟨⟨a, b, c, h1, h2, h3, h4, h5, h7⟩, h6⟩ := h
  obtain ⟨x, m', e, d, a', c', rfl, rfl, q1, q2, q3, q4, q5⟩ := take_ok h1 h2 h3 ⟨h4, by omega⟩ hu
  exact ⟨_, _, e, ⟨d, rfl, q1, q2⟩, ⟨a', b, c', setpot h1 _, q3, h3, by omega, by omega, h7.set h1⟩, all_set h6 rfl⟩
theorem at_mem {T : Type} {xs : List T} {d : Int} (h0 : 0 ≤ d) (h1 : d < xs.length) : ∃ x ∈ xs, atI xs d = some x := by
  have hl : d.toNat < xs.length := by omega
  refine ⟨xs[d.toNat], List.getElem_mem hl, ?_⟩
  unfold atI ixN
  rw [if_pos h0, if_pos h1]
  simp [List.getElem?_eq_getElem hl]
theorem of_I {n : Nat} {k : Int} {m : Mem} {xs : List D} (h : MemI m n k) (hk : k < 1000000) (hn : 1 ≤ xs.length) (hl : xs.length < 2 ^ 63) :
    Ends (m__law_of [.hnd n, .lst xs] m) fun x m' => x ∈ xs ∧ MemI m' n (k + 1) := by
  obtain ⟨x, m', e, ⟨d, rfl, q1, q2⟩, hm⟩ := take_I (u := xs.length) h hk ⟨by omega, by omega⟩
  obtain ⟨y, hy, ey⟩ := at_mem q1 q2
  refine ⟨y, m', ?_, hy, hm⟩
  apply e_run rfl
  unfold b__law_of
  repeat' (first
    | with_reducible exact e
    | with_reducible exact e_ixL ey
    | with_reducible exact okr
    | with_reducible exact retr
    | with_reducible exact e_kC
    | with_reducible exact e_aNil
    | with_reducible exact e_nil
    | with_reducible exact e_evN
    | with_reducible exact e_oN
    | with_reducible exact n_t
    | with_reducible exact n_f
    | with_reducible exact sq_r
    | with_reducible apply pk_t
    | with_reducible apply pk_f
    | with_reducible apply sq_n
    | ((with_reducible apply e_vF); rfl)
    | ((with_reducible apply e_vW); rfl)
    | ((with_reducible apply e_vWo); rfl)
    | ((with_reducible apply e_vWd); rfl)
    | with_reducible apply e_b1
    | with_reducible apply e_b2
    | with_reducible apply e_b3
    | with_reducible apply e_aCons
    | with_reducible apply e_evC
    | with_reducible apply e_mkD2
    | with_reducible apply e_toB
    | with_reducible apply e_ofB
    | with_reducible apply e_not
    | with_reducible apply e_notv
    | with_reducible apply e_and
    | with_reducible apply e_or
    | with_reducible apply e_if
    | with_reducible apply e_andv
    | with_reducible apply e_orv
    | with_reducible apply e_chn
    | with_reducible apply e_bnd
    | with_reducible apply e_oS
    | with_reducible apply e_strO
    | with_reducible apply e_ofL
    | with_reducible apply e_mkL
    | with_reducible apply e_mkT
    | with_reducible exact e_add
    | with_reducible exact e_sub
    | with_reducible exact e_neg
    | with_reducible exact e_abs
    | with_reducible exact e_intI
    | with_reducible exact e_intT
    | with_reducible exact e_intF
    | with_reducible exact e_intB
    | with_reducible exact e_max
    | with_reducible exact e_min
    | with_reducible exact e_lenL
    | with_reducible exact e_lenT
    | with_reducible exact e_slen
    | with_reducible exact e_tupL
    | with_reducible exact e_slL
    | with_reducible exact e_slT
    | with_reducible exact e_rev
    | with_reducible exact e_isT
    | with_reducible exact e_isntF
    | with_reducible exact e_strS
    | with_reducible exact e_ix0L
    | with_reducible exact e_ix0T
    | ((with_reducible apply e_isF); rfl)
    | ((with_reducible apply e_isntT); rfl)
    | ((with_reducible apply e_ltT); (first | assumption | omega | (simp only [List.length_cons, List.length_nil, List.length_map]; omega)))
    | ((with_reducible apply e_ltF); (first | assumption | omega | (simp only [List.length_cons, List.length_nil, List.length_map]; omega)))
    | ((with_reducible apply e_leT); (first | assumption | omega | (simp only [List.length_cons, List.length_nil, List.length_map]; omega)))
    | ((with_reducible apply e_leF); (first | assumption | omega | (simp only [List.length_cons, List.length_nil, List.length_map]; omega)))
    | ((with_reducible apply e_gtT); (first | assumption | omega | (simp only [List.length_cons, List.length_nil, List.length_map]; omega)))
    | ((with_reducible apply e_gtF); (first | assumption | omega | (simp only [List.length_cons, List.length_nil, List.length_map]; omega)))
    | ((with_reducible apply e_geT); (first | assumption | omega | (simp only [List.length_cons, List.length_nil, List.length_map]; omega)))
    | ((with_reducible apply e_geF); (first | assumption | omega | (simp only [List.length_cons, List.length_nil, List.length_map]; omega)))
    | ((with_reducible apply e_eqIT); (first | assumption | omega | (simp only [List.length_cons, List.length_nil, List.length_map]; omega)))
    | ((with_reducible apply e_eqIF); (first | assumption | omega | (simp only [List.length_cons, List.length_nil, List.length_map]; omega)))
    | ((with_reducible apply e_neIT); (first | assumption | omega | (simp only [List.length_cons, List.length_nil, List.length_map]; omega)))
    | ((with_reducible apply e_neIF); (first | assumption | omega | (simp only [List.length_cons, List.length_nil, List.length_map]; omega)))
    | ((with_reducible apply e_eqST); (first | rfl | assumption | decide | decide +kernel))
    | ((with_reducible apply e_eqSF); (first | rfl | assumption | decide | decide +kernel))
    | ((with_reducible apply e_neST); (first | rfl | assumption | decide | decide +kernel))
    | ((with_reducible apply e_neSF); (first | rfl | assumption | decide | decide +kernel))
    | ((with_reducible apply e_mod); (first | assumption | omega | (simp only [List.length_cons, List.length_nil, List.length_map]; omega)))
    | ((with_reducible apply e_fdiv); (first | assumption | omega | (simp only [List.length_cons, List.length_nil, List.length_map]; omega)))
    | ((with_reducible apply e_mul); (first | assumption | omega | (simp only [List.length_cons, List.length_nil, List.length_map]; omega)))
    | ((with_reducible apply e_pixS); rfl)
    | ((with_reducible apply e_ixL); rfl)
    | ((with_reducible apply e_ixT); rfl)
    | ((with_reducible apply e_dget); rfl)
    | (rw [sizeLine_eq]; simp only [List.length_cons, List.length_nil]; omega)
    | ((show List.map _ _ = (_ : List L2.Key)); rfl)
    | with_reducible apply e_asg
    | with_reducible apply e_ret
    | with_reducible apply e_exp
    | with_reducible apply e_par
    | with_reducible apply e_par3
    | with_reducible apply e_retPot
    | with_reducible apply e_sif
    | with_reducible apply e_sq)
theorem cells_ok {ns : List Int} {m : Mem} (hl : ns.length ≤ 63) : ∃ k : Int, 1 ≤ k ∧ k ≤ 4 ∧ m__law_cells [.scr ns, .int 4] m = .ok (.lst (rangeD 0 k)) m := by
  have key : ∀ k : Int, k = (if (if (ns.length : Int) < 4 then (ns.length : Int) else 4) > 1 then (if (ns.length : Int) < 4 then (ns.length : Int) else 4) else 1) → 1 ≤ k → k ≤ 4 → m__law_cells [.scr ns, .int 4] m = .ok (.lst (rangeD 0 k)) m := by
    intro k hk h1 h2
    subst hk
    apply e_run rfl
    unfold b__law_cells
    apply e_ret
    apply e_mkLI
    · apply e_rng1
      · repeat' (first
    | with_reducible exact okr
    | with_reducible exact retr
    | with_reducible exact e_kC
    | with_reducible exact e_aNil
    | with_reducible exact e_nil
    | with_reducible exact e_evN
    | with_reducible exact e_oN
    | with_reducible exact n_t
    | with_reducible exact n_f
    | with_reducible exact sq_r
    | with_reducible apply pk_t
    | with_reducible apply pk_f
    | with_reducible apply sq_n
    | ((with_reducible apply e_vF); rfl)
    | ((with_reducible apply e_vW); rfl)
    | ((with_reducible apply e_vWo); rfl)
    | ((with_reducible apply e_vWd); rfl)
    | with_reducible apply e_b1
    | with_reducible apply e_b2
    | with_reducible apply e_b3
    | with_reducible apply e_aCons
    | with_reducible apply e_evC
    | with_reducible apply e_mkD2
    | with_reducible apply e_toB
    | with_reducible apply e_ofB
    | with_reducible apply e_not
    | with_reducible apply e_notv
    | with_reducible apply e_and
    | with_reducible apply e_or
    | with_reducible apply e_if
    | with_reducible apply e_andv
    | with_reducible apply e_orv
    | with_reducible apply e_chn
    | with_reducible apply e_bnd
    | with_reducible apply e_oS
    | with_reducible apply e_strO
    | with_reducible apply e_ofL
    | with_reducible apply e_mkL
    | with_reducible apply e_mkT
    | with_reducible exact e_add
    | with_reducible exact e_sub
    | with_reducible exact e_neg
    | with_reducible exact e_abs
    | with_reducible exact e_intI
    | with_reducible exact e_intT
    | with_reducible exact e_intF
    | with_reducible exact e_intB
    | with_reducible exact e_max
    | with_reducible exact e_min
    | with_reducible exact e_lenL
    | with_reducible exact e_lenT
    | with_reducible exact e_slen
    | with_reducible exact e_tupL
    | with_reducible exact e_slL
    | with_reducible exact e_slT
    | with_reducible exact e_rev
    | with_reducible exact e_isT
    | with_reducible exact e_isntF
    | with_reducible exact e_strS
    | with_reducible exact e_ix0L
    | with_reducible exact e_ix0T
    | ((with_reducible apply e_isF); rfl)
    | ((with_reducible apply e_isntT); rfl)
    | ((with_reducible apply e_ltT); (first | assumption | omega | (simp only [List.length_cons, List.length_nil, List.length_map]; omega)))
    | ((with_reducible apply e_ltF); (first | assumption | omega | (simp only [List.length_cons, List.length_nil, List.length_map]; omega)))
    | ((with_reducible apply e_leT); (first | assumption | omega | (simp only [List.length_cons, List.length_nil, List.length_map]; omega)))
    | ((with_reducible apply e_leF); (first | assumption | omega | (simp only [List.length_cons, List.length_nil, List.length_map]; omega)))
    | ((with_reducible apply e_gtT); (first | assumption | omega | (simp only [List.length_cons, List.length_nil, List.length_map]; omega)))
    | ((with_reducible apply e_gtF); (first | assumption | omega | (simp only [List.length_cons, List.length_nil, List.length_map]; omega)))
    | ((with_reducible apply e_geT); (first | assumption | omega | (simp only [List.length_cons, List.length_nil, List.length_map]; omega)))
    | ((with_reducible apply e_geF); (first | assumption | omega | (simp only [List.length_cons, List.length_nil, List.length_map]; omega)))
    | ((with_reducible apply e_eqIT); (first | assumption | omega | (simp only [List.length_cons, List.length_nil, List.length_map]; omega)))
    | ((with_reducible apply e_eqIF); (first | assumption | omega | (simp only [List.length_cons, List.length_nil, List.length_map]; omega)))
    | ((with_reducible apply e_neIT); (first | assumption | omega | (simp only [List.length_cons, List.length_nil, List.length_map]; omega)))
    | ((with_reducible apply e_neIF); (first | assumption | omega | (simp only [List.length_cons, List.length_nil, List.length_map]; omega)))
    | ((with_reducible apply e_eqST); (first | rfl | assumption | decide | decide +kernel))
    | ((with_reducible apply e_eqSF); (first | rfl | assumption | decide | decide +kernel))
    | ((with_reducible apply e_neST); (first | rfl | assumption | decide | decide +kernel))
    | ((with_reducible apply e_neSF); (first | rfl | assumption | decide | decide +kernel))
    | ((with_reducible apply e_mod); (first | assumption | omega | (simp only [List.length_cons, List.length_nil, List.length_map]; omega)))
    | ((with_reducible apply e_fdiv); (first | assumption | omega | (simp only [List.length_cons, List.length_nil, List.length_map]; omega)))
    | ((with_reducible apply e_mul); (first | assumption | omega | (simp only [List.length_cons, List.length_nil, List.length_map]; omega)))
    | ((with_reducible apply e_pixS); rfl)
    | ((with_reducible apply e_ixL); rfl)
    | ((with_reducible apply e_ixT); rfl)
    | ((with_reducible apply e_dget); rfl)
    | (rw [sizeLine_eq]; simp only [List.length_cons, List.length_nil]; omega)
    | ((show List.map _ _ = (_ : List L2.Key)); rfl)
    | with_reducible apply e_asg
    | with_reducible apply e_ret
    | with_reducible apply e_exp
    | with_reducible apply e_par
    | with_reducible apply e_par3
    | with_reducible apply e_retPot
    | with_reducible apply e_sif
    | with_reducible apply e_sq)
      · omega
    · rw [rangeD_length]; omega
  exact ⟨_, by split <;> split <;> omega, by split <;> split <;> omega, key _ rfl (by split <;> split <;> omega) (by split <;> split <;> omega)⟩
theorem pot_ok {ns : List Int} {p : Int} {m : Mem} (h0 : 0 ≤ p) (h1 : p < 10) (hm : m.all noHm = true) (ht : TB m := by trivial) : Ends (m__law_pot [.scr ns, .int p] m) fun x m' => x = .hnd m.length ∧ MemI m' m.length 0 := by
  have hcell : ∃ c : Int, (ifE (toB (bind2 (vW 1) (bind1 (aCons (vW 0) aNil) slenD) ltD)) (bind2 (vW 0) (vW 1) pixD) (bind2 (bind2 (kC (.int 105)) (vW 1) mulD) (kC (.int 39)) addD)) (enOf 5 [.scr ns, .int p]) m = .ok (.int c) m := by
    by_cases h : p < ns.length
    · obtain ⟨x, _, ex⟩ := at_mem h0 h
      refine ⟨x, ?_⟩
      repeat' (first
    | with_reducible exact e_pixS ex
    | with_reducible exact okr
    | with_reducible exact retr
    | with_reducible exact e_kC
    | with_reducible exact e_aNil
    | with_reducible exact e_nil
    | with_reducible exact e_evN
    | with_reducible exact e_oN
    | with_reducible exact n_t
    | with_reducible exact n_f
    | with_reducible exact sq_r
    | with_reducible apply pk_t
    | with_reducible apply pk_f
    | with_reducible apply sq_n
    | ((with_reducible apply e_vF); rfl)
    | ((with_reducible apply e_vW); rfl)
    | ((with_reducible apply e_vWo); rfl)
    | ((with_reducible apply e_vWd); rfl)
    | with_reducible apply e_b1
    | with_reducible apply e_b2
    | with_reducible apply e_b3
    | with_reducible apply e_aCons
    | with_reducible apply e_evC
    | with_reducible apply e_mkD2
    | with_reducible apply e_toB
    | with_reducible apply e_ofB
    | with_reducible apply e_not
    | with_reducible apply e_notv
    | with_reducible apply e_and
    | with_reducible apply e_or
    | with_reducible apply e_if
    | with_reducible apply e_andv
    | with_reducible apply e_orv
    | with_reducible apply e_chn
    | with_reducible apply e_bnd
    | with_reducible apply e_oS
    | with_reducible apply e_strO
    | with_reducible apply e_ofL
    | with_reducible apply e_mkL
    | with_reducible apply e_mkT
    | with_reducible exact e_add
    | with_reducible exact e_sub
    | with_reducible exact e_neg
    | with_reducible exact e_abs
    | with_reducible exact e_intI
    | with_reducible exact e_intT
    | with_reducible exact e_intF
    | with_reducible exact e_intB
    | with_reducible exact e_max
    | with_reducible exact e_min
    | with_reducible exact e_lenL
    | with_reducible exact e_lenT
    | with_reducible exact e_slen
    | with_reducible exact e_tupL
    | with_reducible exact e_slL
    | with_reducible exact e_slT
    | with_reducible exact e_rev
    | with_reducible exact e_isT
    | with_reducible exact e_isntF
    | with_reducible exact e_strS
    | with_reducible exact e_ix0L
    | with_reducible exact e_ix0T
    | ((with_reducible apply e_isF); rfl)
    | ((with_reducible apply e_isntT); rfl)
    | ((with_reducible apply e_ltT); (first | assumption | omega | (simp only [List.length_cons, List.length_nil, List.length_map]; omega)))
    | ((with_reducible apply e_ltF); (first | assumption | omega | (simp only [List.length_cons, List.length_nil, List.length_map]; omega)))
    | ((with_reducible apply e_leT); (first | assumption | omega | (simp only [List.length_cons, List.length_nil, List.length_map]; omega)))
    | ((with_reducible apply e_leF); (first | assumption | omega | (simp only [List.length_cons, List.length_nil, List.length_map]; omega)))
    | ((with_reducible apply e_gtT); (first | assumption | omega | (simp only [List.length_cons, List.length_nil, List.length_map]; omega)))
    | ((with_reducible apply e_gtF); (first | assumption | omega | (simp only [List.length_cons, List.length_nil, List.length_map]; omega)))
    | ((with_reducible apply e_geT); (first | assumption | omega | (simp only [List.length_cons, List.length_nil, List.length_map]; omega)))
    | ((with_reducible apply e_geF); (first | assumption | omega | (simp only [List.length_cons, List.length_nil, List.length_map]; omega)))
    | ((with_reducible apply e_eqIT); (first | assumption | omega | (simp only [List.length_cons, List.length_nil, List.length_map]; omega)))
    | ((with_reducible apply e_eqIF); (first | assumption | omega | (simp only [List.length_cons, List.length_nil, List.length_map]; omega)))
    | ((with_reducible apply e_neIT); (first | assumption | omega | (simp only [List.length_cons, List.length_nil, List.length_map]; omega)))
    | ((with_reducible apply e_neIF); (first | assumption | omega | (simp only [List.length_cons, List.length_nil, List.length_map]; omega)))
    | ((with_reducible apply e_eqST); (first | rfl | assumption | decide | decide +kernel))
    | ((with_reducible apply e_eqSF); (first | rfl | assumption | decide | decide +kernel))
    | ((with_reducible apply e_neST); (first | rfl | assumption | decide | decide +kernel))
    | ((with_reducible apply e_neSF); (first | rfl | assumption | decide | decide +kernel))
    | ((with_reducible apply e_mod); (first | assumption | omega | (simp only [List.length_cons, List.length_nil, List.length_map]; omega)))
    | ((with_reducible apply e_fdiv); (first | assumption | omega | (simp only [List.length_cons, List.length_nil, List.length_map]; omega)))
    | ((with_reducible apply e_mul); (first | assumption | omega | (simp only [List.length_cons, List.length_nil, List.length_map]; omega)))
    | ((with_reducible apply e_pixS); rfl)
    | ((with_reducible apply e_ixL); rfl)
    | ((with_reducible apply e_ixT); rfl)
    | ((with_reducible apply e_dget); rfl)
    | (rw [sizeLine_eq]; simp only [List.length_cons, List.length_nil]; omega)
    | ((show List.map _ _ = (_ : List L2.Key)); rfl)
    | with_reducible apply e_asg
    | with_reducible apply e_ret
    | with_reducible apply e_exp
    | with_reducible apply e_par
    | with_reducible apply e_par3
    | with_reducible apply e_retPot
    | with_reducible apply e_sif
    | with_reducible apply e_sq)
    · refine ⟨105 * p + 39, ?_⟩
      repeat' (first
    | with_reducible exact okr
    | with_reducible exact retr
    | with_reducible exact e_kC
    | with_reducible exact e_aNil
    | with_reducible exact e_nil
    | with_reducible exact e_evN
    | with_reducible exact e_oN
    | with_reducible exact n_t
    | with_reducible exact n_f
    | with_reducible exact sq_r
    | with_reducible apply pk_t
    | with_reducible apply pk_f
    | with_reducible apply sq_n
    | ((with_reducible apply e_vF); rfl)
    | ((with_reducible apply e_vW); rfl)
    | ((with_reducible apply e_vWo); rfl)
    | ((with_reducible apply e_vWd); rfl)
    | with_reducible apply e_b1
    | with_reducible apply e_b2
    | with_reducible apply e_b3
    | with_reducible apply e_aCons
    | with_reducible apply e_evC
    | with_reducible apply e_mkD2
    | with_reducible apply e_toB
    | with_reducible apply e_ofB
    | with_reducible apply e_not
    | with_reducible apply e_notv
    | with_reducible apply e_and
    | with_reducible apply e_or
    | with_reducible apply e_if
    | with_reducible apply e_andv
    | with_reducible apply e_orv
    | with_reducible apply e_chn
    | with_reducible apply e_bnd
    | with_reducible apply e_oS
    | with_reducible apply e_strO
    | with_reducible apply e_ofL
    | with_reducible apply e_mkL
    | with_reducible apply e_mkT
    | with_reducible exact e_add
    | with_reducible exact e_sub
    | with_reducible exact e_neg
    | with_reducible exact e_abs
    | with_reducible exact e_intI
    | with_reducible exact e_intT
    | with_reducible exact e_intF
    | with_reducible exact e_intB
    | with_reducible exact e_max
    | with_reducible exact e_min
    | with_reducible exact e_lenL
    | with_reducible exact e_lenT
    | with_reducible exact e_slen
    | with_reducible exact e_tupL
    | with_reducible exact e_slL
    | with_reducible exact e_slT
    | with_reducible exact e_rev
    | with_reducible exact e_isT
    | with_reducible exact e_isntF
    | with_reducible exact e_strS
    | with_reducible exact e_ix0L
    | with_reducible exact e_ix0T
    | ((with_reducible apply e_isF); rfl)
    | ((with_reducible apply e_isntT); rfl)
    | ((with_reducible apply e_ltT); (first | assumption | omega | (simp only [List.length_cons, List.length_nil, List.length_map]; omega)))
    | ((with_reducible apply e_ltF); (first | assumption | omega | (simp only [List.length_cons, List.length_nil, List.length_map]; omega)))
    | ((with_reducible apply e_leT); (first | assumption | omega | (simp only [List.length_cons, List.length_nil, List.length_map]; omega)))
    | ((with_reducible apply e_leF); (first | assumption | omega | (simp only [List.length_cons, List.length_nil, List.length_map]; omega)))
    | ((with_reducible apply e_gtT); (first | assumption | omega | (simp only [List.length_cons, List.length_nil, List.length_map]; omega)))
    | ((with_reducible apply e_gtF); (first | assumption | omega | (simp only [List.length_cons, List.length_nil, List.length_map]; omega)))
    | ((with_reducible apply e_geT); (first | assumption | omega | (simp only [List.length_cons, List.length_nil, List.length_map]; omega)))
    | ((with_reducible apply e_geF); (first | assumption | omega | (simp only [List.length_cons, List.length_nil, List.length_map]; omega)))
    | ((with_reducible apply e_eqIT); (first | assumption | omega | (simp only [List.length_cons, List.length_nil, List.length_map]; omega)))
    | ((with_reducible apply e_eqIF); (first | assumption | omega | (simp only [List.length_cons, List.length_nil, List.length_map]; omega)))
    | ((with_reducible apply e_neIT); (first | assumption | omega | (simp only [List.length_cons, List.length_nil, List.length_map]; omega)))
    | ((with_reducible apply e_neIF); (first | assumption | omega | (simp only [List.length_cons, List.length_nil, List.length_map]; omega)))
    | ((with_reducible apply e_eqST); (first | rfl | assumption | decide | decide +kernel))
    | ((with_reducible apply e_eqSF); (first | rfl | assumption | decide | decide +kernel))
    | ((with_reducible apply e_neST); (first | rfl | assumption | decide | decide +kernel))
    | ((with_reducible apply e_neSF); (first | rfl | assumption | decide | decide +kernel))
    | ((with_reducible apply e_mod); (first | assumption | omega | (simp only [List.length_cons, List.length_nil, List.length_map]; omega)))
    | ((with_reducible apply e_fdiv); (first | assumption | omega | (simp only [List.length_cons, List.length_nil, List.length_map]; omega)))
    | ((with_reducible apply e_mul); (first | assumption | omega | (simp only [List.length_cons, List.length_nil, List.length_map]; omega)))
    | ((with_reducible apply e_pixS); rfl)
    | ((with_reducible apply e_ixL); rfl)
    | ((with_reducible apply e_ixT); rfl)
    | ((with_reducible apply e_dget); rfl)
    | (rw [sizeLine_eq]; simp only [List.length_cons, List.length_nil]; omega)
    | ((show List.map _ _ = (_ : List L2.Key)); rfl)
    | with_reducible apply e_asg
    | with_reducible apply e_ret
    | with_reducible apply e_exp
    | with_reducible apply e_par
    | with_reducible apply e_par3
    | with_reducible apply e_retPot
    | with_reducible apply e_sif
    | with_reducible apply e_sq)
  obtain ⟨c, hc⟩ := hcell
  have fin : ∀ (y b : Int), 0 ≤ y → Ends (m__law_pot [.scr ns, .int p] m) (fun x m' => x = .hnd m.length ∧ m' = m ++ [.pot y (b % 2305843009213693921) 0]) → Ends (m__law_pot [.scr ns, .int p] m) fun x m' => x = .hnd m.length ∧ MemI m' m.length 0 := by
    rintro y b hy ⟨x, m', e, rfl, rfl⟩
    have q1 := Int.emod_nonneg b (b := 2305843009213693921) (by decide)
    have q2 := Int.emod_lt_of_pos b (b := 2305843009213693921) (by decide)
    refine ⟨_, _, e, rfl, ⟨y, _, 0, by simp, hy, ⟨q1, by omega⟩, Int.le_refl _, Int.le_refl _, ht.app⟩, ?_⟩
    rw [List.all_append, hm]
    rfl
  by_cases hge : (10 : Int) ^ Int.toNat 18 ≤ (if c < 0 then -c else c)
  · apply fin
    rotate_left
    · apply ends_of
      · apply e_run rfl
        unfold b__law_pot
        repeat' (first
    | with_reducible exact hc
          | ((with_reducible apply e_pow) <;> decide +kernel)
          | ((with_reducible apply e_mod); decide +kernel)
          | ((with_reducible apply e_mul); exact .inr (by decide))
    | with_reducible exact okr
    | with_reducible exact retr
    | with_reducible exact e_kC
    | with_reducible exact e_aNil
    | with_reducible exact e_nil
    | with_reducible exact e_evN
    | with_reducible exact e_oN
    | with_reducible exact n_t
    | with_reducible exact n_f
    | with_reducible exact sq_r
    | with_reducible apply pk_t
    | with_reducible apply pk_f
    | with_reducible apply sq_n
    | ((with_reducible apply e_vF); rfl)
    | ((with_reducible apply e_vW); rfl)
    | ((with_reducible apply e_vWo); rfl)
    | ((with_reducible apply e_vWd); rfl)
    | with_reducible apply e_b1
    | with_reducible apply e_b2
    | with_reducible apply e_b3
    | with_reducible apply e_aCons
    | with_reducible apply e_evC
    | with_reducible apply e_mkD2
    | with_reducible apply e_toB
    | with_reducible apply e_ofB
    | with_reducible apply e_not
    | with_reducible apply e_notv
    | with_reducible apply e_and
    | with_reducible apply e_or
    | with_reducible apply e_if
    | with_reducible apply e_andv
    | with_reducible apply e_orv
    | with_reducible apply e_chn
    | with_reducible apply e_bnd
    | with_reducible apply e_oS
    | with_reducible apply e_strO
    | with_reducible apply e_ofL
    | with_reducible apply e_mkL
    | with_reducible apply e_mkT
    | with_reducible exact e_add
    | with_reducible exact e_sub
    | with_reducible exact e_neg
    | with_reducible exact e_abs
    | with_reducible exact e_intI
    | with_reducible exact e_intT
    | with_reducible exact e_intF
    | with_reducible exact e_intB
    | with_reducible exact e_max
    | with_reducible exact e_min
    | with_reducible exact e_lenL
    | with_reducible exact e_lenT
    | with_reducible exact e_slen
    | with_reducible exact e_tupL
    | with_reducible exact e_slL
    | with_reducible exact e_slT
    | with_reducible exact e_rev
    | with_reducible exact e_isT
    | with_reducible exact e_isntF
    | with_reducible exact e_strS
    | with_reducible exact e_ix0L
    | with_reducible exact e_ix0T
    | ((with_reducible apply e_isF); rfl)
    | ((with_reducible apply e_isntT); rfl)
    | ((with_reducible apply e_ltT); (first | assumption | omega | (simp only [List.length_cons, List.length_nil, List.length_map]; omega)))
    | ((with_reducible apply e_ltF); (first | assumption | omega | (simp only [List.length_cons, List.length_nil, List.length_map]; omega)))
    | ((with_reducible apply e_leT); (first | assumption | omega | (simp only [List.length_cons, List.length_nil, List.length_map]; omega)))
    | ((with_reducible apply e_leF); (first | assumption | omega | (simp only [List.length_cons, List.length_nil, List.length_map]; omega)))
    | ((with_reducible apply e_gtT); (first | assumption | omega | (simp only [List.length_cons, List.length_nil, List.length_map]; omega)))
    | ((with_reducible apply e_gtF); (first | assumption | omega | (simp only [List.length_cons, List.length_nil, List.length_map]; omega)))
    | ((with_reducible apply e_geT); (first | assumption | omega | (simp only [List.length_cons, List.length_nil, List.length_map]; omega)))
    | ((with_reducible apply e_geF); (first | assumption | omega | (simp only [List.length_cons, List.length_nil, List.length_map]; omega)))
    | ((with_reducible apply e_eqIT); (first | assumption | omega | (simp only [List.length_cons, List.length_nil, List.length_map]; omega)))
    | ((with_reducible apply e_eqIF); (first | assumption | omega | (simp only [List.length_cons, List.length_nil, List.length_map]; omega)))
    | ((with_reducible apply e_neIT); (first | assumption | omega | (simp only [List.length_cons, List.length_nil, List.length_map]; omega)))
    | ((with_reducible apply e_neIF); (first | assumption | omega | (simp only [List.length_cons, List.length_nil, List.length_map]; omega)))
    | ((with_reducible apply e_eqST); (first | rfl | assumption | decide | decide +kernel))
    | ((with_reducible apply e_eqSF); (first | rfl | assumption | decide | decide +kernel))
    | ((with_reducible apply e_neST); (first | rfl | assumption | decide | decide +kernel))
    | ((with_reducible apply e_neSF); (first | rfl | assumption | decide | decide +kernel))
    | ((with_reducible apply e_mod); (first | assumption | omega | (simp only [List.length_cons, List.length_nil, List.length_map]; omega)))
    | ((with_reducible apply e_fdiv); (first | assumption | omega | (simp only [List.length_cons, List.length_nil, List.length_map]; omega)))
    | ((with_reducible apply e_mul); (first | assumption | omega | (simp only [List.length_cons, List.length_nil, List.length_map]; omega)))
    | ((with_reducible apply e_pixS); rfl)
    | ((with_reducible apply e_ixL); rfl)
    | ((with_reducible apply e_ixT); rfl)
    | ((with_reducible apply e_dget); rfl)
    | (rw [sizeLine_eq]; simp only [List.length_cons, List.length_nil]; omega)
    | ((show List.map _ _ = (_ : List L2.Key)); rfl)
    | with_reducible apply e_asg
    | with_reducible apply e_ret
    | with_reducible apply e_exp
    | with_reducible apply e_par
    | with_reducible apply e_par3
    | with_reducible apply e_retPot
    | with_reducible apply e_sif
    | with_reducible apply e_sq)
      · exact ⟨rfl, rfl⟩
    · exact Int.mul_nonneg (Int.emod_nonneg _ (by decide +kernel)) (by decide)
  · apply fin
    rotate_left
    · apply ends_of
      · apply e_run rfl
        unfold b__law_pot
        repeat' (first
    | with_reducible exact hc
          | ((with_reducible apply e_pow) <;> decide +kernel)
          | ((with_reducible apply e_mod); decide +kernel)
          | ((with_reducible apply e_mul); exact .inr (by decide))
    | with_reducible exact okr
    | with_reducible exact retr
    | with_reducible exact e_kC
    | with_reducible exact e_aNil
    | with_reducible exact e_nil
    | with_reducible exact e_evN
    | with_reducible exact e_oN
    | with_reducible exact n_t
    | with_reducible exact n_f
    | with_reducible exact sq_r
    | with_reducible apply pk_t
    | with_reducible apply pk_f
    | with_reducible apply sq_n
    | ((with_reducible apply e_vF); rfl)
    | ((with_reducible apply e_vW); rfl)
    | ((with_reducible apply e_vWo); rfl)
    | ((with_reducible apply e_vWd); rfl)
    | with_reducible apply e_b1
    | with_reducible apply e_b2
    | with_reducible apply e_b3
    | with_reducible apply e_aCons
    | with_reducible apply e_evC
    | with_reducible apply e_mkD2
    | with_reducible apply e_toB
    | with_reducible apply e_ofB
    | with_reducible apply e_not
    | with_reducible apply e_notv
    | with_reducible apply e_and
    | with_reducible apply e_or
    | with_reducible apply e_if
    | with_reducible apply e_andv
    | with_reducible apply e_orv
    | with_reducible apply e_chn
    | with_reducible apply e_bnd
    | with_reducible apply e_oS
    | with_reducible apply e_strO
    | with_reducible apply e_ofL
    | with_reducible apply e_mkL
    | with_reducible apply e_mkT
    | with_reducible exact e_add
    | with_reducible exact e_sub
    | with_reducible exact e_neg
    | with_reducible exact e_abs
    | with_reducible exact e_intI
    | with_reducible exact e_intT
    | with_reducible exact e_intF
    | with_reducible exact e_intB
    | with_reducible exact e_max
    | with_reducible exact e_min
    | with_reducible exact e_lenL
    | with_reducible exact e_lenT
    | with_reducible exact e_slen
    | with_reducible exact e_tupL
    | with_reducible exact e_slL
    | with_reducible exact e_slT
    | with_reducible exact e_rev
    | with_reducible exact e_isT
    | with_reducible exact e_isntF
    | with_reducible exact e_strS
    | with_reducible exact e_ix0L
    | with_reducible exact e_ix0T
    | ((with_reducible apply e_isF); rfl)
    | ((with_reducible apply e_isntT); rfl)
    | ((with_reducible apply e_ltT); (first | assumption | omega | (simp only [List.length_cons, List.length_nil, List.length_map]; omega)))
    | ((with_reducible apply e_ltF); (first | assumption | omega | (simp only [List.length_cons, List.length_nil, List.length_map]; omega)))
    | ((with_reducible apply e_leT); (first | assumption | omega | (simp only [List.length_cons, List.length_nil, List.length_map]; omega)))
    | ((with_reducible apply e_leF); (first | assumption | omega | (simp only [List.length_cons, List.length_nil, List.length_map]; omega)))
    | ((with_reducible apply e_gtT); (first | assumption | omega | (simp only [List.length_cons, List.length_nil, List.length_map]; omega)))
    | ((with_reducible apply e_gtF); (first | assumption | omega | (simp only [List.length_cons, List.length_nil, List.length_map]; omega)))
    | ((with_reducible apply e_geT); (first | assumption | omega | (simp only [List.length_cons, List.length_nil, List.length_map]; omega)))
    | ((with_reducible apply e_geF); (first | assumption | omega | (simp only [List.length_cons, List.length_nil, List.length_map]; omega)))
    | ((with_reducible apply e_eqIT); (first | assumption | omega | (simp only [List.length_cons, List.length_nil, List.length_map]; omega)))
    | ((with_reducible apply e_eqIF); (first | assumption | omega | (simp only [List.length_cons, List.length_nil, List.length_map]; omega)))
    | ((with_reducible apply e_neIT); (first | assumption | omega | (simp only [List.length_cons, List.length_nil, List.length_map]; omega)))
    | ((with_reducible apply e_neIF); (first | assumption | omega | (simp only [List.length_cons, List.length_nil, List.length_map]; omega)))
    | ((with_reducible apply e_eqST); (first | rfl | assumption | decide | decide +kernel))
    | ((with_reducible apply e_eqSF); (first | rfl | assumption | decide | decide +kernel))
    | ((with_reducible apply e_neST); (first | rfl | assumption | decide | decide +kernel))
    | ((with_reducible apply e_neSF); (first | rfl | assumption | decide | decide +kernel))
    | ((with_reducible apply e_mod); (first | assumption | omega | (simp only [List.length_cons, List.length_nil, List.length_map]; omega)))
    | ((with_reducible apply e_fdiv); (first | assumption | omega | (simp only [List.length_cons, List.length_nil, List.length_map]; omega)))
    | ((with_reducible apply e_mul); (first | assumption | omega | (simp only [List.length_cons, List.length_nil, List.length_map]; omega)))
    | ((with_reducible apply e_pixS); rfl)
    | ((with_reducible apply e_ixL); rfl)
    | ((with_reducible apply e_ixT); rfl)
    | ((with_reducible apply e_dget); rfl)
    | (rw [sizeLine_eq]; simp only [List.length_cons, List.length_nil]; omega)
    | ((show List.map _ _ = (_ : List L2.Key)); rfl)
    | with_reducible apply e_asg
    | with_reducible apply e_ret
    | with_reducible apply e_exp
    | with_reducible apply e_par
    | with_reducible apply e_par3
    | with_reducible apply e_retPot
    | with_reducible apply e_sif
    | with_reducible apply e_sq)
      · exact ⟨rfl, rfl⟩
    · exact Int.mul_nonneg (Int.emod_nonneg _ (by decide +kernel)) (by decide)
theorem take_w {n : Nat} {u k : Int} {m : Mem} {Q : QP D} {X : XP} (h : MemI m n k) (hk : k < 1000000) (hu : 0 < u ∧ u < 2 ^ 64) (q : ∀ d m', 0 ≤ d → d < u → MemI m' n (k + 1) → Q (.int d) m') : wp (m__law_take [.hnd n, .int u] m) Q X := by
  refine wp_mono (wp_of (take_I h hk hu)) fun x m' hx => ?_
  obtain ⟨⟨d, rfl, h0, h1⟩, hm⟩ := hx
  exact q d m' h0 h1 hm
end Gen
end
section
set_option linter.all false
set_option maxRecDepth 100000
set_option maxHeartbeats 4000000
namespace Gen
open PySem MT L2 TL
end Gen
end
section
set_option linter.all false
set_option maxRecDepth 100000
set_option maxHeartbeats 4000000
namespace Gen
open PySem MT L2 TL
end Gen
end
section
set_option linter.all false
set_option maxRecDepth 100000
set_option maxHeartbeats 4000000
namespace Gen
open PySem MT L2 TL
def shP (p : Int) : Prop := p.natAbs < 10 ^ 20
instance {p : Int} : Decidable (okP p) := by unfold okP; infer_instance
theorem place_no {p : Int} {m : Mem} (h : ¬okP p) : m_is_place [.int p] m = .ok (.bl false) m := by
  by_cases h2 : p % 2 = 0
  · have h3 : ¬((if p < 0 then -p else p) ≤ 1000000000000) := fun h4 => h ⟨h2, by split at h4 <;> omega, by split at h4 <;> omega⟩
    apply e_run rfl
    unfold b_is_place
    repeat' (first
    | with_reducible exact okr
    | with_reducible exact retr
    | with_reducible exact e_kC
    | with_reducible exact e_aNil
    | with_reducible exact e_nil
    | with_reducible exact e_evN
    | with_reducible exact e_oN
    | with_reducible exact n_t
    | with_reducible exact n_f
    | with_reducible exact sq_r
    | with_reducible apply pk_t
    | with_reducible apply pk_f
    | with_reducible apply sq_n
    | ((with_reducible apply e_vF); rfl)
    | ((with_reducible apply e_vW); rfl)
    | ((with_reducible apply e_vWo); rfl)
    | ((with_reducible apply e_vWd); rfl)
    | with_reducible apply e_b1
    | with_reducible apply e_b2
    | with_reducible apply e_b3
    | with_reducible apply e_aCons
    | with_reducible apply e_evC
    | with_reducible apply e_mkD2
    | with_reducible apply e_toB
    | with_reducible apply e_ofB
    | with_reducible apply e_not
    | with_reducible apply e_notv
    | with_reducible apply e_and
    | with_reducible apply e_or
    | with_reducible apply e_if
    | with_reducible apply e_andv
    | with_reducible apply e_orv
    | with_reducible apply e_chn
    | with_reducible apply e_bnd
    | with_reducible apply e_oS
    | with_reducible apply e_strO
    | with_reducible apply e_ofL
    | with_reducible apply e_mkL
    | with_reducible apply e_mkT
    | with_reducible exact e_add
    | with_reducible exact e_sub
    | with_reducible exact e_neg
    | with_reducible exact e_abs
    | with_reducible exact e_intI
    | with_reducible exact e_intT
    | with_reducible exact e_intF
    | with_reducible exact e_intB
    | with_reducible exact e_max
    | with_reducible exact e_min
    | with_reducible exact e_lenL
    | with_reducible exact e_lenT
    | with_reducible exact e_slen
    | with_reducible exact e_tupL
    | with_reducible exact e_slL
    | with_reducible exact e_slT
    | with_reducible exact e_rev
    | with_reducible exact e_isT
    | with_reducible exact e_isntF
    | with_reducible exact e_strS
    | with_reducible exact e_ix0L
    | with_reducible exact e_ix0T
    | ((with_reducible apply e_isF); rfl)
    | ((with_reducible apply e_isntT); rfl)
    | ((with_reducible apply e_ltT); (first | assumption | omega | (simp only [List.length_cons, List.length_nil, List.length_map]; omega)))
    | ((with_reducible apply e_ltF); (first | assumption | omega | (simp only [List.length_cons, List.length_nil, List.length_map]; omega)))
    | ((with_reducible apply e_leT); (first | assumption | omega | (simp only [List.length_cons, List.length_nil, List.length_map]; omega)))
    | ((with_reducible apply e_leF); (first | assumption | omega | (simp only [List.length_cons, List.length_nil, List.length_map]; omega)))
    | ((with_reducible apply e_gtT); (first | assumption | omega | (simp only [List.length_cons, List.length_nil, List.length_map]; omega)))
    | ((with_reducible apply e_gtF); (first | assumption | omega | (simp only [List.length_cons, List.length_nil, List.length_map]; omega)))
    | ((with_reducible apply e_geT); (first | assumption | omega | (simp only [List.length_cons, List.length_nil, List.length_map]; omega)))
    | ((with_reducible apply e_geF); (first | assumption | omega | (simp only [List.length_cons, List.length_nil, List.length_map]; omega)))
    | ((with_reducible apply e_eqIT); (first | assumption | omega | (simp only [List.length_cons, List.length_nil, List.length_map]; omega)))
    | ((with_reducible apply e_eqIF); (first | assumption | omega | (simp only [List.length_cons, List.length_nil, List.length_map]; omega)))
    | ((with_reducible apply e_neIT); (first | assumption | omega | (simp only [List.length_cons, List.length_nil, List.length_map]; omega)))
    | ((with_reducible apply e_neIF); (first | assumption | omega | (simp only [List.length_cons, List.length_nil, List.length_map]; omega)))
    | ((with_reducible apply e_eqST); (first | rfl | assumption | decide | decide +kernel))
    | ((with_reducible apply e_eqSF); (first | rfl | assumption | decide | decide +kernel))
    | ((with_reducible apply e_neST); (first | rfl | assumption | decide | decide +kernel))
    | ((with_reducible apply e_neSF); (first | rfl | assumption | decide | decide +kernel))
    | ((with_reducible apply e_mod); (first | assumption | omega | (simp only [List.length_cons, List.length_nil, List.length_map]; omega)))
    | ((with_reducible apply e_fdiv); (first | assumption | omega | (simp only [List.length_cons, List.length_nil, List.length_map]; omega)))
    | ((with_reducible apply e_mul); (first | assumption | omega | (simp only [List.length_cons, List.length_nil, List.length_map]; omega)))
    | ((with_reducible apply e_pixS); rfl)
    | ((with_reducible apply e_ixL); rfl)
    | ((with_reducible apply e_ixT); rfl)
    | ((with_reducible apply e_dget); rfl)
    | (rw [sizeLine_eq]; simp only [List.length_cons, List.length_nil]; omega)
    | ((show List.map _ _ = (_ : List L2.Key)); rfl)
    | with_reducible apply e_asg
    | with_reducible apply e_ret
    | with_reducible apply e_exp
    | with_reducible apply e_par
    | with_reducible apply e_par3
    | with_reducible apply e_retPot
    | with_reducible apply e_sif
    | with_reducible apply e_sq)
  · apply e_run rfl
    unfold b_is_place
    repeat' (first
    | with_reducible exact okr
    | with_reducible exact retr
    | with_reducible exact e_kC
    | with_reducible exact e_aNil
    | with_reducible exact e_nil
    | with_reducible exact e_evN
    | with_reducible exact e_oN
    | with_reducible exact n_t
    | with_reducible exact n_f
    | with_reducible exact sq_r
    | with_reducible apply pk_t
    | with_reducible apply pk_f
    | with_reducible apply sq_n
    | ((with_reducible apply e_vF); rfl)
    | ((with_reducible apply e_vW); rfl)
    | ((with_reducible apply e_vWo); rfl)
    | ((with_reducible apply e_vWd); rfl)
    | with_reducible apply e_b1
    | with_reducible apply e_b2
    | with_reducible apply e_b3
    | with_reducible apply e_aCons
    | with_reducible apply e_evC
    | with_reducible apply e_mkD2
    | with_reducible apply e_toB
    | with_reducible apply e_ofB
    | with_reducible apply e_not
    | with_reducible apply e_notv
    | with_reducible apply e_and
    | with_reducible apply e_or
    | with_reducible apply e_if
    | with_reducible apply e_andv
    | with_reducible apply e_orv
    | with_reducible apply e_chn
    | with_reducible apply e_bnd
    | with_reducible apply e_oS
    | with_reducible apply e_strO
    | with_reducible apply e_ofL
    | with_reducible apply e_mkL
    | with_reducible apply e_mkT
    | with_reducible exact e_add
    | with_reducible exact e_sub
    | with_reducible exact e_neg
    | with_reducible exact e_abs
    | with_reducible exact e_intI
    | with_reducible exact e_intT
    | with_reducible exact e_intF
    | with_reducible exact e_intB
    | with_reducible exact e_max
    | with_reducible exact e_min
    | with_reducible exact e_lenL
    | with_reducible exact e_lenT
    | with_reducible exact e_slen
    | with_reducible exact e_tupL
    | with_reducible exact e_slL
    | with_reducible exact e_slT
    | with_reducible exact e_rev
    | with_reducible exact e_isT
    | with_reducible exact e_isntF
    | with_reducible exact e_strS
    | with_reducible exact e_ix0L
    | with_reducible exact e_ix0T
    | ((with_reducible apply e_isF); rfl)
    | ((with_reducible apply e_isntT); rfl)
    | ((with_reducible apply e_ltT); (first | assumption | omega | (simp only [List.length_cons, List.length_nil, List.length_map]; omega)))
    | ((with_reducible apply e_ltF); (first | assumption | omega | (simp only [List.length_cons, List.length_nil, List.length_map]; omega)))
    | ((with_reducible apply e_leT); (first | assumption | omega | (simp only [List.length_cons, List.length_nil, List.length_map]; omega)))
    | ((with_reducible apply e_leF); (first | assumption | omega | (simp only [List.length_cons, List.length_nil, List.length_map]; omega)))
    | ((with_reducible apply e_gtT); (first | assumption | omega | (simp only [List.length_cons, List.length_nil, List.length_map]; omega)))
    | ((with_reducible apply e_gtF); (first | assumption | omega | (simp only [List.length_cons, List.length_nil, List.length_map]; omega)))
    | ((with_reducible apply e_geT); (first | assumption | omega | (simp only [List.length_cons, List.length_nil, List.length_map]; omega)))
    | ((with_reducible apply e_geF); (first | assumption | omega | (simp only [List.length_cons, List.length_nil, List.length_map]; omega)))
    | ((with_reducible apply e_eqIT); (first | assumption | omega | (simp only [List.length_cons, List.length_nil, List.length_map]; omega)))
    | ((with_reducible apply e_eqIF); (first | assumption | omega | (simp only [List.length_cons, List.length_nil, List.length_map]; omega)))
    | ((with_reducible apply e_neIT); (first | assumption | omega | (simp only [List.length_cons, List.length_nil, List.length_map]; omega)))
    | ((with_reducible apply e_neIF); (first | assumption | omega | (simp only [List.length_cons, List.length_nil, List.length_map]; omega)))
    | ((with_reducible apply e_eqST); (first | rfl | assumption | decide | decide +kernel))
    | ((with_reducible apply e_eqSF); (first | rfl | assumption | decide | decide +kernel))
    | ((with_reducible apply e_neST); (first | rfl | assumption | decide | decide +kernel))
    | ((with_reducible apply e_neSF); (first | rfl | assumption | decide | decide +kernel))
    | ((with_reducible apply e_mod); (first | assumption | omega | (simp only [List.length_cons, List.length_nil, List.length_map]; omega)))
    | ((with_reducible apply e_fdiv); (first | assumption | omega | (simp only [List.length_cons, List.length_nil, List.length_map]; omega)))
    | ((with_reducible apply e_mul); (first | assumption | omega | (simp only [List.length_cons, List.length_nil, List.length_map]; omega)))
    | ((with_reducible apply e_pixS); rfl)
    | ((with_reducible apply e_ixL); rfl)
    | ((with_reducible apply e_ixT); rfl)
    | ((with_reducible apply e_dget); rfl)
    | (rw [sizeLine_eq]; simp only [List.length_cons, List.length_nil]; omega)
    | ((show List.map _ _ = (_ : List L2.Key)); rfl)
    | with_reducible apply e_asg
    | with_reducible apply e_ret
    | with_reducible apply e_exp
    | with_reducible apply e_par
    | with_reducible apply e_par3
    | with_reducible apply e_retPot
    | with_reducible apply e_sif
    | with_reducible apply e_sq)
theorem place_any {p : Int} {m : Mem} : m_is_place [.int p] m = .ok (.bl (decide (okP p))) m := by
  by_cases h : okP p
  · rw [decide_eq_true h]; exact place_ok h.1 h.2.1 h.2.2
  · rw [decide_eq_false h]; exact place_no h
theorem line_factsW {ws : List Str} (h : ∀ w ∈ ws, Wd w) (hn : ws ≠ []) (hl : ws.length ≤ 100) : Txt.split (Txt.join " " ws) " " = ws ∧ 10 ∉ tl (Txt.join " " ws) ∧ (Txt.join " " ws).length ≤ 3000 ∧ (ws.map (·.length)).sum + ws.length * (Str.ofString " ").length ≤ 3000 := by
  have hb : (ws.map (·.length)).sum ≤ ws.length * 25 := by
    have := sum_le (l := ws.map (·.length)) (k := 25) fun x hx => by
      obtain ⟨w, hw, rfl⟩ := List.mem_map.mp hx
      exact (h w hw).2.2
    simpa using this
  have h1 : (Str.ofString " ").length = 1 := by rw [len_tl, tl_sp]; rfl
  have hs := len_joinS " " ws
  rw [h1] at hs
  refine ⟨split_join tl_sp (by decide +kernel) hn fun p hp => (h p hp).1, free_joinS (by rw [tl_sp]; decide) fun p hp => (h p hp).2.1, by omega, by rw [h1]; omega⟩
theorem line_atW {ps : List Int} (h : ∀ p ∈ ps, shP p) (hl : ps.length ≤ 90) : Txt.split (atS ps) " " = (Str.ofString "at") :: ps.map numS ∧ 10 ∉ tl (atS ps) ∧ (atS ps).length ≤ 3000 ∧ ((((Str.ofString "at") :: ps.map numS).map (·.length)).sum + ((Str.ofString "at") :: ps.map numS).length * (Str.ofString " ").length ≤ 3000) :=
  line_factsW (ws := (Str.ofString "at") :: ps.map numS) (fun x hx => by
    rcases List.mem_cons.mp hx with rfl | hx
    · exact wd_lit (by decide)
    · obtain ⟨p, hp, rfl⟩ := List.mem_map.mp hx
      exact wd_num (h p hp)) (by simp) (by simp; omega)
theorem all_any {bs : List Bool} {m : Mem} : allD [.lst (bs.map .bl)] m = .ok (.bl (bs.all id)) m := by
  have : bools (bs.map D.bl) = some bs := by
    induction bs with
    | nil => rfl
    | cons x xs ih => simp [bools, ih]
  simp [allD, this]
def ascB (ps : List Int) : Bool := (ps.zip (ps.drop 1)).all fun q => decide (q.1 < q.2)
theorem ascend_any {ps : List Int} {m : Mem} (hl : ps.length ≤ 90) : m_do_ascend [.lst (ps.map .int)] m = .ok (.bl (ascB ps)) m := by
  have hz : ∀ (ps qs : List Int), zipD (ps.map .int) (qs.map .int) = (ps.zip qs).map fun q => .tup [.int q.1, .int q.2] := by
    unfold zipD
    intro ps
    induction ps with
    | nil => intro qs; rfl
    | cons a l ih =>
      intro qs
      cases qs with
      | nil => rfl
      | cons b qs => simp only [List.map_cons, List.zipWith_cons_cons, List.zip_cons_cons]; rw [ih]
  let g : D → D := fun d => match d with
    | .tup [.int a, .int b] => .bl (decide (a < b))
    | _ => .non
  have hcomp : compF (zipG (aCons (vF 0) (aCons (bind3 (vW 0) (oSome (kC (.int 1))) oNone slD) aNil))) (tgT 2 (tgCons (tgN 1) (tgCons (tgN 2) tgNil))) kT (bind2 (vW 1) (vW 2) ltD) [1, 2] (enOf 3 [.lst (ps.map .int)]) m = .ok ((zipD (ps.map .int) ((ps.map .int).drop 1)).map g) m := by
    apply e_comp
    · apply e_zip
      · repeat' (first
    | with_reducible exact okr
    | with_reducible exact retr
    | with_reducible exact e_kC
    | with_reducible exact e_aNil
    | with_reducible exact e_nil
    | with_reducible exact e_evN
    | with_reducible exact e_oN
    | with_reducible exact n_t
    | with_reducible exact n_f
    | with_reducible exact sq_r
    | with_reducible apply pk_t
    | with_reducible apply pk_f
    | with_reducible apply sq_n
    | ((with_reducible apply e_vF); rfl)
    | ((with_reducible apply e_vW); rfl)
    | ((with_reducible apply e_vWo); rfl)
    | ((with_reducible apply e_vWd); rfl)
    | with_reducible apply e_b1
    | with_reducible apply e_b2
    | with_reducible apply e_b3
    | with_reducible apply e_aCons
    | with_reducible apply e_evC
    | with_reducible apply e_mkD2
    | with_reducible apply e_toB
    | with_reducible apply e_ofB
    | with_reducible apply e_not
    | with_reducible apply e_notv
    | with_reducible apply e_and
    | with_reducible apply e_or
    | with_reducible apply e_if
    | with_reducible apply e_andv
    | with_reducible apply e_orv
    | with_reducible apply e_chn
    | with_reducible apply e_bnd
    | with_reducible apply e_oS
    | with_reducible apply e_strO
    | with_reducible apply e_ofL
    | with_reducible apply e_mkL
    | with_reducible apply e_mkT
    | with_reducible exact e_add
    | with_reducible exact e_sub
    | with_reducible exact e_neg
    | with_reducible exact e_abs
    | with_reducible exact e_intI
    | with_reducible exact e_intT
    | with_reducible exact e_intF
    | with_reducible exact e_intB
    | with_reducible exact e_max
    | with_reducible exact e_min
    | with_reducible exact e_lenL
    | with_reducible exact e_lenT
    | with_reducible exact e_slen
    | with_reducible exact e_tupL
    | with_reducible exact e_slL
    | with_reducible exact e_slT
    | with_reducible exact e_rev
    | with_reducible exact e_isT
    | with_reducible exact e_isntF
    | with_reducible exact e_strS
    | with_reducible exact e_ix0L
    | with_reducible exact e_ix0T
    | ((with_reducible apply e_isF); rfl)
    | ((with_reducible apply e_isntT); rfl)
    | ((with_reducible apply e_ltT); (first | assumption | omega | (simp only [List.length_cons, List.length_nil, List.length_map]; omega)))
    | ((with_reducible apply e_ltF); (first | assumption | omega | (simp only [List.length_cons, List.length_nil, List.length_map]; omega)))
    | ((with_reducible apply e_leT); (first | assumption | omega | (simp only [List.length_cons, List.length_nil, List.length_map]; omega)))
    | ((with_reducible apply e_leF); (first | assumption | omega | (simp only [List.length_cons, List.length_nil, List.length_map]; omega)))
    | ((with_reducible apply e_gtT); (first | assumption | omega | (simp only [List.length_cons, List.length_nil, List.length_map]; omega)))
    | ((with_reducible apply e_gtF); (first | assumption | omega | (simp only [List.length_cons, List.length_nil, List.length_map]; omega)))
    | ((with_reducible apply e_geT); (first | assumption | omega | (simp only [List.length_cons, List.length_nil, List.length_map]; omega)))
    | ((with_reducible apply e_geF); (first | assumption | omega | (simp only [List.length_cons, List.length_nil, List.length_map]; omega)))
    | ((with_reducible apply e_eqIT); (first | assumption | omega | (simp only [List.length_cons, List.length_nil, List.length_map]; omega)))
    | ((with_reducible apply e_eqIF); (first | assumption | omega | (simp only [List.length_cons, List.length_nil, List.length_map]; omega)))
    | ((with_reducible apply e_neIT); (first | assumption | omega | (simp only [List.length_cons, List.length_nil, List.length_map]; omega)))
    | ((with_reducible apply e_neIF); (first | assumption | omega | (simp only [List.length_cons, List.length_nil, List.length_map]; omega)))
    | ((with_reducible apply e_eqST); (first | rfl | assumption | decide | decide +kernel))
    | ((with_reducible apply e_eqSF); (first | rfl | assumption | decide | decide +kernel))
    | ((with_reducible apply e_neST); (first | rfl | assumption | decide | decide +kernel))
    | ((with_reducible apply e_neSF); (first | rfl | assumption | decide | decide +kernel))
    | ((with_reducible apply e_mod); (first | assumption | omega | (simp only [List.length_cons, List.length_nil, List.length_map]; omega)))
    | ((with_reducible apply e_fdiv); (first | assumption | omega | (simp only [List.length_cons, List.length_nil, List.length_map]; omega)))
    | ((with_reducible apply e_mul); (first | assumption | omega | (simp only [List.length_cons, List.length_nil, List.length_map]; omega)))
    | ((with_reducible apply e_pixS); rfl)
    | ((with_reducible apply e_ixL); rfl)
    | ((with_reducible apply e_ixT); rfl)
    | ((with_reducible apply e_dget); rfl)
    | (rw [sizeLine_eq]; simp only [List.length_cons, List.length_nil]; omega)
    | ((show List.map _ _ = (_ : List L2.Key)); rfl)
    | with_reducible apply e_asg
    | with_reducible apply e_ret
    | with_reducible apply e_exp
    | with_reducible apply e_par
    | with_reducible apply e_par3
    | with_reducible apply e_retPot
    | with_reducible apply e_sif
    | with_reducible apply e_sq)
      · rfl
      · rfl
    · rw [cut1, zipD_length, sizeLine_eq]; simp; omega
    · rw [cut1]
      refine (comp_map (g := g) fun d hd => ?_).trans (by rw [List.nil_append])
      rw [← List.map_drop, hz] at hd
      obtain ⟨q, hq, rfl⟩ := List.mem_map.mp hd
      refine ⟨_, rfl, ?_⟩
      show _ = Out.ok (D.bl (decide (q.1 < q.2))) m
      by_cases hlt : q.1 < q.2
      · rw [decide_eq_true hlt]
        repeat' (first
    | with_reducible exact okr
    | with_reducible exact retr
    | with_reducible exact e_kC
    | with_reducible exact e_aNil
    | with_reducible exact e_nil
    | with_reducible exact e_evN
    | with_reducible exact e_oN
    | with_reducible exact n_t
    | with_reducible exact n_f
    | with_reducible exact sq_r
    | with_reducible apply pk_t
    | with_reducible apply pk_f
    | with_reducible apply sq_n
    | ((with_reducible apply e_vF); rfl)
    | ((with_reducible apply e_vW); rfl)
    | ((with_reducible apply e_vWo); rfl)
    | ((with_reducible apply e_vWd); rfl)
    | with_reducible apply e_b1
    | with_reducible apply e_b2
    | with_reducible apply e_b3
    | with_reducible apply e_aCons
    | with_reducible apply e_evC
    | with_reducible apply e_mkD2
    | with_reducible apply e_toB
    | with_reducible apply e_ofB
    | with_reducible apply e_not
    | with_reducible apply e_notv
    | with_reducible apply e_and
    | with_reducible apply e_or
    | with_reducible apply e_if
    | with_reducible apply e_andv
    | with_reducible apply e_orv
    | with_reducible apply e_chn
    | with_reducible apply e_bnd
    | with_reducible apply e_oS
    | with_reducible apply e_strO
    | with_reducible apply e_ofL
    | with_reducible apply e_mkL
    | with_reducible apply e_mkT
    | with_reducible exact e_add
    | with_reducible exact e_sub
    | with_reducible exact e_neg
    | with_reducible exact e_abs
    | with_reducible exact e_intI
    | with_reducible exact e_intT
    | with_reducible exact e_intF
    | with_reducible exact e_intB
    | with_reducible exact e_max
    | with_reducible exact e_min
    | with_reducible exact e_lenL
    | with_reducible exact e_lenT
    | with_reducible exact e_slen
    | with_reducible exact e_tupL
    | with_reducible exact e_slL
    | with_reducible exact e_slT
    | with_reducible exact e_rev
    | with_reducible exact e_isT
    | with_reducible exact e_isntF
    | with_reducible exact e_strS
    | with_reducible exact e_ix0L
    | with_reducible exact e_ix0T
    | ((with_reducible apply e_isF); rfl)
    | ((with_reducible apply e_isntT); rfl)
    | ((with_reducible apply e_ltT); (first | assumption | omega | (simp only [List.length_cons, List.length_nil, List.length_map]; omega)))
    | ((with_reducible apply e_ltF); (first | assumption | omega | (simp only [List.length_cons, List.length_nil, List.length_map]; omega)))
    | ((with_reducible apply e_leT); (first | assumption | omega | (simp only [List.length_cons, List.length_nil, List.length_map]; omega)))
    | ((with_reducible apply e_leF); (first | assumption | omega | (simp only [List.length_cons, List.length_nil, List.length_map]; omega)))
    | ((with_reducible apply e_gtT); (first | assumption | omega | (simp only [List.length_cons, List.length_nil, List.length_map]; omega)))
    | ((with_reducible apply e_gtF); (first | assumption | omega | (simp only [List.length_cons, List.length_nil, List.length_map]; omega)))
    | ((with_reducible apply e_geT); (first | assumption | omega | (simp only [List.length_cons, List.length_nil, List.length_map]; omega)))
    | ((with_reducible apply e_geF); (first | assumption | omega | (simp only [List.length_cons, List.length_nil, List.length_map]; omega)))
    | ((with_reducible apply e_eqIT); (first | assumption | omega | (simp only [List.length_cons, List.length_nil, List.length_map]; omega)))
    | ((with_reducible apply e_eqIF); (first | assumption | omega | (simp only [List.length_cons, List.length_nil, List.length_map]; omega)))
    | ((with_reducible apply e_neIT); (first | assumption | omega | (simp only [List.length_cons, List.length_nil, List.length_map]; omega)))
    | ((with_reducible apply e_neIF); (first | assumption | omega | (simp only [List.length_cons, List.length_nil, List.length_map]; omega)))
    | ((with_reducible apply e_eqST); (first | rfl | assumption | decide | decide +kernel))
    | ((with_reducible apply e_eqSF); (first | rfl | assumption | decide | decide +kernel))
    | ((with_reducible apply e_neST); (first | rfl | assumption | decide | decide +kernel))
    | ((with_reducible apply e_neSF); (first | rfl | assumption | decide | decide +kernel))
    | ((with_reducible apply e_mod); (first | assumption | omega | (simp only [List.length_cons, List.length_nil, List.length_map]; omega)))
    | ((with_reducible apply e_fdiv); (first | assumption | omega | (simp only [List.length_cons, List.length_nil, List.length_map]; omega)))
    | ((with_reducible apply e_mul); (first | assumption | omega | (simp only [List.length_cons, List.length_nil, List.length_map]; omega)))
    | ((with_reducible apply e_pixS); rfl)
    | ((with_reducible apply e_ixL); rfl)
    | ((with_reducible apply e_ixT); rfl)
    | ((with_reducible apply e_dget); rfl)
    | (rw [sizeLine_eq]; simp only [List.length_cons, List.length_nil]; omega)
    | ((show List.map _ _ = (_ : List L2.Key)); rfl)
    | with_reducible apply e_asg
    | with_reducible apply e_ret
    | with_reducible apply e_exp
    | with_reducible apply e_par
    | with_reducible apply e_par3
    | with_reducible apply e_retPot
    | with_reducible apply e_sif
    | with_reducible apply e_sq)
      · rw [decide_eq_false hlt]
        repeat' (first
    | with_reducible exact okr
    | with_reducible exact retr
    | with_reducible exact e_kC
    | with_reducible exact e_aNil
    | with_reducible exact e_nil
    | with_reducible exact e_evN
    | with_reducible exact e_oN
    | with_reducible exact n_t
    | with_reducible exact n_f
    | with_reducible exact sq_r
    | with_reducible apply pk_t
    | with_reducible apply pk_f
    | with_reducible apply sq_n
    | ((with_reducible apply e_vF); rfl)
    | ((with_reducible apply e_vW); rfl)
    | ((with_reducible apply e_vWo); rfl)
    | ((with_reducible apply e_vWd); rfl)
    | with_reducible apply e_b1
    | with_reducible apply e_b2
    | with_reducible apply e_b3
    | with_reducible apply e_aCons
    | with_reducible apply e_evC
    | with_reducible apply e_mkD2
    | with_reducible apply e_toB
    | with_reducible apply e_ofB
    | with_reducible apply e_not
    | with_reducible apply e_notv
    | with_reducible apply e_and
    | with_reducible apply e_or
    | with_reducible apply e_if
    | with_reducible apply e_andv
    | with_reducible apply e_orv
    | with_reducible apply e_chn
    | with_reducible apply e_bnd
    | with_reducible apply e_oS
    | with_reducible apply e_strO
    | with_reducible apply e_ofL
    | with_reducible apply e_mkL
    | with_reducible apply e_mkT
    | with_reducible exact e_add
    | with_reducible exact e_sub
    | with_reducible exact e_neg
    | with_reducible exact e_abs
    | with_reducible exact e_intI
    | with_reducible exact e_intT
    | with_reducible exact e_intF
    | with_reducible exact e_intB
    | with_reducible exact e_max
    | with_reducible exact e_min
    | with_reducible exact e_lenL
    | with_reducible exact e_lenT
    | with_reducible exact e_slen
    | with_reducible exact e_tupL
    | with_reducible exact e_slL
    | with_reducible exact e_slT
    | with_reducible exact e_rev
    | with_reducible exact e_isT
    | with_reducible exact e_isntF
    | with_reducible exact e_strS
    | with_reducible exact e_ix0L
    | with_reducible exact e_ix0T
    | ((with_reducible apply e_isF); rfl)
    | ((with_reducible apply e_isntT); rfl)
    | ((with_reducible apply e_ltT); (first | assumption | omega | (simp only [List.length_cons, List.length_nil, List.length_map]; omega)))
    | ((with_reducible apply e_ltF); (first | assumption | omega | (simp only [List.length_cons, List.length_nil, List.length_map]; omega)))
    | ((with_reducible apply e_leT); (first | assumption | omega | (simp only [List.length_cons, List.length_nil, List.length_map]; omega)))
    | ((with_reducible apply e_leF); (first | assumption | omega | (simp only [List.length_cons, List.length_nil, List.length_map]; omega)))
    | ((with_reducible apply e_gtT); (first | assumption | omega | (simp only [List.length_cons, List.length_nil, List.length_map]; omega)))
    | ((with_reducible apply e_gtF); (first | assumption | omega | (simp only [List.length_cons, List.length_nil, List.length_map]; omega)))
    | ((with_reducible apply e_geT); (first | assumption | omega | (simp only [List.length_cons, List.length_nil, List.length_map]; omega)))
    | ((with_reducible apply e_geF); (first | assumption | omega | (simp only [List.length_cons, List.length_nil, List.length_map]; omega)))
    | ((with_reducible apply e_eqIT); (first | assumption | omega | (simp only [List.length_cons, List.length_nil, List.length_map]; omega)))
    | ((with_reducible apply e_eqIF); (first | assumption | omega | (simp only [List.length_cons, List.length_nil, List.length_map]; omega)))
    | ((with_reducible apply e_neIT); (first | assumption | omega | (simp only [List.length_cons, List.length_nil, List.length_map]; omega)))
    | ((with_reducible apply e_neIF); (first | assumption | omega | (simp only [List.length_cons, List.length_nil, List.length_map]; omega)))
    | ((with_reducible apply e_eqST); (first | rfl | assumption | decide | decide +kernel))
    | ((with_reducible apply e_eqSF); (first | rfl | assumption | decide | decide +kernel))
    | ((with_reducible apply e_neST); (first | rfl | assumption | decide | decide +kernel))
    | ((with_reducible apply e_neSF); (first | rfl | assumption | decide | decide +kernel))
    | ((with_reducible apply e_mod); (first | assumption | omega | (simp only [List.length_cons, List.length_nil, List.length_map]; omega)))
    | ((with_reducible apply e_fdiv); (first | assumption | omega | (simp only [List.length_cons, List.length_nil, List.length_map]; omega)))
    | ((with_reducible apply e_mul); (first | assumption | omega | (simp only [List.length_cons, List.length_nil, List.length_map]; omega)))
    | ((with_reducible apply e_pixS); rfl)
    | ((with_reducible apply e_ixL); rfl)
    | ((with_reducible apply e_ixT); rfl)
    | ((with_reducible apply e_dget); rfl)
    | (rw [sizeLine_eq]; simp only [List.length_cons, List.length_nil]; omega)
    | ((show List.map _ _ = (_ : List L2.Key)); rfl)
    | with_reducible apply e_asg
    | with_reducible apply e_ret
    | with_reducible apply e_exp
    | with_reducible apply e_par
    | with_reducible apply e_par3
    | with_reducible apply e_retPot
    | with_reducible apply e_sif
    | with_reducible apply e_sq)
  have hb : (zipD (ps.map .int) ((ps.map .int).drop 1)).map g = ((ps.zip (ps.drop 1)).map fun q => decide (q.1 < q.2)).map .bl := by
    rw [← List.map_drop, hz, List.map_map, List.map_map]
    rfl
  have hall : allD [.lst ((zipD (ps.map .int) ((ps.map .int).drop 1)).map g)] m = .ok (.bl (ascB ps)) m := by
    rw [hb, all_any]
    congr 2
    rw [List.all_map]
    rfl
  apply e_run rfl
  unfold b_do_ascend
  repeat' (first
    | with_reducible exact hcomp
    | with_reducible exact hall
    | with_reducible exact okr
    | with_reducible exact retr
    | with_reducible exact e_kC
    | with_reducible exact e_aNil
    | with_reducible exact e_nil
    | with_reducible exact e_evN
    | with_reducible exact e_oN
    | with_reducible exact n_t
    | with_reducible exact n_f
    | with_reducible exact sq_r
    | with_reducible apply pk_t
    | with_reducible apply pk_f
    | with_reducible apply sq_n
    | ((with_reducible apply e_vF); rfl)
    | ((with_reducible apply e_vW); rfl)
    | ((with_reducible apply e_vWo); rfl)
    | ((with_reducible apply e_vWd); rfl)
    | with_reducible apply e_b1
    | with_reducible apply e_b2
    | with_reducible apply e_b3
    | with_reducible apply e_aCons
    | with_reducible apply e_evC
    | with_reducible apply e_mkD2
    | with_reducible apply e_toB
    | with_reducible apply e_ofB
    | with_reducible apply e_not
    | with_reducible apply e_notv
    | with_reducible apply e_and
    | with_reducible apply e_or
    | with_reducible apply e_if
    | with_reducible apply e_andv
    | with_reducible apply e_orv
    | with_reducible apply e_chn
    | with_reducible apply e_bnd
    | with_reducible apply e_oS
    | with_reducible apply e_strO
    | with_reducible apply e_ofL
    | with_reducible apply e_mkL
    | with_reducible apply e_mkT
    | with_reducible exact e_add
    | with_reducible exact e_sub
    | with_reducible exact e_neg
    | with_reducible exact e_abs
    | with_reducible exact e_intI
    | with_reducible exact e_intT
    | with_reducible exact e_intF
    | with_reducible exact e_intB
    | with_reducible exact e_max
    | with_reducible exact e_min
    | with_reducible exact e_lenL
    | with_reducible exact e_lenT
    | with_reducible exact e_slen
    | with_reducible exact e_tupL
    | with_reducible exact e_slL
    | with_reducible exact e_slT
    | with_reducible exact e_rev
    | with_reducible exact e_isT
    | with_reducible exact e_isntF
    | with_reducible exact e_strS
    | with_reducible exact e_ix0L
    | with_reducible exact e_ix0T
    | ((with_reducible apply e_isF); rfl)
    | ((with_reducible apply e_isntT); rfl)
    | ((with_reducible apply e_ltT); (first | assumption | omega | (simp only [List.length_cons, List.length_nil, List.length_map]; omega)))
    | ((with_reducible apply e_ltF); (first | assumption | omega | (simp only [List.length_cons, List.length_nil, List.length_map]; omega)))
    | ((with_reducible apply e_leT); (first | assumption | omega | (simp only [List.length_cons, List.length_nil, List.length_map]; omega)))
    | ((with_reducible apply e_leF); (first | assumption | omega | (simp only [List.length_cons, List.length_nil, List.length_map]; omega)))
    | ((with_reducible apply e_gtT); (first | assumption | omega | (simp only [List.length_cons, List.length_nil, List.length_map]; omega)))
    | ((with_reducible apply e_gtF); (first | assumption | omega | (simp only [List.length_cons, List.length_nil, List.length_map]; omega)))
    | ((with_reducible apply e_geT); (first | assumption | omega | (simp only [List.length_cons, List.length_nil, List.length_map]; omega)))
    | ((with_reducible apply e_geF); (first | assumption | omega | (simp only [List.length_cons, List.length_nil, List.length_map]; omega)))
    | ((with_reducible apply e_eqIT); (first | assumption | omega | (simp only [List.length_cons, List.length_nil, List.length_map]; omega)))
    | ((with_reducible apply e_eqIF); (first | assumption | omega | (simp only [List.length_cons, List.length_nil, List.length_map]; omega)))
    | ((with_reducible apply e_neIT); (first | assumption | omega | (simp only [List.length_cons, List.length_nil, List.length_map]; omega)))
    | ((with_reducible apply e_neIF); (first | assumption | omega | (simp only [List.length_cons, List.length_nil, List.length_map]; omega)))
    | ((with_reducible apply e_eqST); (first | rfl | assumption | decide | decide +kernel))
    | ((with_reducible apply e_eqSF); (first | rfl | assumption | decide | decide +kernel))
    | ((with_reducible apply e_neST); (first | rfl | assumption | decide | decide +kernel))
    | ((with_reducible apply e_neSF); (first | rfl | assumption | decide | decide +kernel))
    | ((with_reducible apply e_mod); (first | assumption | omega | (simp only [List.length_cons, List.length_nil, List.length_map]; omega)))
    | ((with_reducible apply e_fdiv); (first | assumption | omega | (simp only [List.length_cons, List.length_nil, List.length_map]; omega)))
    | ((with_reducible apply e_mul); (first | assumption | omega | (simp only [List.length_cons, List.length_nil, List.length_map]; omega)))
    | ((with_reducible apply e_pixS); rfl)
    | ((with_reducible apply e_ixL); rfl)
    | ((with_reducible apply e_ixT); rfl)
    | ((with_reducible apply e_dget); rfl)
    | (rw [sizeLine_eq]; simp only [List.length_cons, List.length_nil]; omega)
    | ((show List.map _ _ = (_ : List L2.Key)); rfl)
    | with_reducible apply e_asg
    | with_reducible apply e_ret
    | with_reducible apply e_exp
    | with_reducible apply e_par
    | with_reducible apply e_par3
    | with_reducible apply e_retPot
    | with_reducible apply e_sif
    | with_reducible apply e_sq)
end Gen
end
section
set_option linter.all false
set_option maxRecDepth 100000
set_option maxHeartbeats 4000000
namespace Gen
open PySem MT L2 TL
def goodB (L R : EndK) (ps : List Int) : Bool := decide (1 ≤ ps.length) && decide (ps.length ≤ 40) && (ps.all fun p => decide (okP p)) && ascB ps && (L.at.all fun q => ps.head?.all fun a => decide (q < a)) && (R.at.all fun q => ps.getLast?.all fun a => decide (a < q))
theorem first_atW {ps : List Int} (h : 1 ≤ ps.length) : ∃ a, ps.head? = some a ∧ atI (ps.map D.int) 0 = some (.int a) := by
  cases ps with
  | nil => simp at h
  | cons a l => exact ⟨a, rfl, by simp [atI, ixN]⟩
theorem last_atW {ps : List Int} (h : 1 ≤ ps.length) : ∃ a, ps.getLast? = some a ∧ atI (ps.map D.int) (-1) = some (.int a) := by
  have hl : ps.length - 1 < ps.length := by omega
  refine ⟨ps[ps.length - 1], by rw [List.getLast?_eq_getElem?, List.getElem?_eq_getElem hl], ?_⟩
  have e : ixN ps.length (-1) = some (ps.length - 1) := by
    unfold ixN
    rw [if_neg (by decide), if_pos (by omega)]
    congr 1
    omega
  unfold atI
  rw [List.length_map, e]
  simp [List.getElem?_eq_getElem hl]
theorem places_no {L R : EndK} {ps : List Int} {m : Mem} (hs : ∀ p ∈ ps, shP p) (hlen : ps.length ≤ 90) (hg : goodB L R ps = false) : m_places_in [.str (atS ps), L.d, R.d] m = .ok .non m := by
  obtain ⟨h1, h2, h3, h4⟩ := line_atW hs hlen
  have hsp : splitD (.str (atS ps)) [.str " "] m = .ok (.lst (.str "at" :: (ps.map numS).map .str)) m := by
    rw [e_split (by decide +kernel) (by rw [sizeLine_eq]; omega), h1]
    rfl
  have hio : ((ps.map numS).map D.str).map intOf = ps.map .int := by
    rw [List.map_map, List.map_map]
    apply List.map_congr_left
    intro p hp
    simp only [Function.comp, intOf, numS_int (hs p hp), Option.getD_some]
  have hc1 : ∀ r : En, r[3]? = some (.fz (.lst (.str "at" :: (ps.map numS).map .str))) → r.length = 9 → compF (seqI (bind3 (vW 3) (oSome (kC (.int 1))) oNone slD)) (tgN 7) kT (bind1 (aCons (vF 7) aNil) m_number_in) [7] r m = .ok (ps.map .int) m := by
    intro r hr hrl
    apply e_comp (xs := (ps.map numS).map .str) (m1 := m)
    · apply e_seqL
      apply e_b3
      · exact e_vW hr
      · exact e_oS e_kC
      · exact e_oN
      · rw [e_slL, cut1]; rfl
    · rw [sizeLine_eq]; simp; omega
    · rw [← hio]
      refine (comp_map (g := intOf) fun d hd => ?_).trans (by rw [List.nil_append])
      obtain ⟨s, hs', rfl⟩ := List.mem_map.mp hd
      obtain ⟨p, hp, rfl⟩ := List.mem_map.mp hs'
      refine ⟨_, rfl, ?_⟩
      apply e_b1
      · apply e_aCons
        · apply e_vF
          rw [List.getElem?_set_self (by simp [wipeE, hrl])]
        · exact e_aNil
      · rw [number_ok (hs p hp), intOf, numS_int (hs p hp)]
        rfl
  let g : D → D := fun d => match d with
    | .int a => .bl (decide (okP a))
    | _ => .non
  have hc2 : ∀ r : En, r[4]? = some (.fz (.lst (ps.map .int))) → r.length = 9 → compF (seqI (vF 4)) (tgN 8) kT (bind1 (aCons (vF 8) aNil) m_is_place) [8] r m = .ok ((ps.map D.int).map g) m := by
    intro r hr hrl
    apply e_comp (xs := ps.map .int) (m1 := m)
    · apply e_seqL
      exact e_vF hr
    · rw [sizeLine_eq]; simp; omega
    · refine (comp_map (g := g) fun d hd => ?_).trans (by rw [List.nil_append])
      obtain ⟨p, hp, rfl⟩ := List.mem_map.mp hd
      refine ⟨_, rfl, ?_⟩
      apply e_b1
      · apply e_aCons
        · apply e_vF
          rw [List.getElem?_set_self (by simp [wipeE, hrl])]
        · exact e_aNil
      · exact place_any
  have hall : allD [.lst ((ps.map D.int).map g)] m = .ok (.bl (ps.all fun p => decide (okP p))) m := by
    have e : (ps.map D.int).map g = (ps.map fun p => decide (okP p)).map .bl := by
      rw [List.map_map, List.map_map]
      rfl
    rw [e, all_any, List.all_map]
    rfl
  have hasc := ascend_any (m := m) hlen
  by_cases k1 : 1 ≤ ps.length
  case neg =>
    have k : ¬((1 : Int) ≤ ((ps.map D.int).length : Int)) := by rw [List.length_map]; omega
    apply e_run rfl
    unfold b_places_in
    repeat' (first
    | with_reducible exact hsp
      | ((with_reducible apply hc1) <;> rfl)
    | with_reducible exact okr
    | with_reducible exact retr
    | with_reducible exact e_kC
    | with_reducible exact e_aNil
    | with_reducible exact e_nil
    | with_reducible exact e_evN
    | with_reducible exact e_oN
    | with_reducible exact n_t
    | with_reducible exact n_f
    | with_reducible exact sq_r
    | with_reducible apply pk_t
    | with_reducible apply pk_f
    | with_reducible apply sq_n
    | ((with_reducible apply e_vF); rfl)
    | ((with_reducible apply e_vW); rfl)
    | ((with_reducible apply e_vWo); rfl)
    | ((with_reducible apply e_vWd); rfl)
    | with_reducible apply e_b1
    | with_reducible apply e_b2
    | with_reducible apply e_b3
    | with_reducible apply e_aCons
    | with_reducible apply e_evC
    | with_reducible apply e_mkD2
    | with_reducible apply e_toB
    | with_reducible apply e_ofB
    | with_reducible apply e_not
    | with_reducible apply e_notv
    | with_reducible apply e_and
    | with_reducible apply e_or
    | with_reducible apply e_if
    | with_reducible apply e_andv
    | with_reducible apply e_orv
    | with_reducible apply e_chn
    | with_reducible apply e_bnd
    | with_reducible apply e_oS
    | with_reducible apply e_strO
    | with_reducible apply e_ofL
    | with_reducible apply e_mkL
    | with_reducible apply e_mkT
    | with_reducible exact e_add
    | with_reducible exact e_sub
    | with_reducible exact e_neg
    | with_reducible exact e_abs
    | with_reducible exact e_intI
    | with_reducible exact e_intT
    | with_reducible exact e_intF
    | with_reducible exact e_intB
    | with_reducible exact e_max
    | with_reducible exact e_min
    | with_reducible exact e_lenL
    | with_reducible exact e_lenT
    | with_reducible exact e_slen
    | with_reducible exact e_tupL
    | with_reducible exact e_slL
    | with_reducible exact e_slT
    | with_reducible exact e_rev
    | with_reducible exact e_isT
    | with_reducible exact e_isntF
    | with_reducible exact e_strS
    | with_reducible exact e_ix0L
    | with_reducible exact e_ix0T
    | ((with_reducible apply e_isF); rfl)
    | ((with_reducible apply e_isntT); rfl)
    | ((with_reducible apply e_ltT); (first | assumption | omega | (simp only [List.length_cons, List.length_nil, List.length_map]; omega)))
    | ((with_reducible apply e_ltF); (first | assumption | omega | (simp only [List.length_cons, List.length_nil, List.length_map]; omega)))
    | ((with_reducible apply e_leT); (first | assumption | omega | (simp only [List.length_cons, List.length_nil, List.length_map]; omega)))
    | ((with_reducible apply e_leF); (first | assumption | omega | (simp only [List.length_cons, List.length_nil, List.length_map]; omega)))
    | ((with_reducible apply e_gtT); (first | assumption | omega | (simp only [List.length_cons, List.length_nil, List.length_map]; omega)))
    | ((with_reducible apply e_gtF); (first | assumption | omega | (simp only [List.length_cons, List.length_nil, List.length_map]; omega)))
    | ((with_reducible apply e_geT); (first | assumption | omega | (simp only [List.length_cons, List.length_nil, List.length_map]; omega)))
    | ((with_reducible apply e_geF); (first | assumption | omega | (simp only [List.length_cons, List.length_nil, List.length_map]; omega)))
    | ((with_reducible apply e_eqIT); (first | assumption | omega | (simp only [List.length_cons, List.length_nil, List.length_map]; omega)))
    | ((with_reducible apply e_eqIF); (first | assumption | omega | (simp only [List.length_cons, List.length_nil, List.length_map]; omega)))
    | ((with_reducible apply e_neIT); (first | assumption | omega | (simp only [List.length_cons, List.length_nil, List.length_map]; omega)))
    | ((with_reducible apply e_neIF); (first | assumption | omega | (simp only [List.length_cons, List.length_nil, List.length_map]; omega)))
    | ((with_reducible apply e_eqST); (first | rfl | assumption | decide | decide +kernel))
    | ((with_reducible apply e_eqSF); (first | rfl | assumption | decide | decide +kernel))
    | ((with_reducible apply e_neST); (first | rfl | assumption | decide | decide +kernel))
    | ((with_reducible apply e_neSF); (first | rfl | assumption | decide | decide +kernel))
    | ((with_reducible apply e_mod); (first | assumption | omega | (simp only [List.length_cons, List.length_nil, List.length_map]; omega)))
    | ((with_reducible apply e_fdiv); (first | assumption | omega | (simp only [List.length_cons, List.length_nil, List.length_map]; omega)))
    | ((with_reducible apply e_mul); (first | assumption | omega | (simp only [List.length_cons, List.length_nil, List.length_map]; omega)))
    | ((with_reducible apply e_pixS); rfl)
    | ((with_reducible apply e_ixL); rfl)
    | ((with_reducible apply e_ixT); rfl)
    | ((with_reducible apply e_dget); rfl)
    | (rw [sizeLine_eq]; simp only [List.length_cons, List.length_nil]; omega)
    | ((show List.map _ _ = (_ : List L2.Key)); rfl)
    | with_reducible apply e_asg
    | with_reducible apply e_ret
    | with_reducible apply e_exp
    | with_reducible apply e_par
    | with_reducible apply e_par3
    | with_reducible apply e_retPot
    | with_reducible apply e_sif
    | with_reducible apply e_sq)
  by_cases k2 : ps.length ≤ 40
  case neg =>
    have k : ¬(((ps.map D.int).length : Int) ≤ 40) := by rw [List.length_map]; omega
    have k' : (1 : Int) ≤ ((ps.map D.int).length : Int) := by rw [List.length_map]; omega
    apply e_run rfl
    unfold b_places_in
    repeat' (first
    | with_reducible exact hsp
      | ((with_reducible apply hc1) <;> rfl)
    | with_reducible exact okr
    | with_reducible exact retr
    | with_reducible exact e_kC
    | with_reducible exact e_aNil
    | with_reducible exact e_nil
    | with_reducible exact e_evN
    | with_reducible exact e_oN
    | with_reducible exact n_t
    | with_reducible exact n_f
    | with_reducible exact sq_r
    | with_reducible apply pk_t
    | with_reducible apply pk_f
    | with_reducible apply sq_n
    | ((with_reducible apply e_vF); rfl)
    | ((with_reducible apply e_vW); rfl)
    | ((with_reducible apply e_vWo); rfl)
    | ((with_reducible apply e_vWd); rfl)
    | with_reducible apply e_b1
    | with_reducible apply e_b2
    | with_reducible apply e_b3
    | with_reducible apply e_aCons
    | with_reducible apply e_evC
    | with_reducible apply e_mkD2
    | with_reducible apply e_toB
    | with_reducible apply e_ofB
    | with_reducible apply e_not
    | with_reducible apply e_notv
    | with_reducible apply e_and
    | with_reducible apply e_or
    | with_reducible apply e_if
    | with_reducible apply e_andv
    | with_reducible apply e_orv
    | with_reducible apply e_chn
    | with_reducible apply e_bnd
    | with_reducible apply e_oS
    | with_reducible apply e_strO
    | with_reducible apply e_ofL
    | with_reducible apply e_mkL
    | with_reducible apply e_mkT
    | with_reducible exact e_add
    | with_reducible exact e_sub
    | with_reducible exact e_neg
    | with_reducible exact e_abs
    | with_reducible exact e_intI
    | with_reducible exact e_intT
    | with_reducible exact e_intF
    | with_reducible exact e_intB
    | with_reducible exact e_max
    | with_reducible exact e_min
    | with_reducible exact e_lenL
    | with_reducible exact e_lenT
    | with_reducible exact e_slen
    | with_reducible exact e_tupL
    | with_reducible exact e_slL
    | with_reducible exact e_slT
    | with_reducible exact e_rev
    | with_reducible exact e_isT
    | with_reducible exact e_isntF
    | with_reducible exact e_strS
    | with_reducible exact e_ix0L
    | with_reducible exact e_ix0T
    | ((with_reducible apply e_isF); rfl)
    | ((with_reducible apply e_isntT); rfl)
    | ((with_reducible apply e_ltT); (first | assumption | omega | (simp only [List.length_cons, List.length_nil, List.length_map]; omega)))
    | ((with_reducible apply e_ltF); (first | assumption | omega | (simp only [List.length_cons, List.length_nil, List.length_map]; omega)))
    | ((with_reducible apply e_leT); (first | assumption | omega | (simp only [List.length_cons, List.length_nil, List.length_map]; omega)))
    | ((with_reducible apply e_leF); (first | assumption | omega | (simp only [List.length_cons, List.length_nil, List.length_map]; omega)))
    | ((with_reducible apply e_gtT); (first | assumption | omega | (simp only [List.length_cons, List.length_nil, List.length_map]; omega)))
    | ((with_reducible apply e_gtF); (first | assumption | omega | (simp only [List.length_cons, List.length_nil, List.length_map]; omega)))
    | ((with_reducible apply e_geT); (first | assumption | omega | (simp only [List.length_cons, List.length_nil, List.length_map]; omega)))
    | ((with_reducible apply e_geF); (first | assumption | omega | (simp only [List.length_cons, List.length_nil, List.length_map]; omega)))
    | ((with_reducible apply e_eqIT); (first | assumption | omega | (simp only [List.length_cons, List.length_nil, List.length_map]; omega)))
    | ((with_reducible apply e_eqIF); (first | assumption | omega | (simp only [List.length_cons, List.length_nil, List.length_map]; omega)))
    | ((with_reducible apply e_neIT); (first | assumption | omega | (simp only [List.length_cons, List.length_nil, List.length_map]; omega)))
    | ((with_reducible apply e_neIF); (first | assumption | omega | (simp only [List.length_cons, List.length_nil, List.length_map]; omega)))
    | ((with_reducible apply e_eqST); (first | rfl | assumption | decide | decide +kernel))
    | ((with_reducible apply e_eqSF); (first | rfl | assumption | decide | decide +kernel))
    | ((with_reducible apply e_neST); (first | rfl | assumption | decide | decide +kernel))
    | ((with_reducible apply e_neSF); (first | rfl | assumption | decide | decide +kernel))
    | ((with_reducible apply e_mod); (first | assumption | omega | (simp only [List.length_cons, List.length_nil, List.length_map]; omega)))
    | ((with_reducible apply e_fdiv); (first | assumption | omega | (simp only [List.length_cons, List.length_nil, List.length_map]; omega)))
    | ((with_reducible apply e_mul); (first | assumption | omega | (simp only [List.length_cons, List.length_nil, List.length_map]; omega)))
    | ((with_reducible apply e_pixS); rfl)
    | ((with_reducible apply e_ixL); rfl)
    | ((with_reducible apply e_ixT); rfl)
    | ((with_reducible apply e_dget); rfl)
    | (rw [sizeLine_eq]; simp only [List.length_cons, List.length_nil]; omega)
    | ((show List.map _ _ = (_ : List L2.Key)); rfl)
    | with_reducible apply e_asg
    | with_reducible apply e_ret
    | with_reducible apply e_exp
    | with_reducible apply e_par
    | with_reducible apply e_par3
    | with_reducible apply e_retPot
    | with_reducible apply e_sif
    | with_reducible apply e_sq)
  have k' : (1 : Int) ≤ ((ps.map D.int).length : Int) ∧ ((ps.map D.int).length : Int) ≤ 40 := by rw [List.length_map]; omega
  obtain ⟨k1', k2'⟩ := k'
  cases ho : ps.all fun p => decide (okP p) with
  | false =>
    rw [ho] at hall
    apply e_run rfl
    unfold b_places_in
    repeat' (first
    | with_reducible exact hsp
      | ((with_reducible apply hc1) <;> rfl)
      | ((with_reducible apply hc2) <;> rfl)
      | with_reducible exact hall
    | with_reducible exact okr
    | with_reducible exact retr
    | with_reducible exact e_kC
    | with_reducible exact e_aNil
    | with_reducible exact e_nil
    | with_reducible exact e_evN
    | with_reducible exact e_oN
    | with_reducible exact n_t
    | with_reducible exact n_f
    | with_reducible exact sq_r
    | with_reducible apply pk_t
    | with_reducible apply pk_f
    | with_reducible apply sq_n
    | ((with_reducible apply e_vF); rfl)
    | ((with_reducible apply e_vW); rfl)
    | ((with_reducible apply e_vWo); rfl)
    | ((with_reducible apply e_vWd); rfl)
    | with_reducible apply e_b1
    | with_reducible apply e_b2
    | with_reducible apply e_b3
    | with_reducible apply e_aCons
    | with_reducible apply e_evC
    | with_reducible apply e_mkD2
    | with_reducible apply e_toB
    | with_reducible apply e_ofB
    | with_reducible apply e_not
    | with_reducible apply e_notv
    | with_reducible apply e_and
    | with_reducible apply e_or
    | with_reducible apply e_if
    | with_reducible apply e_andv
    | with_reducible apply e_orv
    | with_reducible apply e_chn
    | with_reducible apply e_bnd
    | with_reducible apply e_oS
    | with_reducible apply e_strO
    | with_reducible apply e_ofL
    | with_reducible apply e_mkL
    | with_reducible apply e_mkT
    | with_reducible exact e_add
    | with_reducible exact e_sub
    | with_reducible exact e_neg
    | with_reducible exact e_abs
    | with_reducible exact e_intI
    | with_reducible exact e_intT
    | with_reducible exact e_intF
    | with_reducible exact e_intB
    | with_reducible exact e_max
    | with_reducible exact e_min
    | with_reducible exact e_lenL
    | with_reducible exact e_lenT
    | with_reducible exact e_slen
    | with_reducible exact e_tupL
    | with_reducible exact e_slL
    | with_reducible exact e_slT
    | with_reducible exact e_rev
    | with_reducible exact e_isT
    | with_reducible exact e_isntF
    | with_reducible exact e_strS
    | with_reducible exact e_ix0L
    | with_reducible exact e_ix0T
    | ((with_reducible apply e_isF); rfl)
    | ((with_reducible apply e_isntT); rfl)
    | ((with_reducible apply e_ltT); (first | assumption | omega | (simp only [List.length_cons, List.length_nil, List.length_map]; omega)))
    | ((with_reducible apply e_ltF); (first | assumption | omega | (simp only [List.length_cons, List.length_nil, List.length_map]; omega)))
    | ((with_reducible apply e_leT); (first | assumption | omega | (simp only [List.length_cons, List.length_nil, List.length_map]; omega)))
    | ((with_reducible apply e_leF); (first | assumption | omega | (simp only [List.length_cons, List.length_nil, List.length_map]; omega)))
    | ((with_reducible apply e_gtT); (first | assumption | omega | (simp only [List.length_cons, List.length_nil, List.length_map]; omega)))
    | ((with_reducible apply e_gtF); (first | assumption | omega | (simp only [List.length_cons, List.length_nil, List.length_map]; omega)))
    | ((with_reducible apply e_geT); (first | assumption | omega | (simp only [List.length_cons, List.length_nil, List.length_map]; omega)))
    | ((with_reducible apply e_geF); (first | assumption | omega | (simp only [List.length_cons, List.length_nil, List.length_map]; omega)))
    | ((with_reducible apply e_eqIT); (first | assumption | omega | (simp only [List.length_cons, List.length_nil, List.length_map]; omega)))
    | ((with_reducible apply e_eqIF); (first | assumption | omega | (simp only [List.length_cons, List.length_nil, List.length_map]; omega)))
    | ((with_reducible apply e_neIT); (first | assumption | omega | (simp only [List.length_cons, List.length_nil, List.length_map]; omega)))
    | ((with_reducible apply e_neIF); (first | assumption | omega | (simp only [List.length_cons, List.length_nil, List.length_map]; omega)))
    | ((with_reducible apply e_eqST); (first | rfl | assumption | decide | decide +kernel))
    | ((with_reducible apply e_eqSF); (first | rfl | assumption | decide | decide +kernel))
    | ((with_reducible apply e_neST); (first | rfl | assumption | decide | decide +kernel))
    | ((with_reducible apply e_neSF); (first | rfl | assumption | decide | decide +kernel))
    | ((with_reducible apply e_mod); (first | assumption | omega | (simp only [List.length_cons, List.length_nil, List.length_map]; omega)))
    | ((with_reducible apply e_fdiv); (first | assumption | omega | (simp only [List.length_cons, List.length_nil, List.length_map]; omega)))
    | ((with_reducible apply e_mul); (first | assumption | omega | (simp only [List.length_cons, List.length_nil, List.length_map]; omega)))
    | ((with_reducible apply e_pixS); rfl)
    | ((with_reducible apply e_ixL); rfl)
    | ((with_reducible apply e_ixT); rfl)
    | ((with_reducible apply e_dget); rfl)
    | (rw [sizeLine_eq]; simp only [List.length_cons, List.length_nil]; omega)
    | ((show List.map _ _ = (_ : List L2.Key)); rfl)
    | with_reducible apply e_asg
    | with_reducible apply e_ret
    | with_reducible apply e_exp
    | with_reducible apply e_par
    | with_reducible apply e_par3
    | with_reducible apply e_retPot
    | with_reducible apply e_sif
    | with_reducible apply e_sq)
  | true =>
    rw [ho] at hall
    obtain ⟨a, ha, ea⟩ := first_atW k1
    obtain ⟨z, hz, ez⟩ := last_atW k1
    have hL : ∃ b1, (L.at.all fun q => ps.head?.all fun a => decide (q < a)) = b1 ∧ ∀ r : En, r[1]? = some (.fz L.d) → r[4]? = some (.fz (.lst (ps.map .int))) → orV (bind2 (vW 1) (mkT (aCons (kC (.str "free")) aNil)) eqD) (bind2 (bind2 (vW 1) (kC (.int 1)) ixD) (bind2 (vW 4) (kC (.int 0)) ixD) ltD) r m = .ok (.bl b1) m := by
      have fin : ∀ w q, L.at = some q → L.d = .tup [.str w, .int q] → PyData.strOk w = true → ∃ b1, (L.at.all fun q => ps.head?.all fun a => decide (q < a)) = b1 ∧ ∀ r : En, r[1]? = some (.fz L.d) → r[4]? = some (.fz (.lst (ps.map .int))) → orV (bind2 (vW 1) (mkT (aCons (kC (.str "free")) aNil)) eqD) (bind2 (bind2 (vW 1) (kC (.int 1)) ixD) (bind2 (vW 4) (kC (.int 0)) ixD) ltD) r m = .ok (.bl b1) m := by
        intro w q e1 e2 hw
        refine ⟨decide (q < a), by simp [e1, ha], ?_⟩
        intro r h1 h4
        rw [e2] at h1
        by_cases c : q < a
        · rw [decide_eq_true c]
          repeat' (first
    | with_reducible exact ne_free hw
            | with_reducible exact e_vW h1
            | with_reducible exact e_vW h4
            | with_reducible exact e_ixL ea
    | with_reducible exact okr
    | with_reducible exact retr
    | with_reducible exact e_kC
    | with_reducible exact e_aNil
    | with_reducible exact e_nil
    | with_reducible exact e_evN
    | with_reducible exact e_oN
    | with_reducible exact n_t
    | with_reducible exact n_f
    | with_reducible exact sq_r
    | with_reducible apply pk_t
    | with_reducible apply pk_f
    | with_reducible apply sq_n
    | ((with_reducible apply e_vF); rfl)
    | ((with_reducible apply e_vW); rfl)
    | ((with_reducible apply e_vWo); rfl)
    | ((with_reducible apply e_vWd); rfl)
    | with_reducible apply e_b1
    | with_reducible apply e_b2
    | with_reducible apply e_b3
    | with_reducible apply e_aCons
    | with_reducible apply e_evC
    | with_reducible apply e_mkD2
    | with_reducible apply e_toB
    | with_reducible apply e_ofB
    | with_reducible apply e_not
    | with_reducible apply e_notv
    | with_reducible apply e_and
    | with_reducible apply e_or
    | with_reducible apply e_if
    | with_reducible apply e_andv
    | with_reducible apply e_orv
    | with_reducible apply e_chn
    | with_reducible apply e_bnd
    | with_reducible apply e_oS
    | with_reducible apply e_strO
    | with_reducible apply e_ofL
    | with_reducible apply e_mkL
    | with_reducible apply e_mkT
    | with_reducible exact e_add
    | with_reducible exact e_sub
    | with_reducible exact e_neg
    | with_reducible exact e_abs
    | with_reducible exact e_intI
    | with_reducible exact e_intT
    | with_reducible exact e_intF
    | with_reducible exact e_intB
    | with_reducible exact e_max
    | with_reducible exact e_min
    | with_reducible exact e_lenL
    | with_reducible exact e_lenT
    | with_reducible exact e_slen
    | with_reducible exact e_tupL
    | with_reducible exact e_slL
    | with_reducible exact e_slT
    | with_reducible exact e_rev
    | with_reducible exact e_isT
    | with_reducible exact e_isntF
    | with_reducible exact e_strS
    | with_reducible exact e_ix0L
    | with_reducible exact e_ix0T
    | ((with_reducible apply e_isF); rfl)
    | ((with_reducible apply e_isntT); rfl)
    | ((with_reducible apply e_ltT); (first | assumption | omega | (simp only [List.length_cons, List.length_nil, List.length_map]; omega)))
    | ((with_reducible apply e_ltF); (first | assumption | omega | (simp only [List.length_cons, List.length_nil, List.length_map]; omega)))
    | ((with_reducible apply e_leT); (first | assumption | omega | (simp only [List.length_cons, List.length_nil, List.length_map]; omega)))
    | ((with_reducible apply e_leF); (first | assumption | omega | (simp only [List.length_cons, List.length_nil, List.length_map]; omega)))
    | ((with_reducible apply e_gtT); (first | assumption | omega | (simp only [List.length_cons, List.length_nil, List.length_map]; omega)))
    | ((with_reducible apply e_gtF); (first | assumption | omega | (simp only [List.length_cons, List.length_nil, List.length_map]; omega)))
    | ((with_reducible apply e_geT); (first | assumption | omega | (simp only [List.length_cons, List.length_nil, List.length_map]; omega)))
    | ((with_reducible apply e_geF); (first | assumption | omega | (simp only [List.length_cons, List.length_nil, List.length_map]; omega)))
    | ((with_reducible apply e_eqIT); (first | assumption | omega | (simp only [List.length_cons, List.length_nil, List.length_map]; omega)))
    | ((with_reducible apply e_eqIF); (first | assumption | omega | (simp only [List.length_cons, List.length_nil, List.length_map]; omega)))
    | ((with_reducible apply e_neIT); (first | assumption | omega | (simp only [List.length_cons, List.length_nil, List.length_map]; omega)))
    | ((with_reducible apply e_neIF); (first | assumption | omega | (simp only [List.length_cons, List.length_nil, List.length_map]; omega)))
    | ((with_reducible apply e_eqST); (first | rfl | assumption | decide | decide +kernel))
    | ((with_reducible apply e_eqSF); (first | rfl | assumption | decide | decide +kernel))
    | ((with_reducible apply e_neST); (first | rfl | assumption | decide | decide +kernel))
    | ((with_reducible apply e_neSF); (first | rfl | assumption | decide | decide +kernel))
    | ((with_reducible apply e_mod); (first | assumption | omega | (simp only [List.length_cons, List.length_nil, List.length_map]; omega)))
    | ((with_reducible apply e_fdiv); (first | assumption | omega | (simp only [List.length_cons, List.length_nil, List.length_map]; omega)))
    | ((with_reducible apply e_mul); (first | assumption | omega | (simp only [List.length_cons, List.length_nil, List.length_map]; omega)))
    | ((with_reducible apply e_pixS); rfl)
    | ((with_reducible apply e_ixL); rfl)
    | ((with_reducible apply e_ixT); rfl)
    | ((with_reducible apply e_dget); rfl)
    | (rw [sizeLine_eq]; simp only [List.length_cons, List.length_nil]; omega)
    | ((show List.map _ _ = (_ : List L2.Key)); rfl)
    | with_reducible apply e_asg
    | with_reducible apply e_ret
    | with_reducible apply e_exp
    | with_reducible apply e_par
    | with_reducible apply e_par3
    | with_reducible apply e_retPot
    | with_reducible apply e_sif
    | with_reducible apply e_sq)
        · rw [decide_eq_false c]
          repeat' (first
    | with_reducible exact ne_free hw
            | with_reducible exact e_vW h1
            | with_reducible exact e_vW h4
            | with_reducible exact e_ixL ea
    | with_reducible exact okr
    | with_reducible exact retr
    | with_reducible exact e_kC
    | with_reducible exact e_aNil
    | with_reducible exact e_nil
    | with_reducible exact e_evN
    | with_reducible exact e_oN
    | with_reducible exact n_t
    | with_reducible exact n_f
    | with_reducible exact sq_r
    | with_reducible apply pk_t
    | with_reducible apply pk_f
    | with_reducible apply sq_n
    | ((with_reducible apply e_vF); rfl)
    | ((with_reducible apply e_vW); rfl)
    | ((with_reducible apply e_vWo); rfl)
    | ((with_reducible apply e_vWd); rfl)
    | with_reducible apply e_b1
    | with_reducible apply e_b2
    | with_reducible apply e_b3
    | with_reducible apply e_aCons
    | with_reducible apply e_evC
    | with_reducible apply e_mkD2
    | with_reducible apply e_toB
    | with_reducible apply e_ofB
    | with_reducible apply e_not
    | with_reducible apply e_notv
    | with_reducible apply e_and
    | with_reducible apply e_or
    | with_reducible apply e_if
    | with_reducible apply e_andv
    | with_reducible apply e_orv
    | with_reducible apply e_chn
    | with_reducible apply e_bnd
    | with_reducible apply e_oS
    | with_reducible apply e_strO
    | with_reducible apply e_ofL
    | with_reducible apply e_mkL
    | with_reducible apply e_mkT
    | with_reducible exact e_add
    | with_reducible exact e_sub
    | with_reducible exact e_neg
    | with_reducible exact e_abs
    | with_reducible exact e_intI
    | with_reducible exact e_intT
    | with_reducible exact e_intF
    | with_reducible exact e_intB
    | with_reducible exact e_max
    | with_reducible exact e_min
    | with_reducible exact e_lenL
    | with_reducible exact e_lenT
    | with_reducible exact e_slen
    | with_reducible exact e_tupL
    | with_reducible exact e_slL
    | with_reducible exact e_slT
    | with_reducible exact e_rev
    | with_reducible exact e_isT
    | with_reducible exact e_isntF
    | with_reducible exact e_strS
    | with_reducible exact e_ix0L
    | with_reducible exact e_ix0T
    | ((with_reducible apply e_isF); rfl)
    | ((with_reducible apply e_isntT); rfl)
    | ((with_reducible apply e_ltT); (first | assumption | omega | (simp only [List.length_cons, List.length_nil, List.length_map]; omega)))
    | ((with_reducible apply e_ltF); (first | assumption | omega | (simp only [List.length_cons, List.length_nil, List.length_map]; omega)))
    | ((with_reducible apply e_leT); (first | assumption | omega | (simp only [List.length_cons, List.length_nil, List.length_map]; omega)))
    | ((with_reducible apply e_leF); (first | assumption | omega | (simp only [List.length_cons, List.length_nil, List.length_map]; omega)))
    | ((with_reducible apply e_gtT); (first | assumption | omega | (simp only [List.length_cons, List.length_nil, List.length_map]; omega)))
    | ((with_reducible apply e_gtF); (first | assumption | omega | (simp only [List.length_cons, List.length_nil, List.length_map]; omega)))
    | ((with_reducible apply e_geT); (first | assumption | omega | (simp only [List.length_cons, List.length_nil, List.length_map]; omega)))
    | ((with_reducible apply e_geF); (first | assumption | omega | (simp only [List.length_cons, List.length_nil, List.length_map]; omega)))
    | ((with_reducible apply e_eqIT); (first | assumption | omega | (simp only [List.length_cons, List.length_nil, List.length_map]; omega)))
    | ((with_reducible apply e_eqIF); (first | assumption | omega | (simp only [List.length_cons, List.length_nil, List.length_map]; omega)))
    | ((with_reducible apply e_neIT); (first | assumption | omega | (simp only [List.length_cons, List.length_nil, List.length_map]; omega)))
    | ((with_reducible apply e_neIF); (first | assumption | omega | (simp only [List.length_cons, List.length_nil, List.length_map]; omega)))
    | ((with_reducible apply e_eqST); (first | rfl | assumption | decide | decide +kernel))
    | ((with_reducible apply e_eqSF); (first | rfl | assumption | decide | decide +kernel))
    | ((with_reducible apply e_neST); (first | rfl | assumption | decide | decide +kernel))
    | ((with_reducible apply e_neSF); (first | rfl | assumption | decide | decide +kernel))
    | ((with_reducible apply e_mod); (first | assumption | omega | (simp only [List.length_cons, List.length_nil, List.length_map]; omega)))
    | ((with_reducible apply e_fdiv); (first | assumption | omega | (simp only [List.length_cons, List.length_nil, List.length_map]; omega)))
    | ((with_reducible apply e_mul); (first | assumption | omega | (simp only [List.length_cons, List.length_nil, List.length_map]; omega)))
    | ((with_reducible apply e_pixS); rfl)
    | ((with_reducible apply e_ixL); rfl)
    | ((with_reducible apply e_ixT); rfl)
    | ((with_reducible apply e_dget); rfl)
    | (rw [sizeLine_eq]; simp only [List.length_cons, List.length_nil]; omega)
    | ((show List.map _ _ = (_ : List L2.Key)); rfl)
    | with_reducible apply e_asg
    | with_reducible apply e_ret
    | with_reducible apply e_exp
    | with_reducible apply e_par
    | with_reducible apply e_par3
    | with_reducible apply e_retPot
    | with_reducible apply e_sif
    | with_reducible apply e_sq)
      cases L with
      | free =>
        refine ⟨true, rfl, ?_⟩
        intro r h1 h4
        have h1 : r[1]? = some (.fz (.tup [.str "free"])) := h1
        repeat' (first
    | with_reducible exact eq_free
            | with_reducible exact e_vW h1
    | with_reducible exact okr
    | with_reducible exact retr
    | with_reducible exact e_kC
    | with_reducible exact e_aNil
    | with_reducible exact e_nil
    | with_reducible exact e_evN
    | with_reducible exact e_oN
    | with_reducible exact n_t
    | with_reducible exact n_f
    | with_reducible exact sq_r
    | with_reducible apply pk_t
    | with_reducible apply pk_f
    | with_reducible apply sq_n
    | ((with_reducible apply e_vF); rfl)
    | ((with_reducible apply e_vW); rfl)
    | ((with_reducible apply e_vWo); rfl)
    | ((with_reducible apply e_vWd); rfl)
    | with_reducible apply e_b1
    | with_reducible apply e_b2
    | with_reducible apply e_b3
    | with_reducible apply e_aCons
    | with_reducible apply e_evC
    | with_reducible apply e_mkD2
    | with_reducible apply e_toB
    | with_reducible apply e_ofB
    | with_reducible apply e_not
    | with_reducible apply e_notv
    | with_reducible apply e_and
    | with_reducible apply e_or
    | with_reducible apply e_if
    | with_reducible apply e_andv
    | with_reducible apply e_orv
    | with_reducible apply e_chn
    | with_reducible apply e_bnd
    | with_reducible apply e_oS
    | with_reducible apply e_strO
    | with_reducible apply e_ofL
    | with_reducible apply e_mkL
    | with_reducible apply e_mkT
    | with_reducible exact e_add
    | with_reducible exact e_sub
    | with_reducible exact e_neg
    | with_reducible exact e_abs
    | with_reducible exact e_intI
    | with_reducible exact e_intT
    | with_reducible exact e_intF
    | with_reducible exact e_intB
    | with_reducible exact e_max
    | with_reducible exact e_min
    | with_reducible exact e_lenL
    | with_reducible exact e_lenT
    | with_reducible exact e_slen
    | with_reducible exact e_tupL
    | with_reducible exact e_slL
    | with_reducible exact e_slT
    | with_reducible exact e_rev
    | with_reducible exact e_isT
    | with_reducible exact e_isntF
    | with_reducible exact e_strS
    | with_reducible exact e_ix0L
    | with_reducible exact e_ix0T
    | ((with_reducible apply e_isF); rfl)
    | ((with_reducible apply e_isntT); rfl)
    | ((with_reducible apply e_ltT); (first | assumption | omega | (simp only [List.length_cons, List.length_nil, List.length_map]; omega)))
    | ((with_reducible apply e_ltF); (first | assumption | omega | (simp only [List.length_cons, List.length_nil, List.length_map]; omega)))
    | ((with_reducible apply e_leT); (first | assumption | omega | (simp only [List.length_cons, List.length_nil, List.length_map]; omega)))
    | ((with_reducible apply e_leF); (first | assumption | omega | (simp only [List.length_cons, List.length_nil, List.length_map]; omega)))
    | ((with_reducible apply e_gtT); (first | assumption | omega | (simp only [List.length_cons, List.length_nil, List.length_map]; omega)))
    | ((with_reducible apply e_gtF); (first | assumption | omega | (simp only [List.length_cons, List.length_nil, List.length_map]; omega)))
    | ((with_reducible apply e_geT); (first | assumption | omega | (simp only [List.length_cons, List.length_nil, List.length_map]; omega)))
    | ((with_reducible apply e_geF); (first | assumption | omega | (simp only [List.length_cons, List.length_nil, List.length_map]; omega)))
    | ((with_reducible apply e_eqIT); (first | assumption | omega | (simp only [List.length_cons, List.length_nil, List.length_map]; omega)))
    | ((with_reducible apply e_eqIF); (first | assumption | omega | (simp only [List.length_cons, List.length_nil, List.length_map]; omega)))
    | ((with_reducible apply e_neIT); (first | assumption | omega | (simp only [List.length_cons, List.length_nil, List.length_map]; omega)))
    | ((with_reducible apply e_neIF); (first | assumption | omega | (simp only [List.length_cons, List.length_nil, List.length_map]; omega)))
    | ((with_reducible apply e_eqST); (first | rfl | assumption | decide | decide +kernel))
    | ((with_reducible apply e_eqSF); (first | rfl | assumption | decide | decide +kernel))
    | ((with_reducible apply e_neST); (first | rfl | assumption | decide | decide +kernel))
    | ((with_reducible apply e_neSF); (first | rfl | assumption | decide | decide +kernel))
    | ((with_reducible apply e_mod); (first | assumption | omega | (simp only [List.length_cons, List.length_nil, List.length_map]; omega)))
    | ((with_reducible apply e_fdiv); (first | assumption | omega | (simp only [List.length_cons, List.length_nil, List.length_map]; omega)))
    | ((with_reducible apply e_mul); (first | assumption | omega | (simp only [List.length_cons, List.length_nil, List.length_map]; omega)))
    | ((with_reducible apply e_pixS); rfl)
    | ((with_reducible apply e_ixL); rfl)
    | ((with_reducible apply e_ixT); rfl)
    | ((with_reducible apply e_dget); rfl)
    | (rw [sizeLine_eq]; simp only [List.length_cons, List.length_nil]; omega)
    | ((show List.map _ _ = (_ : List L2.Key)); rfl)
    | with_reducible apply e_asg
    | with_reducible apply e_ret
    | with_reducible apply e_exp
    | with_reducible apply e_par
    | with_reducible apply e_par3
    | with_reducible apply e_retPot
    | with_reducible apply e_sif
    | with_reducible apply e_sq)
      | off q => exact fin "off" q rfl rfl ok_off
      | wall q => exact fin "wall" q rfl rfl ok_wall
    have hR : ∃ b1, (R.at.all fun q => ps.getLast?.all fun a => decide (a < q)) = b1 ∧ ∀ r : En, r[2]? = some (.fz R.d) → r[4]? = some (.fz (.lst (ps.map .int))) → orV (bind2 (vW 2) (mkT (aCons (kC (.str "free")) aNil)) eqD) (bind2 (bind2 (vW 4) (bind1 (kC (.int 1)) negD) ixD) (bind2 (vW 2) (kC (.int 1)) ixD) ltD) r m = .ok (.bl b1) m := by
      have fin : ∀ w q, R.at = some q → R.d = .tup [.str w, .int q] → PyData.strOk w = true → ∃ b1, (R.at.all fun q => ps.getLast?.all fun a => decide (a < q)) = b1 ∧ ∀ r : En, r[2]? = some (.fz R.d) → r[4]? = some (.fz (.lst (ps.map .int))) → orV (bind2 (vW 2) (mkT (aCons (kC (.str "free")) aNil)) eqD) (bind2 (bind2 (vW 4) (bind1 (kC (.int 1)) negD) ixD) (bind2 (vW 2) (kC (.int 1)) ixD) ltD) r m = .ok (.bl b1) m := by
        intro w q e1 e2 hw
        refine ⟨decide (z < q), by simp [e1, hz], ?_⟩
        intro r h1 h4
        rw [e2] at h1
        by_cases c : z < q
        · rw [decide_eq_true c]
          repeat' (first
    | with_reducible exact ne_free hw
            | with_reducible exact e_vW h1
            | with_reducible exact e_vW h4
            | with_reducible exact e_ixL ez
    | with_reducible exact okr
    | with_reducible exact retr
    | with_reducible exact e_kC
    | with_reducible exact e_aNil
    | with_reducible exact e_nil
    | with_reducible exact e_evN
    | with_reducible exact e_oN
    | with_reducible exact n_t
    | with_reducible exact n_f
    | with_reducible exact sq_r
    | with_reducible apply pk_t
    | with_reducible apply pk_f
    | with_reducible apply sq_n
    | ((with_reducible apply e_vF); rfl)
    | ((with_reducible apply e_vW); rfl)
    | ((with_reducible apply e_vWo); rfl)
    | ((with_reducible apply e_vWd); rfl)
    | with_reducible apply e_b1
    | with_reducible apply e_b2
    | with_reducible apply e_b3
    | with_reducible apply e_aCons
    | with_reducible apply e_evC
    | with_reducible apply e_mkD2
    | with_reducible apply e_toB
    | with_reducible apply e_ofB
    | with_reducible apply e_not
    | with_reducible apply e_notv
    | with_reducible apply e_and
    | with_reducible apply e_or
    | with_reducible apply e_if
    | with_reducible apply e_andv
    | with_reducible apply e_orv
    | with_reducible apply e_chn
    | with_reducible apply e_bnd
    | with_reducible apply e_oS
    | with_reducible apply e_strO
    | with_reducible apply e_ofL
    | with_reducible apply e_mkL
    | with_reducible apply e_mkT
    | with_reducible exact e_add
    | with_reducible exact e_sub
    | with_reducible exact e_neg
    | with_reducible exact e_abs
    | with_reducible exact e_intI
    | with_reducible exact e_intT
    | with_reducible exact e_intF
    | with_reducible exact e_intB
    | with_reducible exact e_max
    | with_reducible exact e_min
    | with_reducible exact e_lenL
    | with_reducible exact e_lenT
    | with_reducible exact e_slen
    | with_reducible exact e_tupL
    | with_reducible exact e_slL
    | with_reducible exact e_slT
    | with_reducible exact e_rev
    | with_reducible exact e_isT
    | with_reducible exact e_isntF
    | with_reducible exact e_strS
    | with_reducible exact e_ix0L
    | with_reducible exact e_ix0T
    | ((with_reducible apply e_isF); rfl)
    | ((with_reducible apply e_isntT); rfl)
    | ((with_reducible apply e_ltT); (first | assumption | omega | (simp only [List.length_cons, List.length_nil, List.length_map]; omega)))
    | ((with_reducible apply e_ltF); (first | assumption | omega | (simp only [List.length_cons, List.length_nil, List.length_map]; omega)))
    | ((with_reducible apply e_leT); (first | assumption | omega | (simp only [List.length_cons, List.length_nil, List.length_map]; omega)))
    | ((with_reducible apply e_leF); (first | assumption | omega | (simp only [List.length_cons, List.length_nil, List.length_map]; omega)))
    | ((with_reducible apply e_gtT); (first | assumption | omega | (simp only [List.length_cons, List.length_nil, List.length_map]; omega)))
    | ((with_reducible apply e_gtF); (first | assumption | omega | (simp only [List.length_cons, List.length_nil, List.length_map]; omega)))
    | ((with_reducible apply e_geT); (first | assumption | omega | (simp only [List.length_cons, List.length_nil, List.length_map]; omega)))
    | ((with_reducible apply e_geF); (first | assumption | omega | (simp only [List.length_cons, List.length_nil, List.length_map]; omega)))
    | ((with_reducible apply e_eqIT); (first | assumption | omega | (simp only [List.length_cons, List.length_nil, List.length_map]; omega)))
    | ((with_reducible apply e_eqIF); (first | assumption | omega | (simp only [List.length_cons, List.length_nil, List.length_map]; omega)))
    | ((with_reducible apply e_neIT); (first | assumption | omega | (simp only [List.length_cons, List.length_nil, List.length_map]; omega)))
    | ((with_reducible apply e_neIF); (first | assumption | omega | (simp only [List.length_cons, List.length_nil, List.length_map]; omega)))
    | ((with_reducible apply e_eqST); (first | rfl | assumption | decide | decide +kernel))
    | ((with_reducible apply e_eqSF); (first | rfl | assumption | decide | decide +kernel))
    | ((with_reducible apply e_neST); (first | rfl | assumption | decide | decide +kernel))
    | ((with_reducible apply e_neSF); (first | rfl | assumption | decide | decide +kernel))
    | ((with_reducible apply e_mod); (first | assumption | omega | (simp only [List.length_cons, List.length_nil, List.length_map]; omega)))
    | ((with_reducible apply e_fdiv); (first | assumption | omega | (simp only [List.length_cons, List.length_nil, List.length_map]; omega)))
    | ((with_reducible apply e_mul); (first | assumption | omega | (simp only [List.length_cons, List.length_nil, List.length_map]; omega)))
    | ((with_reducible apply e_pixS); rfl)
    | ((with_reducible apply e_ixL); rfl)
    | ((with_reducible apply e_ixT); rfl)
    | ((with_reducible apply e_dget); rfl)
    | (rw [sizeLine_eq]; simp only [List.length_cons, List.length_nil]; omega)
    | ((show List.map _ _ = (_ : List L2.Key)); rfl)
    | with_reducible apply e_asg
    | with_reducible apply e_ret
    | with_reducible apply e_exp
    | with_reducible apply e_par
    | with_reducible apply e_par3
    | with_reducible apply e_retPot
    | with_reducible apply e_sif
    | with_reducible apply e_sq)
        · rw [decide_eq_false c]
          repeat' (first
    | with_reducible exact ne_free hw
            | with_reducible exact e_vW h1
            | with_reducible exact e_vW h4
            | with_reducible exact e_ixL ez
    | with_reducible exact okr
    | with_reducible exact retr
    | with_reducible exact e_kC
    | with_reducible exact e_aNil
    | with_reducible exact e_nil
    | with_reducible exact e_evN
    | with_reducible exact e_oN
    | with_reducible exact n_t
    | with_reducible exact n_f
    | with_reducible exact sq_r
    | with_reducible apply pk_t
    | with_reducible apply pk_f
    | with_reducible apply sq_n
    | ((with_reducible apply e_vF); rfl)
    | ((with_reducible apply e_vW); rfl)
    | ((with_reducible apply e_vWo); rfl)
    | ((with_reducible apply e_vWd); rfl)
    | with_reducible apply e_b1
    | with_reducible apply e_b2
    | with_reducible apply e_b3
    | with_reducible apply e_aCons
    | with_reducible apply e_evC
    | with_reducible apply e_mkD2
    | with_reducible apply e_toB
    | with_reducible apply e_ofB
    | with_reducible apply e_not
    | with_reducible apply e_notv
    | with_reducible apply e_and
    | with_reducible apply e_or
    | with_reducible apply e_if
    | with_reducible apply e_andv
    | with_reducible apply e_orv
    | with_reducible apply e_chn
    | with_reducible apply e_bnd
    | with_reducible apply e_oS
    | with_reducible apply e_strO
    | with_reducible apply e_ofL
    | with_reducible apply e_mkL
    | with_reducible apply e_mkT
    | with_reducible exact e_add
    | with_reducible exact e_sub
    | with_reducible exact e_neg
    | with_reducible exact e_abs
    | with_reducible exact e_intI
    | with_reducible exact e_intT
    | with_reducible exact e_intF
    | with_reducible exact e_intB
    | with_reducible exact e_max
    | with_reducible exact e_min
    | with_reducible exact e_lenL
    | with_reducible exact e_lenT
    | with_reducible exact e_slen
    | with_reducible exact e_tupL
    | with_reducible exact e_slL
    | with_reducible exact e_slT
    | with_reducible exact e_rev
    | with_reducible exact e_isT
    | with_reducible exact e_isntF
    | with_reducible exact e_strS
    | with_reducible exact e_ix0L
    | with_reducible exact e_ix0T
    | ((with_reducible apply e_isF); rfl)
    | ((with_reducible apply e_isntT); rfl)
    | ((with_reducible apply e_ltT); (first | assumption | omega | (simp only [List.length_cons, List.length_nil, List.length_map]; omega)))
    | ((with_reducible apply e_ltF); (first | assumption | omega | (simp only [List.length_cons, List.length_nil, List.length_map]; omega)))
    | ((with_reducible apply e_leT); (first | assumption | omega | (simp only [List.length_cons, List.length_nil, List.length_map]; omega)))
    | ((with_reducible apply e_leF); (first | assumption | omega | (simp only [List.length_cons, List.length_nil, List.length_map]; omega)))
    | ((with_reducible apply e_gtT); (first | assumption | omega | (simp only [List.length_cons, List.length_nil, List.length_map]; omega)))
    | ((with_reducible apply e_gtF); (first | assumption | omega | (simp only [List.length_cons, List.length_nil, List.length_map]; omega)))
    | ((with_reducible apply e_geT); (first | assumption | omega | (simp only [List.length_cons, List.length_nil, List.length_map]; omega)))
    | ((with_reducible apply e_geF); (first | assumption | omega | (simp only [List.length_cons, List.length_nil, List.length_map]; omega)))
    | ((with_reducible apply e_eqIT); (first | assumption | omega | (simp only [List.length_cons, List.length_nil, List.length_map]; omega)))
    | ((with_reducible apply e_eqIF); (first | assumption | omega | (simp only [List.length_cons, List.length_nil, List.length_map]; omega)))
    | ((with_reducible apply e_neIT); (first | assumption | omega | (simp only [List.length_cons, List.length_nil, List.length_map]; omega)))
    | ((with_reducible apply e_neIF); (first | assumption | omega | (simp only [List.length_cons, List.length_nil, List.length_map]; omega)))
    | ((with_reducible apply e_eqST); (first | rfl | assumption | decide | decide +kernel))
    | ((with_reducible apply e_eqSF); (first | rfl | assumption | decide | decide +kernel))
    | ((with_reducible apply e_neST); (first | rfl | assumption | decide | decide +kernel))
    | ((with_reducible apply e_neSF); (first | rfl | assumption | decide | decide +kernel))
    | ((with_reducible apply e_mod); (first | assumption | omega | (simp only [List.length_cons, List.length_nil, List.length_map]; omega)))
    | ((with_reducible apply e_fdiv); (first | assumption | omega | (simp only [List.length_cons, List.length_nil, List.length_map]; omega)))
    | ((with_reducible apply e_mul); (first | assumption | omega | (simp only [List.length_cons, List.length_nil, List.length_map]; omega)))
    | ((with_reducible apply e_pixS); rfl)
    | ((with_reducible apply e_ixL); rfl)
    | ((with_reducible apply e_ixT); rfl)
    | ((with_reducible apply e_dget); rfl)
    | (rw [sizeLine_eq]; simp only [List.length_cons, List.length_nil]; omega)
    | ((show List.map _ _ = (_ : List L2.Key)); rfl)
    | with_reducible apply e_asg
    | with_reducible apply e_ret
    | with_reducible apply e_exp
    | with_reducible apply e_par
    | with_reducible apply e_par3
    | with_reducible apply e_retPot
    | with_reducible apply e_sif
    | with_reducible apply e_sq)
      cases R with
      | free =>
        refine ⟨true, rfl, ?_⟩
        intro r h1 h4
        have h1 : r[2]? = some (.fz (.tup [.str "free"])) := h1
        repeat' (first
    | with_reducible exact eq_free
            | with_reducible exact e_vW h1
    | with_reducible exact okr
    | with_reducible exact retr
    | with_reducible exact e_kC
    | with_reducible exact e_aNil
    | with_reducible exact e_nil
    | with_reducible exact e_evN
    | with_reducible exact e_oN
    | with_reducible exact n_t
    | with_reducible exact n_f
    | with_reducible exact sq_r
    | with_reducible apply pk_t
    | with_reducible apply pk_f
    | with_reducible apply sq_n
    | ((with_reducible apply e_vF); rfl)
    | ((with_reducible apply e_vW); rfl)
    | ((with_reducible apply e_vWo); rfl)
    | ((with_reducible apply e_vWd); rfl)
    | with_reducible apply e_b1
    | with_reducible apply e_b2
    | with_reducible apply e_b3
    | with_reducible apply e_aCons
    | with_reducible apply e_evC
    | with_reducible apply e_mkD2
    | with_reducible apply e_toB
    | with_reducible apply e_ofB
    | with_reducible apply e_not
    | with_reducible apply e_notv
    | with_reducible apply e_and
    | with_reducible apply e_or
    | with_reducible apply e_if
    | with_reducible apply e_andv
    | with_reducible apply e_orv
    | with_reducible apply e_chn
    | with_reducible apply e_bnd
    | with_reducible apply e_oS
    | with_reducible apply e_strO
    | with_reducible apply e_ofL
    | with_reducible apply e_mkL
    | with_reducible apply e_mkT
    | with_reducible exact e_add
    | with_reducible exact e_sub
    | with_reducible exact e_neg
    | with_reducible exact e_abs
    | with_reducible exact e_intI
    | with_reducible exact e_intT
    | with_reducible exact e_intF
    | with_reducible exact e_intB
    | with_reducible exact e_max
    | with_reducible exact e_min
    | with_reducible exact e_lenL
    | with_reducible exact e_lenT
    | with_reducible exact e_slen
    | with_reducible exact e_tupL
    | with_reducible exact e_slL
    | with_reducible exact e_slT
    | with_reducible exact e_rev
    | with_reducible exact e_isT
    | with_reducible exact e_isntF
    | with_reducible exact e_strS
    | with_reducible exact e_ix0L
    | with_reducible exact e_ix0T
    | ((with_reducible apply e_isF); rfl)
    | ((with_reducible apply e_isntT); rfl)
    | ((with_reducible apply e_ltT); (first | assumption | omega | (simp only [List.length_cons, List.length_nil, List.length_map]; omega)))
    | ((with_reducible apply e_ltF); (first | assumption | omega | (simp only [List.length_cons, List.length_nil, List.length_map]; omega)))
    | ((with_reducible apply e_leT); (first | assumption | omega | (simp only [List.length_cons, List.length_nil, List.length_map]; omega)))
    | ((with_reducible apply e_leF); (first | assumption | omega | (simp only [List.length_cons, List.length_nil, List.length_map]; omega)))
    | ((with_reducible apply e_gtT); (first | assumption | omega | (simp only [List.length_cons, List.length_nil, List.length_map]; omega)))
    | ((with_reducible apply e_gtF); (first | assumption | omega | (simp only [List.length_cons, List.length_nil, List.length_map]; omega)))
    | ((with_reducible apply e_geT); (first | assumption | omega | (simp only [List.length_cons, List.length_nil, List.length_map]; omega)))
    | ((with_reducible apply e_geF); (first | assumption | omega | (simp only [List.length_cons, List.length_nil, List.length_map]; omega)))
    | ((with_reducible apply e_eqIT); (first | assumption | omega | (simp only [List.length_cons, List.length_nil, List.length_map]; omega)))
    | ((with_reducible apply e_eqIF); (first | assumption | omega | (simp only [List.length_cons, List.length_nil, List.length_map]; omega)))
    | ((with_reducible apply e_neIT); (first | assumption | omega | (simp only [List.length_cons, List.length_nil, List.length_map]; omega)))
    | ((with_reducible apply e_neIF); (first | assumption | omega | (simp only [List.length_cons, List.length_nil, List.length_map]; omega)))
    | ((with_reducible apply e_eqST); (first | rfl | assumption | decide | decide +kernel))
    | ((with_reducible apply e_eqSF); (first | rfl | assumption | decide | decide +kernel))
    | ((with_reducible apply e_neST); (first | rfl | assumption | decide | decide +kernel))
    | ((with_reducible apply e_neSF); (first | rfl | assumption | decide | decide +kernel))
    | ((with_reducible apply e_mod); (first | assumption | omega | (simp only [List.length_cons, List.length_nil, List.length_map]; omega)))
    | ((with_reducible apply e_fdiv); (first | assumption | omega | (simp only [List.length_cons, List.length_nil, List.length_map]; omega)))
    | ((with_reducible apply e_mul); (first | assumption | omega | (simp only [List.length_cons, List.length_nil, List.length_map]; omega)))
    | ((with_reducible apply e_pixS); rfl)
    | ((with_reducible apply e_ixL); rfl)
    | ((with_reducible apply e_ixT); rfl)
    | ((with_reducible apply e_dget); rfl)
    | (rw [sizeLine_eq]; simp only [List.length_cons, List.length_nil]; omega)
    | ((show List.map _ _ = (_ : List L2.Key)); rfl)
    | with_reducible apply e_asg
    | with_reducible apply e_ret
    | with_reducible apply e_exp
    | with_reducible apply e_par
    | with_reducible apply e_par3
    | with_reducible apply e_retPot
    | with_reducible apply e_sif
    | with_reducible apply e_sq)
      | off q => exact fin "off" q rfl rfl ok_off
      | wall q => exact fin "wall" q rfl rfl ok_wall
    obtain ⟨b1, e1, hL⟩ := hL
    obtain ⟨b2, e2, hR⟩ := hR
    have hb : (ascB ps && b1 && b2) = false := by
      rw [goodB, decide_eq_true k1, decide_eq_true k2, ho, e1, e2] at hg
      simpa using hg
    generalize ascB ps = b0 at hasc hb
    apply e_run rfl
    unfold b_places_in
    cases b0 <;> cases b1 <;> cases b2 <;> first | (cases hb; done) | skip
    all_goals
      repeat' (first
    | with_reducible exact hsp
        | ((with_reducible apply hc1) <;> rfl)
        | ((with_reducible apply hc2) <;> rfl)
        | with_reducible exact hall
        | ((with_reducible apply hL) <;> rfl)
        | ((with_reducible apply hR) <;> rfl)
        | with_reducible exact hasc
    | with_reducible exact okr
    | with_reducible exact retr
    | with_reducible exact e_kC
    | with_reducible exact e_aNil
    | with_reducible exact e_nil
    | with_reducible exact e_evN
    | with_reducible exact e_oN
    | with_reducible exact n_t
    | with_reducible exact n_f
    | with_reducible exact sq_r
    | with_reducible apply pk_t
    | with_reducible apply pk_f
    | with_reducible apply sq_n
    | ((with_reducible apply e_vF); rfl)
    | ((with_reducible apply e_vW); rfl)
    | ((with_reducible apply e_vWo); rfl)
    | ((with_reducible apply e_vWd); rfl)
    | with_reducible apply e_b1
    | with_reducible apply e_b2
    | with_reducible apply e_b3
    | with_reducible apply e_aCons
    | with_reducible apply e_evC
    | with_reducible apply e_mkD2
    | with_reducible apply e_toB
    | with_reducible apply e_ofB
    | with_reducible apply e_not
    | with_reducible apply e_notv
    | with_reducible apply e_and
    | with_reducible apply e_or
    | with_reducible apply e_if
    | with_reducible apply e_andv
    | with_reducible apply e_orv
    | with_reducible apply e_chn
    | with_reducible apply e_bnd
    | with_reducible apply e_oS
    | with_reducible apply e_strO
    | with_reducible apply e_ofL
    | with_reducible apply e_mkL
    | with_reducible apply e_mkT
    | with_reducible exact e_add
    | with_reducible exact e_sub
    | with_reducible exact e_neg
    | with_reducible exact e_abs
    | with_reducible exact e_intI
    | with_reducible exact e_intT
    | with_reducible exact e_intF
    | with_reducible exact e_intB
    | with_reducible exact e_max
    | with_reducible exact e_min
    | with_reducible exact e_lenL
    | with_reducible exact e_lenT
    | with_reducible exact e_slen
    | with_reducible exact e_tupL
    | with_reducible exact e_slL
    | with_reducible exact e_slT
    | with_reducible exact e_rev
    | with_reducible exact e_isT
    | with_reducible exact e_isntF
    | with_reducible exact e_strS
    | with_reducible exact e_ix0L
    | with_reducible exact e_ix0T
    | ((with_reducible apply e_isF); rfl)
    | ((with_reducible apply e_isntT); rfl)
    | ((with_reducible apply e_ltT); (first | assumption | omega | (simp only [List.length_cons, List.length_nil, List.length_map]; omega)))
    | ((with_reducible apply e_ltF); (first | assumption | omega | (simp only [List.length_cons, List.length_nil, List.length_map]; omega)))
    | ((with_reducible apply e_leT); (first | assumption | omega | (simp only [List.length_cons, List.length_nil, List.length_map]; omega)))
    | ((with_reducible apply e_leF); (first | assumption | omega | (simp only [List.length_cons, List.length_nil, List.length_map]; omega)))
    | ((with_reducible apply e_gtT); (first | assumption | omega | (simp only [List.length_cons, List.length_nil, List.length_map]; omega)))
    | ((with_reducible apply e_gtF); (first | assumption | omega | (simp only [List.length_cons, List.length_nil, List.length_map]; omega)))
    | ((with_reducible apply e_geT); (first | assumption | omega | (simp only [List.length_cons, List.length_nil, List.length_map]; omega)))
    | ((with_reducible apply e_geF); (first | assumption | omega | (simp only [List.length_cons, List.length_nil, List.length_map]; omega)))
    | ((with_reducible apply e_eqIT); (first | assumption | omega | (simp only [List.length_cons, List.length_nil, List.length_map]; omega)))
    | ((with_reducible apply e_eqIF); (first | assumption | omega | (simp only [List.length_cons, List.length_nil, List.length_map]; omega)))
    | ((with_reducible apply e_neIT); (first | assumption | omega | (simp only [List.length_cons, List.length_nil, List.length_map]; omega)))
    | ((with_reducible apply e_neIF); (first | assumption | omega | (simp only [List.length_cons, List.length_nil, List.length_map]; omega)))
    | ((with_reducible apply e_eqST); (first | rfl | assumption | decide | decide +kernel))
    | ((with_reducible apply e_eqSF); (first | rfl | assumption | decide | decide +kernel))
    | ((with_reducible apply e_neST); (first | rfl | assumption | decide | decide +kernel))
    | ((with_reducible apply e_neSF); (first | rfl | assumption | decide | decide +kernel))
    | ((with_reducible apply e_mod); (first | assumption | omega | (simp only [List.length_cons, List.length_nil, List.length_map]; omega)))
    | ((with_reducible apply e_fdiv); (first | assumption | omega | (simp only [List.length_cons, List.length_nil, List.length_map]; omega)))
    | ((with_reducible apply e_mul); (first | assumption | omega | (simp only [List.length_cons, List.length_nil, List.length_map]; omega)))
    | ((with_reducible apply e_pixS); rfl)
    | ((with_reducible apply e_ixL); rfl)
    | ((with_reducible apply e_ixT); rfl)
    | ((with_reducible apply e_dget); rfl)
    | (rw [sizeLine_eq]; simp only [List.length_cons, List.length_nil]; omega)
    | ((show List.map _ _ = (_ : List L2.Key)); rfl)
    | with_reducible apply e_asg
    | with_reducible apply e_ret
    | with_reducible apply e_exp
    | with_reducible apply e_par
    | with_reducible apply e_par3
    | with_reducible apply e_retPot
    | with_reducible apply e_sif
    | with_reducible apply e_sq)
def exW (n : Int) (t : Str) : Prop := ∀ m, m_read_way [.str t] m = .exc "BadWay" (.int n) m
theorem d_cases (e : EndK) : ∃ w t, e.d = .tup (.str w :: t) ∧ decide (w = "wall") = e.isWall := by
  cases e with
  | free => exact ⟨"free", [], rfl, by decide +kernel⟩
  | off q => exact ⟨"off", [.int q], rfl, by show decide (Str.ofString "off" = Str.ofString "wall") = false; decide +kernel⟩
  | wall q => exact ⟨"wall", [.int q], rfl, by show decide (Str.ofString "wall" = Str.ofString "wall") = true; decide +kernel⟩
theorem way_exc {t : Str} {n : Int} {m : Mem} (h : exW n t) : m_Way [.str t] m = .exc "BadWay" (.int n) (m ++ [.ins "Way" [] []]) := by
  have e : runF 2 5 b_Way___init__ [.hnd m.length, .str t] (m ++ [.ins "Way" [] []]) = .exc "BadWay" (.int n) (m ++ [.ins "Way" [] []]) := by
    have h' := h (m ++ [.ins "Way" [] []])
    apply wp_eqX
    unfold b_Way___init__
    (simp_arith [h'])
    exact ⟨rfl, rfl, rfl⟩
  unfold m_Way
  simp only [mkO, e]
end Gen
end
section
set_option linter.all false
set_option maxRecDepth 100000
set_option maxHeartbeats 4000000
namespace Gen
open PySem MT L2 TL
theorem bools_map {α : Type} {zs : List α} {p : α → Bool} : bools (zs.map fun z => .bl (p z)) = some (zs.map p) := by
  induction zs with
  | nil => rfl
  | cons z zs ih => simp only [List.map_cons, bools, ih, Option.map_some]
theorem all_bl {α : Type} {zs : List α} {p : α → Bool} {m : Mem} : allD [.lst (zs.map fun z => .bl (p z))] m = .ok (.bl (zs.all p)) m := by
  have e : allD [.lst (zs.map fun z => .bl (p z))] m = (match bools (zs.map fun z => .bl (p z)) with
    | some bs => .ok (.bl (bs.all id)) m
    | none => .stuck) := rfl
  rw [e, bools_map]
  simp [List.all_map]
end Gen
end
section
set_option linter.all false
set_option maxRecDepth 100000
set_option maxHeartbeats 4000000
namespace Gen
open PySem MT L2 TL
theorem places_wB {n : Nat} {k many wide : Int} {m : Mem} (h : MemI m n k) (hk : k < 950000) (hm : 1 ≤ many ∧ many ≤ 40) (hw : 0 < wide ∧ wide ≤ 1000) :
    wp (m__law_places [.hnd n, .int many, .int wide] m) (fun x m' => (∃ ps : List Int, x = .lst (ps.map .int) ∧ (ps.length : Int) = many ∧ ps.Pairwise (· < ·) ∧ ∀ p ∈ ps, p % 2 = 0 ∧ -8 ≤ p ∧ p ≤ 100000 ∧ (wide ≤ 3 → p ≤ 300)) ∧ MemI m' n (k + 41)) X0 := by
  unfold m__law_places b__law_places
  (simp_arith [])
  refine take_w h (by omega) (by omega) fun d m1 d1 d2 h1 => ?_
  (simp_arith [])
  refine ws_forI (fun i r m => ∃ (ps : List Int) (z : Int) (x4 : Sl), r = [.fz (.hnd n), .fz (.int many), .fz (.int wide), .own (ps.map .int ++ [.int z]), x4] ∧ (ps ++ [z]).Pairwise (· < ·) ∧ (∀ p ∈ ps ++ [z], p % 2 = 0 ∧ -8 ≤ p ∧ p ≤ z) ∧ (z ≤ 8 + 2002 * i ∧ (wide ≤ 3 → z ≤ 8 + 6 * i)) ∧ ps.length = i ∧ MemI m n (k + 1 + i)) ?_ ?_ ?_
  · refine ⟨[], 2 * d - 8, .no, rfl, by simp, fun p hp => ?_, by omega, rfl, h1.mono (by omega)⟩
    simp only [List.nil_append, List.mem_singleton] at hp
    subst hp
    omega
  · rintro x hx i r m2 hi _ ⟨ps, z, x4, rfl, h2, h3, h4, h5, h6⟩
    rw [rangeD_length] at hi
    have hz := h3 z (by simp)
    (simp_arith [])
    refine take_w h6 (by omega) (by omega) fun d m3 d1 d2 h7 => ?_
    (simp_arith [])
    refine ⟨ps ++ [z], z + 2 + 2 * d, .fz x, by simp, ?_, fun p hp => ?_, by omega, by simp [h5], h7.mono (by omega)⟩
    · refine List.pairwise_append.mpr ⟨h2, by simp, fun a ha b hb => ?_⟩
      simp only [List.mem_singleton] at hb
      subst hb
      have := h3 a ha
      omega
    · rcases List.mem_append.mp hp with hp | hp
      · have := h3 p hp; omega
      · simp only [List.mem_singleton] at hp
        subst hp
        omega
  · rintro r m2 ⟨ps, z, x4, rfl, h2, h3, h4, h5, h6⟩
    rw [rangeD_length] at h4 h5 h6
    (simp_arith [])
    refine ⟨⟨ps ++ [z], by simp, by simp [h5]; omega, h2, fun p hp => ?_⟩, h6.mono (by omega)⟩
    have := h3 p hp
    omega
theorem lend_w {n : Nat} {k place sign : Int} {c : Bool} {m : Mem} (h : MemI m n k) (hk : k < 950000) (hs : sign = 1 ∨ sign = -1) :
    wp (m__law_end [.hnd n, .int place, .int sign, .bl c] m) (fun x m' => (∃ E : EndK, x = E.d ∧ (∀ e, E.at = some e → ∃ d, e = place + sign * (2 + 2 * d) ∧ 0 ≤ d ∧ d < 5) ∧ (c = false → E.isWall = false)) ∧ MemI m' n (k + 2)) X0 := by
  unfold m__law_end b__law_end
  have go : ∀ u : Int, (u = if c then 4 else 3) → wp (m__law_take [.hnd n, .int u] m) (KAsg 4 [.fz (.hnd n), .fz (.int place), .fz (.int sign), .fz (.bl c), .no]
      (KBd (sSeq (sIf (toB (bind2 (vW 4) (kC (.int 0)) eqD)) (sRet (mkT (aCons (kC (.str "free")) aNil))) sNil)
  (sRet (mkT (aCons (ifE (toB (bind2 (vW 4) (kC (.int 3)) ltD)) (kC (.str "off")) (kC (.str "wall"))) (aCons (bind2 (vW 1) (bind2 (vW 2) (bind2 (kC (.int 2)) (bind2 (kC (.int 2)) (bind1 (aCons (vF 0) (aCons (kC (.int 5)) aNil)) m__law_take) mulD) addD) mulD) addD) aNil)))))
        (KRun (fun x m' => (∃ E : EndK, x = E.d ∧ (∀ e, E.at = some e → ∃ d, e = place + sign * (2 + 2 * d) ∧ 0 ≤ d ∧ d < 5) ∧ (c = false → E.isWall = false)) ∧ MemI m' n (k + 2))) (fun x m' => (∃ E : EndK, x = E.d ∧ (∀ e, E.at = some e → ∃ d, e = place + sign * (2 + 2 * d) ∧ 0 ≤ d ∧ d < 5) ∧ (c = false → E.isWall = false)) ∧ MemI m' n (k + 2)) KNo X0)) X0 := by
    intro u hu
    refine take_w h (by omega) (by split at hu <;> omega) fun d m1 d1 d2 h1 => ?_
    by_cases c0 : d = 0
    · (simp_arith [])
      exact ⟨⟨.free, rfl, fun e he => (by cases he), fun _ => rfl⟩, h1.mono (by omega)⟩
    · by_cases c3 : d < 3
      · (simp_arith [])
        refine take_w h1 (by omega) (by omega) fun d' m2 d1' d2' h2 => ?_
        (simp_arith [])
        exact ⟨⟨.off (place + sign * (2 + 2 * d')), rfl, fun e he => ⟨d', (Option.some.inj he).symm, d1', d2'⟩, fun _ => rfl⟩, h2.mono (by omega)⟩
      · (simp_arith [])
        refine take_w h1 (by omega) (by omega) fun d' m2 d1' d2' h2 => ?_
        (simp_arith [])
        refine ⟨⟨.wall (place + sign * (2 + 2 * d')), rfl, fun e he => ⟨d', (Option.some.inj he).symm, d1', d2'⟩, fun hc => ?_⟩, h2.mono (by omega)⟩
        subst hc
        simp at hu
        omega
  cases c
  · (simp_arith [])
    exact go 3 rfl
  · (simp_arith [])
    exact go 4 rfl
theorem lore_wB {n : Nat} {k most wide : Int} {m : Mem} (h : MemI m n k) (hk : k < 900000) (hm : 1 ≤ most ∧ most ≤ 40) (hw : 0 < wide ∧ wide ≤ 1000) :
    wp (m__law_lore [.hnd n, .int most, .int wide] m) (fun x m' => (∃ L R ps, x = loreD L R ps ∧ GoodW L R ps ∧ (ps.length : Int) ≤ most ∧ (wide ≤ 3 → (∀ p ∈ ps, -8 ≤ p ∧ p ≤ 300) ∧ (∀ e, L.at = some e → -300 ≤ e) ∧ ∀ e, R.at = some e → e ≤ 400)) ∧ MemI m' n (k + 50)) X0 := by
  unfold m__law_lore b__law_lore
  (simp_arith [])
  refine take_w h (by omega) (by omega) fun d m1 d1 d2 h1 => ?_
  (simp_arith [])
  refine wp_mono (places_wB h1 (by omega) ⟨by omega, by omega⟩ hw) ?_
  rintro x m2 ⟨⟨ps, rfl, p1, p2, p3⟩, h2⟩
  obtain ⟨a, ha, ea⟩ := first_at (ps := ps) (by omega)
  obtain ⟨z, hz, ez⟩ := last_at (ps := ps) (by omega)
  (simp_arith [ea, ez])
  refine wp_mono (lend_w h2 (by omega) (.inr rfl)) ?_
  rintro x m3 ⟨⟨L, rfl, l1, l2⟩, h3⟩
  have lo : ∀ p ∈ ps, a ≤ p := by
    intro p hp
    cases ps with
    | nil => cases hp
    | cons b qs =>
      have : atI ((b :: qs).map D.int) 0 = some (.int b) := at0
      rw [this] at ea
      cases ea
      rcases List.mem_cons.mp hp with rfl | hp
      · exact Int.le_refl _
      · exact Int.le_of_lt ((List.pairwise_cons.mp p2).1 p hp)
  have hi : ∀ p ∈ ps, p ≤ z := by
    intro p hp
    rcases List.eq_nil_or_concat ps with rfl | ⟨qs, b, rfl⟩
    · cases hp
    · rw [List.concat_eq_append] at *
      have : atI ((qs ++ [b]).map D.int) (-1) = some (.int b) := by rw [List.map_append]; exact at_m1
      rw [this] at ez
      cases ez
      rcases List.mem_append.mp hp with hp | hp
      · exact Int.le_of_lt ((List.pairwise_append.mp p2).2.2 p hp z (by simp))
      · simp only [List.mem_singleton] at hp; omega
  have fin : ∀ R : EndK, (∀ e, R.at = some e → ∃ d, e = z + 1 * (2 + 2 * d) ∧ 0 ≤ d ∧ d < 5) → (L.isWall = true → R.isWall = false) → GoodW L R ps := by
    intro R r1 r2
    refine ⟨by omega, by omega, p2, fun p hp => ?_, fun e he => ?_, fun e he => ?_, fun ⟨q1, q2⟩ => ?_⟩
    · have := p3 p hp; unfold okP; omega
    · obtain ⟨d, rfl, _, _⟩ := l1 e he
      have := p3 a ha
      exact ⟨by unfold okP; omega, fun p hp => by have := lo p hp; omega⟩
    · obtain ⟨d, rfl, _, _⟩ := r1 e he
      have := p3 z hz
      exact ⟨by unfold okP; omega, fun p hp => by have := hi p hp; omega⟩
    · rw [r2 q1] at q2; cases q2
  have go : ∀ b : Bool, (b = false → L.isWall = true) → (b = true → L.isWall = false) → ∀ {Q : QP D}, (∀ R m4, GoodW L R ps → (wide ≤ 3 → (∀ p ∈ ps, -8 ≤ p ∧ p ≤ 300) ∧ (∀ e, L.at = some e → -300 ≤ e) ∧ ∀ e, R.at = some e → e ≤ 400) → MemI m4 n (k + 50) → Q R.d m4) → wp (m__law_end [.hnd n, .int z, .int 1, .bl b] m3) Q X0 := by
    intro b b1 b2 Q q
    refine wp_mono (lend_w h3 (by omega) (.inl rfl)) ?_
    rintro x m4 ⟨⟨R, rfl, r1, r2⟩, h4⟩
    refine q R m4 (fin R r1 fun hw => ?_) (fun w3 => ⟨fun p hp => by have := p3 p hp; omega, fun e he => by obtain ⟨d, rfl, _, _⟩ := l1 e he; have := p3 a ha; omega, fun e he => by obtain ⟨d, rfl, _, _⟩ := r1 e he; have := p3 z hz; omega⟩) (h4.mono (by omega))
    cases b
    · exact r2 rfl
    · rw [b2 rfl] at hw; cases hw
  cases L with
  | free =>
    (simp_arith [d_free, ez])
    refine go true (by simp) (fun _ => rfl) fun R m4 g g3 h4 => ?_
    (simp_arith [])
    exact ⟨⟨.free, R, ps, rfl, g, by omega, g3⟩, h4⟩
  | off e =>
    (simp_arith [d_off, ez])
    refine go true (by simp) (fun _ => rfl) fun R m4 g g3 h4 => ?_
    (simp_arith [])
    exact ⟨⟨.off e, R, ps, rfl, g, by omega, g3⟩, h4⟩
  | wall e =>
    (simp_arith [d_wall, ez])
    refine go false (fun _ => rfl) (by simp) fun R m4 g g3 h4 => ?_
    (simp_arith [])
    exact ⟨⟨.wall e, R, ps, rfl, g, by omega, g3⟩, h4⟩
end Gen
end
section
set_option linter.all false
set_option maxRecDepth 100000
set_option maxHeartbeats 4000000
namespace Gen
open PySem MT L2 TL
section
variable {m : Mem} {w s : Str} {v : Option Int} {L R : EndK} {zs : List (Str × Option Int)}
def lits02 : List Str := ["", "free", "off", "wall", "at", "left", "right", "-0", "00", "+2", "x", "2.0"]
inductive W02 : Str → Option Int → Prop
  | lit {s : Str} : s ∈ lits02 → W02 s none
  | num {i : Int} : i.natAbs < 10 ^ 20 → W02 (numS i) (some i)
theorem wd02 (h : W02 w v) : Wd w ∧ PyData.strOk w = true := by
  cases h with
  | lit h =>
    simp only [lits02, List.mem_cons, List.not_mem_nil, or_false] at h
    rcases h with rfl | rfl | rfl | rfl | rfl | rfl | rfl | rfl | rfl | rfl | rfl | rfl <;> exact ⟨wd_lit (by decide), by decide +kernel⟩
  | num h => exact ⟨wd_num h, strOk_num _⟩
def oD (v : Option Int) : D := v.elim .non .int
def pD (v : Option Int) : Bool := v.any fun p => decide (okP p)
theorem num02 (h : W02 w v) : m_number_in [.str w] m = .ok (oD v) m := by
  cases h with
  | lit h =>
    simp only [lits02, List.mem_cons, List.not_mem_nil, or_false] at h
    rcases h with rfl | rfl | rfl | rfl | rfl | rfl | rfl | rfl | rfl | rfl | rfl | rfl <;> kernel_rfl
  | num h => exact number_ok h
theorem plc02 : m_is_place [oD v] m = .ok (.bl (pD v)) m := by
  cases v with
  | none => kernel_rfl
  | some p => exact place_any
theorem lnumS {i : Int} (h : i.natAbs < 10 ^ 20) : m__law_number [.str (numS i)] m = .ok (oD (if okP i then some i else none)) m := by
  by_cases i0 : i = 0
  · subst i0
    kernel_rfl
  have hl := numS_len (k := 20) (by decide) h
  have hf := numL_len (by decide) h
  have hne := numL_ne i.natAbs
  have hint : intD [.str (numS i)] m = .ok (.int i) m := e_intS (by omega) (numS_int h)
  have h1 : slD (.str (numS i)) none (some 1) m = .ok (.str (cutS (numS i) none (some 1))) m := by
    show (if (numS i).length ≤ sizeLine then (Out.ok (.str (cutS (numS i) none (some 1))) m : Out D) else .stuck) = _
    rw [if_pos (by rw [sizeLine_eq]; omega)]
  have h2 : slD (.str (numS i)) (some 1) none m = .ok (.str (cutS (numS i) (some 1) none)) m := by
    show (if (numS i).length ≤ sizeLine then (Out.ok (.str (cutS (numS i) (some 1) none)) m : Out D) else .stuck) = _
    rw [if_pos (by rw [sizeLine_eq]; omega)]
  have cut : ∀ (z : Str) lo hi, tl (cutS z lo hi) = ((tl z).drop (HT.sIx z.length 0 lo)).take (HT.sIx z.length z.length hi - HT.sIx z.length 0 lo) := fun z lo hi => by
    show (((z.cps.toList.drop (HT.sIx z.length 0 lo)).take (HT.sIx z.length z.length hi - HT.sIx z.length 0 lo)).toArray).toList = _
    rfl
  obtain ⟨fg, hfg, hc1, hc2⟩ : ∃ fg : Str, tl fg = numL i.natAbs ∧ (decide (cutS (numS i) none (some 1) = "-") = true → cutS (numS i) (some 1) none = fg) ∧ (decide (cutS (numS i) none (some 1) = "-") = false → numS i = fg) := by
    have tm : tl (Str.ofString "-") = [45] := by rw [tl_ofString]; rfl
    have hlen : (numS i).length = (tl (numS i)).length := len_tl _
    have s1 : ∀ n : Nat, 1 ≤ n → HT.sIx n n (some 1) = 1 := fun n hn => by
      rw [show (1 : Int) = ((1 : Nat) : Int) from rfl, HT.sIx_nat]; omega
    have s2 : ∀ n : Nat, 1 ≤ n → HT.sIx n 0 (some 1) = 1 := fun n hn => by
      rw [show (1 : Int) = ((1 : Nat) : Int) from rfl, HT.sIx_nat]; omega
    by_cases hneg : i < 0
    · have e : tl (numS i) = 45 :: numL i.natAbs := by rw [tl_numS, if_pos hneg]
      have hn1 : 1 ≤ (numS i).length := by rw [hlen, e]; simp
      refine ⟨cutS (numS i) (some 1) none, ?_, fun _ => rfl, fun h => ?_⟩
      · rw [cut, HT.sIx_none, s2 _ hn1, e, hlen, e]
        simp
      · have : cutS (numS i) none (some 1) = Str.ofString "-" := tl_inj (by
          rw [cut, HT.sIx_none, s1 _ hn1, e, tm]
          simp)
        rw [decide_eq_true this] at h
        cases h
    · have e : tl (numS i) = numL i.natAbs := by rw [tl_numS, if_neg hneg]
      have hn1 : 1 ≤ (numS i).length := by
        rw [hlen, e]
        cases q : numL i.natAbs with
        | nil => exact absurd q hne
        | cons _ _ => simp
      refine ⟨numS i, e, fun h => ?_, fun _ => rfl⟩
      have h' := congrArg tl (of_decide_eq_true h)
      rw [cut, HT.sIx_none, s1 _ hn1, e, tm] at h'
      cases q : numL i.natAbs with
      | nil => exact absurd q hne
      | cons c l =>
        rw [q] at h'
        have h0 := numL_digits i.natAbs c (by rw [q]; simp)
        simp at h'
        omega
  have hfl : fg.length = (numL i.natAbs).length := by rw [len_tl, hfg]
  have hne1 : 1 ≤ (numL i.natAbs).length := by
    cases q : numL i.natAbs with
    | nil => exact absurd q hne
    | cons _ _ => simp
  have hcs : chars fg = (numL i.natAbs).map fun c => .str ⟨#[c]⟩ := by
    unfold chars
    rw [show fg.cps.toList = numL i.natAbs from hfg]
  have dig : tl (Str.ofString "0123456789") = [48, 49, 50, 51, 52, 53, 54, 55, 56, 57] := by rw [tl_ofString]; rfl
  have hel : ∀ d ∈ chars fg, ∃ c, d = .str ⟨#[c]⟩ ∧ inD (.str ⟨#[c]⟩) (.str "0123456789") m = .ok (.bl true) m := fun d hd => by
    rw [hcs] at hd
    obtain ⟨c, hc, rfl⟩ := List.mem_map.mp hd
    have h1 := numL_digits i.natAbs c hc
    refine ⟨c, rfl, ?_⟩
    rw [e_in1, dig, decide_eq_true]
    simp only [List.mem_cons, List.not_mem_nil, or_false]
    omega
  have hcl : (chars fg).length ≤ 16777216 := by rw [hcs, List.length_map]; omega
  have hall : allD [.lst ((chars fg).map fun _ => .bl true)] m = .ok (.bl true) m := e_allT fun x hx => by
    obtain ⟨_, _, rfl⟩ := List.mem_map.mp hx
    rfl
  obtain ⟨c, hc, z⟩ : ∃ c, atI fg.cps.toList 0 = some c ∧ ¬ (⟨#[c]⟩ : Str) = "0" := by
    have e : fg.cps.toList = numL i.natAbs := hfg
    rw [e]
    obtain ⟨c, l, q, ne⟩ := numL_head i.natAbs (by omega)
    rw [q]
    refine ⟨c, by unfold atI; simp [ixN], fun he => absurd ?_ ne⟩
    have := congrArg tl he
    rw [tl_ofString] at this
    have q2 : [c] = [48] := this
    simpa using q2
  have hix : ixD (.str fg) (.int 0) m = .ok (.str ⟨#[c]⟩) m := e_ixS (by rw [sizeLine_eq]; omega) hc
  have hfe : ¬ fg = "" := fun e => by
    have := congrArg tl e
    rw [hfg, tl_ofString] at this
    exact hne this
  have p12 : powD (.int 10) (.int 12) m = .ok (.int 1000000000000) m := e_pow (by decide) (powB (by decide))
  have fin : ∀ {Q : QP D} {X : XP}, Q (oD (if okP i then some i else none)) m → (i % 2 = 0 → ab i ≤ 1000000000000 → Q (.int i) m) ∧ (i % 2 = 0 → ¬ ab i ≤ 1000000000000 → Q .non m) ∧ (¬ i % 2 = 0 → Q .non m) := fun {Q X} hQ => by
    refine ⟨fun o1 o2 => ?_, fun o1 o2 => ?_, fun o1 => ?_⟩
    · rw [if_pos (show okP i from ⟨o1, by unfold ab at o2; omega, by unfold ab at o2; omega⟩)] at hQ
      exact hQ
    · rw [if_neg (show ¬ okP i from fun h => o2 (by have := h.2; unfold ab; omega))] at hQ
      exact hQ
    · rw [if_neg (show ¬ okP i from fun h => o1 h.1)] at hQ
      exact hQ
  apply wp_eq
  obtain ⟨f1, f2, f3⟩ := fin (Q := fun x _ => oD (if okP i then some i else none) = x) (X := X0) rfl
  unfold m__law_number b__law_number
  cases hm : decide (cutS (numS i) none (some 1) = "-") with
  | true =>
    have hm' := of_decide_eq_true hm
    have hh := hc1 hm
    rw [hh] at h2
    (simp_arith [h1, h2, hm', hcl, hfe])
    refine wp_compK (fun _ => .bl true) (fun d hd => ?_) ?_
    · obtain ⟨c', rfl, hin⟩ := hel d hd
      (simp_arith [hin])
      exact isv rfl
    · by_cases o1 : i % 2 = 0
      · by_cases o2 : ab i ≤ 1000000000000
        · (simp_arith [hall, hix, hint, z, p12, o1, o2])
          exact isv (f1 o1 o2)
        · (simp_arith [hall, hix, hint, z, p12, o1, o2])
          exact isv (f2 o1 o2)
      · (simp_arith [hall, hix, hint, z, p12, o1])
        exact isv (f3 o1)
  | false =>
    have hm' := of_decide_eq_false hm
    have hh := hc2 hm
    subst hh
    (simp_arith [h1, hm', hcl, hfe])
    refine wp_compK (fun _ => .bl true) (fun d hd => ?_) ?_
    · obtain ⟨c', rfl, hin⟩ := hel d hd
      (simp_arith [hin])
      exact isv rfl
    · by_cases o1 : i % 2 = 0
      · by_cases o2 : ab i ≤ 1000000000000
        · (simp_arith [hall, hix, hint, z, p12, o1, o2])
          exact isv (f1 o1 o2)
        · (simp_arith [hall, hix, hint, z, p12, o1, o2])
          exact isv (f2 o1 o2)
      · (simp_arith [hall, hix, hint, z, p12, o1])
        exact isv (f3 o1)
theorem lnum02 (h : W02 w v) : m__law_number [.str w] m = .ok (oD (if pD v then v else none)) m := by
  cases h with
  | lit h =>
    simp only [lits02, List.mem_cons, List.not_mem_nil, or_false] at h
    rcases h with rfl | rfl | rfl | rfl | rfl | rfl | rfl | rfl | rfl | rfl | rfl | rfl <;> kernel_rfl
  | @num i h =>
    rw [lnumS h]
    simp [pD]
end
end Gen
end
section
set_option linter.all false
set_option maxRecDepth 100000
set_option maxHeartbeats 4000000
namespace Gen
open PySem MT L2 TL
section
variable {m : Mem} {w s : Str} {v : Option Int} {L R : EndK} {zs : List (Str × Option Int)}
def Zs (zs : List (Str × Option Int)) : Prop := (∀ z ∈ zs, W02 z.1 z.2) ∧ zs ≠ [] ∧ zs.length ≤ 60
def rowS (zs : List (Str × Option Int)) : Str := Txt.join " " (zs.map (·.1))
theorem row_facts (h : Zs zs) : Txt.split (rowS zs) " " = zs.map (·.1) ∧ 10 ∉ tl (rowS zs) ∧ (rowS zs).length ≤ 3000 := by
  have q := line_factsW (ws := zs.map (·.1)) (fun x hx => by
    obtain ⟨z, hz, rfl⟩ := List.mem_map.mp hx
    exact (wd02 (h.1 z hz)).1) (by simpa using h.2.1) (by rw [List.length_map]; have := h.2.2; omega)
  exact ⟨q.1, q.2.1, q.2.2.1⟩
theorem row_split (h : Zs zs) : splitD (.str (rowS zs)) [.str " "] m = .ok (.lst (zs.map fun z => .str z.1)) m := by
  obtain ⟨h1, _, h2⟩ := row_facts h
  rw [e_split (by decide +kernel) (by rw [sizeLine_eq]; omega), h1, List.map_map]
  rfl
theorem eqB_strs : ∀ {xs ys : List Str}, eqBs (xs.map .str) (ys.map .str) = decide (xs = ys)
  | [], [] => by simp [eqBs]
  | [], y :: ys => by simp [eqBs]
  | x :: xs, [] => by simp [eqBs]
  | x :: xs, y :: ys => by
    simp only [List.map_cons, eqBs, eqB_strs (xs := xs) (ys := ys), eqB, List.cons.injEq]
    by_cases h : x = y <;> by_cases h2 : xs = ys <;> simp [h, h2]
theorem dats_strs : ∀ {xs : List Str}, (∀ x ∈ xs, PyData.strOk x = true) → isDats (xs.map .str) = true ∧ deps (xs.map .str) = 0
  | [], _ => ⟨rfl, rfl⟩
  | x :: xs, h => by
    obtain ⟨h1, h2⟩ := dats_strs (xs := xs) fun y hy => h y (List.mem_cons_of_mem _ hy)
    exact ⟨by simp only [List.map_cons, isDats, isDat, h x List.mem_cons_self, h1, Bool.and_self], by simp only [List.map_cons, deps, dep, h2]; rfl⟩
theorem eq_strs {xs ys : List Str} (hx : ∀ x ∈ xs, PyData.strOk x = true) (hy : ∀ x ∈ ys, PyData.strOk x = true) : eqD (.lst (xs.map .str)) (.lst (ys.map .str)) m = .ok (.bl (decide (xs = ys))) m := by
  obtain ⟨a1, a2⟩ := dats_strs hx
  obtain ⟨b1, b2⟩ := dats_strs hy
  unfold eqD
  rw [if_pos]
  · simp only [eqB, eqB_strs]
  · simp [eqOk, datOk, isDat, dep, a1, a2, b1, b2]
theorem row_eq (h : Zs zs) (hw : w = "left" ∨ w = "right") : eqD (.lst (zs.map fun z => .str z.1)) (.lst [.str w, .str "free"]) m = .ok (.bl (decide (zs.map (·.1) = [w, "free"]))) m := by
  have := eq_strs (m := m) (xs := zs.map (·.1)) (ys := [w, "free"]) (fun x hx => by
    obtain ⟨z, hz, rfl⟩ := List.mem_map.mp hx
    exact (wd02 (h.1 z hz)).2) (fun x hx => by
    simp only [List.mem_cons, List.not_mem_nil, or_false] at hx
    rcases hx with rfl | rfl
    · rcases hw with rfl | rfl <;> decide +kernel
    · decide +kernel)
  rw [List.map_map] at this
  exact this
theorem nin02 {b : Str} : ninD (.str b) (.tup [.str "off", .str "wall"]) m = .ok (.bl (!(decide (b = "off") || decide (b = "wall")))) m := by
  by_cases h1 : b = "off"
  · subst h1; exact nin_off
  · by_cases h2 : b = "wall"
    · subst h2; exact nin_wall
    · have h1' : ¬ Str.ofString "off" = b := fun e => h1 e.symm
      have h2' : ¬ Str.ofString "wall" = b := fun e => h2 e.symm
      simp [ninD, scl, eqB, h1, h2, h1', h2']
def endB (w : Str) (zs : List (Str × Option Int)) : Option EndK :=
  if zs.map (·.1) = [w, "free"] then some .free
  else match zs with
    | [a, b, c] => if a.1 = w ∧ (b.1 = "off" ∨ b.1 = "wall") ∧ pD c.2 = true then some (if b.1 = "off" then .off (c.2.getD 0) else .wall (c.2.getD 0)) else none
    | _ => none
def eD (e : Option EndK) : D := e.elim .non EndK.d
theorem off_wall : ¬ (Str.ofString "wall" = Str.ofString "off") := by decide +kernel
theorem pend02 (h : Zs zs) (hw : w = "left" ∨ w = "right") : m_end_in [.str (rowS zs), .str w] m = .ok (eD (endB w zs)) m := by
  have h1 := row_split (m := m) h
  have h2 := row_eq (m := m) h hw
  apply wp_eq
  unfold m_end_in b_end_in
  by_cases hf : zs.map (·.1) = [w, "free"]
  · rw [decide_eq_true hf] at h2
    have he : endB w zs = some .free := if_pos hf
    rw [he]
    (simp_arith [h1, h2])
    exact isv rfl
  · rw [decide_eq_false hf] at h2
    match zs, h, h1, h2, hf with
    | [], h, _, _, _ => exact absurd rfl h.2.1
    | [a], h, h1, h2, hf =>
      simp only [List.map_cons, List.map_nil] at h1 h2
      have he : endB w [a] = none := if_neg hf
      rw [he]
      (simp_arith [h1, h2])
      exact isv rfl
    | [a, b], h, h1, h2, hf =>
      simp only [List.map_cons, List.map_nil] at h1 h2
      have he : endB w [a, b] = none := if_neg hf
      rw [he]
      (simp_arith [h1, h2])
      exact isv rfl
    | [a, b, c], h, h1, h2, hf =>
      simp only [List.map_cons, List.map_nil] at h1 h2
      have hn := num02 (m := m) (h.1 c (by simp))
      have hp := plc02 (m := m) (v := c.2)
      have hnin := nin02 (m := m) (b := b.1)
      have he : endB w [a, b, c] = if a.1 = w ∧ (b.1 = "off" ∨ b.1 = "wall") ∧ pD c.2 = true then some (if b.1 = "off" then .off (c.2.getD 0) else .wall (c.2.getD 0)) else none := if_neg hf
      by_cases k1 : a.1 = w
      · subst k1
        by_cases k2 : b.1 = "off" ∨ b.1 = "wall"
        · have k2' : (!(decide (b.1 = "off") || decide (b.1 = "wall"))) = false := by
            rcases k2 with k2 | k2 <;> simp [k2]
          rw [k2'] at hnin
          cases k3 : pD c.2 with
          | true =>
            rw [k3] at hp
            rw [he, if_pos ⟨rfl, k2, k3⟩]
            obtain ⟨p, hc⟩ : ∃ p, c.2 = some p := by
              cases q : c.2 with
              | none => rw [q] at k3; simp [pD] at k3
              | some p => exact ⟨p, rfl⟩
            rw [hc] at hn hp ⊢
            have hn : m_number_in [.str c.1] m = .ok (.int p) m := hn
            have hp : m_is_place [.int p] m = .ok (.bl true) m := hp
            rcases k2 with k2 | k2
            · rw [if_pos k2]
              rw [k2] at h1 h2 hnin
              (simp_arith [h1, h2, hnin, hn, hp, k2])
              exact isv rfl
            · rw [if_neg (by rw [k2]; exact off_wall)]
              rw [k2] at h1 h2 hnin
              (simp_arith [h1, h2, hnin, hn, hp, k2])
              exact isv rfl
          | false =>
            rw [k3] at hp
            rw [he, if_neg (fun x => by rw [k3] at x; exact absurd x.2.2 (by simp))]
            rcases k2 with k2 | k2
            · rw [k2] at h1 h2
              (simp_arith [h1, h2, hn, hp, k2])
              exact isv rfl
            · rw [k2] at h1 h2
              (simp_arith [h1, h2, hn, hp, k2])
              exact isv rfl
        · have k2' : (!(decide (b.1 = "off") || decide (b.1 = "wall"))) = true := by
            simp only [not_or] at k2
            simp [k2.1, k2.2]
          rw [k2'] at hnin
          rw [he, if_neg (fun x => k2 x.2.1)]
          simp only [not_or] at k2
          have n1 : ¬ Str.ofString "off" = b.1 := fun e => k2.1 e.symm
          have n2 : ¬ Str.ofString "wall" = b.1 := fun e => k2.2 e.symm
          (simp_arith [h1, h2, n1, n2])
          exact isv rfl
      · rw [he, if_neg (fun x => k1 x.1)]
        (simp_arith [h1, h2, k1])
        exact isv rfl
    | a :: b :: c :: d :: rest, h, h1, h2, hf =>
      simp only [List.map_cons, List.map_nil] at h1 h2
      have he : endB w (a :: b :: c :: d :: rest) = none := if_neg hf
      have hl := h.2.2
      simp only [List.length_cons] at hl
      rw [he]
      have hne : ¬ ((rest.length : Int) + 1 + 1 + 1 + 1 = 3) := by omega
      have hne2 : ¬ ((rest.length : Int) + 4 = 3) := by omega
      have hll : rest.length + 1 + 1 + 1 + 1 ≤ 16777216 := by omega
      (simp_arith [h1, h2, List.map_cons, List.length_cons, List.length_map, hne, hne2, hll])
      exact isv rfl
end
end Gen
end
section
set_option linter.all false
set_option maxRecDepth 100000
set_option maxHeartbeats 4000000
namespace Gen
open PySem MT L2 TL
section
variable {m : Mem} {w s : Str} {v : Option Int} {L R : EndK} {zs : List (Str × Option Int)}
theorem lend02 (h : Zs zs) (hw : w = "left" ∨ w = "right") : m__law_end_of [.str (rowS zs), .str w] m = .ok (eD (endB w zs)) m := by
  have h1 := row_split (m := m) h
  have h2 := row_eq (m := m) h hw
  apply wp_eq
  unfold m__law_end_of b__law_end_of
  by_cases hf : zs.map (·.1) = [w, "free"]
  · rw [decide_eq_true hf] at h2
    have he : endB w zs = some .free := if_pos hf
    rw [he]
    (simp_arith [h1, h2])
    exact isv rfl
  · rw [decide_eq_false hf] at h2
    match zs, h, h1, h2, hf with
    | [], h, _, _, _ => exact absurd rfl h.2.1
    | [a], h, h1, h2, hf =>
      simp only [List.map_cons, List.map_nil] at h1 h2
      have he : endB w [a] = none := if_neg hf
      rw [he]
      (simp_arith [h1, h2])
      exact isv rfl
    | [a, b], h, h1, h2, hf =>
      simp only [List.map_cons, List.map_nil] at h1 h2
      have he : endB w [a, b] = none := if_neg hf
      rw [he]
      (simp_arith [h1, h2])
      exact isv rfl
    | [a, b, c], h, h1, h2, hf =>
      simp only [List.map_cons, List.map_nil] at h1 h2
      have hn := lnum02 (m := m) (h.1 c (by simp))
      have hnin := nin02 (m := m) (b := b.1)
      have he : endB w [a, b, c] = if a.1 = w ∧ (b.1 = "off" ∨ b.1 = "wall") ∧ pD c.2 = true then some (if b.1 = "off" then .off (c.2.getD 0) else .wall (c.2.getD 0)) else none := if_neg hf
      by_cases k1 : a.1 = w
      · subst k1
        by_cases k2 : b.1 = "off" ∨ b.1 = "wall"
        · have k2' : (!(decide (b.1 = "off") || decide (b.1 = "wall"))) = false := by
            rcases k2 with k2 | k2 <;> simp [k2]
          rw [k2'] at hnin
          cases k3 : pD c.2 with
          | true =>
            rw [k3] at hn
            rw [he, if_pos ⟨rfl, k2, k3⟩]
            obtain ⟨p, hc⟩ : ∃ p, c.2 = some p := by
              cases q : c.2 with
              | none => rw [q] at k3; simp [pD] at k3
              | some p => exact ⟨p, rfl⟩
            rw [hc] at hn ⊢
            have hn : m__law_number [.str c.1] m = .ok (.int p) m := hn
            rcases k2 with k2 | k2
            · rw [if_pos k2]
              rw [k2] at h1 h2 hnin
              (simp_arith [h1, h2, hnin, hn, k2])
              exact isv rfl
            · rw [if_neg (by rw [k2]; exact off_wall)]
              rw [k2] at h1 h2 hnin
              (simp_arith [h1, h2, hnin, hn, k2])
              exact isv rfl
          | false =>
            have hn : m__law_number [.str c.1] m = .ok .non m := by rw [k3] at hn; exact hn
            rw [he, if_neg (fun x => by rw [k3] at x; exact absurd x.2.2 (by simp))]
            rcases k2 with k2 | k2
            · rw [k2] at h1 h2
              (simp_arith [h1, h2, hn, k2])
              exact isv rfl
            · rw [k2] at h1 h2
              (simp_arith [h1, h2, hn, k2])
              exact isv rfl
        · have k2' : (!(decide (b.1 = "off") || decide (b.1 = "wall"))) = true := by
            simp only [not_or] at k2
            simp [k2.1, k2.2]
          rw [k2'] at hnin
          rw [he, if_neg (fun x => k2 x.2.1)]
          simp only [not_or] at k2
          have n1 : ¬ Str.ofString "off" = b.1 := fun e => k2.1 e.symm
          have n2 : ¬ Str.ofString "wall" = b.1 := fun e => k2.2 e.symm
          (simp_arith [h1, h2, n1, n2])
          exact isv rfl
      · rw [he, if_neg (fun x => k1 x.1)]
        (simp_arith [h1, h2, k1])
        exact isv rfl
    | a :: b :: c :: d :: rest, h, h1, h2, hf =>
      simp only [List.map_cons, List.map_nil] at h1 h2
      have he : endB w (a :: b :: c :: d :: rest) = none := if_neg hf
      have hl := h.2.2
      simp only [List.length_cons] at hl
      rw [he]
      have hne : ¬ ((rest.length : Int) + 1 + 1 + 1 + 1 = 3) := by omega
      have hne2 : ¬ ((rest.length : Int) + 4 = 3) := by omega
      have hll : rest.length + 1 + 1 + 1 + 1 ≤ 16777216 := by omega
      (simp_arith [h1, h2, List.map_cons, List.length_cons, List.length_map, hne, hne2, hll])
      exact isv rfl
def vals02 (zs : List (Str × Option Int)) : List Int := zs.map fun z => z.2.getD 0
def nums02 (zs : List (Str × Option Int)) : Bool := zs.all fun z => z.2.isSome
def placesB (L R : EndK) (zs : List (Str × Option Int)) : Option (List Int) := match zs with
  | a :: ns => if a.1 = "at" ∧ nums02 ns = true ∧ goodB L R (vals02 ns) = true then some (vals02 ns) else none
  | [] => none
def psD (e : Option (List Int)) : D := e.elim .non fun ps => .tup (ps.map .int)
theorem row_at {a : Str × Option Int} {ns : List (Str × Option Int)} (h : Zs (a :: ns)) (ha : a.1 = "at") (hn : nums02 ns = true) : rowS (a :: ns) = atS (vals02 ns) ∧ ∀ p ∈ vals02 ns, shP p := by
  have key : ∀ z ∈ ns, ∃ p, z.2 = some p ∧ z.1 = numS p ∧ shP p := fun z hz => by
    have h1 := List.all_eq_true.mp hn z hz
    have h2 := h.1 z (List.mem_cons_of_mem _ hz)
    obtain ⟨w, v⟩ := z
    cases h2 with
    | lit _ => simp at h1
    | @num i hi => exact ⟨i, rfl, rfl, hi⟩
  constructor
  · unfold rowS atS vals02
    rw [List.map_cons, ha, List.map_map]
    congr 2
    refine List.map_congr_left fun z hz => ?_
    obtain ⟨p, e1, e2, _⟩ := key z hz
    simp only [Function.comp, e1, e2, Option.getD_some]
  · intro p hp
    obtain ⟨z, hz, rfl⟩ := List.mem_map.mp hp
    obtain ⟨p, e1, e2, e3⟩ := key z hz
    rw [e1]
    exact e3
theorem ascB_cons {a b : Int} {ps : List Int} : ascB (a :: b :: ps) = (decide (a < b) && ascB (b :: ps)) := by simp [ascB]
theorem ascB_pw : ∀ {ps : List Int}, ascB ps = true → ps.Pairwise (· < ·)
  | [], _ => .nil
  | [a], _ => by simp
  | a :: b :: ps, h => by
    rw [ascB_cons, Bool.and_eq_true, decide_eq_true_eq] at h
    have ih := ascB_pw h.2
    refine List.pairwise_cons.mpr ⟨fun x hx => ?_, ih⟩
    rcases List.mem_cons.mp hx with rfl | hx
    · exact h.1
    · have := (List.pairwise_cons.mp ih).1 x hx
      omega
theorem good_of {ps : List Int} (hL : ∀ p, L.at = some p → okP p) (hR : ∀ p, R.at = some p → okP p) (nw : ¬(L.isWall = true ∧ R.isWall = true)) (hg : goodB L R ps = true) : GoodW L R ps := by
  simp only [goodB, Bool.and_eq_true, decide_eq_true_eq, List.all_eq_true] at hg
  obtain ⟨⟨⟨⟨⟨h1, h2⟩, h3⟩, h4⟩, h5⟩, h6⟩ := hg
  have hp := ascB_pw h4
  refine ⟨h1, h2, hp, h3, fun e he => ⟨hL e he, fun p hp' => ?_⟩, fun e he => ⟨hR e he, fun p hp' => ?_⟩, nw⟩
  · cases ps with
    | nil => cases hp'
    | cons a l =>
      simp only [he, Option.all_some, List.head?_cons, decide_eq_true_eq] at h5
      rcases List.mem_cons.mp hp' with rfl | hx
      · exact h5
      · have := (List.pairwise_cons.mp hp).1 p hx
        omega
  · rcases List.eq_nil_or_concat ps with rfl | ⟨l, z, rfl⟩
    · cases hp'
    · rw [List.concat_eq_append] at *
      simp only [he, Option.all_some, List.getLast?_append, List.getLast?_singleton, Option.some_or, decide_eq_true_eq] at h6
      rcases List.mem_append.mp hp' with hx | hx
      · have := (List.pairwise_append.mp hp).2.2 p hx z (by simp)
        omega
      · rw [List.mem_singleton.mp hx]; exact h6
theorem ascB_app : ∀ {ps : List Int} {e : Int}, ps ≠ [] → ascB (ps ++ [e]) = (ascB ps && ps.getLast?.all fun a => decide (a < e))
  | [a], e, _ => by simp [ascB]
  | a :: b :: ps, e, _ => by
    have ih := ascB_app (ps := b :: ps) (e := e) (by simp)
    rw [List.cons_append, List.cons_append, ascB_cons, ← List.cons_append, ih, ascB_cons, Bool.and_assoc, List.getLast?_cons_cons]
theorem ascB_all {ps : List Int} (h : ps ≠ []) : ascB (L.at.toList ++ ps ++ R.at.toList) = (ascB ps && (L.at.all fun q => ps.head?.all fun a => decide (q < a)) && (R.at.all fun q => ps.getLast?.all fun a => decide (a < q))) := by
  have h1 : ascB (ps ++ R.at.toList) = (ascB ps && (R.at.all fun q => ps.getLast?.all fun a => decide (a < q))) := by
    cases R.at with
    | none => simp
    | some e => simp [ascB_app h]
  cases hL : L.at with
  | none =>
    simp only [Option.toList_none, List.nil_append, Option.all_none, Bool.and_true]
    exact h1
  | some q =>
    cases ps with
    | nil => exact absurd rfl h
    | cons a l =>
      simp only [Option.toList_some, List.cons_append, List.nil_append, Option.all_some, List.head?_cons]
      rw [ascB_cons, ← List.cons_append, h1]
      cases decide (q < a) <;> cases ascB (a :: l) <;> simp
end
end Gen
end
section
set_option linter.all false
set_option maxRecDepth 100000
set_option maxHeartbeats 4000000
namespace Gen
open PySem MT L2 TL
section
variable {m : Mem} {w s : Str} {v : Option Int} {L R : EndK} {zs : List (Str × Option Int)}
theorem all_bls {ns : List (Str × Option Int)} {f : Str × Option Int → Bool} : allD [.lst (ns.map fun z => .bl (f z))] m = .ok (.bl (ns.all f)) m := all_bl
theorem sh_nums {ns : List (Str × Option Int)} (h : ns.all (fun z => pD z.2) = true) : nums02 ns = true := by
  refine List.all_eq_true.mpr fun z hz => ?_
  have := List.all_eq_true.mp h z hz
  cases q : z.2 with
  | none => rw [q] at this; simp [pD] at this
  | some p => rfl
theorem plc_none {a : Str × Option Int} {ns : List (Str × Option Int)} (h : ¬ (a.1 = "at" ∧ (1 ≤ ns.length ∧ ns.length ≤ 40) ∧ ns.all (fun z => pD z.2) = true)) : placesB L R (a :: ns) = none := by
  refine if_neg fun x => h ⟨x.1, ?_⟩
  have hg := x.2.2
  simp only [goodB, Bool.and_eq_true, decide_eq_true_eq, List.all_eq_true] at hg
  obtain ⟨⟨⟨⟨⟨h1, h2⟩, h3⟩, _⟩, _⟩, _⟩ := hg
  rw [vals02, List.length_map] at h1 h2
  refine ⟨⟨h1, h2⟩, List.all_eq_true.mpr fun z hz => ?_⟩
  have hz2 := List.all_eq_true.mp x.2.1 z hz
  cases q : z.2 with
  | none => rw [q] at hz2; cases hz2
  | some p =>
    have := h3 p (List.mem_map.mpr ⟨z, hz, by rw [q]; rfl⟩)
    simp [pD, this]
theorem pplc02 (h : Zs zs) (hL : ∀ p, L.at = some p → okP p) (hR : ∀ p, R.at = some p → okP p) (nw : ¬(L.isWall = true ∧ R.isWall = true)) : m_places_in [.str (rowS zs), L.d, R.d] m = .ok (psD (placesB L R zs)) m := by
  match zs, h with
  | [], h => exact absurd rfl h.2.1
  | a :: ns, h =>
    have hln := h.2.2
    simp only [List.length_cons] at hln
    by_cases c : a.1 = "at" ∧ (1 ≤ ns.length ∧ ns.length ≤ 40) ∧ ns.all (fun z => pD z.2) = true
    · obtain ⟨ca, cl, cn⟩ := c
      have hn := sh_nums cn
      obtain ⟨e1, e2⟩ := row_at h ca hn
      have hl2 : (vals02 ns).length ≤ 90 := by rw [vals02, List.length_map]; omega
      rw [e1]
      cases hg : goodB L R (vals02 ns) with
      | true =>
        have he : placesB L R (a :: ns) = some (vals02 ns) := if_pos ⟨ca, hn, hg⟩
        rw [he]
        exact places_ok (good_of hL hR nw hg)
      | false =>
        have he : placesB L R (a :: ns) = none := if_neg fun x => by rw [hg] at x; exact absurd x.2.2 (by simp)
        rw [he]
        exact places_no e2 hl2 hg
    · have he := plc_none (L := L) (R := R) c
      rw [he]
      have h1 := row_split (m := m) h
      simp only [List.map_cons] at h1
      have hlm : ns.length ≤ 16777216 := by omega
      have hlm1 : ns.length + 1 ≤ 16777216 := by omega
      apply wp_eq
      unfold m_places_in b_places_in
      (simp_arith [h1, cut1, List.drop_succ_cons, List.drop_zero, List.length_map, hlm])
      refine wp_compZ ns (fun z => .str z.1) (fun z => oD z.2) (fun z hz => ?_) ?_
      · have hn := num02 (m := m) (h.1 z (List.mem_cons_of_mem _ hz))
        (simp_arith [hn])
        exact isv rfl
      · by_cases ca : a.1 = "at"
        · by_cases cl : 1 ≤ ns.length ∧ ns.length ≤ 40
          · have cn : ns.all (fun z => pD z.2) = false := by
              cases q : ns.all (fun z => pD z.2) with
              | false => rfl
              | true => exact absurd ⟨ca, cl, q⟩ c
            have hal := all_bls (m := m) (ns := ns) (f := fun z => pD z.2)
            rw [cn] at hal
            have k1 : (1 : Int) ≤ ns.length := by omega
            have k2 : (ns.length : Int) ≤ 40 := by omega
            (simp_arith [ca, List.length_map, hlm, k1, k2])
            refine wp_compZ ns (fun z => oD z.2) (fun z => .bl (pD z.2)) (fun z hz => ?_) ?_
            · have hn := plc02 (m := m) (v := z.2)
              (simp_arith [hn])
              exact isv rfl
            · (simp_arith [hal])
              exact isv rfl
          · by_cases k1 : (1 : Int) ≤ ns.length
            · have k2 : ¬ (ns.length : Int) ≤ 40 := by omega
              (simp_arith [ca, List.length_map, hlm, k1, k2])
              exact isv rfl
            · (simp_arith [ca, List.length_map, hlm, k1])
              exact isv rfl
        · (simp_arith [ca])
          exact isv rfl
theorem ats_d2 {e : EndK} : slD e.d (some 1) none m = .ok (.tup (e.at.toList.map D.int)) m := by cases e <;> rfl
theorem ats_l2 {e : EndK} : listD [.tup (e.at.toList.map D.int)] m = .ok (.lst (e.at.toList.map D.int)) m := by
  cases e <;> simp [EndK.at] <;> rfl
theorem ats_n {e : EndK} : e.at.toList.length ≤ 1 := by cases e <;> simp [EndK.at]
theorem zip_ints (ps qs : List Int) : zipD (ps.map .int) (qs.map .int) = (ps.zip qs).map fun q => .tup [.int q.1, .int q.2] := by
  unfold zipD
  induction ps generalizing qs with
  | nil => rfl
  | cons a l ih =>
    cases qs with
    | nil => rfl
    | cons b qs => simp only [List.map_cons, List.zipWith_cons_cons, List.zip_cons_cons]; rw [ih]
theorem addL2 {xs ys : List Int} (h : xs.length + ys.length ≤ 1000) : addD (.lst (xs.map .int)) (.lst (ys.map .int)) m = .ok (.lst ((xs ++ ys).map .int)) m := by
  have := e_addL (m := m) (xs := xs.map .int) (ys := ys.map .int) (by rw [List.length_map, List.length_map, sizeLine_eq]; omega)
  rw [this, List.map_append]
theorem in_dat {ns : List (Str × Option Int)} : (datS D.non && (ns.map fun z => oD (if pD z.2 then z.2 else none)).all datS) = true := by
  have h0 : datS D.non = true := rfl
  rw [h0, Bool.true_and]
  refine List.all_eq_true.mpr fun d hd => ?_
  obtain ⟨z, hz, rfl⟩ := List.mem_map.mp hd
  cases (if pD z.2 then z.2 else none) with
  | none => rfl
  | some p => simp [oD, datS, isDat, dep]
theorem in_any {ns : List (Str × Option Int)} : ((ns.map fun z => oD (if pD z.2 then z.2 else none)).any fun y => eqB y D.non) = !(ns.all fun z => pD z.2) := by
  induction ns with
  | nil => rfl
  | cons z ns ih =>
    rw [List.map_cons, List.any_cons, List.all_cons, ih]
    cases hp : pD z.2 with
    | false => simp [oD, eqB]
    | true =>
      cases q : z.2 with
      | none => rw [q] at hp; simp [pD] at hp
      | some p => simp [oD, eqB]
theorem lplc02 (h : Zs zs) : m__law_has_places [.str (rowS zs), L.d, R.d] m = .ok (.bl (placesB L R zs).isSome) m := by
  match zs, h with
  | [], h => exact absurd rfl h.2.1
  | a :: ns, h =>
    have hln := h.2.2
    simp only [List.length_cons] at hln
    have h1 := row_split (m := m) h
    simp only [List.map_cons] at h1
    have hlm : ns.length ≤ 16777216 := by omega
    have hin := in_any (ns := ns)
    have hdt := in_dat (ns := ns)
    apply wp_eq
    unfold m__law_has_places b__law_has_places
    (simp_arith [h1, cut1, List.drop_succ_cons, List.drop_zero, List.length_map, hlm])
    refine wp_compZ ns (fun z => .str z.1) (fun z => oD (if pD z.2 then z.2 else none)) (fun z hz => ?_) ?_
    · have hn := lnum02 (m := m) (h.1 z (List.mem_cons_of_mem _ hz))
      (simp_arith [hn])
      exact isv rfl
    by_cases ca : a.1 = "at"
    · by_cases cl : 1 ≤ ns.length ∧ ns.length ≤ 40
      · have k1 : (0 : Int) < ns.length := by omega
        have k2 : (ns.length : Int) < 41 := by omega
        cases cn : ns.all (fun z => pD z.2) with
        | true =>
          rw [cn] at hin
          have hn := sh_nums cn
          have hv : (ns.map fun z => oD (if pD z.2 then z.2 else none)) = (vals02 ns).map D.int := by
            rw [vals02, List.map_map]
            refine List.map_congr_left fun z hz => ?_
            have hp := List.all_eq_true.mp cn z hz
            cases q : z.2 with
            | none => rw [q] at hp; simp [pD] at hp
            | some p => rw [q] at hp; simp only [hp, if_true, Function.comp, q, oD, Option.elim_some, Option.getD_some]
          have hvl : (vals02 ns).length = ns.length := by rw [vals02, List.length_map]
          rw [hv] at hin hdt ⊢
          obtain ⟨ps, hps⟩ : ∃ ps, ps = L.at.toList ++ vals02 ns ++ R.at.toList := ⟨_, rfl⟩
          have hpl : ps.length ≤ 62 := by
            have a1 := ats_n (e := L)
            have a2 := ats_n (e := R)
            rw [hps]
            simp only [List.length_append, hvl]
            omega
          have hpe : L.at.toList.map D.int ++ (vals02 ns).map D.int ++ R.at.toList.map D.int = ps.map D.int := by rw [hps, List.map_append, List.map_append]
          have hpn : vals02 ns ≠ [] := fun e => by rw [e] at hvl; simp at hvl; omega
          have hres : (placesB L R (a :: ns)).isSome = ascB ps := by
            have : goodB L R (vals02 ns) = ascB ps := by
              rw [hps, ascB_all hpn]
              have o1 : decide (1 ≤ (vals02 ns).length) = true := decide_eq_true (by omega)
              have o2 : decide ((vals02 ns).length ≤ 40) = true := decide_eq_true (by omega)
              have o3 : ((vals02 ns).all fun p => decide (okP p)) = true := List.all_eq_true.mpr fun p hp => by
                obtain ⟨z, hz, rfl⟩ := List.mem_map.mp hp
                have hp := List.all_eq_true.mp cn z hz
                cases q : z.2 with
                | none => rw [q] at hp; simp [pD] at hp
                | some p => rw [q] at hp; simpa [pD] using hp
              simp only [goodB, o1, o2, o3, Bool.true_and]
            show (if a.1 = "at" ∧ nums02 ns = true ∧ goodB L R (vals02 ns) = true then some (vals02 ns) else none : Option (List Int)).isSome = _
            rw [this]
            cases hb : ascB ps with
            | true => rw [if_pos ⟨ca, hn, rfl⟩]; rfl
            | false => rw [if_neg (fun x => by simp at x)]; rfl
          rw [hres]
          have hal : allD [.lst ((ps.zip (ps.drop 1)).map fun q => .bl (decide (q.1 < q.2)))] m = .ok (.bl (ascB ps)) m := all_bl
          have hzz := zip_ints ps (ps.drop 1)
          rw [List.map_drop] at hzz
          have hzl : (ps.zip (ps.drop 1)).length ≤ 16777216 := by rw [List.length_zip]; omega
          have ha1 := addL2 (m := m) (xs := L.at.toList) (ys := vals02 ns) (by have := ats_n (e := L); omega)
          have ha2 := addL2 (m := m) (xs := L.at.toList ++ vals02 ns) (ys := R.at.toList) (by rw [hps, List.length_append] at hpl; omega)
          rw [← hps] at ha2
          (simp_arith [ca, List.length_map, hvl, k1, k2, hin, hdt, ats_d2, ats_l2, ha1, ha2, cut1, hzz, hzl])
          refine wp_compZ (ps.zip (ps.drop 1)) (fun q => .tup [.int q.1, .int q.2]) (fun q => .bl (decide (q.1 < q.2))) (fun q hq => ?_) ?_
          · (simp_arith [])
            exact isv rfl
          · (simp_arith [hal])
            exact isv rfl
        | false =>
          rw [cn] at hin
          rw [plc_none (fun x => by rw [cn] at x; exact absurd x.2.2 (by simp))]
          (simp_arith [ca, List.length_map, k1, k2, hin, hdt, hlm])
          exact isv rfl
      · rw [plc_none (fun x => cl x.2.1)]
        by_cases k1 : (0 : Int) < ns.length
        · have k2 : ¬ (ns.length : Int) < 41 := by omega
          (simp_arith [ca, List.length_map, hlm, k1, k2])
          exact isv rfl
        · (simp_arith [ca, List.length_map, hlm, k1])
          exact isv rfl
    · rw [plc_none (fun x => ca x.1)]
      (simp_arith [ca])
      exact isv rfl
end
end Gen
end
section
set_option linter.all false
set_option maxRecDepth 100000
set_option maxHeartbeats 4000000
namespace Gen
open PySem MT L2 TL
section
variable {m : Mem} {w s : Str} {v : Option Int} {L R : EndK} {zs : List (Str × Option Int)} {zss : List (List (Str × Option Int))}
def txtS (zss : List (List (Str × Option Int))) : Str := Txt.join "\n" (zss.map rowS)
def Zss (zss : List (List (Str × Option Int))) : Prop := (∀ zs ∈ zss, Zs zs) ∧ zss ≠ [] ∧ zss.length ≤ 40
theorem txt_split (h : Zss zss) : splitD (.str (txtS zss)) [.str "\n"] m = .ok (.lst (zss.map fun z => .str (rowS z))) m ∧ joinD (.str "\n") [.lst (zss.map fun z => .str (rowS z))] m = .ok (.str (txtS zss)) m := by
  have hr : ∀ x ∈ zss.map rowS, 10 ∉ tl x ∧ x.length ≤ 3000 := fun x hx => by
    obtain ⟨z, hz, rfl⟩ := List.mem_map.mp hx
    exact (row_facts (h.1 z hz)).2
  have hn : zss.map rowS ≠ [] := by simpa using h.2.1
  have hl : (zss.map rowS).length ≤ 40 := by rw [List.length_map]; exact h.2.2
  have hb : ((zss.map rowS).map (·.length)).sum ≤ (zss.map rowS).length * 3000 := by
    have := sum_le (l := (zss.map rowS).map (·.length)) (k := 3000) fun x hx => by
      obtain ⟨w, hw, rfl⟩ := List.mem_map.mp hx
      exact (hr w hw).2
    simpa using this
  have h1 : (Str.ofString "\n").length = 1 := by rw [len_tl, tl_lf]; rfl
  have hs := len_joinS "\n" (zss.map rowS)
  rw [h1] at hs
  have em : (zss.map rowS).map D.str = zss.map fun z => .str (rowS z) := by rw [List.map_map]; rfl
  constructor
  · unfold txtS
    rw [e_split (by decide +kernel) (by rw [sizeLine_eq]; omega), split_join tl_lf (by decide +kernel) hn fun p hp => (hr p hp).1, em]
  · have := e_join (a := "\n") (ys := zss.map rowS) (m := m) (by rw [h1]; omega)
    rw [em] at this
    exact this
def e02 : List (Str × Option Int) := [("", none)]
theorem zs_e : Zs e02 := ⟨fun z hz => by
  rw [List.mem_singleton.mp hz]
  exact .lit (by simp [lits02]), by simp [e02], by simp [e02]⟩
theorem row_e : rowS e02 = Str.ofString "" := by decide +kernel
theorem end_e : endB w e02 = none := by
  have : ¬ (e02.map (·.1) = [w, Str.ofString "free"]) := fun x => by
    have := congrArg List.length x
    simp [e02] at this
  exact if_neg this
theorem plc_e : placesB L R e02 = none := by
  show (if (Str.ofString "") = (Str.ofString "at") ∧ nums02 [] = true ∧ goodB L R (vals02 []) = true then some (vals02 []) else none : Option (List Int)) = none
  rw [if_neg (fun x => absurd x.1 (by decide +kernel))]
theorem end_okP {E : EndK} (h : endB w zs = some E) : ∀ e, E.at = some e → okP e := by
  intro e he
  unfold endB at h
  split at h
  · cases h; cases he
  · split at h
    · split at h
      · rename_i a b c hf hc
        cases q : c.2 with
        | none => rw [q] at hc; simp [pD] at hc
        | some p =>
          rw [q] at h hc
          have hp : okP p := by simpa [pD] using hc.2.2
          split at h
          · cases h; cases he; exact hp
          · cases h; cases he; exact hp
      · cases h
    · cases h
theorem end_row02 {E : EndK} (hz : Zs zs) (h : endB w zs = some E) : rowS zs = lineS w E := by
  unfold endB at h
  split at h
  · rename_i hf
    cases h
    unfold rowS lineS
    rw [hf]
    rfl
  · split at h
    · split at h
      · rename_i a b c hf hc
        have hw := hz.1 c (by simp)
        obtain ⟨cw, cv⟩ := c
        cases hw with
        | lit _ => exact absurd hc.2.2 (by simp [pD])
        | @num i hi =>
          unfold rowS lineS
          simp only [Option.getD_some] at h
          split at h
          · rename_i hb
            cases h
            simp only [List.map_cons, List.map_nil, hc.1, hb, EndK.words]
            rfl
          · rename_i hb
            cases h
            simp only [List.map_cons, List.map_nil, hc.1, (hc.2.1.resolve_left hb), EndK.words]
            rfl
      · cases h
    · cases h
theorem plc_row02 {ps : List Int} (hz : Zs zs) (h : placesB L R zs = some ps) : rowS zs = atS ps ∧ goodB L R ps = true := by
  match zs, hz with
  | [], hz => exact absurd rfl hz.2.1
  | a :: ns, hz =>
    have h' : (if a.1 = "at" ∧ nums02 ns = true ∧ goodB L R (vals02 ns) = true then some (vals02 ns) else none : Option (List Int)) = some ps := h
    split at h'
    · rename_i hc
      cases h'
      exact ⟨(row_at hz hc.1 hc.2.1).1, hc.2.2⟩
    · cases h'
def wr02 (l0 l1 l2 : List (Str × Option Int)) (n : Nat) : Int := match endB "left" l0 with
  | none => 1
  | some L => match endB "right" l1 with
    | none => 2
    | some R => if (L.isWall && R.isWall) = true then 2 else match placesB L R l2 with
      | none => 3
      | some _ => if n > 3 then 4 else 0
def wrong02 (zss : List (List (Str × Option Int))) : Int := wr02 (zss.headD e02) ((zss[1]?).getD e02) ((zss[2]?).getD e02) zss.length
theorem wr_1 {l0 l1 l2 : List (Str × Option Int)} {n : Nat} (q : endB "left" l0 = none) : wr02 l0 l1 l2 n = 1 := by simp only [wr02, q]
theorem wr_2 {l0 l1 l2 : List (Str × Option Int)} {n : Nat} (q : endB "left" l0 = some L) (q1 : endB "right" l1 = none) : wr02 l0 l1 l2 n = 2 := by simp only [wr02, q, q1]
theorem wr_w {l0 l1 l2 : List (Str × Option Int)} {n : Nat} (q : endB "left" l0 = some L) (q1 : endB "right" l1 = some R) (h : (L.isWall && R.isWall) = true) : wr02 l0 l1 l2 n = 2 := by simp only [wr02, q, q1, h, if_true]
theorem wr_3 {l0 l1 l2 : List (Str × Option Int)} {n : Nat} (q : endB "left" l0 = some L) (q1 : endB "right" l1 = some R) (h : ¬ (L.isWall && R.isWall) = true) (q2 : placesB L R l2 = none) : wr02 l0 l1 l2 n = 3 := by simp only [wr02, q, q1, if_neg h, q2]
theorem wr_4 {l0 l1 l2 : List (Str × Option Int)} {n : Nat} {ps : List Int} (q : endB "left" l0 = some L) (q1 : endB "right" l1 = some R) (h : ¬ (L.isWall && R.isWall) = true) (q2 : placesB L R l2 = some ps) : wr02 l0 l1 l2 n = if n > 3 then 4 else 0 := by simp only [wr02, q, q1, if_neg h, q2]
theorem lfirst02 {l0 l1 l2 : List (Str × Option Int)} {rest : List D} {n : Nat} {s : Str} (h0 : Zs l0) (h1 : Zs l1) (h2 : Zs l2) (hl : rest.length ≤ 1000)
    (hs : splitD (.str s) [.str "\n"] m = .ok (.lst (zss.map fun z => .str (rowS z))) m) (hzl : zss.length ≤ 40) (he : (zss.map fun z => D.str (rowS z)) ++ [.str "", .str ""] = .str (rowS l0) :: .str (rowS l1) :: .str (rowS l2) :: rest) (hn : zss.length = n) : m__law_first_wrong [.str s] m = .ok (.int (wr02 l0 l1 l2 n)) m := by
  have hrl : rest.length = n - 1 := by
    have := congrArg List.length he
    simp only [List.length_append, List.length_map, List.length_cons, List.length_nil] at this
    omega
  have a0 := lend02 (m := m) h0 (.inl rfl)
  have a1 := lend02 (m := m) h1 (.inr rfl)
  have had : addD (.lst (zss.map fun z => .str (rowS z))) (.lst [.str "", .str ""]) m = .ok (.lst (.str (rowS l0) :: .str (rowS l1) :: .str (rowS l2) :: rest)) m := by
    rw [← he]
    exact e_addL (by rw [sizeLine_eq, List.length_map]; simp; omega)
  have hll : rest.length + 1 + 1 + 1 ≤ 16777216 := by omega
  apply wp_eq
  unfold m__law_first_wrong b__law_first_wrong
  cases q0 : endB "left" l0 with
  | none =>
    rw [wr_1 q0]
    rw [q0] at a0
    have a0 : m__law_end_of [.str (rowS l0), .str "left"] m = .ok .non m := a0
    cases q1 : endB "right" l1 with
    | none =>
      rw [q1] at a1
      have a1 : m__law_end_of [.str (rowS l1), .str "right"] m = .ok .non m := a1
      (simp_arith [hs, had, a0, a1])
      exact isv rfl
    | some R =>
      rw [q1] at a1
      obtain ⟨v, u, e2, f2⟩ := d_cases R
      have a1 : m__law_end_of [.str (rowS l1), .str "right"] m = .ok (.tup (.str v :: u)) m := by rw [← e2]; exact a1
      (simp_arith [hs, had, a0, a1])
      exact isv rfl
  | some L =>
    rw [q0] at a0
    obtain ⟨w, t, e1, f1⟩ := d_cases L
    have a0 : m__law_end_of [.str (rowS l0), .str "left"] m = .ok (.tup (.str w :: t)) m := by rw [← e1]; exact a0
    cases q1 : endB "right" l1 with
    | none =>
      rw [wr_2 q0 q1]
      rw [q1] at a1
      have a1 : m__law_end_of [.str (rowS l1), .str "right"] m = .ok .non m := a1
      (simp_arith [hs, had, a0, a1])
      exact isv rfl
    | some R =>
      rw [q1] at a1
      obtain ⟨v, u, e2, f2⟩ := d_cases R
      have a1 : m__law_end_of [.str (rowS l1), .str "right"] m = .ok (.tup (.str v :: u)) m := by rw [← e2]; exact a1
      have a2 := lplc02 (m := m) (L := L) (R := R) h2
      rw [e1, e2] at a2
      by_cases hww : (L.isWall && R.isWall) = true
      · have c1 : w = "wall" := by rw [Bool.and_eq_true] at hww; rw [hww.1] at f1; exact of_decide_eq_true f1
        have c2 : v = "wall" := by rw [Bool.and_eq_true] at hww; rw [hww.2] at f2; exact of_decide_eq_true f2
        rw [wr_w q0 q1 hww]
        (simp_arith [hs, had, a0, a1, c1, c2])
        exact isv rfl
      · have hw2 : ¬ (w = "wall" ∧ v = "wall") := fun x => hww (by
          rw [decide_eq_true x.1] at f1
          rw [decide_eq_true x.2] at f2
          rw [← f1, ← f2]; rfl)
        by_cases c1 : w = "wall"
        · have c2 : ¬ v = "wall" := fun x => hw2 ⟨c1, x⟩
          cases q2 : placesB L R l2 with
          | none =>
            rw [wr_3 q0 q1 hww q2]
            rw [q2] at a2
            simp only [Option.isSome_none, Option.isSome_some] at a2
            subst c1
            (simp_arith [hs, had, a0, a1, c2, a2])
            exact isv rfl
          | some ps =>
            rw [wr_4 q0 q1 hww q2]
            rw [q2] at a2
            simp only [Option.isSome_none, Option.isSome_some] at a2
            subst c1
            by_cases hn3 : n > 3
            · rw [if_pos hn3]
              have k3 : ((rest.length : Int) + 1 + 1 + 1 > 5) := by omega
              have k4 : ((rest.length : Int) + 3 > 5) := by omega
              have k5 : (5 : Int) < ((rest.length : Int) + 1 + 1 + 1) := by omega
              (simp_arith [hs, had, a0, a1, c2, a2, hll, k3, k4, k5, List.length_cons])
              exact isv rfl
            · rw [if_neg hn3]
              have k5 : ¬ (5 : Int) < ((rest.length : Int) + 1 + 1 + 1) := by omega
              (simp_arith [hs, had, a0, a1, c2, a2, hll, k5, List.length_cons])
              exact isv rfl
        · cases q2 : placesB L R l2 with
          | none =>
            rw [wr_3 q0 q1 hww q2]
            rw [q2] at a2
            simp only [Option.isSome_none, Option.isSome_some] at a2
            (simp_arith [hs, had, a0, a1, c1, a2])
            exact isv rfl
          | some ps =>
            rw [wr_4 q0 q1 hww q2]
            rw [q2] at a2
            simp only [Option.isSome_none, Option.isSome_some] at a2
            by_cases hn3 : n > 3
            · rw [if_pos hn3]
              have k5 : (5 : Int) < ((rest.length : Int) + 1 + 1 + 1) := by omega
              (simp_arith [hs, had, a0, a1, c1, a2, hll, k5, List.length_cons])
              exact isv rfl
            · rw [if_neg hn3]
              have k5 : ¬ (5 : Int) < ((rest.length : Int) + 1 + 1 + 1) := by omega
              (simp_arith [hs, had, a0, a1, c1, a2, hll, k5, List.length_cons])
              exact isv rfl
theorem first02 (h : Zss zss) : m__law_first_wrong [.str (txtS zss)] m = .ok (.int (wrong02 zss)) m := by
  have hs := (txt_split (m := m) h).1
  have hl := h.2.2
  match zss, h with
  | [], h => exact absurd rfl h.2.1
  | [a], h => exact lfirst02 (rest := []) (h.1 a (by simp)) zs_e zs_e (by simp) hs hl (by simp [row_e]) rfl
  | [a, b], h => exact lfirst02 (rest := [.str ""]) (h.1 a (by simp)) (h.1 b (by simp)) zs_e (by simp) hs hl (by simp [row_e]) rfl
  | a :: b :: c :: rest, h =>
    simp only [List.length_cons] at hl
    exact lfirst02 (rest := (rest.map fun z => D.str (rowS z)) ++ [.str "", .str ""]) (h.1 a (by simp)) (h.1 b (by simp)) (h.1 c (by simp)) (by simp; omega) hs (by simp; omega) (by simp) rfl
end
end Gen
end
section
set_option linter.all false
set_option maxRecDepth 100000
set_option maxHeartbeats 4000000
namespace Gen
open PySem MT L2 TL
section
variable {m : Mem} {w s : Str} {v : Option Int} {L R : EndK} {zs : List (Str × Option Int)} {zss : List (List (Str × Option Int))}
theorem read02 (h : Zss zss) (hw : wrong02 zss ≠ 0) : exW (wrong02 zss) (txtS zss) := by
  intro m
  have hs := (txt_split (m := m) h).1
  have hll := h.2.2
  match zss, h with
  | [], h => exact absurd rfl h.2.1
  | l0 :: more, h =>
    have h0 := h.1 l0 (by simp)
    have a0 := pend02 (m := m) h0 (.inl rfl)
    have hmore : ((more.length : Int) + 1) = ((more.length + 1 : Nat) : Int) := by omega
    simp only [List.map_cons] at hs
    cases q0 : endB "left" l0 with
    | none =>
      have hv : wrong02 (l0 :: more) = 1 := wr_1 q0
      rw [hv]
      rw [q0] at a0
      have a0 : m_end_in [.str (rowS l0), .str "left"] m = .ok .non m := a0
      apply wp_eqX
      unfold m_read_way b_read_way
      (simp_arith [hs, a0])
      exact ⟨rfl, rfl, rfl⟩
    | some L =>
      rw [q0] at a0
      obtain ⟨w, t, e1, f1⟩ := d_cases L
      have a0 : m_end_in [.str (rowS l0), .str "left"] m = .ok (.tup (.str w :: t)) m := by rw [← e1]; exact a0
      cases more with
      | nil =>
        have hv : wrong02 [l0] = 2 := wr_2 q0 end_e
        rw [hv]
        simp only [List.map_nil] at hs
        apply wp_eqX
        unfold m_read_way b_read_way
        (simp_arith [hs, a0])
        exact ⟨rfl, rfl, rfl⟩
      | cons l1 more =>
        have h1 := h.1 l1 (by simp)
        have a1 := pend02 (m := m) h1 (.inr rfl)
        simp only [List.map_cons] at hs
        have hlen2 : (1 : Int) < ((more.length : Int) + 1 + 1) := by omega
        have hlm : more.length + 1 + 1 ≤ 16777216 := by simp only [List.length_cons] at hll; omega
        cases q1 : endB "right" l1 with
        | none =>
          have hv : wrong02 (l0 :: l1 :: more) = 2 := wr_2 q0 q1
          rw [hv]
          rw [q1] at a1
          have a1 : m_end_in [.str (rowS l1), .str "right"] m = .ok .non m := a1
          apply wp_eqX
          unfold m_read_way b_read_way
          (simp_arith [hs, a0, a1, List.length_cons, List.length_map, hlen2, hlm])
          exact ⟨rfl, rfl, rfl⟩
        | some R =>
          rw [q1] at a1
          obtain ⟨v, u, e2, f2⟩ := d_cases R
          have a1 : m_end_in [.str (rowS l1), .str "right"] m = .ok (.tup (.str v :: u)) m := by rw [← e2]; exact a1
          by_cases hww : (L.isWall && R.isWall) = true
          · have c1 : w = "wall" := by rw [Bool.and_eq_true] at hww; rw [hww.1] at f1; exact of_decide_eq_true f1
            have c2 : v = "wall" := by rw [Bool.and_eq_true] at hww; rw [hww.2] at f2; exact of_decide_eq_true f2
            have hv : wrong02 (l0 :: l1 :: more) = 2 := wr_w q0 q1 hww
            rw [hv]
            subst c1
            subst c2
            apply wp_eqX
            unfold m_read_way b_read_way
            (simp_arith [hs, a0, a1, List.length_cons, List.length_map, hlen2, hlm])
            exact ⟨rfl, rfl, rfl⟩
          · have hw2 : ¬ (w = "wall" ∧ v = "wall") := fun x => hww (by
              rw [decide_eq_true x.1] at f1
              rw [decide_eq_true x.2] at f2
              rw [← f1, ← f2]; rfl)
            have hnw : ¬(L.isWall = true ∧ R.isWall = true) := fun x => hww (by rw [x.1, x.2]; rfl)
            cases more with
            | nil =>
              have hv : wrong02 [l0, l1] = 3 := wr_3 q0 q1 hww plc_e
              rw [hv]
              simp only [List.map_nil] at hs
              by_cases c1 : w = "wall"
              · have c2 : ¬ v = "wall" := fun x => hw2 ⟨c1, x⟩
                subst c1
                apply wp_eqX
                unfold m_read_way b_read_way
                (simp_arith [hs, a0, a1, c2])
                exact ⟨rfl, rfl, rfl⟩
              · apply wp_eqX
                unfold m_read_way b_read_way
                (simp_arith [hs, a0, a1, c1])
                exact ⟨rfl, rfl, rfl⟩
            | cons l2 more =>
              have h2 := h.1 l2 (by simp)
              have a2 := pplc02 (m := m) h2 (end_okP q0) (end_okP q1) hnw
              rw [e1, e2] at a2
              simp only [List.map_cons] at hs
              have hlen3 : (1 : Int) < ((more.length : Int) + 1 + 1 + 1) := by omega
              have hlen4 : (2 : Int) < ((more.length : Int) + 1 + 1 + 1) := by omega
              have hlm : more.length + 1 + 1 + 1 ≤ 16777216 := by simp only [List.length_cons] at hll; omega
              cases q2 : placesB L R l2 with
              | none =>
                have hv : wrong02 (l0 :: l1 :: l2 :: more) = 3 := wr_3 q0 q1 hww q2
                rw [hv]
                rw [q2] at a2
                have a2 : m_places_in [.str (rowS l2), .tup (.str w :: t), .tup (.str v :: u)] m = .ok .non m := a2
                by_cases c1 : w = "wall"
                · have c2 : ¬ v = "wall" := fun x => hw2 ⟨c1, x⟩
                  subst c1
                  apply wp_eqX
                  unfold m_read_way b_read_way
                  (simp_arith [hs, a0, a1, c2, a2, List.length_cons, List.length_map, hlen3, hlen4, hlm])
                  exact ⟨rfl, rfl, rfl⟩
                · apply wp_eqX
                  unfold m_read_way b_read_way
                  (simp_arith [hs, a0, a1, c1, a2, List.length_cons, List.length_map, hlen3, hlen4, hlm])
                  exact ⟨rfl, rfl, rfl⟩
              | some ps =>
                have hv : wrong02 (l0 :: l1 :: l2 :: more) = if (l0 :: l1 :: l2 :: more).length > 3 then 4 else 0 := wr_4 q0 q1 hww q2
                rw [q2] at a2
                have a2 : m_places_in [.str (rowS l2), .tup (.str w :: t), .tup (.str v :: u)] m = .ok (.tup (ps.map .int)) m := a2
                by_cases hn : (l0 :: l1 :: l2 :: more).length > 3
                · rw [if_pos hn] at hv
                  rw [hv]
                  have hlen5 : (3 : Int) < ((more.length : Int) + 1 + 1 + 1) := by simp only [List.length_cons] at hn; omega
                  by_cases c1 : w = "wall"
                  · have c2 : ¬ v = "wall" := fun x => hw2 ⟨c1, x⟩
                    subst c1
                    apply wp_eqX
                    unfold m_read_way b_read_way
                    (simp_arith [hs, a0, a1, c2, a2, List.length_cons, List.length_map, hlen3, hlen4, hlen5, hlm])
                    exact ⟨rfl, rfl, rfl⟩
                  · apply wp_eqX
                    unfold m_read_way b_read_way
                    (simp_arith [hs, a0, a1, c1, a2, List.length_cons, List.length_map, hlen3, hlen4, hlen5, hlm])
                    exact ⟨rfl, rfl, rfl⟩
                · rw [if_neg hn] at hv
                  exact absurd hv hw
theorem way02 (h : Zss zss) (hw : wrong02 zss = 0) : ∃ L R ps, GoodW L R ps ∧ txtS zss = textS L R ps := by
  match zss, h with
  | [], h => exact absurd rfl h.2.1
  | [l0], h =>
    cases q0 : endB "left" l0 with
    | none => have := wr_1 (l1 := e02) (l2 := e02) (n := 1) q0; exact absurd (hw.symm.trans this) (by decide)
    | some L => have := wr_2 (l2 := e02) (n := 1) q0 end_e; exact absurd (hw.symm.trans this) (by decide)
  | l0 :: l1 :: more, h =>
    cases q0 : endB "left" l0 with
    | none => have := wr_1 (l1 := l1) (l2 := (more.head?).getD e02) (n := more.length + 2) q0; exact absurd (hw.symm.trans (wr_1 q0)) (by decide)
    | some L =>
      cases q1 : endB "right" l1 with
      | none => exact absurd (hw.symm.trans (wr_2 q0 q1)) (by decide)
      | some R =>
        by_cases hww : (L.isWall && R.isWall) = true
        · exact absurd (hw.symm.trans (wr_w q0 q1 hww)) (by decide)
        · have hnw : ¬(L.isWall = true ∧ R.isWall = true) := fun x => hww (by rw [x.1, x.2]; rfl)
          cases more with
          | nil => exact absurd (hw.symm.trans (wr_3 q0 q1 hww plc_e)) (by decide)
          | cons l2 more =>
            cases q2 : placesB L R l2 with
            | none => exact absurd (hw.symm.trans (wr_3 q0 q1 hww q2)) (by decide)
            | some ps =>
              have hv : wrong02 (l0 :: l1 :: l2 :: more) = if (l0 :: l1 :: l2 :: more).length > 3 then 4 else 0 := wr_4 q0 q1 hww q2
              rw [hw] at hv
              cases more with
              | cons l3 more => rw [if_pos (by simp)] at hv; exact absurd hv (by decide)
              | nil =>
                obtain ⟨e2, hg⟩ := plc_row02 (h.1 l2 (by simp)) q2
                refine ⟨L, R, ps, good_of (end_okP q0) (end_okP q1) hnw hg, ?_⟩
                unfold txtS textS
                simp only [List.map_cons, List.map_nil, end_row02 (h.1 l0 (by simp)) q0, end_row02 (h.1 l1 (by simp)) q1, e2]
theorem bad02 : (Str.ofString "BadWay") ∈ er := by decide +kernel
theorem MemI.app02 {n : Nat} {k : Int} (h : MemI m n k) : MemI (m ++ [.ins "Way" [] []]) n k := by
  obtain ⟨⟨a, b, c, h1, h2, h3, h4, h5, h7⟩, h6⟩ := h
  refine ⟨⟨a, b, c, ?_, h2, h3, h4, h5, h7.app⟩, ?_⟩
  · rw [List.getElem?_append_left (List.getElem?_eq_some_iff.mp h1).1]
    exact h1
  · rw [List.all_append, h6]
    rfl
theorem wr_cases {l0 l1 l2 : List (Str × Option Int)} {n : Nat} : wr02 l0 l1 l2 n = 0 ∨ (1 ≤ wr02 l0 l1 l2 n ∧ wr02 l0 l1 l2 n ≤ 4) := by
  unfold wr02
  split
  · omega
  · split
    · omega
    · split
      · omega
      · split
        · omega
        · split <;> omega
theorem repr02 {i : Int} (h : 1 ≤ i ∧ i ≤ 4) : ∃ z : Str, ∀ m, reprD [.int i] m = .ok (.str z) m := by
  refine ⟨(toPy (.int i)).shown, fun m => repr_ok ?_ (by simp [dep]) ?_⟩
  · simp only [sml, decide_eq_true_eq]; omega
  · simp [wtD]
theorem judged02 {n : Nat} {k : Int} {Q : QP D} {X : XP} (h : Zss zss) (hm : MemI m n k) (q : ∀ m', MemI m' n k → Q (.bl true) m') : wp (m__law_is_judged [.str (txtS zss)] m) Q X := by
  have ht : TB m := by obtain ⟨⟨a, b, c, q1, q2, q3, q4, q5, q7⟩, q6⟩ := hm; exact q7
  have h0 : m[0]? = some (.tab "_law_is_judged") := ht 0 _ rfl
  have hf := fun m => first02 (m := m) h
  have hb := bad02
  by_cases hw : wrong02 zss = 0
  · obtain ⟨L, R, ps, g, e⟩ := way02 h hw
    have hy := way_ok (m := m) g hm.2
    rw [← e] at hy
    rw [hw] at hf
    unfold m__law_is_judged b__law_is_judged
    (simp_arith [h0, hy, hf])
    exact q _ hm
  · have hx := way_exc (m := m) (read02 h hw)
    have hi : 1 ≤ wrong02 zss ∧ wrong02 zss ≤ 4 := wr_cases.resolve_left hw
    obtain ⟨z, hz⟩ := repr02 hi
    unfold m__law_is_judged b__law_is_judged
    (simp_arith [h0, hx, hf, hw, hb, hz])
    exact q _ hm.app02
end
end Gen
end
section
set_option linter.all false
set_option maxRecDepth 100000
set_option maxHeartbeats 4000000
namespace Gen
open PySem MT L2 TL
section
variable {m : Mem} {w s : Str} {v : Option Int} {L R : EndK} {zs : List (Str × Option Int)} {zss : List (List (Str × Option Int))} {n : Nat} {k : Int} {B : Nat} {ss : List Str}
def RowT (B : Nat) (s : Str) : Prop := ∃ zs : List (Str × Option Int), (∀ z ∈ zs, W02 z.1 z.2) ∧ zs ≠ [] ∧ zs.length ≤ B ∧ s = rowS zs
theorem RowT.mono {B C : Nat} (h : RowT B s) (l : B ≤ C) : RowT C s := by
  obtain ⟨zs, h1, h2, h3, h4⟩ := h
  exact ⟨zs, h1, h2, by omega, h4⟩
theorem w02e : W02 "" none := .lit (by simp [lits02])
theorem tl_row : tl (rowS zs) = joinL [32] (zs.map fun z => tl z.1) := by
  unfold rowS
  rw [tl_joinS, tl_sp, List.map_map]
  rfl
theorem tl_emp : tl (Str.ofString "") = [] := by rw [tl_ofString]; rfl
theorem joinL_snoc : ∀ {ps : List (List Nat)}, ps ≠ [] → joinL [32] (ps ++ [[]]) = joinL [32] ps ++ [32]
  | [p], _ => by simp [joinL]
  | p :: q :: r, _ => by
    have ih := joinL_snoc (ps := q :: r) (by simp)
    rw [List.cons_append, List.cons_append]
    simp only [joinL]
    rw [← List.cons_append, ih]
    simp
theorem row_snoc (h : zs ≠ []) : rowS zs ++ Str.ofString " " = rowS (zs ++ e02) := by
  apply tl_inj
  rw [tl_append, tl_row, tl_row, tl_sp, List.map_append]
  show _ = joinL [32] (zs.map (fun z => tl z.1) ++ [tl (Str.ofString "")])
  rw [tl_emp, joinL_snoc (by simpa using h)]
theorem row_cons (h : zs ≠ []) : Str.ofString " " ++ rowS zs = rowS (("", none) :: zs) := by
  apply tl_inj
  rw [tl_append, tl_row, tl_row, tl_sp, List.map_cons]
  show _ = joinL [32] (tl (Str.ofString "") :: zs.map (fun z => tl z.1))
  rw [tl_emp]
  cases zs with
  | nil => exact absurd rfl h
  | cons z r => simp [joinL]
def dbl02 : List (Str × Option Int) → List (Str × Option Int)
  | [] => []
  | [z] => [z]
  | z :: y :: r => z :: ("", none) :: dbl02 (y :: r)
theorem dbl_ne : ∀ {zs : List (Str × Option Int)}, zs ≠ [] → dbl02 zs ≠ []
  | [], h => absurd rfl h
  | [z], _ => by simp [dbl02]
  | z :: y :: r, _ => by simp [dbl02]
theorem dbl_len : ∀ {zs : List (Str × Option Int)}, (dbl02 zs).length ≤ 2 * zs.length
  | [] => by simp [dbl02]
  | [z] => by simp [dbl02]
  | z :: y :: r => by
    have := dbl_len (zs := y :: r)
    simp only [dbl02, List.length_cons] at *
    omega
theorem dbl_mem : ∀ {zs : List (Str × Option Int)}, (∀ z ∈ zs, W02 z.1 z.2) → ∀ z ∈ dbl02 zs, W02 z.1 z.2
  | [], _, z, hz => by simp [dbl02] at hz
  | [a], h, z, hz => h z (by simpa [dbl02] using hz)
  | a :: y :: r, h, z, hz => by
    simp only [dbl02, List.mem_cons] at hz
    rcases hz with rfl | rfl | hz
    · exact h _ (by simp)
    · exact w02e
    · exact dbl_mem (zs := y :: r) (fun z hz => h z (List.mem_cons_of_mem _ hz)) z hz
theorem dbl_join : ∀ {zs : List (Str × Option Int)}, joinL [32] ((dbl02 zs).map fun z => tl z.1) = joinL [32, 32] (zs.map fun z => tl z.1)
  | [] => rfl
  | [z] => rfl
  | z :: y :: r => by
    have ih := dbl_join (zs := y :: r)
    have hn := dbl_ne (zs := y :: r) (by simp)
    simp only [dbl02, List.map_cons] at *
    rw [tl_emp]
    cases hd : dbl02 (y :: r) with
    | nil => exact absurd hd hn
    | cons a l =>
      rw [hd] at ih
      simp only [List.map_cons, joinL] at *
      rw [ih]
      simp
theorem kind1 {x : Str} : ¬ Builtin.Str.strKind x < Builtin.Str.strKind (Str.ofString " ") := by
  have h1 : Builtin.Str.strKind (Str.ofString " ") = 1 := by decide +kernel
  rw [h1]
  unfold Builtin.Str.strKind
  split
  · omega
  · split <;> omega
theorem repl02 {x z : Str} (hx : 1 ≤ x.length) : Txt.replace x " " z = Txt.join z (Txt.split x " ") := by
  have h1 : (Str.ofString " ").length = 1 := by decide +kernel
  unfold Txt.replace Txt.split Txt.join
  have c : (decide (x.length < (Str.ofString " ").length) || decide (Builtin.Str.strKind x < Builtin.Str.strKind (Str.ofString " "))) = false := by
    rw [decide_eq_false (by omega), decide_eq_false kind1]
    rfl
  rw [c]
  cases e : (Builtin.Str.occurrences x (Str.ofString " ") 0 x.length (x.length + 1)).isEmpty with
  | true => rfl
  | false => simp only [h1, Bool.false_or]; rfl
theorem repl_row (h : Zs zs) : RowT (2 * zs.length) (Txt.replace (rowS zs) " " "  ") := by
  by_cases h0 : (rowS zs).length = 0
  · have e : rowS zs = Str.ofString "" := tl_inj (by
      rw [tl_emp]
      have := len_tl (rowS zs)
      rw [h0] at this
      exact List.length_eq_zero_iff.mp this.symm)
    refine ⟨e02, zs_e.1, zs_e.2.1, ?_, ?_⟩
    · have := h.2.1
      cases zs with
      | nil => exact absurd rfl this
      | cons a l => simp only [e02, List.length_cons, List.length_nil]; omega
    · rw [e]; decide +kernel
  · refine ⟨dbl02 zs, dbl_mem h.1, dbl_ne h.2.1, dbl_len, ?_⟩
    rw [repl02 (by omega), (row_facts h).1]
    apply tl_inj
    have t2 : tl (Str.ofString "  ") = [32, 32] := by rw [tl_ofString]; rfl
    rw [tl_row, dbl_join, tl_joinS, t2, List.map_map]
    rfl
theorem strOk_iff02 {x : Str} : PyData.strOk x = true ↔ ∀ c ∈ tl x, PyData.strOk ⟨#[c]⟩ = true := by
  unfold PyData.strOk
  rw [Array.all_eq_true']
  simp [tl]
theorem strOk_join {y : Str} {parts : List Str} (hy : PyData.strOk y = true) (hp : ∀ p ∈ parts, PyData.strOk p = true) : PyData.strOk (Txt.join y parts) = true := by
  rw [strOk_iff02]
  intro c hc
  rw [tl_joinS] at hc
  rcases mem_joinL hc with h | ⟨p, hp', h⟩
  · exact strOk_iff02.mp hy c h
  · obtain ⟨q, hq, rfl⟩ := List.mem_map.mp hp'
    exact strOk_iff02.mp (hp q hq) c h
theorem strOk_row (h : RowT B s) : PyData.strOk s = true := by
  obtain ⟨zs, h1, _, _, rfl⟩ := h
  refine strOk_join (by decide +kernel) fun p hp => ?_
  obtain ⟨z, hz, rfl⟩ := List.mem_map.mp hp
  exact (wd02 (h1 z hz)).2
theorem ne_nil02 (h : ∀ s ∈ ss, RowT B s) : neD (.lst (ss.map .str)) (.lst []) m = .ok (.bl (decide (ss ≠ []))) m := by
  obtain ⟨a1, a2⟩ := dats_strs fun x hx => strOk_row (h x hx)
  unfold neD
  rw [if_pos]
  · cases ss with
    | nil => rfl
    | cons a l => simp [eqB, eqBs]
  · simp [eqOk, datOk, isDat, isDats, dep, deps, a1, a2]
theorem join02 (h : ∀ z ∈ zs, W02 z.1 z.2) (hl : zs.length ≤ 60) : joinD (.str " ") [.lst (zs.map fun z => .str z.1)] m = .ok (.str (rowS zs)) m ∧ RowT (zs.length + 1) (rowS zs) := by
  have h1 : (Str.ofString " ").length = 1 := by decide +kernel
  have hb : ((zs.map (·.1)).map (·.length)).sum ≤ (zs.map (·.1)).length * 25 := by
    have := sum_le (l := (zs.map (·.1)).map (·.length)) (k := 25) fun x hx => by
      obtain ⟨w, hw, rfl⟩ := List.mem_map.mp hx
      obtain ⟨z, hz, rfl⟩ := List.mem_map.mp hw
      exact (wd02 (h z hz)).1.2.2
    simpa using this
  constructor
  · have := e_join (a := " ") (ys := zs.map (·.1)) (m := m) (by rw [h1]; rw [List.length_map] at *; omega)
    rw [List.map_map] at this
    exact this
  · cases zs with
    | nil => exact ⟨e02, zs_e.1, zs_e.2.1, by simp [e02], by decide +kernel⟩
    | cons z l => exact ⟨z :: l, h, by simp, by omega, rfl⟩
theorem ix02 {d : Int} (h0 : 0 ≤ d) (h1 : d < ss.length) : ∃ s ∈ ss, atI (ss.map D.str) d = some (.str s) := by
  obtain ⟨x, hx, e⟩ := at_mem (xs := ss.map D.str) h0 (by rw [List.length_map]; exact h1)
  obtain ⟨s, hs, rfl⟩ := List.mem_map.mp hx
  exact ⟨s, hs, e⟩
theorem cut02 {α : Type} {f : α → D} (l : List α) (lo hi : Option Int) : ∃ l2 : List α, cutD (l.map f) lo hi = l2.map f ∧ (∀ x ∈ l2, x ∈ l) ∧ l2.length ≤ l.length := by
  refine ⟨(l.drop (HT.sIx l.length 0 lo)).take (HT.sIx l.length l.length hi - HT.sIx l.length 0 lo), ?_, fun x h => List.mem_of_mem_drop (List.mem_of_mem_take h), ?_⟩
  · unfold cutD
    rw [List.length_map, List.map_take, List.map_drop]
  · rw [List.length_take, List.length_drop]
    omega
theorem spword_w {at' : Int} (h : MemI m n k) (hk : k < 900000) (hr : ∀ s ∈ ss, RowT B s) (hB : B ≤ 25) (ha : 0 ≤ at' ∧ at' < ss.length) (hl : ss.length ≤ 30) : wp (m__law_spoilt_word [.hnd n, .lst (ss.map .str), .int at'] m) (fun x m' => (∃ ss' : List Str, x = .lst (ss'.map .str) ∧ (∀ s ∈ ss', RowT (2 * B + 2) s) ∧ ss'.length ≤ 2 * ss.length + 1) ∧ MemI m' n (k + 4)) X0 := by
  obtain ⟨s, hs, hix⟩ := ix02 ha.1 ha.2
  obtain ⟨zs, z1, z2, z3, rfl⟩ := hr s hs
  have hsp := fun m => row_split (m := m) (zs := zs) ⟨z1, z2, by omega⟩
  have zl : (1 : Int) ≤ zs.length := by
    cases zs with
    | nil => exact absurd rfl z2
    | cons a l => simp only [List.length_cons]; omega
  have hlm : zs.length ≤ 16777216 := by omega
  have fin : ∀ (zs' : List (Str × Option Int)) (m' : Mem), (∀ z ∈ zs', W02 z.1 z.2) → zs'.length ≤ 2 * zs.length + 1 → joinD (.str " ") [.lst (zs'.map fun z => .str z.1)] m' = .ok (.str (rowS zs')) m' ∧ RowT (2 * B + 2) (rowS zs') := fun zs' m' h1 h2 => by
    obtain ⟨a, b⟩ := join02 (m := m') h1 (by omega)
    exact ⟨a, b.mono (by omega)⟩
  obtain ⟨s1, c1, d1, l1⟩ := cut02 (f := D.str) ss none (some at')
  obtain ⟨s2, c2, d2, l2⟩ := cut02 (f := D.str) ss (some (at' + 1)) none
  have out : ∀ (t : Str) (m' : Mem), RowT (2 * B + 2) t → MemI m' n (k + 4) → (∃ ss' : List Str, D.lst (s1.map .str ++ [.str t] ++ s2.map .str) = .lst (ss'.map .str) ∧ (∀ s ∈ ss', RowT (2 * B + 2) s) ∧ ss'.length ≤ 2 * ss.length + 1) ∧ MemI m' n (k + 4) := fun t m' ht hm => by
    refine ⟨⟨s1 ++ [t] ++ s2, by simp, fun x hx => ?_, by simp only [List.length_append, List.length_cons, List.length_nil]; omega⟩, hm⟩
    rcases List.mem_append.mp hx with hx | hx
    · rcases List.mem_append.mp hx with hx | hx
      · exact (hr x (d1 x hx)).mono (by omega)
      · rw [List.mem_singleton.mp hx]; exact ht
    · exact (hr x (d2 x hx)).mono (by omega)
  have hs1 : s1.length + 1 ≤ 16777216 := by omega
  have hs2 : s1.length + 1 + s2.length ≤ 16777216 := by omega
  unfold m__law_spoilt_word b__law_spoilt_word
  (simp_arith [hix, hsp])
  refine take_w h (by omega) (by omega) fun way m1 w1 w2 h1 => ?_
  (simp_arith [List.length_map, hlm])
  refine take_w h1 (by omega) (by omega) fun spot m2 p1 p2 h2 => ?_
  obtain ⟨t1, e1, f1, g1⟩ := cut02 (f := fun z : Str × Option Int => D.str z.1) zs none (some spot)
  obtain ⟨t2, e2, f2, g2⟩ := cut02 (f := fun z : Str × Option Int => D.str z.1) zs (some (spot + 1)) none
  obtain ⟨t3, e3, f3, g3⟩ := cut02 (f := fun z : Str × Option Int => D.str z.1) zs none (some (spot + 1))
  obtain ⟨t4, e4, f4, g4⟩ := cut02 (f := fun z : Str × Option Int => D.str z.1) zs (some spot) none
  obtain ⟨t5, e5, f5, g5⟩ := cut02 (f := fun z : Str × Option Int => D.str z.1) zs none (some 1)
  obtain ⟨t6, e6, f6, g6⟩ := cut02 (f := fun z : Str × Option Int => D.str z.1) zs (some 1) none
  by_cases q0 : way = 0
  · obtain ⟨j, r⟩ := fin (t1 ++ t2) m2 (fun z hz => by
      rcases List.mem_append.mp hz with hz | hz
      · exact z1 z (f1 z hz)
      · exact z1 z (f2 z hz)) (by rw [List.length_append]; omega)
    rw [List.map_append] at j
    have b1 : t1.length + t2.length ≤ 16777216 := by omega
    (simp_arith [q0, e1, e2, List.length_map, b1, j, c1, c2, hs1, hs2, List.length_append, List.length_cons, List.length_nil])
    exact out _ _ r (h2.mono (by omega))
  by_cases q1 : way = 1
  · obtain ⟨j, r⟩ := fin (t3 ++ t4) m2 (fun z hz => by
      rcases List.mem_append.mp hz with hz | hz
      · exact z1 z (f3 z hz)
      · exact z1 z (f4 z hz)) (by rw [List.length_append]; omega)
    rw [List.map_append] at j
    have b1 : t3.length + t4.length ≤ 16777216 := by omega
    (simp_arith [q1, e3, e4, List.length_map, b1, j, c1, c2, hs1, hs2, List.length_append, List.length_cons, List.length_nil])
    exact out _ _ r (h2.mono (by omega))
  by_cases q2 : way = 2
  · obtain ⟨j, r⟩ := fin (t5 ++ t6.reverse) m2 (fun z hz => by
      rcases List.mem_append.mp hz with hz | hz
      · exact z1 z (f5 z hz)
      · exact z1 z (f6 z (List.mem_reverse.mp hz))) (by rw [List.length_append, List.length_reverse]; omega)
    rw [List.map_append, List.map_reverse] at j
    have b1 : t5.length + t6.length ≤ 16777216 := by omega
    have hrev : revD (.lst (t6.map fun z => D.str z.1)) m2 = .ok (.lst (t6.map fun z => D.str z.1).reverse) m2 := rfl
    (simp_arith [q2, e5, e6, hrev, List.length_reverse, List.length_map, b1, j, c1, c2, hs1, hs2, List.length_append, List.length_cons, List.length_nil])
    exact out _ _ r (h2.mono (by omega))
  · (simp_arith [q0, q1, q2, e1])
    refine wp_mono (wp_of (of_I h2 (by omega) (by simp) (by simp))) ?_
    rintro y m3 ⟨hy, h3⟩
    obtain ⟨yw, yv, rfl, hyw⟩ : ∃ (yw : Str) (yv : Option Int), y = .str yw ∧ W02 yw yv := by
      have lt : ∀ s : Str, s ∈ lits02 → ∃ (yw : Str) (yv : Option Int), D.str s = .str yw ∧ W02 yw yv := fun s hs => ⟨s, none, rfl, .lit hs⟩
      have nm : ∀ i : Int, i.natAbs < 10 ^ 20 → ∃ (yw : Str) (yv : Option Int), D.str (numS i) = .str yw ∧ W02 yw yv := fun i hi => ⟨numS i, some i, rfl, .num hi⟩
      simp only [List.mem_cons, List.not_mem_nil, or_false] at hy
      rcases hy with rfl | rfl | rfl | rfl | rfl | rfl | rfl | rfl | rfl | rfl | rfl | rfl | rfl | rfl | rfl
      · exact lt _ (by simp [lits02])
      · exact lt _ (by simp [lits02])
      · exact lt _ (by simp [lits02])
      · exact lt _ (by simp [lits02])
      · exact lt _ (by simp [lits02])
      · exact lt _ (by simp [lits02])
      · rw [show (Str.ofString "0") = numS 0 from by decide +kernel]; exact nm 0 (by decide)
      · exact lt _ (by simp [lits02])
      · exact lt _ (by simp [lits02])
      · exact lt _ (by simp [lits02])
      · rw [show (Str.ofString "3") = numS 3 from by decide +kernel]; exact nm 3 (by decide)
      · rw [show (Str.ofString "-7") = numS (-7) from by decide +kernel]; exact nm (-7) (by decide)
      · exact lt _ (by simp [lits02])
      · exact lt _ (by simp [lits02])
      · rw [show (Str.ofString "200") = numS 200 from by decide +kernel]; exact nm 200 (by decide)
    have hwz : ∀ t : List (Str × Option Int), (∀ x ∈ t, x ∈ zs) → ∀ z ∈ t1 ++ [(yw, yv)] ++ t, W02 z.1 z.2 := fun t ht z hz => by
      rcases List.mem_append.mp hz with hz | hz
      · rcases List.mem_append.mp hz with hz | hz
        · exact z1 z (f1 z hz)
        · rw [List.mem_singleton.mp hz]; exact hyw
      · exact z1 z (ht z hz)
    by_cases q5 : way < 5
    · obtain ⟨j, r⟩ := fin (t1 ++ [(yw, yv)] ++ t2) m3 (hwz t2 f2) (by simp only [List.length_append, List.length_cons, List.length_nil]; omega)
      rw [List.map_append, List.map_append, List.map_cons, List.map_nil] at j
      have b1 : t1.length + 1 ≤ 16777216 := by omega
      have b2 : t1.length + 1 + t2.length ≤ 16777216 := by omega
      (simp_arith [q5, e2, List.length_map, b1, b2, j, c1, c2, hs1, hs2, List.length_append, List.length_cons, List.length_nil])
      exact out _ _ r (h3.mono (by omega))
    · obtain ⟨j, r⟩ := fin (t1 ++ [(yw, yv)] ++ t4) m3 (hwz t4 f4) (by simp only [List.length_append, List.length_cons, List.length_nil]; omega)
      rw [List.map_append, List.map_append, List.map_cons, List.map_nil] at j
      have b1 : t1.length + 1 ≤ 16777216 := by omega
      have b2 : t1.length + 1 + t4.length ≤ 16777216 := by omega
      (simp_arith [q5, e4, List.length_map, b1, b2, j, c1, c2, hs1, hs2, List.length_append, List.length_cons, List.length_nil, Int.add_zero])
      exact out _ _ r (h3.mono (by omega))
end
end Gen
end
section
set_option linter.all false
set_option maxRecDepth 100000
set_option maxHeartbeats 4000000
namespace Gen
open PySem MT L2 TL
section
variable {m : Mem} {w s : Str} {v : Option Int} {L R : EndK} {zs : List (Str × Option Int)} {zss : List (List (Str × Option Int))} {n : Nat} {k : Int} {B : Nat} {ss : List Str} {ps : List Int}
theorem spoilt_w (h : MemI m n k) (hk : k < 800000) (hr : ∀ s ∈ ss, RowT B s) (hB : 2 ≤ B ∧ B ≤ 25) (hl : 1 ≤ ss.length ∧ ss.length ≤ 30) : wp (m__law_spoilt [.hnd n, .lst (ss.map .str)] m) (fun x m' => (∃ ss' : List Str, x = .lst (ss'.map .str) ∧ (∀ s ∈ ss', RowT (2 * B + 2) s) ∧ ss'.length ≤ 2 * ss.length + 1) ∧ MemI m' n (k + 6)) X0 := by
  have hlm : ss.length ≤ 16777216 := by omega
  have lp : (1 : Int) ≤ ss.length := by omega
  unfold m__law_spoilt b__law_spoilt
  (simp_arith [List.length_map, hlm])
  refine take_w h (by omega) (by omega) fun a m1 a1 a2 h1 => ?_
  (simp_arith [])
  refine take_w h1 (by omega) (by omega) fun way m2 p1 p2 h2 => ?_
  obtain ⟨s, hs, hix⟩ := ix02 (ss := ss) a1 a2
  obtain ⟨s1, c1, d1, l1⟩ := cut02 (f := D.str) ss none (some a)
  obtain ⟨s2, c2, d2, l2⟩ := cut02 (f := D.str) ss (some (a + 1)) none
  obtain ⟨s3, c3, d3, l3⟩ := cut02 (f := D.str) ss none (some (a + 1))
  obtain ⟨s4, c4, d4, l4⟩ := cut02 (f := D.str) ss (some a) none
  have out : ∀ (t : List Str) (m' : Mem), (∀ s ∈ t, RowT (2 * B + 2) s) → t.length ≤ 2 * ss.length + 1 → MemI m' n (k + 6) → (∃ ss' : List Str, D.lst (t.map .str) = .lst (ss'.map .str) ∧ (∀ s ∈ ss', RowT (2 * B + 2) s) ∧ ss'.length ≤ 2 * ss.length + 1) ∧ MemI m' n (k + 6) := fun t m' h1 h2 h3 => ⟨⟨t, rfl, h1, h2⟩, h3⟩
  have two : ∀ (t u : List Str), (∀ x ∈ t, x ∈ ss) → (∀ x ∈ u, x ∈ ss) → ∀ x ∈ t ++ u, RowT (2 * B + 2) x := fun t u ht hu x hx => by
    rcases List.mem_append.mp hx with hx | hx
    · exact (hr x (ht x hx)).mono (by omega)
    · exact (hr x (hu x hx)).mono (by omega)
  have three : ∀ (t u : List Str) (y : Str), RowT (2 * B + 2) y → (∀ x ∈ t, x ∈ ss) → (∀ x ∈ u, x ∈ ss) → ∀ x ∈ t ++ [y] ++ u, RowT (2 * B + 2) x := fun t u y hy ht hu x hx => by
    rcases List.mem_append.mp hx with hx | hx
    · rcases List.mem_append.mp hx with hx | hx
      · exact (hr x (ht x hx)).mono (by omega)
      · rw [List.mem_singleton.mp hx]; exact hy
    · exact (hr x (hu x hx)).mono (by omega)
  by_cases q0 : way = 0
  · have b1 : s1.length + s2.length ≤ 16777216 := by omega
    (simp_arith [q0, c1, c2, List.length_map, b1])
    rw [← List.map_append]
    exact out _ _ (two s1 s2 d1 d2) (by rw [List.length_append]; omega) (h2.mono (by omega))
  by_cases q1 : way = 1
  · have b1 : s3.length + s4.length ≤ 16777216 := by omega
    (simp_arith [q1, c3, c4, List.length_map, b1])
    rw [← List.map_append]
    exact out _ _ (two s3 s4 d3 d4) (by rw [List.length_append]; omega) (h2.mono (by omega))
  by_cases q2 : way = 2
  · have hrev : revD (.lst (ss.map D.str)) m2 = .ok (.lst (ss.reverse.map D.str)) m2 := by rw [List.map_reverse]; rfl
    (simp_arith [q2, hrev])
    exact out _ _ (fun x hx => (hr x (List.mem_reverse.mp hx)).mono (by omega)) (by rw [List.length_reverse]; omega) (h2.mono (by omega))
  obtain ⟨zs, z1, z2, z3, hsz⟩ := hr s hs
  have hz : Zs zs := ⟨z1, z2, by omega⟩
  have hsl : s.length ≤ 3000 := by rw [hsz]; exact (row_facts hz).2.2
  have hs1 : s1.length + 1 ≤ 16777216 := by omega
  have hs2 : s1.length + 1 + s2.length ≤ 16777216 := by omega
  have hs4 : s1.length + 1 + s4.length ≤ 16777216 := by omega
  have hsp : (Str.ofString " ").length = 1 := by decide +kernel
  by_cases q3 : way = 3
  · have e1 : s.length + (Str.ofString " ").length ≤ 16777216 := by omega
    have e2 : (Str.ofString " ").length + s.length ≤ 16777216 := by omega
    have f1 := w_addS (m := m2) e1
    have f2 := w_addS (m := m2) e2
    (simp_arith [q3, hix, f1, f2])
    refine wp_mono (wp_of (of_I h2 (by omega) (by simp) (by simp))) ?_
    rintro y m3 ⟨hy, h3⟩
    obtain ⟨t, rfl, ht⟩ : ∃ t : Str, y = .str t ∧ RowT (2 * B + 2) t := by
      have lt : ∀ (s : Str), s ∈ lits02 → W02 s none := fun s hs => .lit hs
      have one : ∀ (t : Str) (us : List (Str × Option Int)), (∀ z ∈ us, W02 z.1 z.2) → us ≠ [] → us.length ≤ 2 * B + 2 → t = rowS us → ∃ t' : Str, D.str t = .str t' ∧ RowT (2 * B + 2) t' := fun t us u1 u2 u3 u4 => ⟨t, rfl, us, u1, u2, u3, u4⟩
      simp only [List.mem_cons, List.not_mem_nil, or_false] at hy
      rcases hy with rfl | rfl | rfl | rfl | rfl | rfl | rfl
      · exact one _ e02 zs_e.1 zs_e.2.1 (by simp [e02]) (by decide +kernel)
      · refine one _ [("left", none), ("free", none)] (fun z hz => ?_) (by simp) (by simp) (by decide +kernel)
        simp only [List.mem_cons, List.not_mem_nil, or_false] at hz
        rcases hz with rfl | rfl <;> exact lt _ (by simp [lits02])
      · refine one _ [("right", none), ("free", none)] (fun z hz => ?_) (by simp) (by simp) (by decide +kernel)
        simp only [List.mem_cons, List.not_mem_nil, or_false] at hz
        rcases hz with rfl | rfl <;> exact lt _ (by simp [lits02])
      · refine one _ [("at", none), (numS 0, some 0)] (fun z hz => ?_) (by simp) (by simp) (by decide +kernel)
        simp only [List.mem_cons, List.not_mem_nil, or_false] at hz
        rcases hz with rfl | rfl
        · exact lt _ (by simp [lits02])
        · exact .num (by decide)
      · refine one _ (zs ++ e02) (fun z hz => ?_) (by simp [e02]) (by simp only [e02, List.length_append, List.length_cons, List.length_nil]; omega) (by rw [hsz]; exact row_snoc z2)
        rcases List.mem_append.mp hz with hz | hz
        · exact z1 z hz
        · exact zs_e.1 z hz
      · refine one _ (("", none) :: zs) (fun z hz => ?_) (by simp) (by simp only [List.length_cons]; omega) (by rw [hsz]; exact row_cons z2)
        rcases List.mem_cons.mp hz with rfl | hz
        · exact w02e
        · exact z1 z hz
      · refine one _ [("right", none), ("wall", none), (numS 60, some 60)] (fun z hz => ?_) (by simp) (by simp; omega) (by decide +kernel)
        simp only [List.mem_cons, List.not_mem_nil, or_false] at hz
        rcases hz with rfl | rfl | rfl
        · exact lt _ (by simp [lits02])
        · exact lt _ (by simp [lits02])
        · exact .num (by decide)
    (simp_arith [c1, c4, List.length_map, hs1, hs4, List.length_append, List.length_cons, List.length_nil])
    have e : s1.map D.str ++ [.str t] ++ s4.map D.str = (s1 ++ [t] ++ s4).map D.str := by simp
    rw [e]
    exact out _ _ (three s1 s4 t ht d1 d4) (by simp only [List.length_append, List.length_cons, List.length_nil]; omega) (h3.mono (by omega))
  by_cases q4 : way = 4
  · have ht : RowT (2 * B + 2) (Txt.replace s " " "  ") := by rw [hsz]; exact (repl_row hz).mono (by omega)
    have h2l : (Str.ofString "  ").length = 2 := by decide +kernel
    have hrp : replD " " "  " (.str s) m2 = .ok (.str (Txt.replace s " " "  ")) m2 := by
      simp only [replD, h2l]
      rw [if_pos (by omega)]
    (simp_arith [q4, hix, hrp, c1, c2, List.length_map, hs1, hs2, List.length_append, List.length_cons, List.length_nil])
    have e : s1.map D.str ++ [.str (Txt.replace s " " "  ")] ++ s2.map D.str = (s1 ++ [Txt.replace s " " "  "] ++ s2).map D.str := by simp
    rw [e]
    exact out _ _ (three s1 s2 _ ht d1 d2) (by simp only [List.length_append, List.length_cons, List.length_nil]; omega) (h2.mono (by omega))
  · (simp_arith [q0, q1, q2, q3, q4])
    refine wp_mono (spword_w h2 (by omega) hr hB.2 ⟨a1, a2⟩ hl.2) ?_
    rintro x m3 ⟨hx, h3⟩
    exact ⟨hx, h3.mono (by omega)⟩
theorem lines02 (g : GoodW L R ps) : m__law_lines [loreD L R ps] m = .ok (.lst [.str (lineS "left" L), .str (lineS "right" R), .str (atS ps)]) m := by
  obtain ⟨h1, h2, h3, h4⟩ := line_at g.ok g.len
  have hlen := g.len
  have hl := line_ok (w := "left") (e := L) (m := m) (.inl rfl) fun p hp => (g.lok p hp).1
  have hr := line_ok (w := "right") (e := R) (m := m) (.inr rfl) fun p hp => (g.rok p hp).1
  have l1 := (line_end (w := "left") (fun p hp => (g.lok p hp).1) (wd_lit (by decide))).2.2.1
  have l2 := (line_end (w := "right") (fun p hp => (g.rok p hp).1) (wd_lit (by decide))).2.2.1
  have hj : joinD (.str " ") [.lst ([.str "at"] ++ (ps.map numS).map .str)] m = .ok (.str (atS ps)) m := e_join (ys := (Str.ofString "at") :: ps.map numS) (by omega)
  have hc : compF (seqI (bind2 (vW 0) (kC (.str "at")) dgetD)) (tgN 2) kT (bind1 (aCons (vW 2) aNil) strD) [2] (enOf 3 [.dct [.inr "left", .inr "right", .inr "at"] [L.d, R.d, .lst (ps.map .int)]]) m = .ok ((ps.map numS).map .str) m := by
    apply e_comp
    · apply e_seqL
      repeat' (first
    | with_reducible exact okr
    | with_reducible exact retr
    | with_reducible exact e_kC
    | with_reducible exact e_aNil
    | with_reducible exact e_nil
    | with_reducible exact e_evN
    | with_reducible exact e_oN
    | with_reducible exact n_t
    | with_reducible exact n_f
    | with_reducible exact sq_r
    | with_reducible apply pk_t
    | with_reducible apply pk_f
    | with_reducible apply sq_n
    | ((with_reducible apply e_vF); rfl)
    | ((with_reducible apply e_vW); rfl)
    | ((with_reducible apply e_vWo); rfl)
    | ((with_reducible apply e_vWd); rfl)
    | with_reducible apply e_b1
    | with_reducible apply e_b2
    | with_reducible apply e_b3
    | with_reducible apply e_aCons
    | with_reducible apply e_evC
    | with_reducible apply e_mkD2
    | with_reducible apply e_toB
    | with_reducible apply e_ofB
    | with_reducible apply e_not
    | with_reducible apply e_notv
    | with_reducible apply e_and
    | with_reducible apply e_or
    | with_reducible apply e_if
    | with_reducible apply e_andv
    | with_reducible apply e_orv
    | with_reducible apply e_chn
    | with_reducible apply e_bnd
    | with_reducible apply e_oS
    | with_reducible apply e_strO
    | with_reducible apply e_ofL
    | with_reducible apply e_mkL
    | with_reducible apply e_mkT
    | with_reducible exact e_add
    | with_reducible exact e_sub
    | with_reducible exact e_neg
    | with_reducible exact e_abs
    | with_reducible exact e_intI
    | with_reducible exact e_intT
    | with_reducible exact e_intF
    | with_reducible exact e_intB
    | with_reducible exact e_max
    | with_reducible exact e_min
    | with_reducible exact e_lenL
    | with_reducible exact e_lenT
    | with_reducible exact e_slen
    | with_reducible exact e_tupL
    | with_reducible exact e_slL
    | with_reducible exact e_slT
    | with_reducible exact e_rev
    | with_reducible exact e_isT
    | with_reducible exact e_isntF
    | with_reducible exact e_strS
    | with_reducible exact e_ix0L
    | with_reducible exact e_ix0T
    | ((with_reducible apply e_isF); rfl)
    | ((with_reducible apply e_isntT); rfl)
    | ((with_reducible apply e_ltT); (first | assumption | omega | (simp only [List.length_cons, List.length_nil, List.length_map]; omega)))
    | ((with_reducible apply e_ltF); (first | assumption | omega | (simp only [List.length_cons, List.length_nil, List.length_map]; omega)))
    | ((with_reducible apply e_leT); (first | assumption | omega | (simp only [List.length_cons, List.length_nil, List.length_map]; omega)))
    | ((with_reducible apply e_leF); (first | assumption | omega | (simp only [List.length_cons, List.length_nil, List.length_map]; omega)))
    | ((with_reducible apply e_gtT); (first | assumption | omega | (simp only [List.length_cons, List.length_nil, List.length_map]; omega)))
    | ((with_reducible apply e_gtF); (first | assumption | omega | (simp only [List.length_cons, List.length_nil, List.length_map]; omega)))
    | ((with_reducible apply e_geT); (first | assumption | omega | (simp only [List.length_cons, List.length_nil, List.length_map]; omega)))
    | ((with_reducible apply e_geF); (first | assumption | omega | (simp only [List.length_cons, List.length_nil, List.length_map]; omega)))
    | ((with_reducible apply e_eqIT); (first | assumption | omega | (simp only [List.length_cons, List.length_nil, List.length_map]; omega)))
    | ((with_reducible apply e_eqIF); (first | assumption | omega | (simp only [List.length_cons, List.length_nil, List.length_map]; omega)))
    | ((with_reducible apply e_neIT); (first | assumption | omega | (simp only [List.length_cons, List.length_nil, List.length_map]; omega)))
    | ((with_reducible apply e_neIF); (first | assumption | omega | (simp only [List.length_cons, List.length_nil, List.length_map]; omega)))
    | ((with_reducible apply e_eqST); (first | rfl | assumption | decide | decide +kernel))
    | ((with_reducible apply e_eqSF); (first | rfl | assumption | decide | decide +kernel))
    | ((with_reducible apply e_neST); (first | rfl | assumption | decide | decide +kernel))
    | ((with_reducible apply e_neSF); (first | rfl | assumption | decide | decide +kernel))
    | ((with_reducible apply e_mod); (first | assumption | omega | (simp only [List.length_cons, List.length_nil, List.length_map]; omega)))
    | ((with_reducible apply e_fdiv); (first | assumption | omega | (simp only [List.length_cons, List.length_nil, List.length_map]; omega)))
    | ((with_reducible apply e_mul); (first | assumption | omega | (simp only [List.length_cons, List.length_nil, List.length_map]; omega)))
    | ((with_reducible apply e_pixS); rfl)
    | ((with_reducible apply e_ixL); rfl)
    | ((with_reducible apply e_ixT); rfl)
    | ((with_reducible apply e_dget); rfl)
    | (rw [sizeLine_eq]; simp only [List.length_cons, List.length_nil]; omega)
    | ((show List.map _ _ = (_ : List L2.Key)); rfl)
    | with_reducible apply e_asg
    | with_reducible apply e_ret
    | with_reducible apply e_exp
    | with_reducible apply e_par
    | with_reducible apply e_par3
    | with_reducible apply e_retPot
    | with_reducible apply e_sif
    | with_reducible apply e_sq)
    · rw [sizeLine_eq]; simp; omega
    · rw [← strOf_nums]
      refine (comp_map (g := strOf) fun d hd' => ?_).trans (by rw [List.nil_append])
      obtain ⟨p, hp, rfl⟩ := List.mem_map.mp hd'
      have hp2 := (g.ok p hp).2
      refine ⟨_, rfl, ?_⟩
      have hst : strD [.int p] m = .ok (strOf (.int p)) m := e_strI (by omega)
      repeat' (first
    | with_reducible exact hst
    | with_reducible exact okr
    | with_reducible exact retr
    | with_reducible exact e_kC
    | with_reducible exact e_aNil
    | with_reducible exact e_nil
    | with_reducible exact e_evN
    | with_reducible exact e_oN
    | with_reducible exact n_t
    | with_reducible exact n_f
    | with_reducible exact sq_r
    | with_reducible apply pk_t
    | with_reducible apply pk_f
    | with_reducible apply sq_n
    | ((with_reducible apply e_vF); rfl)
    | ((with_reducible apply e_vW); rfl)
    | ((with_reducible apply e_vWo); rfl)
    | ((with_reducible apply e_vWd); rfl)
    | with_reducible apply e_b1
    | with_reducible apply e_b2
    | with_reducible apply e_b3
    | with_reducible apply e_aCons
    | with_reducible apply e_evC
    | with_reducible apply e_mkD2
    | with_reducible apply e_toB
    | with_reducible apply e_ofB
    | with_reducible apply e_not
    | with_reducible apply e_notv
    | with_reducible apply e_and
    | with_reducible apply e_or
    | with_reducible apply e_if
    | with_reducible apply e_andv
    | with_reducible apply e_orv
    | with_reducible apply e_chn
    | with_reducible apply e_bnd
    | with_reducible apply e_oS
    | with_reducible apply e_strO
    | with_reducible apply e_ofL
    | with_reducible apply e_mkL
    | with_reducible apply e_mkT
    | with_reducible exact e_add
    | with_reducible exact e_sub
    | with_reducible exact e_neg
    | with_reducible exact e_abs
    | with_reducible exact e_intI
    | with_reducible exact e_intT
    | with_reducible exact e_intF
    | with_reducible exact e_intB
    | with_reducible exact e_max
    | with_reducible exact e_min
    | with_reducible exact e_lenL
    | with_reducible exact e_lenT
    | with_reducible exact e_slen
    | with_reducible exact e_tupL
    | with_reducible exact e_slL
    | with_reducible exact e_slT
    | with_reducible exact e_rev
    | with_reducible exact e_isT
    | with_reducible exact e_isntF
    | with_reducible exact e_strS
    | with_reducible exact e_ix0L
    | with_reducible exact e_ix0T
    | ((with_reducible apply e_isF); rfl)
    | ((with_reducible apply e_isntT); rfl)
    | ((with_reducible apply e_ltT); (first | assumption | omega | (simp only [List.length_cons, List.length_nil, List.length_map]; omega)))
    | ((with_reducible apply e_ltF); (first | assumption | omega | (simp only [List.length_cons, List.length_nil, List.length_map]; omega)))
    | ((with_reducible apply e_leT); (first | assumption | omega | (simp only [List.length_cons, List.length_nil, List.length_map]; omega)))
    | ((with_reducible apply e_leF); (first | assumption | omega | (simp only [List.length_cons, List.length_nil, List.length_map]; omega)))
    | ((with_reducible apply e_gtT); (first | assumption | omega | (simp only [List.length_cons, List.length_nil, List.length_map]; omega)))
    | ((with_reducible apply e_gtF); (first | assumption | omega | (simp only [List.length_cons, List.length_nil, List.length_map]; omega)))
    | ((with_reducible apply e_geT); (first | assumption | omega | (simp only [List.length_cons, List.length_nil, List.length_map]; omega)))
    | ((with_reducible apply e_geF); (first | assumption | omega | (simp only [List.length_cons, List.length_nil, List.length_map]; omega)))
    | ((with_reducible apply e_eqIT); (first | assumption | omega | (simp only [List.length_cons, List.length_nil, List.length_map]; omega)))
    | ((with_reducible apply e_eqIF); (first | assumption | omega | (simp only [List.length_cons, List.length_nil, List.length_map]; omega)))
    | ((with_reducible apply e_neIT); (first | assumption | omega | (simp only [List.length_cons, List.length_nil, List.length_map]; omega)))
    | ((with_reducible apply e_neIF); (first | assumption | omega | (simp only [List.length_cons, List.length_nil, List.length_map]; omega)))
    | ((with_reducible apply e_eqST); (first | rfl | assumption | decide | decide +kernel))
    | ((with_reducible apply e_eqSF); (first | rfl | assumption | decide | decide +kernel))
    | ((with_reducible apply e_neST); (first | rfl | assumption | decide | decide +kernel))
    | ((with_reducible apply e_neSF); (first | rfl | assumption | decide | decide +kernel))
    | ((with_reducible apply e_mod); (first | assumption | omega | (simp only [List.length_cons, List.length_nil, List.length_map]; omega)))
    | ((with_reducible apply e_fdiv); (first | assumption | omega | (simp only [List.length_cons, List.length_nil, List.length_map]; omega)))
    | ((with_reducible apply e_mul); (first | assumption | omega | (simp only [List.length_cons, List.length_nil, List.length_map]; omega)))
    | ((with_reducible apply e_pixS); rfl)
    | ((with_reducible apply e_ixL); rfl)
    | ((with_reducible apply e_ixT); rfl)
    | ((with_reducible apply e_dget); rfl)
    | (rw [sizeLine_eq]; simp only [List.length_cons, List.length_nil]; omega)
    | ((show List.map _ _ = (_ : List L2.Key)); rfl)
    | with_reducible apply e_asg
    | with_reducible apply e_ret
    | with_reducible apply e_exp
    | with_reducible apply e_par
    | with_reducible apply e_par3
    | with_reducible apply e_retPot
    | with_reducible apply e_sif
    | with_reducible apply e_sq)
  unfold loreD
  apply e_run rfl
  unfold b__law_lines
  repeat' (first
    | with_reducible exact hc
    | with_reducible exact hj
    | with_reducible exact hl
    | with_reducible exact hr
    | ((with_reducible apply e_addL); (rw [sizeLine_eq]; simp; omega))
    | with_reducible exact okr
    | with_reducible exact retr
    | with_reducible exact e_kC
    | with_reducible exact e_aNil
    | with_reducible exact e_nil
    | with_reducible exact e_evN
    | with_reducible exact e_oN
    | with_reducible exact n_t
    | with_reducible exact n_f
    | with_reducible exact sq_r
    | with_reducible apply pk_t
    | with_reducible apply pk_f
    | with_reducible apply sq_n
    | ((with_reducible apply e_vF); rfl)
    | ((with_reducible apply e_vW); rfl)
    | ((with_reducible apply e_vWo); rfl)
    | ((with_reducible apply e_vWd); rfl)
    | with_reducible apply e_b1
    | with_reducible apply e_b2
    | with_reducible apply e_b3
    | with_reducible apply e_aCons
    | with_reducible apply e_evC
    | with_reducible apply e_mkD2
    | with_reducible apply e_toB
    | with_reducible apply e_ofB
    | with_reducible apply e_not
    | with_reducible apply e_notv
    | with_reducible apply e_and
    | with_reducible apply e_or
    | with_reducible apply e_if
    | with_reducible apply e_andv
    | with_reducible apply e_orv
    | with_reducible apply e_chn
    | with_reducible apply e_bnd
    | with_reducible apply e_oS
    | with_reducible apply e_strO
    | with_reducible apply e_ofL
    | with_reducible apply e_mkL
    | with_reducible apply e_mkT
    | with_reducible exact e_add
    | with_reducible exact e_sub
    | with_reducible exact e_neg
    | with_reducible exact e_abs
    | with_reducible exact e_intI
    | with_reducible exact e_intT
    | with_reducible exact e_intF
    | with_reducible exact e_intB
    | with_reducible exact e_max
    | with_reducible exact e_min
    | with_reducible exact e_lenL
    | with_reducible exact e_lenT
    | with_reducible exact e_slen
    | with_reducible exact e_tupL
    | with_reducible exact e_slL
    | with_reducible exact e_slT
    | with_reducible exact e_rev
    | with_reducible exact e_isT
    | with_reducible exact e_isntF
    | with_reducible exact e_strS
    | with_reducible exact e_ix0L
    | with_reducible exact e_ix0T
    | ((with_reducible apply e_isF); rfl)
    | ((with_reducible apply e_isntT); rfl)
    | ((with_reducible apply e_ltT); (first | assumption | omega | (simp only [List.length_cons, List.length_nil, List.length_map]; omega)))
    | ((with_reducible apply e_ltF); (first | assumption | omega | (simp only [List.length_cons, List.length_nil, List.length_map]; omega)))
    | ((with_reducible apply e_leT); (first | assumption | omega | (simp only [List.length_cons, List.length_nil, List.length_map]; omega)))
    | ((with_reducible apply e_leF); (first | assumption | omega | (simp only [List.length_cons, List.length_nil, List.length_map]; omega)))
    | ((with_reducible apply e_gtT); (first | assumption | omega | (simp only [List.length_cons, List.length_nil, List.length_map]; omega)))
    | ((with_reducible apply e_gtF); (first | assumption | omega | (simp only [List.length_cons, List.length_nil, List.length_map]; omega)))
    | ((with_reducible apply e_geT); (first | assumption | omega | (simp only [List.length_cons, List.length_nil, List.length_map]; omega)))
    | ((with_reducible apply e_geF); (first | assumption | omega | (simp only [List.length_cons, List.length_nil, List.length_map]; omega)))
    | ((with_reducible apply e_eqIT); (first | assumption | omega | (simp only [List.length_cons, List.length_nil, List.length_map]; omega)))
    | ((with_reducible apply e_eqIF); (first | assumption | omega | (simp only [List.length_cons, List.length_nil, List.length_map]; omega)))
    | ((with_reducible apply e_neIT); (first | assumption | omega | (simp only [List.length_cons, List.length_nil, List.length_map]; omega)))
    | ((with_reducible apply e_neIF); (first | assumption | omega | (simp only [List.length_cons, List.length_nil, List.length_map]; omega)))
    | ((with_reducible apply e_eqST); (first | rfl | assumption | decide | decide +kernel))
    | ((with_reducible apply e_eqSF); (first | rfl | assumption | decide | decide +kernel))
    | ((with_reducible apply e_neST); (first | rfl | assumption | decide | decide +kernel))
    | ((with_reducible apply e_neSF); (first | rfl | assumption | decide | decide +kernel))
    | ((with_reducible apply e_mod); (first | assumption | omega | (simp only [List.length_cons, List.length_nil, List.length_map]; omega)))
    | ((with_reducible apply e_fdiv); (first | assumption | omega | (simp only [List.length_cons, List.length_nil, List.length_map]; omega)))
    | ((with_reducible apply e_mul); (first | assumption | omega | (simp only [List.length_cons, List.length_nil, List.length_map]; omega)))
    | ((with_reducible apply e_pixS); rfl)
    | ((with_reducible apply e_ixL); rfl)
    | ((with_reducible apply e_ixT); rfl)
    | ((with_reducible apply e_dget); rfl)
    | (rw [sizeLine_eq]; simp only [List.length_cons, List.length_nil]; omega)
    | ((show List.map _ _ = (_ : List L2.Key)); rfl)
    | with_reducible apply e_asg
    | with_reducible apply e_ret
    | with_reducible apply e_exp
    | with_reducible apply e_par
    | with_reducible apply e_par3
    | with_reducible apply e_retPot
    | with_reducible apply e_sif
    | with_reducible apply e_sq)
theorem rowT_end {w : Str} {E : EndK} (hw : w = "left" ∨ w = "right") (h : ∀ e, E.at = some e → okP e) : RowT 6 (lineS w E) := by
  have lt : ∀ (s : Str), s ∈ lits02 → W02 s none := fun s hs => .lit hs
  have hwl : W02 w none := by rcases hw with rfl | rfl <;> exact lt _ (by simp [lits02])
  have nm : ∀ e, E.at = some e → W02 (numS e) (some e) := fun e he => .num (h e he).nat
  cases E with
  | free =>
    refine ⟨[(w, none), ("free", none)], fun z hz => ?_, by simp, by simp, rfl⟩
    simp only [List.mem_cons, List.not_mem_nil, or_false] at hz
    rcases hz with rfl | rfl
    · exact hwl
    · exact lt _ (by simp [lits02])
  | off e =>
    refine ⟨[(w, none), ("off", none), (numS e, some e)], fun z hz => ?_, by simp, by simp, rfl⟩
    simp only [List.mem_cons, List.not_mem_nil, or_false] at hz
    rcases hz with rfl | rfl | rfl
    · exact hwl
    · exact lt _ (by simp [lits02])
    · exact nm e rfl
  | wall e =>
    refine ⟨[(w, none), ("wall", none), (numS e, some e)], fun z hz => ?_, by simp, by simp, rfl⟩
    simp only [List.mem_cons, List.not_mem_nil, or_false] at hz
    rcases hz with rfl | rfl | rfl
    · exact hwl
    · exact lt _ (by simp [lits02])
    · exact nm e rfl
theorem rowT_at (h : ∀ p ∈ ps, okP p) (hl : ps.length ≤ 5) : RowT 6 (atS ps) := by
  refine ⟨("at", none) :: ps.map fun p => (numS p, some p), fun z hz => ?_, by simp, by simp; omega, ?_⟩
  · rcases List.mem_cons.mp hz with rfl | hz
    · exact .lit (by simp [lits02])
    · obtain ⟨p, hp, rfl⟩ := List.mem_map.mp hz
      exact .num (h p hp).nat
  · unfold atS rowS
    rw [List.map_cons, List.map_map]
    rfl
theorem txtT (h : ∀ s ∈ ss, RowT 60 s) (hl : ss.length ≤ 40) : ∃ zss, Zss zss ∧ ∀ m, joinD (.str "\n") [.lst (ss.map .str)] m = .ok (.str (txtS zss)) m := by
  obtain ⟨zss, h1, h2⟩ : ∃ zss : List (List (Str × Option Int)), ss = zss.map rowS ∧ ∀ zs ∈ zss, Zs zs := by
    clear hl
    induction ss with
    | nil => exact ⟨[], rfl, fun _ h => by cases h⟩
    | cons s ss ih =>
      obtain ⟨zss, e, h2⟩ := ih fun x hx => h x (List.mem_cons_of_mem _ hx)
      obtain ⟨zs, z1, z2, z3, rfl⟩ := h s (by simp)
      refine ⟨zs :: zss, by rw [e]; rfl, fun z hz => ?_⟩
      rcases List.mem_cons.mp hz with rfl | hz
      · exact ⟨z1, z2, z3⟩
      · exact h2 z hz
  cases zss with
  | nil =>
    refine ⟨[e02], ⟨fun z hz => by rw [List.mem_singleton.mp hz]; exact zs_e, by simp, by simp⟩, fun m => ?_⟩
    rw [h1]
    have := e_join (a := "\n") (ys := []) (m := m) (by simp)
    rw [show txtS [e02] = Txt.join "\n" [] from by decide +kernel]
    exact this
  | cons z zss =>
    have hz : Zss (z :: zss) := ⟨h2, by simp, by rw [h1, List.length_map] at hl; exact hl⟩
    refine ⟨z :: zss, hz, fun m => ?_⟩
    rw [h1, List.map_map]
    exact (txt_split hz).2
end
end Gen
end
section
set_option linter.all false
set_option maxRecDepth 100000
set_option maxHeartbeats 4000000
namespace Gen
open PySem MT L2 TL
section
variable {m : Mem} {w s : Str} {v : D} {L R : EndK} {zs : List (Str × Option Int)} {zss : List (List (Str × Option Int))} {n : Nat} {k : Int} {B : Nat} {ss : List Str} {ps : List Int}
theorem way_excD {i : Int} (h : ∀ m, m_read_way [v] m = .exc "BadWay" (.int i) m) : m_Way [v] m = .exc "BadWay" (.int i) (m ++ [.ins "Way" [] []]) := by
  have e : runF 2 5 b_Way___init__ [.hnd m.length, v] (m ++ [.ins "Way" [] []]) = .exc "BadWay" (.int i) (m ++ [.ins "Way" [] []]) := by
    have h' := h (m ++ [.ins "Way" [] []])
    apply wp_eqX
    unfold b_Way___init__
    (simp_arith [h'])
    exact ⟨rfl, rfl, rfl⟩
  unfold m_Way
  simp only [mkO, e]
def Nv02 (v : D) : Prop := (∀ m, m_Way [v] m = .exc "BadWay" (.int 0) (m ++ [.ins "Way" [] []])) ∧ ∀ m, isiD [v, .ty "str"] m = .ok (.bl false) m
def Sv02 (v : D) : Prop := (∃ i : Int, ∀ m, m_Way [v] m = .exc "BadWay" (.int i) (m ++ [.ins "Way" [] []])) ∧ ∀ m, isiD [v, .ty "str"] m = .ok (.bl true) m
theorem nv02 (h : ∀ m, isiD [v, .ty "str"] m = .ok (.bl false) m) : Nv02 v := by
  refine ⟨fun m => way_excD fun m => ?_, h⟩
  have h' := h m
  apply wp_eqX
  unfold m_read_way b_read_way
  (simp_arith [h'])
  exact ⟨rfl, rfl, rfl⟩
theorem sv02 {t : Str} {zs : List (Str × Option Int)} (hz : Zs zs) (he : endB "left" zs = none) (e : txtS [zs] = t) : Sv02 (.str t) := by
  have h : Zss [zs] := ⟨fun z hz' => by rw [List.mem_singleton.mp hz']; exact hz, by simp, by simp⟩
  have hw : wrong02 [zs] = 1 := wr_1 he
  have hx := read02 h (by rw [hw]; decide)
  rw [hw, e] at hx
  exact ⟨⟨1, fun m => way_exc hx⟩, fun m => rfl⟩
theorem lit02 {s : Str} (h : s ∈ lits02) : W02 s none := .lit h
theorem pool02 {y : D} (h : y ∈ [D.str "x", .str "at 0", .str "left", .int 7, .tup [], .lst [.str "left free"], .int (-1)]) : Nv02 y ∨ Sv02 y := by
  simp only [List.mem_cons, List.not_mem_nil, or_false] at h
  rcases h with rfl | rfl | rfl | rfl | rfl | rfl | rfl
  · refine .inr (sv02 (zs := [("x", none)]) ⟨fun z hz => ?_, by simp, by simp⟩ (by kernel_rfl) (by decide +kernel))
    rw [List.mem_singleton.mp hz]; exact lit02 (by simp [lits02])
  · refine .inr (sv02 (zs := [("at", none), (numS 0, some 0)]) ⟨fun z hz => ?_, by simp, by simp⟩ (by kernel_rfl) (by decide +kernel))
    simp only [List.mem_cons, List.not_mem_nil, or_false] at hz
    rcases hz with rfl | rfl
    · exact lit02 (by simp [lits02])
    · exact .num (by decide)
  · refine .inr (sv02 (zs := [("left", none)]) ⟨fun z hz => ?_, by simp, by simp⟩ (by kernel_rfl) (by decide +kernel))
    rw [List.mem_singleton.mp hz]; exact lit02 (by simp [lits02])
  · exact .inl (nv02 fun m => rfl)
  · exact .inl (nv02 fun m => rfl)
  · exact .inl (nv02 fun m => rfl)
  · exact .inl (nv02 fun m => rfl)
theorem r0_02 : repr0D [.int 0] m = .ok (.str "0") m := by kernel_rfl
theorem right_ok {n : Nat} {k : Int} {m : Mem} (h : MemI m n k) (hk : k < 500000) : wp (m__law_right [.hnd n] m) (fun x m' => x = .bl true ∧ MemI m' n (k + 600)) X0 := by
  have hbw := bad02
  unfold m__law_right b__law_right
  (simp_arith [])
  refine wp_mono (lore_wB h (by omega) (by omega) (by decide)) ?_
  rintro x m1 ⟨⟨L, R, ps, rfl, g, hmost, _⟩, h1⟩
  have hls := lines02 (m := m1) g
  have hrl : RowT 6 (lineS "left" L) := rowT_end (.inl rfl) fun e he => (g.lok e he).1
  have hrr : RowT 6 (lineS "right" R) := rowT_end (.inr rfl) fun e he => (g.rok e he).1
  have hra : RowT 6 (atS ps) := rowT_at g.ok (by omega)
  obtain ⟨ss, hss, hall, hlen⟩ : ∃ ss : List Str, [D.str (lineS "left" L), .str (lineS "right" R), .str (atS ps)] = ss.map .str ∧ (∀ s ∈ ss, RowT 6 s) ∧ ss.length = 3 := ⟨[lineS "left" L, lineS "right" R, atS ps], rfl, fun s hs => by
    simp only [List.mem_cons, List.not_mem_nil, or_false] at hs
    rcases hs with rfl | rfl | rfl
    · exact hrl
    · exact hrr
    · exact hra, rfl⟩
  rw [hss] at hls
  (simp_arith [hls])
  refine ws_forI (fun i r m => ∃ x2 x4, r = [.fz (.hnd n), .fz (.lst (ss.map .str)), x2, .no, x4, .no] ∧ MemI m n (k + 50 + 20 * i)) ?_ ?_ ?_
  · exact ⟨_, _, rfl, h1.mono (by omega)⟩
  · rintro d hd i r m2 hi _ ⟨x2, x4, rfl, h2⟩
    rw [rangeD_length] at hi
    (simp_arith [])
    refine wp_mono (spoilt_w h2 (by omega) hall (by omega) (by omega)) ?_
    rintro x m3 ⟨⟨s1, rfl, a1, l1⟩, h3⟩
    have hne := fun m => ne_nil02 (m := m) a1
    by_cases he : s1 = []
    · obtain ⟨zss, hz, hj⟩ := txtT (ss := s1) (fun s hs => (a1 s hs).mono (by omega)) (by omega)
      have hne' : ∀ m, neD (.lst (s1.map .str)) (.lst []) m = .ok (.bl false) m := fun m => by rw [hne m, decide_eq_false (fun x => x he)]
      (simp_arith [hne', hj])
      refine judged02 hz h3 fun m4 h4 => ?_
      (simp_arith [])
      exact ⟨_, _, rfl, h4.mono (by omega)⟩
    · have hne' : ∀ m, neD (.lst (s1.map .str)) (.lst []) m = .ok (.bl true) m := fun m => by rw [hne m, decide_eq_true he]
      have hl1 : 1 ≤ s1.length := by
        cases s1 with
        | nil => exact absurd rfl he
        | cons a l => simp
      (simp_arith [hne'])
      refine take_w h3 (by omega) (by omega) fun c m4 c1 c2 h4 => ?_
      by_cases hc : c = 0
      · (simp_arith [hc])
        refine wp_mono (spoilt_w h4 (by omega) a1 (by omega) (by omega)) ?_
        rintro x m5 ⟨⟨s2, rfl, a2, l2⟩, h5⟩
        obtain ⟨zss, hz, hj⟩ := txtT (ss := s2) (fun s hs => (a2 s hs).mono (by omega)) (by omega)
        (simp_arith [hj])
        refine judged02 hz h5 fun m6 h6 => ?_
        (simp_arith [])
        exact ⟨_, _, rfl, h6.mono (by omega)⟩
      · obtain ⟨zss, hz, hj⟩ := txtT (ss := s1) (fun s hs => (a1 s hs).mono (by omega)) (by omega)
        (simp_arith [hc, hj])
        refine judged02 hz h4 fun m6 h6 => ?_
        (simp_arith [])
        exact ⟨_, _, rfl, h6.mono (by omega)⟩
  · rintro r m2 ⟨x2, x4, rfl, h2⟩
    rw [rangeD_length] at h2
    obtain ⟨s0, hs0, hix⟩ := ix02 (ss := ss) (d := 0) (by omega) (by omega)
    (simp_arith [hix])
    unfold m__law_text_odd b__law_text_odd
    (simp_arith [])
    refine wp_mono (wp_of (of_I h2 (by omega) (by simp) (by simp))) ?_
    rintro y m3 ⟨hy, h3⟩
    have hyp := pool02 hy
    (simp_arith [])
    refine ws_forI (fun _ r m => ∃ x3 x5, r = [.fz (.hnd n), .fz (.lst (ss.map .str)), x2, x3, x4, x5] ∧ MemI m n (k + 500)) ?_ ?_ ?_
    · exact ⟨_, _, rfl, h3.mono (by omega)⟩
    · rintro v hv i r m4 _ _ ⟨x3, x5, rfl, h4⟩
      have ht : TB m4 := by obtain ⟨⟨a, b, c, q1, q2, q3, q4, q5, q7⟩, q6⟩ := h4; exact q7
      have h1t : m4[1]? = some (.tab "_law_right") := ht 1 _ rfl
      have hvv : Nv02 v ∨ Sv02 v := by
        simp only [List.mem_cons, List.not_mem_nil, or_false] at hv
        rcases hv with rfl | rfl | rfl | rfl | rfl | rfl | rfl | rfl | rfl
        · exact .inl (nv02 fun m => rfl)
        · exact .inl (nv02 fun m => rfl)
        · exact .inl (nv02 fun m => rfl)
        · exact .inl (nv02 fun m => rfl)
        · exact .inl (nv02 fun m => rfl)
        · exact .inl (nv02 fun m => rfl)
        · exact .inl (nv02 fun m => rfl)
        · exact .inl (nv02 fun m => rfl)
        · exact hyp
      rcases hvv with ⟨e1, e2⟩ | ⟨⟨j, e1⟩, e2⟩
      · have e1' := e1 m4
        have r0 := fun m => r0_02 (m := m)
        (simp_arith [h1t, e1', hbw, e2, r0])
        exact ⟨_, _, rfl, h4.app02⟩
      · have e1' := e1 m4
        (simp_arith [h1t, e1', hbw, e2])
        exact ⟨_, _, rfl, h4.app02⟩
    · rintro r m4 ⟨x3, x5, rfl, h4⟩
      have J : ∀ (t : Str) (zss : List (List (Str × Option Int))), Zss zss → txtS zss = t → ∀ (m : Mem) (Q : QP D) (X : XP), MemI m n (k + 500) → (∀ m', MemI m' n (k + 500) → Q (.bl true) m') → wp (m__law_is_judged [.str t] m) Q X := fun t zss hz e m Q X hm q => by
        rw [← e]; exact judged02 hz hm q
      have lt : ∀ (s : Str), s ∈ lits02 → W02 s none := fun s hs => .lit hs
      have z1 : Zs [("left", none), ("free", none)] := ⟨fun z hz => by
        simp only [List.mem_cons, List.not_mem_nil, or_false] at hz
        rcases hz with rfl | rfl <;> exact lt _ (by simp [lits02]), by simp, by simp⟩
      have z2 : Zs [("left", none), ("wall", none), (numS 0, some 0)] := ⟨fun z hz => by
        simp only [List.mem_cons, List.not_mem_nil, or_false] at hz
        rcases hz with rfl | rfl | rfl
        · exact lt _ (by simp [lits02])
        · exact lt _ (by simp [lits02])
        · exact .num (by decide), by simp, by simp⟩
      have z3 : Zs [("right", none), ("wall", none), (numS 4, some 4)] := ⟨fun z hz => by
        simp only [List.mem_cons, List.not_mem_nil, or_false] at hz
        rcases hz with rfl | rfl | rfl
        · exact lt _ (by simp [lits02])
        · exact lt _ (by simp [lits02])
        · exact .num (by decide), by simp, by simp⟩
      have z4 : Zs [("at", none), (numS 2, some 2)] := ⟨fun z hz => by
        simp only [List.mem_cons, List.not_mem_nil, or_false] at hz
        rcases hz with rfl | rfl
        · exact lt _ (by simp [lits02])
        · exact .num (by decide), by simp, by simp⟩
      have j1 := J "" [e02] ⟨fun z hz => by rw [List.mem_singleton.mp hz]; exact zs_e, by simp, by simp⟩ (by decide +kernel)
      have j2 := J "left free" [[("left", none), ("free", none)]] ⟨fun z hz => by rw [List.mem_singleton.mp hz]; exact z1, by simp, by simp⟩ (by decide +kernel)
      have j3 := J "left wall 0\nright wall 4\nat 2" [[("left", none), ("wall", none), (numS 0, some 0)], [("right", none), ("wall", none), (numS 4, some 4)], [("at", none), (numS 2, some 2)]] ⟨fun z hz => by
        simp only [List.mem_cons, List.not_mem_nil, or_false] at hz
        rcases hz with rfl | rfl | rfl
        · exact z2
        · exact z3
        · exact z4, by simp, by simp⟩ (by decide +kernel)
      (simp_arith [])
      refine j1 _ _ _ h4 fun m5 h5 => ?_
      (simp_arith [])
      refine j2 _ _ _ h5 fun m6 h6 => ?_
      (simp_arith [])
      refine j3 _ _ _ h6 fun m7 h7 => ?_
      exact ⟨rfl, h7.mono (by omega)⟩
theorem pure_law {P : Prop} (ns : List Int) (hl : ns.length ≤ 63) (_hb : P) : ∃ m, m_law [.scr ns] (tf.map .tab) = .ok (.bl true) m := by
  suffices h : wp (m_law [.scr ns] (tf.map .tab)) (fun x _ => x = .bl true) X0 by
    obtain ⟨x, m, e, rfl⟩ := wp_ex h
    exact ⟨m, e⟩
  unfold m_law b_law
  obtain ⟨k, k1, k2, hc⟩ := cells_ok (ns := ns) (m := tf.map .tab) hl
  (simp_arith [hc])
  refine ws_forI (fun _ r m => ∃ x1, r = [.fz (.scr ns), x1] ∧ m.all noHm = true ∧ TB m) ?_ ?_ ?_
  · exact ⟨_, rfl, rfl, TB.start⟩
  · rintro d hd i r m _ _ ⟨x1, rfl, h1⟩
    unfold rangeD at hd
    obtain ⟨j, hj, rfl⟩ := List.mem_map.mp hd
    have hj' := List.mem_range.mp hj
    (simp_arith [])
    refine wp_mono (wp_of (pot_ok (by omega) (by omega) h1.1 h1.2)) ?_
    rintro x m2 ⟨rfl, h2⟩
    (simp_arith [])
    refine wp_mono (right_ok h2 (by omega)) ?_
    rintro x m4 ⟨rfl, h4⟩
    have ht4 : TB m4 := by obtain ⟨⟨a, b, c, q1, q2, q3, q4, q5, q7⟩, q6⟩ := h4; exact q7
    (simp_arith [])
    exact ⟨_, rfl, h4.2, ht4⟩
  · rintro r m ⟨x1, rfl, h1⟩
    (simp_arith [])
end
end Gen
end
set_option Elab.async false
set_option linter.all false
set_option maxRecDepth 100000
namespace Gen
open PySem PySem.Spec PyProof.Rows L2 MT
section
variable {P : Program} {w : World} {K : PySem.W.Frag} {mg : Str → Option Value} {base : Heap}
abbrev s__law_cells : Stmt := top 35
abbrev N__law_cells : List Str := ["_law_script", "_law_limit"]
theorem sc__law_cells : FnScope N__law_cells ["_law_script", "_law_limit"] (defScope s__law_cells) := ⟨rfl, rfl, rfl, by decide +kernel, rfl, by decide +kernel, by decide +kernel⟩
theorem d__law_cells (T : Tl P fa fn ts tf er w K mg base) : Body P w K mg base N__law_cells "_law_cells" (defScope s__law_cells) (defBody s__law_cells) 1 b__law_cells := fun f cdv A outer s H E  hr A0 F0 => by
  have nd := sc__law_cells.nd
  have hu := hr.units
  have hu1 := hu_of hr
  exact (ds_one (ds_ret (de_listRg1 (T.free 4 rfl) (T.free 5 rfl) (de_callB (call_max2 rfl) cp_max2 rfl (T.free 6 rfl) boot_max (wa_cons (wk (de_c pe_int)) (wa_cons (wk (de_callB (call_min2 rfl) cp_min2 rfl (T.free 7 rfl) boot_min (wa_cons (de_w (pv 1)) (wa_cons (wk (de_callB cr_lenA cp_slen rfl (T.free 0 rfl) boot_len (wa_cons (de_w (pv 0)) wa_nil))) wa_nil)))) wa_nil))))))
theorem c__law_cells (T : Tl P fa fn ts tf er w K mg base) : CallOk P w K mg base 2 "_law_cells" m__law_cells := mk_def T.toTx 1 8 rfl rfl sc__law_cells (fun _ _ _ _ _ _ us hl => match us, hl with | [_, _], _ => rfl) (d__law_cells T)
abbrev s__law_line : Stmt := top 40
abbrev N__law_line : List Str := ["_law_word", "_law_end_here", "_law_part"]
theorem sc__law_line : FnScope N__law_line ["_law_word", "_law_end_here"] (defScope s__law_line) := ⟨rfl, rfl, rfl, by decide +kernel, rfl, by decide +kernel, by decide +kernel⟩
theorem d__law_line (T : Tl P fa fn ts tf er w K mg base) : Body P w K mg base N__law_line "_law_line" (defScope s__law_line) (defBody s__law_line) 1 b__law_line := fun f cdv A outer s H E  hr A0 F0 => by
  have nd := sc__law_line.nd
  have hu := hr.units
  have hu1 := hu_of hr
  exact (ds_one (ds_ret (de_strm PySem.F.slot_str_join PySem.F.type_str_join mt_join cp_join (wk (de_c pe_str)) (wa_cons (wk (de_op op_addD cp_add (wk (de_lst (da_cons (de_v (pv 0)) da_nil))) (wk (de_lc (own := [("_law_part", 2)]) rfl nd (di_seq (de_v (pv 1))) (blkOk_by (N := N__law_line) (sc := defScope s__law_line) (by decide +kernel)) (tc_name (i := 2)) (by decide) (fun _ _ _ _ _ => (pg_name (i := 2) nd rfl (Or.inl rfl))) (fun _ _ _ _ _ => dts_nil) (fun _ _ _ _ _ => (de_callTy cr_strA cp_str rfl (T.free 9 rfl) boot_str (wa_cons (de_w (pv 2)) wa_nil))))))) wa_nil))))
theorem c__law_line (T : Tl P fa fn ts tf er w K mg base) : CallOk P w K mg base 2 "_law_line" m__law_line := mk_def T.toTx 2 10 rfl rfl sc__law_line (fun _ _ _ _ _ _ us hl => match us, hl with | [_, _], _ => rfl) (d__law_line T)
abbrev s__law_lines : Stmt := top 41
abbrev N__law_lines : List Str := ["_law_lore_here", "_law_last", "_law_place"]
theorem sc__law_lines : FnScope N__law_lines ["_law_lore_here"] (defScope s__law_lines) := ⟨rfl, rfl, rfl, by decide +kernel, rfl, by decide +kernel, by decide +kernel⟩
theorem d__law_lines (T : Tl P fa fn ts tf er w K mg base) : Body P w K mg base N__law_lines "_law_lines" (defScope s__law_lines) (defBody s__law_lines) 3 b__law_lines := fun f cdv A outer s H E  hr A0 F0 => by
  have nd := sc__law_lines.nd
  have hu := hr.units
  have hu1 := hu_of hr
  exact (ds_cons (ds_asg (i := 1) nd rfl (Or.inl rfl) (de_strm PySem.F.slot_str_join PySem.F.type_str_join mt_join cp_join (wk (de_c pe_str)) (wa_cons (wk (de_op op_addD cp_add (wk (de_lst (da_cons (de_c pe_str) da_nil))) (wk (de_lc (own := [("_law_place", 2)]) rfl nd (di_seq (de_dget hu1 (de_w (pv 0)) (wk (de_c pe_str)))) (blkOk_by (N := N__law_lines) (sc := defScope s__law_lines) (by decide +kernel)) (tc_name (i := 2)) (by decide) (fun _ _ _ _ _ => (pg_name (i := 2) nd rfl (Or.inl rfl))) (fun _ _ _ _ _ => dts_nil) (fun _ _ _ _ _ => (de_callTy cr_strA cp_str rfl (T.free 9 rfl) boot_str (wa_cons (de_w (pv 2)) wa_nil))))))) wa_nil)))
      (ds_one (ds_ret (de_lst (da_cons (de_fn (c__law_line T) (hr.mono (by decide)) passD (da_cons (de_c pe_str) (da_cons (de_dget hu1 (de_w (pv 0)) (wk (de_c pe_str))) da_nil))) (da_cons (de_fn (c__law_line T) (hr.mono (by decide)) passD (da_cons (de_c pe_str) (da_cons (de_dget hu1 (de_w (pv 0)) (wk (de_c pe_str))) da_nil))) (da_cons (de_v (pv 1)) da_nil)))))))
theorem c__law_lines (T : Tl P fa fn ts tf er w K mg base) : CallOk P w K mg base 4 "_law_lines" m__law_lines := mk_def T.toTx 3 11 rfl rfl sc__law_lines (fun _ _ _ _ _ _ us hl => match us, hl with | [_], _ => rfl) (d__law_lines T)
abbrev s__law_take : Stmt := top 33
abbrev N__law_take : List Str := ["_law_pot_here", "_law_upto", "_law_prime", "_law_mixed", "_law_digit"]
theorem sc__law_take : FnScope N__law_take ["_law_pot_here", "_law_upto"] (defScope s__law_take) := ⟨rfl, rfl, rfl, by decide +kernel, rfl, by decide +kernel, by decide +kernel⟩
theorem d__law_take (T : Tl P fa fn ts tf er w K mg base) : Body P w K mg base N__law_take "_law_take" (defScope s__law_take) (defBody s__law_take) 1 b__law_take := fun f cdv A outer s H E  hr A0 F0 => by
  have nd := sc__law_take.nd
  have hu := hr.units
  have hu1 := hu_of hr
  exact (ds_cons (ds_if (dt_cmp op_gt cp_gt (wk (de_pix (de_w (pv 0)) (wk (de_c pe_int)))) (wk (de_c pe_int)) (nomark _)) (ds_cons (ds_asg (i := 4) nd rfl (Or.inl rfl) (de_op op_mod cp_mod (wk (de_callTy cr_intA cp_int rfl (T.free 12 rfl) boot_int (wa_cons (wk (de_pix (de_w (pv 0)) (wk (de_c pe_int)))) wa_nil))) (de_w (pv 1))))
      (ds_cons (ds_putP (pv 0) (de_op op_fdivW cp_fdiv (wk (de_pix (de_w (pv 0)) (wk (de_c pe_int)))) (de_w (pv 1))) (de_c pe_int))
      (ds_one (ds_ret (de_v (pv 4)))))) ds_nil)
      (ds_cons (ds_putP (pv 0) (de_op op_addD cp_add (wk (de_pix (de_w (pv 0)) (wk (de_c pe_int)))) (wk (de_c pe_int))) (de_c pe_int))
      (ds_cons (ds_asg (i := 2) nd rfl (Or.inl rfl) (de_ix (wk (de_lst (da_cons (de_c pe_int) (da_cons (de_c pe_int) (da_cons (de_c pe_int) (da_cons (de_c pe_int) (da_cons (de_c pe_int) da_nil))))))) (wk (de_op op_mod cp_mod (wk (de_callTy cr_intA cp_int rfl (T.free 12 rfl) boot_int (wa_cons (wk (de_pix (de_w (pv 0)) (wk (de_c pe_int)))) wa_nil))) (wk (de_c pe_int))))))
      (ds_cons (ds_asg (i := 3) nd rfl (Or.inl rfl) (de_op op_mod cp_mod (wk (de_callTy cr_intA cp_int rfl (T.free 12 rfl) boot_int (wa_cons (wk (de_op op_powX cp_pow (wk (de_callTy cr_intA cp_int rfl (T.free 12 rfl) boot_int (wa_cons (wk (de_op op_addD cp_add (wk (de_op op_addD cp_add (wk (de_pix (de_w (pv 0)) (wk (de_c pe_int)))) (wk (de_op op_mulD cp_mul (wk (de_op op_mulD cp_mul (wk (de_c pe_int)) (wk (de_pix (de_w (pv 0)) (wk (de_c pe_int)))))) (wk (de_pix (de_w (pv 0)) (wk (de_c pe_int)))))))) (wk (de_c pe_int)))) wa_nil))) (wk (de_c pe_int)))) wa_nil))) (de_w (pv 2))))
      (ds_cons (ds_asg (i := 3) nd rfl (Or.inl rfl) (de_op op_mod cp_mod (wk (de_callTy cr_intA cp_int rfl (T.free 12 rfl) boot_int (wa_cons (wk (de_op op_mulD cp_mul (de_w (pv 3)) (wk (de_op op_addD cp_add (wk (de_op op_mod cp_mod (wk (de_callTy cr_intA cp_int rfl (T.free 12 rfl) boot_int (wa_cons (de_w (pv 3)) wa_nil))) (wk (de_c pe_int)))) (wk (de_op op_mulD cp_mul (wk (de_c pe_int)) (wk (de_pix (de_w (pv 0)) (wk (de_c pe_int)))))))))) wa_nil))) (wk (de_c pe_int))))
      (ds_one (ds_ret (de_op op_mod cp_mod (wk (de_callTy cr_intA cp_int rfl (T.free 12 rfl) boot_int (wa_cons (wk (de_op op_fdivW cp_fdiv (de_w (pv 3)) (wk (de_c pe_int)))) wa_nil))) (de_w (pv 1))))))))))
theorem c__law_take (T : Tl P fa fn ts tf er w K mg base) : CallOk P w K mg base 2 "_law_take" m__law_take := mk_def T.toTx 4 13 rfl rfl sc__law_take (fun _ _ _ _ _ _ us hl => match us, hl with | [_, _], _ => rfl) (d__law_take T)
abbrev s__law_places : Stmt := top 37
abbrev N__law_places : List Str := ["_law_pot_here", "_law_many", "_law_wide", "_law_found", "_law_turn"]
theorem sc__law_places : FnScope N__law_places ["_law_pot_here", "_law_many", "_law_wide"] (defScope s__law_places) := ⟨rfl, rfl, rfl, by decide +kernel, rfl, by decide +kernel, by decide +kernel⟩
theorem d__law_places (T : Tl P fa fn ts tf er w K mg base) : Body P w K mg base N__law_places "_law_places" (defScope s__law_places) (defBody s__law_places) 3 b__law_places := fun f cdv A outer s H E  hr A0 F0 => by
  have nd := sc__law_places.nd
  have hu := hr.units
  have hu1 := hu_of hr
  exact (ds_cons (ds_ownL (i := 3) nd rfl (Or.inl rfl) (da_cons (de_op op_sub cp_sub (wk (de_op op_mulD cp_mul (wk (de_c pe_int)) (wk (de_fn (c__law_take T) (hr.mono (by decide)) passD (da_cons (de_v (pv 0)) (da_cons (de_c pe_int) da_nil)))))) (wk (de_c pe_int))) da_nil))
      (ds_cons (ds_for passO rfl (di_range1 rfl (T.free 5 rfl) (da_cons (de_op op_sub cp_sub (de_w (pv 1)) (wk (de_c pe_int))) da_nil)) (pg_name (i := 4) nd rfl (Or.inl rfl)) (tc_name (i := 4)) (ds_one (ds_app (pv 3) (de_op op_addD cp_add (wk (de_op op_addD cp_add (wk (de_ix (de_w (pv 3)) (wk (de_un un_neg cp_neg (wk (de_c pe_int)))))) (wk (de_c pe_int)))) (wk (de_op op_mulD cp_mul (wk (de_c pe_int)) (wk (de_fn (c__law_take T) (hr.mono (by decide)) passD (da_cons (de_v (pv 0)) (da_cons (de_v (pv 2)) da_nil))))))))))
      (ds_fz (i := 3) (ds_one (ds_ret (de_v (pv 3)))))))
theorem c__law_places (T : Tl P fa fn ts tf er w K mg base) : CallOk P w K mg base 4 "_law_places" m__law_places := mk_def T.toTx 5 14 rfl rfl sc__law_places (fun _ _ _ _ _ _ us hl => match us, hl with | [_, _, _], _ => rfl) (d__law_places T)
abbrev s__law_end : Stmt := top 38
abbrev N__law_end : List Str := ["_law_pot_here", "_law_place", "_law_sign", "_law_can_shut", "_law_way"]
theorem sc__law_end : FnScope N__law_end ["_law_pot_here", "_law_place", "_law_sign", "_law_can_shut"] (defScope s__law_end) := ⟨rfl, rfl, rfl, by decide +kernel, rfl, by decide +kernel, by decide +kernel⟩
theorem d__law_end (T : Tl P fa fn ts tf er w K mg base) : Body P w K mg base N__law_end "_law_end" (defScope s__law_end) (defBody s__law_end) 3 b__law_end := fun f cdv A outer s H E  hr A0 F0 => by
  have nd := sc__law_end.nd
  have hu := hr.units
  have hu1 := hu_of hr
  exact (ds_cons (ds_asg (i := 4) nd rfl (Or.inl rfl) (de_fn (c__law_take T) (hr.mono (by decide)) passD (da_cons (de_v (pv 0)) (da_cons (de_if (dt_val (de_v (pv 3))) (de_c pe_int) (de_c pe_int)) da_nil))))
      (ds_cons (ds_if (dt_cmp (op_eqA hu) cp_eq (de_w (pv 4)) (wk (de_c pe_int)) (nomark _)) (ds_one (ds_ret (de_tup (da_cons (de_c pe_str) da_nil)))) ds_nil)
      (ds_one (ds_ret (de_tup (da_cons (de_if (dt_cmp op_ltD cp_lt (de_w (pv 4)) (wk (de_c pe_int)) (nomark _)) (de_c pe_str) (de_c pe_str)) (da_cons (de_op op_addD cp_add (de_w (pv 1)) (wk (de_op op_mulD cp_mul (de_w (pv 2)) (wk (de_op op_addD cp_add (wk (de_c pe_int)) (wk (de_op op_mulD cp_mul (wk (de_c pe_int)) (wk (de_fn (c__law_take T) (hr.mono (by decide)) passD (da_cons (de_v (pv 0)) (da_cons (de_c pe_int) da_nil))))))))))) da_nil)))))))
theorem c__law_end (T : Tl P fa fn ts tf er w K mg base) : CallOk P w K mg base 4 "_law_end" m__law_end := mk_def T.toTx 6 15 rfl rfl sc__law_end (fun _ _ _ _ _ _ us hl => match us, hl with | [_, _, _, _], _ => rfl) (d__law_end T)
abbrev s__law_lore : Stmt := top 39
abbrev N__law_lore : List Str := ["_law_pot_here", "_law_most", "_law_wide", "_law_places_here", "_law_left"]
theorem sc__law_lore : FnScope N__law_lore ["_law_pot_here", "_law_most", "_law_wide"] (defScope s__law_lore) := ⟨rfl, rfl, rfl, by decide +kernel, rfl, by decide +kernel, by decide +kernel⟩
theorem d__law_lore (T : Tl P fa fn ts tf er w K mg base) : Body P w K mg base N__law_lore "_law_lore" (defScope s__law_lore) (defBody s__law_lore) 5 b__law_lore := fun f cdv A outer s H E  hr A0 F0 => by
  have nd := sc__law_lore.nd
  have hu := hr.units
  have hu1 := hu_of hr
  exact (ds_cons (ds_asg (i := 3) nd rfl (Or.inl rfl) (de_fn (c__law_places T) (hr.mono (by decide)) passD (da_cons (de_v (pv 0)) (da_cons (de_op op_addD cp_add (wk (de_c pe_int)) (wk (de_fn (c__law_take T) (hr.mono (by decide)) passD (da_cons (de_v (pv 0)) (da_cons (de_v (pv 1)) da_nil))))) (da_cons (de_v (pv 2)) da_nil)))))
      (ds_cons (ds_asg (i := 4) nd rfl (Or.inl rfl) (de_fn (c__law_end T) (hr.mono (by decide)) passD (da_cons (de_v (pv 0)) (da_cons (de_ix (de_w (pv 3)) (wk (de_c pe_int))) (da_cons (de_un un_neg cp_neg (wk (de_c pe_int))) (da_cons (de_c pe_bl) da_nil))))))
      (ds_one (ds_ret (de_dct (dps_cons (de_v (pv 4)) (dps_cons (de_fn (c__law_end T) (hr.mono (by decide)) passD (da_cons (de_v (pv 0)) (da_cons (de_ix (de_w (pv 3)) (wk (de_un un_neg cp_neg (wk (de_c pe_int))))) (da_cons (de_c pe_int) (da_cons (de_cmp (op_neA hu) cp_ne (wk (de_ix (de_w (pv 4)) (wk (de_c pe_int)))) (wk (de_c pe_str)) (nomark _)) da_nil))))) (dps_cons (de_v (pv 3)) dps_nil))) (by decide +kernel))))))
theorem c__law_lore (T : Tl P fa fn ts tf er w K mg base) : CallOk P w K mg base 6 "_law_lore" m__law_lore := mk_def T.toTx 7 16 rfl rfl sc__law_lore (fun _ _ _ _ _ _ us hl => match us, hl with | [_, _, _], _ => rfl) (d__law_lore T)
abbrev s__law_of : Stmt := top 34
abbrev N__law_of : List Str := ["_law_pot_here", "_law_some"]
theorem sc__law_of : FnScope N__law_of ["_law_pot_here", "_law_some"] (defScope s__law_of) := ⟨rfl, rfl, rfl, by decide +kernel, rfl, by decide +kernel, by decide +kernel⟩
theorem d__law_of (T : Tl P fa fn ts tf er w K mg base) : Body P w K mg base N__law_of "_law_of" (defScope s__law_of) (defBody s__law_of) 3 b__law_of := fun f cdv A outer s H E  hr A0 F0 => by
  have nd := sc__law_of.nd
  have hu := hr.units
  have hu1 := hu_of hr
  exact (ds_one (ds_ret (de_ix (de_w (pv 1)) (wk (de_fn (c__law_take T) (hr.mono (by decide)) passD (da_cons (de_v (pv 0)) (da_cons (de_callB cr_lenA cp_len rfl (T.free 0 rfl) boot_len (wa_cons (de_w (pv 1)) wa_nil)) da_nil)))))))
theorem c__law_of (T : Tl P fa fn ts tf er w K mg base) : CallOk P w K mg base 4 "_law_of" m__law_of := mk_def T.toTx 8 17 rfl rfl sc__law_of (fun _ _ _ _ _ _ us hl => match us, hl with | [_, _], _ => rfl) (d__law_of T)
abbrev s__law_spoilt_word : Stmt := top 46
abbrev N__law_spoilt_word : List Str := ["_law_pot_here", "_law_rows", "_law_at", "_law_words", "_law_way", "_law_spot", "_law_pool"]
theorem sc__law_spoilt_word : FnScope N__law_spoilt_word ["_law_pot_here", "_law_rows", "_law_at"] (defScope s__law_spoilt_word) := ⟨rfl, rfl, rfl, by decide +kernel, rfl, by decide +kernel, by decide +kernel⟩
theorem d__law_spoilt_word (T : Tl P fa fn ts tf er w K mg base) : Body P w K mg base N__law_spoilt_word "_law_spoilt_word" (defScope s__law_spoilt_word) (defBody s__law_spoilt_word) 5 b__law_spoilt_word := fun f cdv A outer s H E  hr A0 F0 => by
  have nd := sc__law_spoilt_word.nd
  have hu := hr.units
  have hu1 := hu_of hr
  exact (ds_cons (ds_par (i := 3) (j := 4) rfl nd rfl rfl (by decide) rfl rfl (da_cons (de_strm PySem.F.slot_str_split PySem.F.type_str_split mt_split cp_split (wk (de_ix (de_w (pv 1)) (de_w (pv 2)))) (wa_cons (wk (de_c pe_str)) wa_nil)) (da_cons (de_fn (c__law_take T) (hr.mono (by decide)) passD (da_cons (de_v (pv 0)) (da_cons (de_c pe_int) da_nil))) da_nil)) rfl)
      (ds_cons (ds_asg (i := 5) nd rfl (Or.inl rfl) (de_fn (c__law_take T) (hr.mono (by decide)) passD (da_cons (de_v (pv 0)) (da_cons (de_callB cr_lenA cp_len rfl (T.free 0 rfl) boot_len (wa_cons (de_w (pv 3)) wa_nil)) da_nil))))
      (ds_cons (ds_if (dt_cmp (op_eqA hu) cp_eq (de_w (pv 4)) (wk (de_c pe_int)) (nomark _)) (ds_one (ds_asg (i := 3) nd rfl (Or.inl rfl) (de_op op_addD cp_add (wk (de_slice (de_w (pv 3)) do_none (do_some (de_w (pv 5))))) (wk (de_slice (de_w (pv 3)) (do_some (wk (de_op op_addD cp_add (de_w (pv 5)) (wk (de_c pe_int))))) do_none))))) (ds_one (ds_if (dt_cmp (op_eqA hu) cp_eq (de_w (pv 4)) (wk (de_c pe_int)) (nomark _)) (ds_one (ds_asg (i := 3) nd rfl (Or.inl rfl) (de_op op_addD cp_add (wk (de_slice (de_w (pv 3)) do_none (do_some (wk (de_op op_addD cp_add (de_w (pv 5)) (wk (de_c pe_int))))))) (wk (de_slice (de_w (pv 3)) (do_some (de_w (pv 5))) do_none))))) (ds_one (ds_if (dt_cmp (op_eqA hu) cp_eq (de_w (pv 4)) (wk (de_c pe_int)) (nomark _)) (ds_one (ds_asg (i := 3) nd rfl (Or.inl rfl) (de_op op_addD cp_add (wk (de_slice (de_w (pv 3)) do_none (do_some (wk (de_c pe_int))))) (wk (de_rev (wk (de_slice (de_w (pv 3)) (do_some (wk (de_c pe_int))) do_none))))))) (ds_cons (ds_asg (i := 6) nd rfl (Or.inl rfl) (de_lst (da_cons (de_c pe_str) (da_cons (de_c pe_str) (da_cons (de_c pe_str) (da_cons (de_c pe_str) (da_cons (de_c pe_str) (da_cons (de_c pe_str) (da_cons (de_c pe_str) (da_cons (de_c pe_str) (da_cons (de_c pe_str) (da_cons (de_c pe_str) (da_cons (de_c pe_str) (da_cons (de_c pe_str) (da_cons (de_c pe_str) (da_cons (de_c pe_str) (da_cons (de_c pe_str) da_nil)))))))))))))))))
      (ds_one (ds_asg (i := 3) nd rfl (Or.inl rfl) (de_op op_addD cp_add (wk (de_op op_addD cp_add (wk (de_slice (de_w (pv 3)) do_none (do_some (de_w (pv 5))))) (wk (de_lst (da_cons (de_fn (c__law_of T) (hr.mono (by decide)) passD (da_cons (de_v (pv 0)) (da_cons (de_v (pv 6)) da_nil))) da_nil))))) (wk (de_slice (de_w (pv 3)) (do_some (wk (de_op op_addD cp_add (de_w (pv 5)) (wk (de_callTy cr_intA cp_int rfl (T.free 12 rfl) boot_int (wa_cons (wk (de_cmp op_ltD cp_lt (de_w (pv 4)) (wk (de_c pe_int)) (nomark _))) wa_nil)))))) do_none)))))))))))
      (ds_one (ds_ret (de_op op_addD cp_add (wk (de_op op_addD cp_add (wk (de_slice (de_w (pv 1)) do_none (do_some (de_w (pv 2))))) (wk (de_lst (da_cons (de_strm PySem.F.slot_str_join PySem.F.type_str_join mt_join cp_join (wk (de_c pe_str)) (wa_cons (de_w (pv 3)) wa_nil)) da_nil))))) (wk (de_slice (de_w (pv 1)) (do_some (wk (de_op op_addD cp_add (de_w (pv 2)) (wk (de_c pe_int))))) do_none))))))))
theorem c__law_spoilt_word (T : Tl P fa fn ts tf er w K mg base) : CallOk P w K mg base 6 "_law_spoilt_word" m__law_spoilt_word := mk_def T.toTx 9 18 rfl rfl sc__law_spoilt_word (fun _ _ _ _ _ _ us hl => match us, hl with | [_, _, _], _ => rfl) (d__law_spoilt_word T)
abbrev s__law_spoilt : Stmt := top 47
abbrev N__law_spoilt : List Str := ["_law_pot_here", "_law_rows", "_law_at", "_law_way", "_law_line_here"]
theorem sc__law_spoilt : FnScope N__law_spoilt ["_law_pot_here", "_law_rows"] (defScope s__law_spoilt) := ⟨rfl, rfl, rfl, by decide +kernel, rfl, by decide +kernel, by decide +kernel⟩
theorem d__law_spoilt (T : Tl P fa fn ts tf er w K mg base) : Body P w K mg base N__law_spoilt "_law_spoilt" (defScope s__law_spoilt) (defBody s__law_spoilt) 7 b__law_spoilt := fun f cdv A outer s H E  hr A0 F0 => by
  have nd := sc__law_spoilt.nd
  have hu := hr.units
  have hu1 := hu_of hr
  exact (ds_cons (ds_par (i := 2) (j := 3) rfl nd rfl rfl (by decide) rfl rfl (da_cons (de_fn (c__law_take T) (hr.mono (by decide)) passD (da_cons (de_v (pv 0)) (da_cons (de_callB cr_lenA cp_len rfl (T.free 0 rfl) boot_len (wa_cons (de_w (pv 1)) wa_nil)) da_nil))) (da_cons (de_fn (c__law_take T) (hr.mono (by decide)) passD (da_cons (de_v (pv 0)) (da_cons (de_c pe_int) da_nil))) da_nil)) rfl)
      (ds_cons (ds_if (dt_cmp (op_eqA hu) cp_eq (de_w (pv 3)) (wk (de_c pe_int)) (nomark _)) (ds_one (ds_ret (de_op op_addD cp_add (wk (de_slice (de_w (pv 1)) do_none (do_some (de_w (pv 2))))) (wk (de_slice (de_w (pv 1)) (do_some (wk (de_op op_addD cp_add (de_w (pv 2)) (wk (de_c pe_int))))) do_none))))) ds_nil)
      (ds_cons (ds_if (dt_cmp (op_eqA hu) cp_eq (de_w (pv 3)) (wk (de_c pe_int)) (nomark _)) (ds_one (ds_ret (de_op op_addD cp_add (wk (de_slice (de_w (pv 1)) do_none (do_some (wk (de_op op_addD cp_add (de_w (pv 2)) (wk (de_c pe_int))))))) (wk (de_slice (de_w (pv 1)) (do_some (de_w (pv 2))) do_none))))) ds_nil)
      (ds_cons (ds_if (dt_cmp (op_eqA hu) cp_eq (de_w (pv 3)) (wk (de_c pe_int)) (nomark _)) (ds_one (ds_ret (de_rev (de_w (pv 1))))) ds_nil)
      (ds_cons (ds_if (dt_cmp (op_eqA hu) cp_eq (de_w (pv 3)) (wk (de_c pe_int)) (nomark _)) (ds_cons (ds_asg (i := 4) nd rfl (Or.inl rfl) (de_fn (c__law_of T) (hr.mono (by decide)) passD (da_cons (de_v (pv 0)) (da_cons (de_lst (da_cons (de_c pe_str) (da_cons (de_c pe_str) (da_cons (de_c pe_str) (da_cons (de_c pe_str) (da_cons (de_op op_addD cp_add (wk (de_ix (de_w (pv 1)) (de_w (pv 2)))) (wk (de_c pe_str))) (da_cons (de_op op_addD cp_add (wk (de_c pe_str)) (wk (de_ix (de_w (pv 1)) (de_w (pv 2))))) (da_cons (de_c pe_str) da_nil)))))))) da_nil))))
      (ds_one (ds_ret (de_op op_addD cp_add (wk (de_op op_addD cp_add (wk (de_slice (de_w (pv 1)) do_none (do_some (de_w (pv 2))))) (wk (de_lst (da_cons (de_v (pv 4)) da_nil))))) (wk (de_slice (de_w (pv 1)) (do_some (de_w (pv 2))) do_none)))))) ds_nil)
      (ds_cons (ds_ifT (op_eqA hu) cp_eq (de_w (pv 3)) (nomark _) (dst_ret (det_op op_addD cp_add (wkT (det_op op_addD cp_add (det_of (wk (de_slice (de_w (pv 1)) do_none (do_some (de_w (pv 2)))))) (wkT (det_lst (dat_cons (det_repl (de_ix (de_w (pv 1)) (de_w (pv 2)))) dat_nil))))) (det_of (wk (de_slice (de_w (pv 1)) (do_some (wk (de_op op_addD cp_add (de_w (pv 2)) (wk (de_c pe_int))))) do_none))))))
      (ds_one (ds_ret (de_fn (c__law_spoilt_word T) (hr.mono (by decide)) passD (da_cons (de_v (pv 0)) (da_cons (de_v (pv 1)) (da_cons (de_v (pv 2)) da_nil))))))))))))
theorem c__law_spoilt (T : Tl P fa fn ts tf er w K mg base) : CallOk P w K mg base 8 "_law_spoilt" m__law_spoilt := mk_def T.toTx 10 19 rfl rfl sc__law_spoilt (fun _ _ _ _ _ _ us hl => match us, hl with | [_, _], _ => rfl) (d__law_spoilt T)
abbrev s__law_text_odd : Stmt := top 50
abbrev N__law_text_odd : List Str := ["_law_pot_here"]
theorem sc__law_text_odd : FnScope N__law_text_odd ["_law_pot_here"] (defScope s__law_text_odd) := ⟨rfl, rfl, rfl, by decide +kernel, rfl, by decide +kernel, by decide +kernel⟩
theorem d__law_text_odd (T : Tl P fa fn ts tf er w K mg base) : Body P w K mg base N__law_text_odd "_law_text_odd" (defScope s__law_text_odd) (defBody s__law_text_odd) 5 b__law_text_odd := fun f cdv A outer s H E  hr A0 F0 => by
  have nd := sc__law_text_odd.nd
  have hu := hr.units
  have hu1 := hu_of hr
  exact (ds_one (ds_ret (de_fn (c__law_of T) (hr.mono (by decide)) passD (da_cons (de_v (pv 0)) (da_cons (de_lst (da_cons (de_c pe_str) (da_cons (de_c pe_str) (da_cons (de_c pe_str) (da_cons (de_c pe_int) (da_cons (de_tup da_nil) (da_cons (de_lst (da_cons (de_c pe_str) da_nil)) (da_cons (de_un un_neg cp_neg (wk (de_c pe_int))) da_nil)))))))) da_nil)))))
theorem c__law_text_odd (T : Tl P fa fn ts tf er w K mg base) : CallOk P w K mg base 6 "_law_text_odd" m__law_text_odd := mk_def T.toTx 11 20 rfl rfl sc__law_text_odd (fun _ _ _ _ _ _ us hl => match us, hl with | [_], _ => rfl) (d__law_text_odd T)
abbrev s__law_number : Stmt := top 42
abbrev N__law_number : List Str := ["_law_word", "_law_figures", "_law_sign"]
theorem sc__law_number : FnScope N__law_number ["_law_word"] (defScope s__law_number) := ⟨rfl, rfl, rfl, by decide +kernel, rfl, by decide +kernel, by decide +kernel⟩
theorem d__law_number (T : Tl P fa fn ts tf er w K mg base) : Body P w K mg base N__law_number "_law_number" (defScope s__law_number) (defBody s__law_number) 1 b__law_number := fun f cdv A outer s H E  hr A0 F0 => by
  have nd := sc__law_number.nd
  have hu := hr.units
  have hu1 := hu_of hr
  exact (ds_cons (ds_asg (i := 1) nd rfl (Or.inl rfl) (de_if (dt_cmp (op_eqA hu) cp_eq (wk (de_slice (de_w (pv 0)) do_none (do_some (wk (de_c pe_int))))) (wk (de_c pe_str)) (nomark _)) (de_slice (de_w (pv 0)) (do_some (wk (de_c pe_int))) do_none) (de_v (pv 0))))
      (ds_cons (ds_if (PW.pt (dw_or (dt_cmp (op_eqA hu) cp_eq (de_w (pv 1)) (wk (de_c pe_str)) (nomark _)) (pw_or1 (dt_not (dt_val (de_callB (cr_all rfl) cp_all rfl (T.free 21 rfl) boot_all (wa_cons (wk (de_lc (own := [("_law_sign", 2)]) rfl nd (di_seq (de_v (pv 1))) (blkOk_by (N := N__law_number) (sc := defScope s__law_number) (by decide +kernel)) (tc_name (i := 2)) (by decide) (fun _ _ _ _ _ => (pg_name (i := 2) nd rfl (Or.inl rfl))) (fun _ _ _ _ _ => dts_nil) (fun _ _ _ _ _ => (de_cmp op_inA cp_in (de_w (pv 2)) (wk (de_c pe_str)) rfl)))) wa_nil))))))) (ds_one (ds_ret (de_c pe_non))) ds_nil)
      (ds_cons (ds_if (PW.pt (dw_and (dt_cmp (op_eqA hu) cp_eq (wk (de_ix (de_w (pv 1)) (wk (de_c pe_int)))) (wk (de_c pe_str)) (nomark _)) (pw_and1 (dt_cmp (op_neA hu) cp_ne (de_w (pv 0)) (wk (de_c pe_str)) (nomark _))))) (ds_one (ds_ret (de_c pe_non))) ds_nil)
      (ds_one (ds_ret (de_if (PW.pt (dw_and (dt_cmp (op_eqA hu) cp_eq (wk (de_op op_mod cp_mod (wk (de_callTy cr_intA cp_int rfl (T.free 12 rfl) boot_int (wa_cons (de_w (pv 0)) wa_nil))) (wk (de_c pe_int)))) (wk (de_c pe_int)) (nomark _)) (pw_and1 (dt_cmp op_le cp_le (wk (de_callB call_abs cp_abs rfl (T.free 22 rfl) boot_abs (wa_cons (wk (de_callTy cr_intA cp_int rfl (T.free 12 rfl) boot_int (wa_cons (de_w (pv 0)) wa_nil))) wa_nil))) (wk (de_op op_powX cp_pow (wk (de_c pe_int)) (wk (de_c pe_int)))) (nomark _))))) (de_callTy cr_intA cp_int rfl (T.free 12 rfl) boot_int (wa_cons (de_w (pv 0)) wa_nil)) (de_c pe_non)))))))
theorem c__law_number (T : Tl P fa fn ts tf er w K mg base) : CallOk P w K mg base 2 "_law_number" m__law_number := mk_def T.toTx 12 23 rfl rfl sc__law_number (fun _ _ _ _ _ _ us hl => match us, hl with | [_], _ => rfl) (d__law_number T)
abbrev s__law_end_of : Stmt := top 43
abbrev N__law_end_of : List Str := ["_law_line_here", "_law_word", "_law_words"]
theorem sc__law_end_of : FnScope N__law_end_of ["_law_line_here", "_law_word"] (defScope s__law_end_of) := ⟨rfl, rfl, rfl, by decide +kernel, rfl, by decide +kernel, by decide +kernel⟩
theorem d__law_end_of (T : Tl P fa fn ts tf er w K mg base) : Body P w K mg base N__law_end_of "_law_end_of" (defScope s__law_end_of) (defBody s__law_end_of) 3 b__law_end_of := fun f cdv A outer s H E  hr A0 F0 => by
  have nd := sc__law_end_of.nd
  have hu := hr.units
  have hu1 := hu_of hr
  exact (ds_cons (ds_asg (i := 2) nd rfl (Or.inl rfl) (de_strm PySem.F.slot_str_split PySem.F.type_str_split mt_split cp_split (de_w (pv 0)) (wa_cons (wk (de_c pe_str)) wa_nil)))
      (ds_cons (ds_if (dt_cmp (op_eqA hu) cp_eq (de_w (pv 2)) (wk (de_lst (da_cons (de_v (pv 1)) (da_cons (de_c pe_str) da_nil)))) (nomark _)) (ds_one (ds_ret (de_tup (da_cons (de_c pe_str) da_nil)))) ds_nil)
      (ds_cons (ds_if (PW.pt (dw_or (dt_cmp (op_neA hu) cp_ne (wk (de_callB cr_lenA cp_len rfl (T.free 0 rfl) boot_len (wa_cons (de_w (pv 2)) wa_nil))) (wk (de_c pe_int)) (nomark _)) (dw_or (dt_cmp (op_neA hu) cp_ne (wk (de_ix (de_w (pv 2)) (wk (de_c pe_int)))) (de_w (pv 1)) (nomark _)) (dw_or (dt_cmp op_ninA cp_nin (wk (de_ix (de_w (pv 2)) (wk (de_c pe_int)))) (wk (de_tup (da_cons (de_c pe_str) (da_cons (de_c pe_str) da_nil)))) rfl) (pw_or1 (dt_cmp op_isD cp_is (wk (de_fn (c__law_number T) (hr.mono (by decide)) passD (da_cons (de_ix (de_w (pv 2)) (wk (de_c pe_int))) da_nil))) (wk (de_c pe_non)) (nomark _))))))) (ds_one (ds_ret (de_c pe_non))) ds_nil)
      (ds_one (ds_ret (de_tup (da_cons (de_ix (de_w (pv 2)) (wk (de_c pe_int))) (da_cons (de_fn (c__law_number T) (hr.mono (by decide)) passD (da_cons (de_ix (de_w (pv 2)) (wk (de_c pe_int))) da_nil)) da_nil))))))))
theorem c__law_end_of (T : Tl P fa fn ts tf er w K mg base) : CallOk P w K mg base 4 "_law_end_of" m__law_end_of := mk_def T.toTx 13 24 rfl rfl sc__law_end_of (fun _ _ _ _ _ _ us hl => match us, hl with | [_, _], _ => rfl) (d__law_end_of T)
abbrev s__law_has_places : Stmt := top 44
abbrev N__law_has_places : List Str := ["_law_line_here", "_law_left", "_law_right_here", "_law_words", "_law_places_here", "_law_rows", "_law_word", "_law_one", "_law_other"]
theorem sc__law_has_places : FnScope N__law_has_places ["_law_line_here", "_law_left", "_law_right_here"] (defScope s__law_has_places) := ⟨rfl, rfl, rfl, by decide +kernel, rfl, by decide +kernel, by decide +kernel⟩
theorem d__law_has_places (T : Tl P fa fn ts tf er w K mg base) : Body P w K mg base N__law_has_places "_law_has_places" (defScope s__law_has_places) (defBody s__law_has_places) 3 b__law_has_places := fun f cdv A outer s H E  hr A0 F0 => by
  have nd := sc__law_has_places.nd
  have hu := hr.units
  have hu1 := hu_of hr
  exact (ds_cons (ds_asg (i := 3) nd rfl (Or.inl rfl) (de_strm PySem.F.slot_str_split PySem.F.type_str_split mt_split cp_split (de_w (pv 0)) (wa_cons (wk (de_c pe_str)) wa_nil)))
      (ds_cons (ds_asgLc (i := 4) (own := [("_law_word", 6)]) rfl nd rfl rfl (sw_true rfl rfl rfl (by decide +kernel)) (di_seq (de_slice (de_w (pv 3)) (do_some (wk (de_c pe_int))) do_none)) (blkOk_by (N := N__law_has_places) (sc := defScope s__law_has_places) (by decide +kernel)) (tc_name (i := 6)) (by decide) (fun _ _ _ _ _ => (pg_name (i := 6) nd rfl (Or.inl rfl))) (fun _ _ _ _ _ => dts_nil) (fun _ _ _ _ _ => (de_fn (c__law_number T) (hr.mono (by decide)) passL (da_cons (de_v (pv 6)) da_nil))))
      (ds_cons (ds_if (PW.pt (dw_or (dt_cmp (op_neA hu) cp_ne (wk (de_ix (de_w (pv 3)) (wk (de_c pe_int)))) (wk (de_c pe_str)) (nomark _)) (dw_or (dt_not (dt_chain op_ltD cp_lt op_ltD cp_lt (wk (de_c pe_int)) (wk (de_callB cr_lenA cp_len rfl (T.free 0 rfl) boot_len (wa_cons (de_w (pv 4)) wa_nil))) (wk (de_c pe_int)))) (pw_or1 (dt_cmp (op_inP hu) cp_inP (wk (de_c pe_non)) (de_w (pv 4)) rfl))))) (ds_one (ds_ret (de_c pe_bl))) ds_nil)
      (ds_cons (ds_asg (i := 5) nd rfl (Or.inl rfl) (de_op op_addD cp_add (wk (de_op op_addD cp_add (wk (de_callTy call_list_of cp_list rfl (T.free 4 rfl) boot_list (wa_cons (wk (de_slice (de_w (pv 1)) (do_some (wk (de_c pe_int))) do_none)) wa_nil))) (de_w (pv 4)))) (wk (de_callTy call_list_of cp_list rfl (T.free 4 rfl) boot_list (wa_cons (wk (de_slice (de_w (pv 2)) (do_some (wk (de_c pe_int))) do_none)) wa_nil)))))
      (ds_one (ds_ret (de_callB (cr_all rfl) cp_all rfl (T.free 21 rfl) boot_all (wa_cons (wk (de_lc (own := [("_law_one", 7), ("_law_other", 8)]) rfl nd (di_zipG rfl (T.free 25 rfl) (da_cons (de_v (pv 5)) (da_cons (de_slice (de_w (pv 5)) (do_some (wk (de_c pe_int))) do_none) da_nil))) (blkOk_by (N := N__law_has_places) (sc := defScope s__law_has_places) (by decide +kernel)) (tc_tup (n := 2) (tcs_cons (tc_name (i := 7)) (tcs_cons (tc_name (i := 8)) tcs_nil))) (by decide) (fun _ _ _ _ _ => (pg_tup rfl (pgs_cons (pg_name (i := 7) nd rfl (Or.inl rfl)) (pgs_cons (pg_name (i := 8) nd rfl (Or.inl rfl)) pgs_nil)))) (fun _ _ _ _ _ => dts_nil) (fun _ _ _ _ _ => (de_cmp op_ltD cp_lt (de_w (pv 7)) (de_w (pv 8)) (nomark _))))) wa_nil))))))))
theorem c__law_has_places (T : Tl P fa fn ts tf er w K mg base) : CallOk P w K mg base 4 "_law_has_places" m__law_has_places := mk_def T.toTx 14 26 rfl rfl sc__law_has_places (fun _ _ _ _ _ _ us hl => match us, hl with | [_, _, _], _ => rfl) (d__law_has_places T)
abbrev s__law_first_wrong : Stmt := top 45
abbrev N__law_first_wrong : List Str := ["_law_text", "_law_lines_here", "_law_left", "_law_right_here"]
theorem sc__law_first_wrong : FnScope N__law_first_wrong ["_law_text"] (defScope s__law_first_wrong) := ⟨rfl, rfl, rfl, by decide +kernel, rfl, by decide +kernel, by decide +kernel⟩
theorem d__law_first_wrong (T : Tl P fa fn ts tf er w K mg base) : Body P w K mg base N__law_first_wrong "_law_first_wrong" (defScope s__law_first_wrong) (defBody s__law_first_wrong) 5 b__law_first_wrong := fun f cdv A outer s H E  hr A0 F0 => by
  have nd := sc__law_first_wrong.nd
  have hu := hr.units
  have hu1 := hu_of hr
  exact (ds_cons (ds_asg (i := 1) nd rfl (Or.inl rfl) (de_op op_addD cp_add (wk (de_strm PySem.F.slot_str_split PySem.F.type_str_split mt_split cp_split (de_w (pv 0)) (wa_cons (wk (de_c pe_str)) wa_nil))) (wk (de_lst (da_cons (de_c pe_str) (da_cons (de_c pe_str) da_nil))))))
      (ds_cons (ds_par (i := 2) (j := 3) rfl nd rfl rfl (by decide) rfl rfl (da_cons (de_fn (c__law_end_of T) (hr.mono (by decide)) passD (da_cons (de_ix (de_w (pv 1)) (wk (de_c pe_int))) (da_cons (de_c pe_str) da_nil))) (da_cons (de_fn (c__law_end_of T) (hr.mono (by decide)) passD (da_cons (de_ix (de_w (pv 1)) (wk (de_c pe_int))) (da_cons (de_c pe_str) da_nil))) da_nil)) rfl)
      (ds_cons (ds_if (dt_cmp op_isD cp_is (de_w (pv 2)) (wk (de_c pe_non)) (nomark _)) (ds_one (ds_ret (de_c pe_int))) ds_nil)
      (ds_cons (ds_if (PW.pt (dw_or (dt_cmp op_isD cp_is (de_w (pv 3)) (wk (de_c pe_non)) (nomark _)) (pw_or1 (PW.pt (dw_and (dt_cmp (op_eqA hu) cp_eq (wk (de_ix (de_w (pv 2)) (wk (de_c pe_int)))) (wk (de_c pe_str)) (nomark _)) (pw_and1 (dt_cmp (op_eqA hu) cp_eq (wk (de_ix (de_w (pv 3)) (wk (de_c pe_int)))) (wk (de_c pe_str)) (nomark _)))))))) (ds_one (ds_ret (de_c pe_int))) ds_nil)
      (ds_cons (ds_if (dt_not (dt_val (de_fn (c__law_has_places T) (hr.mono (by decide)) passD (da_cons (de_ix (de_w (pv 1)) (wk (de_c pe_int))) (da_cons (de_v (pv 2)) (da_cons (de_v (pv 3)) da_nil)))))) (ds_one (ds_ret (de_c pe_int))) ds_nil)
      (ds_one (ds_ret (de_if (dt_cmp op_gt cp_gt (wk (de_callB cr_lenA cp_len rfl (T.free 0 rfl) boot_len (wa_cons (de_w (pv 1)) wa_nil))) (wk (de_c pe_int)) (nomark _)) (de_c pe_int) (de_c pe_int)))))))))
theorem c__law_first_wrong (T : Tl P fa fn ts tf er w K mg base) : CallOk P w K mg base 6 "_law_first_wrong" m__law_first_wrong := mk_def T.toTx 15 27 rfl rfl sc__law_first_wrong (fun _ _ _ _ _ _ us hl => match us, hl with | [_], _ => rfl) (d__law_first_wrong T)
theorem c_told (T : Tl P fa fn ts tf er w K mg base) : ToldT P w K mg base := mk_told T.toTx 16 28 rfl rfl (fun _ _ _ _ _ _ us hl => match us, hl with | [_], _ => rfl) (T.gle 0 rfl) ⟨_, _, _, _, _, _, _, _, _, _, _, _, _, _, _, _, _, _, _, _, _, rfl, fun _ _ _ _ _ _ => rfl⟩
abbrev s_number_in : Stmt := top 12
abbrev N_number_in : List Str := ["word", "figures", "sign"]
theorem sc_number_in : FnScope N_number_in ["word"] (defScope s_number_in) := ⟨rfl, rfl, rfl, by decide +kernel, rfl, by decide +kernel, by decide +kernel⟩
theorem d_number_in (T : Tl P fa fn ts tf er w K mg base) : Body P w K mg base N_number_in "number_in" (defScope s_number_in) (defBody s_number_in) 1 b_number_in := fun f cdv A outer s H E  hr A0 F0 => by
  have nd := sc_number_in.nd
  have hu := hr.units
  have hu1 := hu_of hr
  exact (ds_cons (ds_asg (i := 1) nd rfl (Or.inl rfl) (de_strm PySem.F.slot_str_removeprefix PySem.F.type_str_removeprefix mt_removeprefix cp_rmp (de_w (pv 0)) (wa_cons (wk (de_gs (T.str 29 rfl))) wa_nil)))
      (ds_cons (ds_if (PW.pt (dw_or (dt_not (dt_chain op_le cp_le op_le cp_le (wk (de_c pe_int)) (wk (de_callB cr_lenA cp_len rfl (T.free 0 rfl) boot_len (wa_cons (de_w (pv 1)) wa_nil))) (wk (de_gi (T.int 30 rfl))))) (pw_or1 (dt_not (dt_val (de_callB (cr_all rfl) cp_all rfl (T.free 21 rfl) boot_all (wa_cons (wk (de_lc (own := [("sign", 2)]) rfl nd (di_seq (de_v (pv 1))) (blkOk_by (N := N_number_in) (sc := defScope s_number_in) (by decide +kernel)) (tc_name (i := 2)) (by decide) (fun _ _ _ _ _ => (pg_name (i := 2) nd rfl (Or.inl rfl))) (fun _ _ _ _ _ => dts_nil) (fun _ _ _ _ _ => (de_cmp op_inA cp_in (de_w (pv 2)) (wk (de_gs (T.str 31 rfl))) rfl)))) wa_nil))))))) (ds_one (ds_ret (de_c pe_non))) ds_nil)
      (ds_cons (ds_if (PW.pt (dw_and (dt_cmp (op_eqA hu) cp_eq (wk (de_ix (de_w (pv 1)) (wk (de_c pe_int)))) (wk (de_c pe_str)) (nomark _)) (pw_and1 (dt_cmp (op_neA hu) cp_ne (de_w (pv 0)) (wk (de_c pe_str)) (nomark _))))) (ds_one (ds_ret (de_c pe_non))) ds_nil)
      (ds_one (ds_ret (de_callTy cr_intA cp_int rfl (T.free 12 rfl) boot_int (wa_cons (de_w (pv 0)) wa_nil)))))))
theorem c_number_in (T : Tl P fa fn ts tf er w K mg base) : CallOk P w K mg base 2 "number_in" m_number_in := mk_def T.toTx 17 32 rfl rfl sc_number_in (fun _ _ _ _ _ _ us hl => match us, hl with | [_], _ => rfl) (d_number_in T)
abbrev s_is_place : Stmt := top 23
abbrev N_is_place : List Str := ["value"]
theorem sc_is_place : FnScope N_is_place ["value"] (defScope s_is_place) := ⟨rfl, rfl, rfl, by decide +kernel, rfl, by decide +kernel, by decide +kernel⟩
theorem d_is_place (T : Tl P fa fn ts tf er w K mg base) : Body P w K mg base N_is_place "is_place" (defScope s_is_place) (defBody s_is_place) 1 b_is_place := fun f cdv A outer s H E  hr A0 F0 => by
  have nd := sc_is_place.nd
  have hu := hr.units
  have hu1 := hu_of hr
  exact (ds_one (ds_ret (de_and (de_cmp op_isntD cp_isnt (de_w (pv 0)) (wk (de_c pe_non)) (nomark _)) (de_and (de_cmp (op_eqA hu) cp_eq (wk (de_op op_mod cp_mod (de_w (pv 0)) (wk (de_c pe_int)))) (wk (de_c pe_int)) (nomark _)) (de_one (de_cmp op_le cp_le (wk (de_callB call_abs cp_abs rfl (T.free 22 rfl) boot_abs (wa_cons (de_w (pv 0)) wa_nil))) (wk (de_gi (T.int 33 rfl))) (nomark _)))))))
theorem c_is_place (T : Tl P fa fn ts tf er w K mg base) : CallOk P w K mg base 2 "is_place" m_is_place := mk_def T.toTx 18 34 rfl rfl sc_is_place (fun _ _ _ _ _ _ us hl => match us, hl with | [_], _ => rfl) (d_is_place T)
abbrev s_end_in : Stmt := top 24
abbrev N_end_in : List Str := ["line", "word", "words", "number"]
theorem sc_end_in : FnScope N_end_in ["line", "word"] (defScope s_end_in) := ⟨rfl, rfl, rfl, by decide +kernel, rfl, by decide +kernel, by decide +kernel⟩
theorem d_end_in (T : Tl P fa fn ts tf er w K mg base) : Body P w K mg base N_end_in "end_in" (defScope s_end_in) (defBody s_end_in) 3 b_end_in := fun f cdv A outer s H E  hr A0 F0 => by
  have nd := sc_end_in.nd
  have hu := hr.units
  have hu1 := hu_of hr
  exact (ds_cons (ds_asg (i := 2) nd rfl (Or.inl rfl) (de_strm PySem.F.slot_str_split PySem.F.type_str_split mt_split cp_split (de_w (pv 0)) (wa_cons (wk (de_gs (T.str 35 rfl))) wa_nil)))
      (ds_cons (ds_if (dt_cmp (op_eqA hu) cp_eq (de_w (pv 2)) (wk (de_lst (da_cons (de_v (pv 1)) (da_cons (de_gs (T.str 36 rfl)) da_nil)))) (nomark _)) (ds_one (ds_ret (de_tup (da_cons (de_gs (T.str 36 rfl)) da_nil)))) ds_nil)
      (ds_cons (ds_if (PW.pt (dw_or (dt_cmp (op_neA hu) cp_ne (wk (de_callB cr_lenA cp_len rfl (T.free 0 rfl) boot_len (wa_cons (de_w (pv 2)) wa_nil))) (wk (de_gi (T.int 37 rfl))) (nomark _)) (dw_or (dt_cmp (op_neA hu) cp_ne (wk (de_ix (de_w (pv 2)) (wk (de_c pe_int)))) (de_w (pv 1)) (nomark _)) (pw_or1 (dt_cmp op_ninA cp_nin (wk (de_ix (de_w (pv 2)) (wk (de_c pe_int)))) (wk (de_tup (da_cons (de_gs (T.str 39 rfl)) (da_cons (de_gs (T.str 38 rfl)) da_nil)))) rfl))))) (ds_one (ds_ret (de_c pe_non))) ds_nil)
      (ds_cons (ds_asg (i := 3) nd rfl (Or.inl rfl) (de_fn (c_number_in T) (hr.mono (by decide)) passD (da_cons (de_ix (de_w (pv 2)) (wk (de_c pe_int))) da_nil)))
      (ds_one (ds_ret (de_if (dt_val (de_fn (c_is_place T) (hr.mono (by decide)) passD (da_cons (de_v (pv 3)) da_nil))) (de_tup (da_cons (de_ix (de_w (pv 2)) (wk (de_c pe_int))) (da_cons (de_v (pv 3)) da_nil))) (de_c pe_non))))))))
theorem c_end_in (T : Tl P fa fn ts tf er w K mg base) : CallOk P w K mg base 4 "end_in" m_end_in := mk_def T.toTx 19 40 rfl rfl sc_end_in (fun _ _ _ _ _ _ us hl => match us, hl with | [_, _], _ => rfl) (d_end_in T)
abbrev s_do_ascend : Stmt := top 13
abbrev N_do_ascend : List Str := ["some", "one", "other"]
theorem sc_do_ascend : FnScope N_do_ascend ["some"] (defScope s_do_ascend) := ⟨rfl, rfl, rfl, by decide +kernel, rfl, by decide +kernel, by decide +kernel⟩
theorem d_do_ascend (T : Tl P fa fn ts tf er w K mg base) : Body P w K mg base N_do_ascend "do_ascend" (defScope s_do_ascend) (defBody s_do_ascend) 1 b_do_ascend := fun f cdv A outer s H E  hr A0 F0 => by
  have nd := sc_do_ascend.nd
  have hu := hr.units
  have hu1 := hu_of hr
  exact (ds_one (ds_ret (de_callB (cr_all rfl) cp_all rfl (T.free 21 rfl) boot_all (wa_cons (wk (de_lc (own := [("one", 1), ("other", 2)]) rfl nd (di_zipG rfl (T.free 25 rfl) (da_cons (de_v (pv 0)) (da_cons (de_slice (de_w (pv 0)) (do_some (wk (de_c pe_int))) do_none) da_nil))) (blkOk_by (N := N_do_ascend) (sc := defScope s_do_ascend) (by decide +kernel)) (tc_tup (n := 2) (tcs_cons (tc_name (i := 1)) (tcs_cons (tc_name (i := 2)) tcs_nil))) (by decide) (fun _ _ _ _ _ => (pg_tup rfl (pgs_cons (pg_name (i := 1) nd rfl (Or.inl rfl)) (pgs_cons (pg_name (i := 2) nd rfl (Or.inl rfl)) pgs_nil)))) (fun _ _ _ _ _ => dts_nil) (fun _ _ _ _ _ => (de_cmp op_ltD cp_lt (de_w (pv 1)) (de_w (pv 2)) (nomark _))))) wa_nil))))
theorem c_do_ascend (T : Tl P fa fn ts tf er w K mg base) : CallOk P w K mg base 2 "do_ascend" m_do_ascend := mk_def T.toTx 20 41 rfl rfl sc_do_ascend (fun _ _ _ _ _ _ us hl => match us, hl with | [_], _ => rfl) (d_do_ascend T)
abbrev s_places_in : Stmt := top 25
abbrev N_places_in : List Str := ["line", "left", "right", "words", "places", "is_left", "is_right", "word", "one"]
theorem sc_places_in : FnScope N_places_in ["line", "left", "right"] (defScope s_places_in) := ⟨rfl, rfl, rfl, by decide +kernel, rfl, by decide +kernel, by decide +kernel⟩
theorem d_places_in (T : Tl P fa fn ts tf er w K mg base) : Body P w K mg base N_places_in "places_in" (defScope s_places_in) (defBody s_places_in) 3 b_places_in := fun f cdv A outer s H E  hr A0 F0 => by
  have nd := sc_places_in.nd
  have hu := hr.units
  have hu1 := hu_of hr
  exact (ds_cons (ds_asg (i := 3) nd rfl (Or.inl rfl) (de_strm PySem.F.slot_str_split PySem.F.type_str_split mt_split cp_split (de_w (pv 0)) (wa_cons (wk (de_gs (T.str 35 rfl))) wa_nil)))
      (ds_cons (ds_asgLc (i := 4) (own := [("word", 7)]) rfl nd rfl rfl (sw_true rfl rfl rfl (by decide +kernel)) (di_seq (de_slice (de_w (pv 3)) (do_some (wk (de_c pe_int))) do_none)) (blkOk_by (N := N_places_in) (sc := defScope s_places_in) (by decide +kernel)) (tc_name (i := 7)) (by decide) (fun _ _ _ _ _ => (pg_name (i := 7) nd rfl (Or.inl rfl))) (fun _ _ _ _ _ => dts_nil) (fun _ _ _ _ _ => (de_fn (c_number_in T) (hr.mono (by decide)) passL (da_cons (de_v (pv 7)) da_nil))))
      (ds_cons (ds_if (PW.pt (dw_or (dt_cmp (op_neA hu) cp_ne (wk (de_ix (de_w (pv 3)) (wk (de_c pe_int)))) (wk (de_gs (T.str 42 rfl))) (nomark _)) (dw_or (dt_not (dt_chain op_le cp_le op_le cp_le (wk (de_c pe_int)) (wk (de_callB cr_lenA cp_len rfl (T.free 0 rfl) boot_len (wa_cons (de_w (pv 4)) wa_nil))) (wk (de_gi (T.int 43 rfl))))) (pw_or1 (dt_not (dt_val (de_callB (cr_all rfl) cp_all rfl (T.free 21 rfl) boot_all (wa_cons (wk (de_lc (own := [("one", 8)]) rfl nd (di_seq (de_v (pv 4))) (blkOk_by (N := N_places_in) (sc := defScope s_places_in) (by decide +kernel)) (tc_name (i := 8)) (by decide) (fun _ _ _ _ _ => (pg_name (i := 8) nd rfl (Or.inl rfl))) (fun _ _ _ _ _ => dts_nil) (fun _ _ _ _ _ => (de_fn (c_is_place T) (hr.mono (by decide)) passL (da_cons (de_v (pv 8)) da_nil))))) wa_nil)))))))) (ds_one (ds_ret (de_c pe_non))) ds_nil)
      (ds_cons (ds_asg (i := 5) nd rfl (Or.inl rfl) (de_or (de_cmp (op_eqA hu) cp_eq (de_w (pv 1)) (wk (de_tup (da_cons (de_gs (T.str 36 rfl)) da_nil))) (nomark _)) (de_one (de_cmp op_ltD cp_lt (wk (de_ix (de_w (pv 1)) (wk (de_c pe_int)))) (wk (de_ix (de_w (pv 4)) (wk (de_c pe_int)))) (nomark _)))))
      (ds_cons (ds_asg (i := 6) nd rfl (Or.inl rfl) (de_or (de_cmp (op_eqA hu) cp_eq (de_w (pv 2)) (wk (de_tup (da_cons (de_gs (T.str 36 rfl)) da_nil))) (nomark _)) (de_one (de_cmp op_ltD cp_lt (wk (de_ix (de_w (pv 4)) (wk (de_un un_neg cp_neg (wk (de_c pe_int)))))) (wk (de_ix (de_w (pv 2)) (wk (de_c pe_int)))) (nomark _)))))
      (ds_one (ds_ret (de_if (PW.pt (dw_and (dt_val (de_fn (c_do_ascend T) (hr.mono (by decide)) passD (da_cons (de_v (pv 4)) da_nil))) (dw_and (dt_val (de_v (pv 5))) (pw_and1 (dt_val (de_v (pv 6))))))) (de_callTy call_tuple_of cp_tuple rfl (T.free 44 rfl) boot_tuple (wa_cons (de_w (pv 4)) wa_nil)) (de_c pe_non)))))))))
theorem c_places_in (T : Tl P fa fn ts tf er w K mg base) : CallOk P w K mg base 4 "places_in" m_places_in := mk_def T.toTx 21 45 rfl rfl sc_places_in (fun _ _ _ _ _ _ us hl => match us, hl with | [_, _, _], _ => rfl) (d_places_in T)
abbrev s_read_way : Stmt := top 26
abbrev N_read_way : List Str := ["text", "lines", "left", "right", "places"]
theorem sc_read_way : FnScope N_read_way ["text"] (defScope s_read_way) := ⟨rfl, rfl, rfl, by decide +kernel, rfl, by decide +kernel, by decide +kernel⟩
theorem d_read_way (T : Tl P fa fn ts tf er w K mg base) : Body P w K mg base N_read_way "read_way" (defScope s_read_way) (defBody s_read_way) 5 b_read_way := fun f cdv A outer s H E  hr A0 F0 => by
  have nd := sc_read_way.nd
  have hu := hr.units
  have hu1 := hu_of hr
  exact (ds_cons (ds_if (dt_not (dt_val (de_callB call_isi cp_isi rfl (T.free 46 rfl) boot_isinstance (wa_cons (de_w (pv 0)) (wa_cons (wk (de_ty (T.free 9 rfl) boot_str)) wa_nil))))) (ds_one (ds_raise (T.err 1 rfl) rfl (hr.mono (Nat.zero_le _)) takesD (da_cons (de_c pe_int) da_nil))) ds_nil)
      (ds_cons (ds_asg (i := 1) nd rfl (Or.inl rfl) (de_strm PySem.F.slot_str_split PySem.F.type_str_split mt_split cp_split (de_w (pv 0)) (wa_cons (wk (de_gs (T.str 47 rfl))) wa_nil)))
      (ds_cons (ds_asg (i := 2) nd rfl (Or.inl rfl) (de_fn (c_end_in T) (hr.mono (by decide)) passD (da_cons (de_ix (de_w (pv 1)) (wk (de_c pe_int))) (da_cons (de_gs (T.str 48 rfl)) da_nil))))
      (ds_cons (ds_if (dt_cmp op_isD cp_is (de_w (pv 2)) (wk (de_c pe_non)) (nomark _)) (ds_one (ds_raise (T.err 1 rfl) rfl (hr.mono (Nat.zero_le _)) takesD (da_cons (de_c pe_int) da_nil))) ds_nil)
      (ds_cons (ds_asg (i := 3) nd rfl (Or.inl rfl) (de_if (dt_cmp op_gt cp_gt (wk (de_callB cr_lenA cp_len rfl (T.free 0 rfl) boot_len (wa_cons (de_w (pv 1)) wa_nil))) (wk (de_c pe_int)) (nomark _)) (de_fn (c_end_in T) (hr.mono (by decide)) passD (da_cons (de_ix (de_w (pv 1)) (wk (de_c pe_int))) (da_cons (de_gs (T.str 49 rfl)) da_nil))) (de_c pe_non)))
      (ds_cons (ds_if (PW.pt (dw_or (dt_cmp op_isD cp_is (de_w (pv 3)) (wk (de_c pe_non)) (nomark _)) (pw_or1 (PW.pt (dw_and (dt_cmp (op_eqA hu) cp_eq (wk (de_ix (de_w (pv 2)) (wk (de_c pe_int)))) (wk (de_gs (T.str 38 rfl))) (nomark _)) (pw_and1 (dt_cmp (op_eqA hu) cp_eq (wk (de_ix (de_w (pv 3)) (wk (de_c pe_int)))) (wk (de_gs (T.str 38 rfl))) (nomark _)))))))) (ds_one (ds_raise (T.err 1 rfl) rfl (hr.mono (Nat.zero_le _)) takesD (da_cons (de_c pe_int) da_nil))) ds_nil)
      (ds_cons (ds_asg (i := 4) nd rfl (Or.inl rfl) (de_if (dt_cmp op_gt cp_gt (wk (de_callB cr_lenA cp_len rfl (T.free 0 rfl) boot_len (wa_cons (de_w (pv 1)) wa_nil))) (wk (de_gi (T.int 50 rfl))) (nomark _)) (de_fn (c_places_in T) (hr.mono (by decide)) passD (da_cons (de_ix (de_w (pv 1)) (wk (de_c pe_int))) (da_cons (de_v (pv 2)) (da_cons (de_v (pv 3)) da_nil)))) (de_c pe_non)))
      (ds_cons (ds_if (dt_cmp op_isD cp_is (de_w (pv 4)) (wk (de_c pe_non)) (nomark _)) (ds_one (ds_raise (T.err 1 rfl) rfl (hr.mono (Nat.zero_le _)) takesD (da_cons (de_gi (T.int 37 rfl)) da_nil))) ds_nil)
      (ds_cons (ds_if (dt_cmp op_gt cp_gt (wk (de_callB cr_lenA cp_len rfl (T.free 0 rfl) boot_len (wa_cons (de_w (pv 1)) wa_nil))) (wk (de_gi (T.int 37 rfl))) (nomark _)) (ds_one (ds_raise (T.err 1 rfl) rfl (hr.mono (Nat.zero_le _)) takesD (da_cons (de_op op_addD cp_add (wk (de_gi (T.int 37 rfl))) (wk (de_c pe_int))) da_nil))) ds_nil)
      (ds_one (ds_ret (de_tup (da_cons (de_v (pv 2)) (da_cons (de_v (pv 3)) (da_cons (de_v (pv 4)) da_nil)))))))))))))))
theorem c_read_way (T : Tl P fa fn ts tf er w K mg base) : CallOk P w K mg base 6 "read_way" m_read_way := mk_def T.toTx 22 51 rfl rfl sc_read_way (fun _ _ _ _ _ _ us hl => match us, hl with | [_], _ => rfl) (d_read_way T)
abbrev s_Way___init__ : Stmt := inClass (top 30) 0
abbrev N_Way___init__ : List Str := ["self", "text", "left", "right", "places"]
theorem sc_Way___init__ : FnScope N_Way___init__ ["self", "text"] (defScope s_Way___init__) := ⟨rfl, rfl, rfl, by decide +kernel, rfl, by decide +kernel, by decide +kernel⟩
theorem d_Way___init__ (T : Tl P fa fn ts tf er w K mg base) : Body P w K mg base N_Way___init__ "Way.__init__" (defScope s_Way___init__) (defBody s_Way___init__) 7 b_Way___init__ := fun f cdv A outer s H E  hr A0 F0 => by
  have nd := sc_Way___init__.nd
  have hu := hr.units
  have hu1 := hu_of hr
  exact (ds_cons (ds_unp (de_fn (c_read_way T) (hr.mono (by decide)) passD (da_cons (de_v (pv 1)) da_nil)) (pg_tup rfl (pgs_cons (pg_name (i := 2) nd rfl (Or.inl rfl)) (pgs_cons (pg_name (i := 3) nd rfl (Or.inl rfl)) (pgs_cons (pg_name (i := 4) nd rfl (Or.inl rfl)) pgs_nil)))) (tc_tup (n := 3) (tcs_cons (tc_name (i := 2)) (tcs_cons (tc_name (i := 3)) (tcs_cons (tc_name (i := 4)) tcs_nil)))))
      (ds_cons (ds_setF (T.cls 1 rfl) (T.noat 52 rfl) (pv 0) (de_v (pv 1)))
      (ds_cons (ds_setF (T.cls 1 rfl) (T.noat 53 rfl) (pv 0) (de_v (pv 2)))
      (ds_cons (ds_setF (T.cls 1 rfl) (T.noat 54 rfl) (pv 0) (de_v (pv 3)))
      (ds_one (ds_setF (T.cls 1 rfl) (T.noat 2 rfl) (pv 0) (de_v (pv 4))))))))
theorem c_Way (T : Tl P fa fn ts tf er w K mg base) : MakeOk P w K mg base 8 "Way" m_Way := mk_make T.toTx 23 55 56 rfl rfl rfl sc_Way___init__ (fun _ _ _ _ _ _ us hl => match us, hl with | [_, _], _ => rfl) (d_Way___init__ T)
abbrev s__law_is_judged : Stmt := top 48
abbrev N__law_is_judged : List Str := ["_law_text", "_law_caught", "_law_number_here"]
theorem sc__law_is_judged : FnScope N__law_is_judged ["_law_text"] (defScope s__law_is_judged) := ⟨rfl, rfl, rfl, by decide +kernel, rfl, by decide +kernel, by decide +kernel⟩
theorem d__law_is_judged (T : Tl P fa fn ts tf er w K mg base) : BodyC P w K mg base N__law_is_judged "_law_is_judged" (defScope s__law_is_judged) (defBody s__law_is_judged) 13 b__law_is_judged := fun  A outer s H E gd hr A0 F0 => by
  have nd := sc__law_is_judged.nd
  have hu := hr.units
  have hu1 := hu_of hr
  have hgd : (A.deeper (envOfC "_law_is_judged" (defScope s__law_is_judged) s.heap.objs.size (He.ga K "_law_is_judged") (.ref (He.cT K ("_law_is_judged", none)).1))).guards = some [] := gd_deeper gd
  have hu2 := hu2_of hr
  exact (ds_cons (ds_par (i := 1) (j := 2) rfl nd rfl rfl (by decide) rfl rfl (da_cons (de_ix (wk (de_told (n := 0) (c_told T) T.exm (T.tb 0 rfl) rfl lamq (hr.mono (by decide : 9 + 2 ≤ 13)) (LamX.lamS_by (sc := defScope s__law_is_judged) (by decide +kernel)) (fun _ _ _ _ _ _ _ hr => have hu := hr.units; have hu1 := hu_of hr; (de_make (c_Way T) (hr.mono (by decide)) passM (da_cons (de_v (pv 0)) da_nil))))) (wk (de_c pe_int))) (da_cons (de_fn (c__law_first_wrong T) (hr.mono (by decide)) passD (da_cons (de_v (pv 0)) da_nil)) da_nil)) rfl)
      (ds_cons (ds_if (dt_cmp (op_eqA hu) cp_eq (de_w (pv 2)) (wk (de_c pe_int)) (nomark _)) (ds_one (ds_ret (de_cmp op_isD cp_is (de_w (pv 1)) (wk (de_c pe_non)) (nomark _)))) ds_nil)
      (ds_one (ds_ret (de_and (de_callB call_isX (cp_isX (T.isx 1 rfl) (T.isn 1 rfl)) rfl (T.free 46 rfl) boot_isinstance (wa_cons (de_w (pv 1)) (wa_cons (wk (de_go (T.gle 1 rfl) (fun _ _ => rep_glo))) wa_nil))) (de_one (de_cmp (op_eqA hu) cp_eq (wk (de_callB (cr_repr hgd hu2) cp_repr rfl (T.free 57 rfl) boot_repr (wa_cons (wk (de_xval T.xf (de_w (pv 1)))) wa_nil))) (wk (de_callB (cr_repr hgd hu2) cp_repr rfl (T.free 57 rfl) boot_repr (wa_cons (de_w (pv 2)) wa_nil))) (nomark _))))))))
theorem c__law_is_judged (T : Tl P fa fn ts tf er w K mg base) : CallG P w K mg base 14 "_law_is_judged" m__law_is_judged := mk_defC T.toTx 24 58 rfl rfl sc__law_is_judged (fun _ _ _ _ _ _ us hl => match us, hl with | [_], _ => rfl) (d__law_is_judged T)
abbrev s__law_right : Stmt := top 49
abbrev N__law_right : List Str := ["_law_pot_here", "_law_rows", "_law_lap", "_law_value", "_law_other", "_law_caught"]
theorem sc__law_right : FnScope N__law_right ["_law_pot_here"] (defScope s__law_right) := ⟨rfl, rfl, rfl, by decide +kernel, rfl, by decide +kernel, by decide +kernel⟩
theorem d__law_right (T : Tl P fa fn ts tf er w K mg base) : BodyC P w K mg base N__law_right "_law_right" (defScope s__law_right) (defBody s__law_right) 15 b__law_right := fun  A outer s H E gd hr A0 F0 => by
  have nd := sc__law_right.nd
  have hu := hr.units
  have hu1 := hu_of hr
  have hgd : (A.deeper (envOfC "_law_right" (defScope s__law_right) s.heap.objs.size (He.ga K "_law_right") (.ref (He.cT K ("_law_right", none)).1))).guards = some [] := gd_deeper gd
  have hu2 := hu2_of hr
  exact (ds_cons (ds_asg (i := 1) nd rfl (Or.inl rfl) (de_fn (c__law_lines T) (hr.mono (by decide)) passD (da_cons (de_fn (c__law_lore T) (hr.mono (by decide)) passD (da_cons (de_v (pv 0)) (da_cons (de_c pe_int) (da_cons (de_c pe_int) da_nil)))) da_nil)))
      (ds_cons (ds_for passO rfl (di_range1 rfl (T.free 5 rfl) (da_cons (de_c pe_int) da_nil)) (pg_name (i := 2) nd rfl (Or.inl rfl)) (tc_name (i := 2)) (ds_cons (ds_asg (i := 4) nd rfl (Or.inl rfl) (de_fn (c__law_spoilt T) (hr.mono (by decide)) passD (da_cons (de_v (pv 0)) (da_cons (de_v (pv 1)) da_nil))))
      (ds_cons (ds_if (PW.pt (dw_and (dt_cmp (op_neA hu) cp_ne (de_w (pv 4)) (wk (de_lst da_nil)) (nomark _)) (pw_and1 (dt_cmp (op_eqA hu) cp_eq (wk (de_fn (c__law_take T) (hr.mono (by decide)) passD (da_cons (de_v (pv 0)) (da_cons (de_c pe_int) da_nil)))) (wk (de_c pe_int)) (nomark _))))) (ds_one (ds_asg (i := 4) nd rfl (Or.inl rfl) (de_fn (c__law_spoilt T) (hr.mono (by decide)) passD (da_cons (de_v (pv 0)) (da_cons (de_v (pv 4)) da_nil))))) ds_nil)
      (ds_one (ds_if (dt_not (dt_val (de_fnG (c__law_is_judged T) hgd (hr.mono (by decide)) passD (da_cons (de_strm PySem.F.slot_str_join PySem.F.type_str_join mt_join cp_join (wk (de_c pe_str)) (wa_cons (de_w (pv 4)) wa_nil)) da_nil)))) (ds_one (ds_ret (de_c pe_bl))) ds_nil)))))
      (ds_cons (ds_for passO rfl (di_seq (de_lst (da_cons (de_c pe_non) (da_cons (de_c pe_int) (da_cons (de_c pe_bl) (da_cons (de_callTy call_tuple_of cp_tuple rfl (T.free 44 rfl) boot_tuple (wa_cons (de_w (pv 1)) wa_nil)) (da_cons (de_v (pv 1)) (da_cons de_dct0 (da_cons (de_lst (da_cons (de_ix (de_w (pv 1)) (wk (de_c pe_int))) da_nil)) (da_cons (de_tup (da_cons (de_c pe_str) da_nil)) (da_cons (de_fn (c__law_text_odd T) (hr.mono (by decide)) passD (da_cons (de_v (pv 0)) da_nil)) da_nil))))))))))) (pg_name (i := 3) nd rfl (Or.inr rfl)) (tc_name (i := 3)) (ds_cons (ds_asg (i := 5) nd rfl (Or.inl rfl) (de_ix (wk (de_told (n := 1) (c_told T) T.exm (T.tb 1 rfl) rfl lamq (hr.mono (by decide : 9 + 2 ≤ 15)) (LamX.lamS_by (sc := defScope s__law_right) (by decide +kernel)) (fun _ _ _ _ _ _ _ hr => have hu := hr.units; have hu1 := hu_of hr; (de_make (c_Way T) (hr.mono (by decide)) passM (da_cons (de_v (pv 3)) da_nil))))) (wk (de_c pe_int))))
      (ds_one (ds_if (PW.pt (dw_or (dt_not (dt_val (de_callB call_isX (cp_isX (T.isx 1 rfl) (T.isn 1 rfl)) rfl (T.free 46 rfl) boot_isinstance (wa_cons (de_w (pv 5)) (wa_cons (wk (de_go (T.gle 1 rfl) (fun _ _ => rep_glo))) wa_nil))))) (pw_or1 (PW.pt (dw_and (dt_not (dt_val (de_callB call_isi cp_isi rfl (T.free 46 rfl) boot_isinstance (wa_cons (de_w (pv 3)) (wa_cons (wk (de_ty (T.free 9 rfl) boot_str)) wa_nil))))) (pw_and1 (dt_cmp (op_neA hu) cp_ne (wk (de_callB (cr_repr0 hgd hu2) cp_repr0 rfl (T.free 57 rfl) boot_repr (wa_cons (wk (de_xval T.xf (de_w (pv 5)))) wa_nil))) (wk (de_c pe_str)) (nomark _)))))))) (ds_one (ds_ret (de_c pe_bl))) ds_nil))))
      (ds_one (ds_ret (de_and (de_fnG (c__law_is_judged T) hgd (hr.mono (by decide)) passD (da_cons (de_c pe_str) da_nil)) (de_and (de_fnG (c__law_is_judged T) hgd (hr.mono (by decide)) passD (da_cons (de_c pe_str) da_nil)) (de_one (de_fnG (c__law_is_judged T) hgd (hr.mono (by decide)) passD (da_cons (de_c pe_str) da_nil))))))))))
theorem c__law_right (T : Tl P fa fn ts tf er w K mg base) : CallG P w K mg base 16 "_law_right" m__law_right := mk_defC T.toTx 25 59 rfl rfl sc__law_right (fun _ _ _ _ _ _ us hl => match us, hl with | [_], _ => rfl) (d__law_right T)
abbrev s__law_pot : Stmt := top 32
abbrev N__law_pot : List Str := ["_law_script", "_law_place", "_law_cell", "_law_own", "_law_small"]
theorem sc__law_pot : FnScope N__law_pot ["_law_script", "_law_place"] (defScope s__law_pot) := ⟨rfl, rfl, rfl, by decide +kernel, rfl, by decide +kernel, by decide +kernel⟩
theorem d__law_pot (T : Tl P fa fn ts tf er w K mg base) : Body P w K mg base N__law_pot "_law_pot" (defScope s__law_pot) (defBody s__law_pot) 1 b__law_pot := fun f cdv A outer s H E  hr A0 F0 => by
  have nd := sc__law_pot.nd
  have hu := hr.units
  have hu1 := hu_of hr
  exact (ds_cons (ds_asg (i := 2) nd rfl (Or.inl rfl) (de_if (dt_cmp op_ltD cp_lt (de_w (pv 1)) (wk (de_callB cr_lenA cp_slen rfl (T.free 0 rfl) boot_len (wa_cons (de_w (pv 0)) wa_nil))) (nomark _)) (de_pix (de_w (pv 0)) (de_w (pv 1))) (de_op op_addD cp_add (wk (de_op op_mulD cp_mul (wk (de_c pe_int)) (de_w (pv 1)))) (wk (de_c pe_int)))))
      (ds_cons (ds_asg (i := 3) nd rfl (Or.inl rfl) (de_op op_mulD cp_mul (wk (de_op op_mod cp_mod (wk (de_callTy cr_intA cp_int rfl (T.free 12 rfl) boot_int (wa_cons (wk (de_callB call_abs cp_abs rfl (T.free 22 rfl) boot_abs (wa_cons (de_w (pv 2)) wa_nil))) wa_nil))) (wk (de_op op_powX cp_pow (wk (de_op op_powX cp_pow (wk (de_c pe_int)) (wk (de_c pe_int)))) (wk (de_c pe_int)))))) (wk (de_callTy cr_intA cp_int rfl (T.free 12 rfl) boot_int (wa_cons (wk (de_cmp op_ge cp_ge (wk (de_callB call_abs cp_abs rfl (T.free 22 rfl) boot_abs (wa_cons (de_w (pv 2)) wa_nil))) (wk (de_op op_powX cp_pow (wk (de_c pe_int)) (wk (de_c pe_int)))) (nomark _))) wa_nil)))))
      (ds_cons (ds_asg (i := 4) nd rfl (Or.inl rfl) (de_op op_mod cp_mod (wk (de_callTy cr_intA cp_int rfl (T.free 12 rfl) boot_int (wa_cons (de_w (pv 2)) wa_nil))) (wk (de_c pe_int))))
      (ds_one (ds_retPot (da_cons (de_v (pv 3)) (da_cons (de_op op_mod cp_mod (wk (de_callTy cr_intA cp_int rfl (T.free 12 rfl) boot_int (wa_cons (wk (de_op op_addD cp_add (wk (de_op op_addD cp_add (wk (de_op op_mulD cp_mul (de_w (pv 4)) (wk (de_c pe_int)))) (wk (de_op op_mulD cp_mul (wk (de_op op_mulD cp_mul (wk (de_c pe_int)) (de_w (pv 1)))) (de_w (pv 1)))))) (wk (de_c pe_int)))) wa_nil))) (wk (de_c pe_int))) (da_cons (de_c pe_int) da_nil))))))))
theorem c__law_pot (T : Tl P fa fn ts tf er w K mg base) : CallOk P w K mg base 2 "_law_pot" m__law_pot := mk_def T.toTx 26 60 rfl rfl sc__law_pot (fun _ _ _ _ _ _ us hl => match us, hl with | [_, _], _ => rfl) (d__law_pot T)
abbrev s_law : Stmt := top 51
abbrev N_law : List Str := ["_law_script", "_law_place"]
theorem sc_law : FnScope N_law ["_law_script"] (defScope s_law) := ⟨rfl, rfl, rfl, by decide +kernel, rfl, by decide +kernel, by decide +kernel⟩
theorem d_law (T : Tl P fa fn ts tf er w K mg base) : BodyG P w K mg base N_law "law" (defScope s_law) (defBody s_law) 17 b_law := fun f cdv A outer s H E gd hr A0 F0 => by
  have nd := sc_law.nd
  have hu := hr.units
  have hu1 := hu_of hr
  have hgd : (A.deeper (envOfC "law" (defScope s_law) s.heap.objs.size f cdv)).guards = some [] := gd_deeper gd
  have hu2 := hu2_of hr
  exact (ds_cons (ds_for passO rfl (di_seq (de_fn (c__law_cells T) (hr.mono (by decide)) passD (da_cons (de_v (pv 0)) (da_cons (de_c pe_int) da_nil)))) (pg_name (i := 1) nd rfl (Or.inl rfl)) (tc_name (i := 1)) (ds_one (ds_if (dt_not (dt_val (de_fnG (c__law_right T) hgd (hr.mono (by decide)) passD (da_cons (de_fn (c__law_pot T) (hr.mono (by decide)) passD (da_cons (de_v (pv 0)) (da_cons (de_v (pv 1)) da_nil))) da_nil)))) (ds_one (ds_ret (de_c pe_bl))) ds_nil)))
      (ds_one (ds_ret (de_c pe_bl))))
end
theorem facts {w : World} {K : PySem.W.Frag} {h : Heap} {mg : Str → Option Value} {f : Addr} (X : K.In h) (G : h.Ns mainGlobals mg) (hfa : mg ("law" : Str) = some (.ref f)) (c : SaysE fa fn ts tf er file w h K) :
    ∃ fd : FuncData, (∀ (s : Shared) (v : Value), BindsTo s fd ⟨[v], []⟩ [("_law_script", v)]) ∧ ∀ base : Heap, K.In base → base.Ns mainGlobals mg → (∀ p ∈ tf.map fun x => He.cT K (x, none), LamX.TabB base mg p.1 p.2) → FnG (PySem.Challenge.rw_meetturn_k02_the_first_wrong_line).prog w K mg base (L2.CX (PySem.Challenge.rw_meetturn_k02_the_first_wrong_line).prog w) 18 f fd ["_law_script"] (SpF K m_law) := by
  have T0 : Tx fa fn K mg := (Tz.of X G c.t).toTx
  have e := hfa.symm.trans (T0.glo 61 rfl)
  cases e
  obtain ⟨fd, F⟩ := T0.says.def_ 27 rfl
  have b := FunD.bindsA (ps := ["_law_script"]) F fun _ _ _ _ _ _ us hl => match us, hl with | [_], _ => rfl
  refine ⟨fd, fun s v => b s [v] rfl, fun base _ _ tb => ?_⟩
  have T : Tl (PySem.Challenge.rw_meetturn_k02_the_first_wrong_line).prog fa fn ts tf er w K mg base := .of X G c rfl (by kernel_rfl) fun x hx => tb _ (List.mem_map.mpr ⟨x, hx, rfl⟩)
  exact fnG_ok F sc_law (d_law T)
end Gen
open PySem PySem.W PySem.Calls PyProof.Rows
set_option maxHeartbeats 0 in
theorem PySem.Challenge.cw_meetturn_k02_the_first_wrong_line_holds : PySem.Challenge.rw_meetturn_k02_the_first_wrong_line.Holds := by
  w_on; o_law
  refine Gen.headTop ?hw ?hc
  case hw => w_witness2
  case hc =>
    refine MT.walk_GT (l := PySem.Challenge.rw_meetturn_k02_the_first_wrong_line) (n := 63) (k := 18) (x := "_law_script") rfl (by decide) (by kernel_rfl) ⟨rfl, by decide, by decide⟩ ?_
    intro w mg fa h Y G hmg0
    obtain ⟨K, KX, c⟩ := Y
    have hmg : mg ("law" : PySem.Str) = some (.ref fa) := by
      have e : (HandSHeadRun.topDef (OpenLaw.row PySem.Challenge.rw_meetturn_k02_the_first_wrong_line).prog 51).name = ("law" : PySem.Str) := by kernel_rfl
      rw [← e]; exact hmg0
    obtain ⟨fd, hb, hF⟩ := Gen.facts (w := w) KX G hmg c
    refine ⟨K, fd, Gen.tf.map fun x => He.cT K (x, none), MT.SpF K Gen.m_law, KX, fun p hp => ?_, fun p hp => ?_, fun p hp => ?_, hb, fun H a ns hl hbits hT na hS => ?_, hF⟩
    · obtain ⟨x, hx, rfl⟩ := List.mem_map.mp hp
      exact c.empty x hx
    · obtain ⟨x, hx, rfl⟩ := List.mem_map.mp hp
      exact c.out x hx
    · obtain ⟨x, hx, rfl⟩ := List.mem_map.mp hp
      exact PySem.W.codeHd_of_K KX (c.hd x hx)
    · obtain ⟨m, e⟩ := Gen.pure_law ns hl hbits
      refine MT.law_startT (tf := Gen.tf) e c.nd (fun x hx => hT _ (List.mem_map.mpr ⟨x, hx, rfl⟩)) (fun z => na ?_) hS
      rw [List.map_map]
      exact z
