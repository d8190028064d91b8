import PyProof.Rows.All
import Wide.All
import OpenK.AllK
import Wide.FinOn
import HandS.ForMost
import HandS.Exc
import HandS.TryMany
import HandS.Property
import HandS.Defaults
import KE.KDictKeyed
import KE.KDictCopyH
import HandS.Lambda
import HandS.Wide
import HandS.WideBits
import HandS.TupAny
import HandS.TupMul
import HandS.Flow
import HandS.NoneIn
import HandS.Iter
import HandS.CallRecv
import HandS.ExcOwn
import KE.KOpsOwn
import KE.KCallOwn
import KE.KFmtOwn
import HandS.IsInst
import HandS.Text
import HandS.List
import HandS.FStr
import HandS.RaiseMore
import HandS.Small
import Lean
import HandS.Words
import HandS.Head0
import HandS.Head1
import HandS.Head2
import HandS.HeadEnd
import HandS.HeadHook1
import HandS.HeadHook2
import HandS.HeadHook3
import KE.KIntText
import KE.BitLaws
import HandS.Deep
import HandS.Conv
import HandS.Zip
import KE.GoesZip
import KE.GoesMore
import KE.GoesEnum
import PyProof.RulesMatch
import HandS.MakeKw
import HandS.MakeKwOnly
import KE.KExcInit
import KE.KExcSuper
import KE.KSuper
import HandS.ExcInit
import HandS.ExcField
import HandS.ExcIs
import PyProof.Rows.FactsExc_KeyError
import PyProof.ExcBaseAll.RuntimeError
import PyProof.ExcBaseAll.LookupError
import KE.KExcIs
import HandS.DictEq
import PyProof.NeKinds
import PyProof.StrOps2
import HandS.EndTab
import HandS.HeadWalk
import KE.KNestM
import HandS.OwnEq
import HandS.Codes
import HandS.Style
import KE.KRevSl
import HandS.ReplaceLit
import KE.OsScanText
import PySem.Challenge.RW_signskept_k31_runs_as_text
set_option Elab.async false
set_option linter.all false
set_option maxRecDepth 100000
namespace MP
open PySem L2
/-- values of the small evaluator; lst and obj are frozen, loc is a place in the store -/
inductive PV where
  | non | bl (b : Bool) | int (i : Int) | str (s : List Nat)
  | tup (xs : List PV) | lst (xs : List PV)
  | dct (ks vs : List PV)
  | obj (k : Nat) (ns : List Nat) (xs : List PV)
  | loc (n : Nat) | st (k : Nat) | ty (n : String) | scr (ns : List Int)
inductive Cell where
  | lst (xs : List PV)
  | dct (ks vs : List PV)
  | ins (k : Nat) (ns : List Nat) (xs : List PV)
  | tab (i : Nat)
abbrev Hs := List Cell
abbrev Loc := List (Option PV)
/-- where the store's cells stand (l); lists that comprehensions are making, out of reach (h) -/
structure Mp where
  l : List Addr
  h : List Addr
def getR {A : Type} (l : List A) (n : Nat) : Option A := l.reverse[n]?
/-- what stands fixed: the text, its written part, where the named things stand, the names of fields -/
structure Sta where
  P : Program
  w : World
  K : PySem.W.Frag
  mg : Str → Option Value
  base : Heap
  G : Nat → Addr
  FN : Nat → Str
  inj : ∀ i j, FN i = FN j → i = j
  tb : Nat → Addr × Str := fun _ => (0, Str.empty)
/-- the signs of a text are signs -/
def sOk (s : List Nat) : Bool := s.all fun c => decide (c < 1114112)
/-- a list that is read alone, the script -/
def SqK (Z : Sta) (H : Hp) (m : Mp) (a : Addr) (ys : List V) : Prop := ((a ∉ m.l ∧ a ∉ m.h) ∧ Rd H a (.lst ys)) ∨
  ∃ (o : Obj) (its : Array Value) (n : Nat), Z.K.lookup a = some o ∧ o.cls = .type "list" ∧ o.dict = none ∧ o.data = .seq its n ∧ its.size ≤ sizeLine ∧ Vals ys its.toList
theorem SqK.sq {Z : Sta} {H : Hp} {m : Mp} {a : Addr} {ys : List V} (h : SqK Z H m a ys) : SqL Z.K H a ys := by
  rcases h with ⟨_, h⟩ | h
  · exact .inl h
  · exact .inr h
def zipF (Z : Sta) : List Nat → List V → List (Str × V)
  | i :: is, y :: ys => (Z.FN i, y) :: zipF Z is ys
  | _, _ => []
/-! ### keys of dicts: flat data, tuples of keys -/
def isTup : PV → Bool
  | .tup _ => true
  | _ => false
def isFlat : PV → Bool
  | .non => true
  | .bl _ => true
  | .int _ => true
  | .str _ => true
  | _ => false
def eqF : PV → PV → Bool
  | .non, .non => true
  | .bl a, .bl b => a == b
  | .bl a, .int j => (if a then 1 else 0) == j
  | .int i, .bl b => i == (if b then 1 else 0)
  | .int i, .int j => i == j
  | .str s, .str t => s == t
  | _, _ => false
def eqAll (f : PV → PV → Bool) : List PV → List PV → Bool
  | [], [] => true
  | x :: xs, y :: ys => f x y && eqAll f xs ys
  | _, _ => false
def isKey : Nat → PV → Bool
  | 0, v => isFlat v
  | n + 1, v => match v with
    | .tup xs => xs.all (isKey n)
    | v => isFlat v
def keyEq : Nat → PV → PV → Bool
  | 0, a, b => eqF a b
  | n + 1, a, b => match a with
    | .tup xs => (match b with
      | .tup ys => eqAll (keyEq n) xs ys
      | _ => false)
    | a => eqF a b
def flatK : PV → NestedKey
  | .bl b => .num (if b then 1 else 0)
  | .int i => .num i
  | .str s => .text ⟨s.toArray⟩
  | _ => .none
def toKey : Nat → PV → NestedKey
  | 0, v => flatK v
  | n + 1, v => match v with
    | .tup xs => .tup (xs.map (toKey n))
    | v => flatK v
abbrev kd : Nat := 8
/-- keys by value -/
def isK1 : PV → Bool
  | .int _ => true
  | .str _ => true
  | _ => false
def dist : List PV → Bool
  | [] => true
  | k :: ks => ks.all (fun j => !keyEq kd k j) && dist ks
def keysB (ks : List PV) : Bool := ks.all (isKey kd) && dist ks && (ks.all isK1 || ks.all isTup)
def hashK (Z : Sta) (k : PV) : Int := (toKey kd k).hash Z.w
/-- an entry of a dict: hash, key, value -/
def EntR (e : Int × V × V) (d : DictEntry) : Prop := d.hash = e.1 ∧ RelV e.2.1 d.key ∧ RelV e.2.2 d.val
def dO (a : Addr) (es : List (Int × V × V)) : HO := .ext fun h => (a == sysModules) = false ∧ ∃ (o : Obj) (ds : Array DictEntry) (ep : Nat), h.get? a = some o ∧ o.ExactDict ∧ o.data = .dict ds ep ∧ Paired EntR es ds.toList
def DAt (Z : Sta) (H : Hp) (m : Mp) (a : Addr) (es : List (Int × V × V)) : Prop := ((a ∉ m.l ∧ a ∉ m.h) ∧ H a = some (dO a es)) ∨
  ((a == sysModules) = false ∧ ∃ (o : Obj) (ds : Array DictEntry) (ep : Nat), Z.K.lookup a = some o ∧ o.ExactDict ∧ o.data = .dict ds ep ∧ Paired EntR es ds.toList)
mutual
def RV (Z : Sta) (H : Hp) (m : Mp) : PV → V → Prop
  | .non, x => x = .non
  | .bl b, x => x = .bl b
  | .int i, x => x = .int i
  | .str s, x => x = .str ⟨s.toArray⟩ ∧ sOk s = true
  | .tup xs, x => ∃ a ys, x = .ref a ∧ SqT Z.K H a ys ∧ RVs Z H m xs ys
  | .lst xs, x => ∃ a ys, x = .ref a ∧ (a ∉ m.l ∧ a ∉ m.h) ∧ H a = some (.lst ys) ∧ RVs Z H m xs ys
  | .dct ks vs, x => ∃ a es, x = .ref a ∧ DAt Z H m a es ∧ keysB ks = true ∧ es.map (·.1) = ks.map (hashK Z) ∧ RVs Z H m ks (es.map (·.2.1)) ∧ RVs Z H m vs (es.map (·.2.2))
  | .obj k ns xs, x => ∃ a dx ys, x = .ref a ∧ (a ∉ m.l ∧ a ∉ m.h) ∧ H a = some (.ins (Z.G k) dx (zipF Z ns ys)) ∧ ns.length = ys.length ∧ RVs Z H m xs ys
  | .loc n, x => ∃ a, getR m.l n = some a ∧ x = .ref a
  | .st k, x => x = .ref (Z.G k)
  | .ty n, x => x = .ty n
  | .scr ns, x => ∃ a, x = .ref a ∧ SqK Z H m a (ns.map V.int)
def RVs (Z : Sta) (H : Hp) (m : Mp) : List PV → List V → Prop
  | [], ys => ys = []
  | p :: ps, ys => ∃ y r, ys = y :: r ∧ RV Z H m p y ∧ RVs Z H m ps r
end
def CRel (Z : Sta) (H : Hp) (m : Mp) : Cell → Addr → Prop
  | .lst xs, a => ∃ ys, H a = some (.lst ys) ∧ RVs Z H m xs ys
  | .dct ks vs, a => ∃ es, H a = some (dO a es) ∧ keysB ks = true ∧ es.map (·.1) = ks.map (hashK Z) ∧ RVs Z H m ks (es.map (·.2.1)) ∧ RVs Z H m vs (es.map (·.2.2))
  | .ins k ns xs, a => ∃ dx ys, H a = some (.ins (Z.G k) dx (zipF Z ns ys)) ∧ ns.length = ys.length ∧ RVs Z H m xs ys
  | .tab i, a => a = (Z.tb i).1 ∧ ∃ ps : Array Value, H a = some (.tbl ps) ∧ TriplesOk ps.toList ∧ ∀ (pos : Pos) (cv : Value), codeAmong pos ps.toList = some cv → ∃ c, cv = .ref c ∧ H c = some (LamX.CodeO c (Z.tb i).2) ∧ c ∉ m.l ∧ c ∉ m.h
structure SRel (Z : Sta) (H : Hp) (m : Mp) (S : Hs) : Prop where
  cells : Paired (CRel Z H m) S m.l
  nd : m.l.Nodup
  hid : ∀ a ∈ m.h, ∃ o, H a = some o
/-- later: new cells, all else as it was but for the cells and for what is being made -/
structure Gr0 (Z : Sta) (H : Hp) (m : Mp) (H' : Hp) (m' : Mp) : Prop where
  suf : ∃ ms, m'.l = ms ++ m.l ∧ ∀ a ∈ ms, H a = none
  hid : ∀ a ∈ m'.h, a ∈ m.h ∨ H a = none
  keep0 : ∀ b o, b ∉ m.l → b ∉ m.h → H b = some o → H' b = some o
  there : ∀ b o, H b = some o → ∃ o', H' b = some o'
  tup : ∀ b xs, SqT Z.K H b xs → SqT Z.K H' b xs
/-- later, at the same place of the text -/
structure Gr (Z : Sta) (H : Hp) (m : Mp) (H' : Hp) (m' : Mp) : Prop where
  g0 : Gr0 Z H m H' m'
  keep : ∀ b o, b ∉ m.l → H b = some o → H' b = some o
  eqh : m'.h = m.h
section
variable {Z : Sta} {H H1 H2 : Hp} {m m1 m2 : Mp}
theorem Gr0.refl : Gr0 Z H m H m := ⟨⟨[], rfl, fun _ h => nomatch h⟩, fun _ h => .inl h, fun _ _ _ _ h => h, fun _ o h => ⟨o, h⟩, fun _ _ h => h⟩
theorem Gr.refl : Gr Z H m H m := ⟨Gr0.refl, fun _ _ _ h => h, rfl⟩
theorem Gr0.memL (g : Gr0 Z H m H1 m1) {b : Addr} {o : HO} (hb : b ∉ m.l) (h : H b = some o) : b ∉ m1.l := by
  obtain ⟨ms, e, hn⟩ := g.suf
  rw [e]
  intro hm
  rcases List.mem_append.mp hm with q | q
  · rw [hn b q] at h; cases h
  · exact hb q
theorem Gr0.memK (g : Gr0 Z H m H1 m1) {b : Addr} {o : HO} (hb : b ∉ m.l ∧ b ∉ m.h) (h : H b = some o) : b ∉ m1.l ∧ b ∉ m1.h :=
  ⟨g.memL hb.1 h, fun hm => by
    rcases g.hid b hm with q | q
    · exact hb.2 q
    · rw [q] at h; cases h⟩
theorem Gr0.none_back (g : Gr0 Z H m H1 m1) {a : Addr} (h : H1 a = none) : H a = none := by
  cases e : H a with
  | none => rfl
  | some o =>
    obtain ⟨o', h'⟩ := g.there a o e
    rw [h] at h'
    cases h'
theorem Gr0.trans (g : Gr0 Z H m H1 m1) (g' : Gr0 Z H1 m1 H2 m2) : Gr0 Z H m H2 m2 := by
  obtain ⟨ms, e, hn⟩ := g.suf
  obtain ⟨ms', e', hn'⟩ := g'.suf
  refine ⟨⟨ms' ++ ms, by rw [e', e, List.append_assoc], fun a ha => ?_⟩, fun a ha => ?_, fun b o hb hb2 h => ?_, fun b o h => ?_, fun b xs h => g'.tup b xs (g.tup b xs h)⟩
  · rcases List.mem_append.mp ha with q | q
    · exact g.none_back (hn' a q)
    · exact hn a q
  · rcases g'.hid a ha with q | q
    · exact g.hid a q
    · exact .inr (g.none_back q)
  · obtain ⟨k1, k2⟩ := g.memK ⟨hb, hb2⟩ h
    exact g'.keep0 b o k1 k2 (g.keep0 b o hb hb2 h)
  · obtain ⟨o', h'⟩ := g.there b o h
    exact g'.there b o' h'
theorem Gr.trans (g : Gr Z H m H1 m1) (g' : Gr Z H1 m1 H2 m2) : Gr Z H m H2 m2 :=
  ⟨g.g0.trans g'.g0, fun b o hb h => g'.keep b o (g.g0.memL hb h) (g.keep b o hb h), g'.eqh.trans g.eqh⟩
theorem getR_app {A : Type} {l ms : List A} {n : Nat} {a : A} (h : getR l n = some a) : getR (ms ++ l) n = some a := by
  unfold getR at h ⊢
  rw [List.reverse_append]
  have hlt : n < l.reverse.length := (List.getElem?_eq_some_iff.mp h).1
  rw [List.getElem?_append_left hlt]
  exact h
/-- what a value's meaning leans on -/
structure GrV (Z : Sta) (H : Hp) (m : Mp) (H' : Hp) (m' : Mp) : Prop where
  suf : ∃ ms, m'.l = ms ++ m.l
  keep : ∀ a o, a ∉ m.l ∧ a ∉ m.h → H a = some o → (a ∉ m'.l ∧ a ∉ m'.h) ∧ H' a = some o
  tup : ∀ b xs, SqT Z.K H b xs → SqT Z.K H' b xs
theorem Gr0.v (g : Gr0 Z H m H1 m1) : GrV Z H m H1 m1 := ⟨let ⟨ms, e, _⟩ := g.suf; ⟨ms, e⟩, fun a o hn h => ⟨g.memK hn h, g.keep0 a o hn.1 hn.2 h⟩, g.tup⟩
mutual
theorem RV.growV (g : GrV Z H m H1 m1) : ∀ {v : PV} {x : V}, RV Z H m v x → RV Z H1 m1 v x
  | .non, _, h => by unfold RV at h ⊢; exact h
  | .bl _, _, h => by unfold RV at h ⊢; exact h
  | .int _, _, h => by unfold RV at h ⊢; exact h
  | .str _, _, h => by unfold RV at h ⊢; exact h
  | .tup xs, _, h => by
    unfold RV at h ⊢
    obtain ⟨a, ys, e, hq, hr⟩ := h
    exact ⟨a, ys, e, g.tup _ _ hq, RVs.growV g hr⟩
  | .lst xs, _, h => by
    unfold RV at h ⊢
    obtain ⟨a, ys, e, hn, hq, hr⟩ := h
    exact ⟨a, ys, e, (g.keep a _ hn hq).1, (g.keep a _ hn hq).2, RVs.growV g hr⟩
  | .dct ks vs, _, h => by
    unfold RV at h ⊢
    obtain ⟨a, es, e, hq, h1, h2, h3, h4⟩ := h
    refine ⟨a, es, e, ?_, h1, h2, RVs.growV g h3, RVs.growV g h4⟩
    rcases hq with ⟨hn, hq⟩ | hq
    · exact .inl ⟨(g.keep a _ hn hq).1, (g.keep a _ hn hq).2⟩
    · exact .inr hq
  | .obj k ns xs, _, h => by
    unfold RV at h ⊢
    obtain ⟨a, dx, ys, e, hn, hq, hl, hr⟩ := h
    exact ⟨a, dx, ys, e, (g.keep a _ hn hq).1, (g.keep a _ hn hq).2, hl, RVs.growV g hr⟩
  | .loc n, _, h => by
    unfold RV at h ⊢
    obtain ⟨a, e, hx⟩ := h
    obtain ⟨ms, em⟩ := g.suf
    exact ⟨a, by rw [em]; exact getR_app e, hx⟩
  | .st _, _, h => by unfold RV at h ⊢; exact h
  | .ty _, _, h => by unfold RV at h ⊢; exact h
  | .scr _, _, h => by
    unfold RV at h ⊢
    obtain ⟨a, e, h⟩ := h
    refine ⟨a, e, ?_⟩
    rcases h with ⟨h1, h2⟩ | h
    · rcases h2 with h2 | ⟨o, h2⟩
      · exact .inl ⟨(g.keep a _ h1 h2).1, .inl (g.keep a _ h1 h2).2⟩
      · exact .inl ⟨(g.keep a _ h1 h2).1, .inr ⟨o, (g.keep a _ h1 h2).2⟩⟩
    · exact .inr h
theorem RVs.growV (g : GrV Z H m H1 m1) : ∀ {vs : List PV} {xs : List V}, RVs Z H m vs xs → RVs Z H1 m1 vs xs
  | [], _, h => by unfold RVs at h ⊢; exact h
  | p :: ps, _, h => by
    unfold RVs at h ⊢
    obtain ⟨y, r, e, h1, h2⟩ := h
    exact ⟨y, r, e, RV.growV g h1, RVs.growV g h2⟩
end
theorem RV.grow0 (g : Gr0 Z H m H1 m1) {v : PV} {x : V} (h : RV Z H m v x) : RV Z H1 m1 v x := RV.growV g.v h
theorem RVs.grow0 (g : Gr0 Z H m H1 m1) {v : List PV} {x : List V} (h : RVs Z H m v x) : RVs Z H1 m1 v x := RVs.growV g.v h
theorem RV.grow (g : Gr Z H m H1 m1) {v : PV} {x : V} (h : RV Z H m v x) : RV Z H1 m1 v x := RV.grow0 g.g0 h
theorem RVs.grow (g : Gr Z H m H1 m1) {v : List PV} {x : List V} (h : RVs Z H m v x) : RVs Z H1 m1 v x := RVs.grow0 g.g0 h
theorem RVs.len : ∀ {vs : List PV} {xs : List V}, RVs Z H m vs xs → vs.length = xs.length
  | [], _, h => by unfold RVs at h; subst h; rfl
  | p :: ps, _, h => by
    unfold RVs at h
    obtain ⟨y, r, e, _, h2⟩ := h
    subst e
    simp [RVs.len h2]
theorem RVs.nil : RVs Z H m [] [] := by unfold RVs; rfl
theorem RVs.cons {p : PV} {y : V} {ps : List PV} {ys : List V} (h : RV Z H m p y) (t : RVs Z H m ps ys) : RVs Z H m (p :: ps) (y :: ys) := by
  unfold RVs; exact ⟨y, ys, rfl, h, t⟩
theorem RVs.append : ∀ {ps qs : List PV} {ys zs : List V}, RVs Z H m ps ys → RVs Z H m qs zs → RVs Z H m (ps ++ qs) (ys ++ zs)
  | [], _, _, _, h, t => by unfold RVs at h; subst h; exact t
  | p :: ps, _, _, _, h, t => by
    unfold RVs at h
    obtain ⟨y, r, e, h1, h2⟩ := h
    subst e
    exact RVs.cons h1 (RVs.append h2 t)
theorem RVs.get : ∀ {ps : List PV} {ys : List V} {i : Nat} {p : PV}, RVs Z H m ps ys → ps[i]? = some p → ∃ y, ys[i]? = some y ∧ RV Z H m p y
  | [], _, _, _, _, e => by simp at e
  | p :: ps, _, 0, q, h, e => by
    unfold RVs at h
    obtain ⟨y, r, ey, h1, h2⟩ := h
    subst ey
    simp at e
    subst e
    exact ⟨y, rfl, h1⟩
  | p :: ps, _, i + 1, q, h, e => by
    unfold RVs at h
    obtain ⟨y, r, ey, h1, h2⟩ := h
    subst ey
    obtain ⟨z, ez, hz⟩ := RVs.get (i := i) h2 (by simpa using e)
    exact ⟨z, by simpa using ez, hz⟩
theorem RVs.set {v : PV} {x : V} (hv : RV Z H m v x) : ∀ {ps : List PV} {ys : List V} (i : Nat), RVs Z H m ps ys → RVs Z H m (ps.set i v) (ys.set i x)
  | [], _, _, h => by unfold RVs at h; subst h; exact RVs.nil
  | p :: ps, _, 0, h => by
    unfold RVs at h
    obtain ⟨y, r, ey, h1, h2⟩ := h
    subst ey
    exact RVs.cons hv h2
  | p :: ps, _, i + 1, h => by
    unfold RVs at h
    obtain ⟨y, r, ey, h1, h2⟩ := h
    subst ey
    exact RVs.cons h1 (RVs.set hv i h2)
theorem CRel.growV (g : GrV Z H m H1 m1) {c : Cell} {a : Addr} (hk : ∀ o, H a = some o → H1 a = some o) (h : CRel Z H m c a) : CRel Z H1 m1 c a := by
  cases c with
  | lst xs =>
    obtain ⟨ys, e, r⟩ := h
    exact ⟨ys, hk _ e, RVs.growV g r⟩
  | dct ks vs =>
    obtain ⟨es, e, h1, h2, h3, h4⟩ := h
    exact ⟨es, hk _ e, h1, h2, RVs.growV g h3, RVs.growV g h4⟩
  | ins k ns xs =>
    obtain ⟨dx, ys, e, l, r⟩ := h
    exact ⟨dx, ys, hk _ e, l, RVs.growV g r⟩
  | tab i =>
    obtain ⟨ea, ps, e, t, f⟩ := h
    refine ⟨ea, ps, hk _ e, t, fun pos cv q => ?_⟩
    obtain ⟨c, e1, e2, e3, e4⟩ := f pos cv q
    exact ⟨c, e1, (g.keep c _ ⟨e3, e4⟩ e2).2, (g.keep c _ ⟨e3, e4⟩ e2).1⟩
theorem CRel.grow0 (g : Gr0 Z H m H1 m1) {c : Cell} {a : Addr} (hk : ∀ o, H a = some o → H1 a = some o) (h : CRel Z H m c a) : CRel Z H1 m1 c a := h.growV g.v hk
theorem CRel.grow (g : Gr Z H m H1 m1) {c : Cell} {a : Addr} (hk : ∀ o, H a = some o → H1 a = some o) (h : CRel Z H m c a) : CRel Z H1 m1 c a := h.grow0 g.g0 hk
end
end MP
set_option maxRecDepth 100000
namespace MP
open PySem L2
/-! ### results -/
inductive RE where
  | ok (v : PV) (S : Hs) | ex (k : Nat) (v : PV) (S : Hs) | bad
inductive RA where
  | ok (vs : List PV) (S : Hs) | ex (k : Nat) (v : PV) (S : Hs) | bad
inductive RB where
  | ok (b : Bool) (S : Hs) | ex (k : Nat) (v : PV) (S : Hs) | bad
inductive RS where
  | nx (L : Loc) (S : Hs) | rt (v : PV) (S : Hs) | bk (L : Loc) (S : Hs) | ct (L : Loc) (S : Hs) | ex (k : Nat) (v : PV) (L : Loc) (S : Hs) | bad
def RE.bind (r : RE) (f : PV → Hs → RE) : RE := match r with
  | .ok v S => f v S | .ex k v S => .ex k v S | .bad => .bad
def RE.bindA (r : RE) (f : PV → Hs → RA) : RA := match r with
  | .ok v S => f v S | .ex k v S => .ex k v S | .bad => .bad
def RE.bindB (r : RE) (f : PV → Hs → RB) : RB := match r with
  | .ok v S => f v S | .ex k v S => .ex k v S | .bad => .bad
def RE.bindS (r : RE) (L : Loc) (f : PV → Hs → RS) : RS := match r with
  | .ok v S => f v S | .ex k v S => .ex k v L S | .bad => .bad
def RA.bind (r : RA) (f : List PV → Hs → RE) : RE := match r with
  | .ok v S => f v S | .ex k v S => .ex k v S | .bad => .bad
def RA.bindA (r : RA) (f : List PV → Hs → RA) : RA := match r with
  | .ok v S => f v S | .ex k v S => .ex k v S | .bad => .bad
def RB.bind (r : RB) (f : Bool → Hs → RE) : RE := match r with
  | .ok v S => f v S | .ex k v S => .ex k v S | .bad => .bad
def RB.bindB (r : RB) (f : Bool → Hs → RB) : RB := match r with
  | .ok v S => f v S | .ex k v S => .ex k v S | .bad => .bad
def RB.bindS (r : RB) (L : Loc) (f : Bool → Hs → RS) : RS := match r with
  | .ok v S => f v S | .ex k v S => .ex k v L S | .bad => .bad
def RS.bind (r : RS) (f : Loc → Hs → RS) : RS := match r with
  | .nx L S => f L S | r => r
/-! ### what a result asks -/
section
variable (Z : Sta)
def ExcAt (H : Hp) (m : Mp) (v : PV) (d : Option Addr) : Prop := ∃ dx x, d = some dx ∧ H dx = some (.xd [("value", x)]) ∧ RV Z H m v x
def PostX (W : WX) (σ : St) (H : Hp) (m : Mp) (k : Nat) (v : PV) (S : Hs) : Prop :=
  ∀ H' m' d, Gr Z H m H' m' → SRel Z H' m' S → ExcAt Z H' m' v d → W (.ref (Z.G k)) d σ H'
def PostE (W : WX) (σ : St) (H : Hp) (m : Mp) (Q : VK) : RE → Prop
  | .ok v S => ∀ H' m' x, Gr Z H m H' m' → SRel Z H' m' S → RV Z H' m' v x → Q x H'
  | .ex k v S => PostX Z W σ H m k v S
  | .bad => False
def PostA (W : WX) (σ : St) (H : Hp) (m : Mp) (Q : List V → Hp → Prop) : RA → Prop
  | .ok vs S => ∀ H' m' xs, Gr Z H m H' m' → SRel Z H' m' S → RVs Z H' m' vs xs → Q xs H'
  | .ex k v S => PostX Z W σ H m k v S
  | .bad => False
def PostB (W : WX) (σ : St) (H : Hp) (m : Mp) (Q : Bool → Hp → Prop) : RB → Prop
  | .ok b S => ∀ H' m', Gr Z H m H' m' → SRel Z H' m' S → Q b H'
  | .ex k v S => PostX Z W σ H m k v S
  | .bad => False
def LRel (H : Hp) (m : Mp) (L : Loc) (σ : St) : Prop := σ.length = L.length ∧ ∀ (i : Nat) (v : PV), L[i]? = some (some v) → ∃ x, σ[i]? = some (some x) ∧ RV Z H m v x
def PostS (W : WX) (D : Ends) (H : Hp) (m : Mp) : RS → Prop
  | .nx L S => ∀ H' m' σ, Gr Z H m H' m' → SRel Z H' m' S → LRel Z H' m' L σ → D.nx σ H'
  | .rt v S => ∀ H' m' x, Gr Z H m H' m' → SRel Z H' m' S → RV Z H' m' v x → D.rt x H'
  | .bk L S => ∀ H' m' σ, Gr Z H m H' m' → SRel Z H' m' S → LRel Z H' m' L σ → D.bk σ H'
  | .ct L S => ∀ H' m' σ, Gr Z H m H' m' → SRel Z H' m' S → LRel Z H' m' L σ → D.ct σ H'
  | .ex k v L S => ∀ H' m' d σ, Gr Z H m H' m' → SRel Z H' m' S → LRel Z H' m' L σ → ExcAt Z H' m' v d → W (.ref (Z.G k)) d σ H'
  | .bad => False
/-- the readings -/
def tE (W : WX) (f : Loc → Hs → RE) : TE := fun σ H Q => ∃ m L S, SRel Z H m S ∧ LRel Z H m L σ ∧ PostE Z W σ H m Q (f L S)
def tA (W : WX) (f : Loc → Hs → RA) : TA := fun σ H Q => ∃ m L S, SRel Z H m S ∧ LRel Z H m L σ ∧ PostA Z W σ H m Q (f L S)
def tB (W : WX) (f : Loc → Hs → RB) : TT := fun σ H Q => ∃ m L S, SRel Z H m S ∧ LRel Z H m L σ ∧ PostB Z W σ H m Q (f L S)
def tS (W : WX) (f : Loc → Hs → RS) : TS := fun D σ H => ∃ m L S, SRel Z H m S ∧ LRel Z H m L σ ∧ PostS Z W D H m (f L S)
end
section
variable {Z : Sta} {W : WX} {σ : St} {H H1 : Hp} {m m1 : Mp} {Q : VK} {X : Cx}
theorem PostX.grow {k : Nat} {v : PV} {S : Hs} (g : Gr Z H m H1 m1) (h : PostX Z W σ H m k v S) : PostX Z W σ H1 m1 k v S :=
  fun H' m' d g' => h H' m' d (g.trans g')
theorem PostE.grow {r : RE} (g : Gr Z H m H1 m1) (h : PostE Z W σ H m Q r) : PostE Z W σ H1 m1 Q r := by
  cases r with
  | ok v S => exact fun H' m' x g' => h H' m' x (g.trans g')
  | ex k v S => exact PostX.grow g h
  | bad => exact h
theorem PostA.grow {Q : List V → Hp → Prop} {r : RA} (g : Gr Z H m H1 m1) (h : PostA Z W σ H m Q r) : PostA Z W σ H1 m1 Q r := by
  cases r with
  | ok v S => exact fun H' m' x g' => h H' m' x (g.trans g')
  | ex k v S => exact PostX.grow g h
  | bad => exact h
theorem PostB.grow {Q : Bool → Hp → Prop} {r : RB} (g : Gr Z H m H1 m1) (h : PostB Z W σ H m Q r) : PostB Z W σ H1 m1 Q r := by
  cases r with
  | ok v S => exact fun H' m' g' => h H' m' (g.trans g')
  | ex k v S => exact PostX.grow g h
  | bad => exact h
theorem PostS.grow {D : Ends} {r : RS} (g : Gr Z H m H1 m1) (h : PostS Z W D H m r) : PostS Z W D H1 m1 r := by
  cases r with
  | nx L S => exact fun H' m' x g' => h H' m' x (g.trans g')
  | rt L S => exact fun H' m' x g' => h H' m' x (g.trans g')
  | bk L S => exact fun H' m' x g' => h H' m' x (g.trans g')
  | ct L S => exact fun H' m' x g' => h H' m' x (g.trans g')
  | ex k v L S => exact fun H' m' d σ g' => h H' m' d σ (g.trans g')
  | bad => exact h
theorem LRel.grow {L : Loc} (g : Gr Z H m H1 m1) (h : LRel Z H m L σ) : LRel Z H1 m1 L σ :=
  ⟨h.1, fun i v e => let ⟨x, ex, r⟩ := h.2 i v e; ⟨x, ex, r.grow g⟩⟩
/-- what is known of a result whose continuation is asked -/
theorem PostE.bind {r : RE} {f : PV → Hs → RE} {R : VK} (h : PostE Z W σ H m Q (r.bind f))
    (c : ∀ v S H' m' x, Gr Z H m H' m' → SRel Z H' m' S → RV Z H' m' v x → PostE Z W σ H' m' Q (f v S) → R x H') : PostE Z W σ H m R r := by
  cases r with
  | ok v S => exact fun H' m' x g s rv => c v S H' m' x g s rv (PostE.grow g h)
  | ex k v S => exact h
  | bad => exact h
theorem PostA.bind {r : RA} {f : List PV → Hs → RE} {R : List V → Hp → Prop} (h : PostE Z W σ H m Q (r.bind f))
    (c : ∀ v S H' m' x, Gr Z H m H' m' → SRel Z H' m' S → RVs Z H' m' v x → PostE Z W σ H' m' Q (f v S) → R x H') : PostA Z W σ H m R r := by
  cases r with
  | ok v S => exact fun H' m' x g s rv => c v S H' m' x g s rv (PostE.grow g h)
  | ex k v S => exact h
  | bad => exact h
theorem PostB.bind {r : RB} {f : Bool → Hs → RE} {R : Bool → Hp → Prop} (h : PostE Z W σ H m Q (r.bind f))
    (c : ∀ b S H' m', Gr Z H m H' m' → SRel Z H' m' S → PostE Z W σ H' m' Q (f b S) → R b H') : PostB Z W σ H m R r := by
  cases r with
  | ok v S => exact fun H' m' g s => c v S H' m' g s (PostE.grow g h)
  | ex k v S => exact h
  | bad => exact h
theorem PostE.bindA {Q : List V → Hp → Prop} {r : RE} {f : PV → Hs → RA} {R : VK} (h : PostA Z W σ H m Q (r.bindA f))
    (c : ∀ v S H' m' x, Gr Z H m H' m' → SRel Z H' m' S → RV Z H' m' v x → PostA Z W σ H' m' Q (f v S) → R x H') : PostE Z W σ H m R r := by
  cases r with
  | ok v S => exact fun H' m' x g s rv => c v S H' m' x g s rv (PostA.grow g h)
  | ex k v S => exact h
  | bad => exact h
theorem PostA.bindA {Q : List V → Hp → Prop} {r : RA} {f : List PV → Hs → RA} {R : List V → Hp → Prop} (h : PostA Z W σ H m Q (r.bindA f))
    (c : ∀ v S H' m' x, Gr Z H m H' m' → SRel Z H' m' S → RVs Z H' m' v x → PostA Z W σ H' m' Q (f v S) → R x H') : PostA Z W σ H m R r := by
  cases r with
  | ok v S => exact fun H' m' x g s rv => c v S H' m' x g s rv (PostA.grow g h)
  | ex k v S => exact h
  | bad => exact h
theorem PostE.bindB {Q : Bool → Hp → Prop} {r : RE} {f : PV → Hs → RB} {R : VK} (h : PostB Z W σ H m Q (r.bindB f))
    (c : ∀ v S H' m' x, Gr Z H m H' m' → SRel Z H' m' S → RV Z H' m' v x → PostB Z W σ H' m' Q (f v S) → R x H') : PostE Z W σ H m R r := by
  cases r with
  | ok v S => exact fun H' m' x g s rv => c v S H' m' x g s rv (PostB.grow g h)
  | ex k v S => exact h
  | bad => exact h
theorem PostB.bindB {Q : Bool → Hp → Prop} {r : RB} {f : Bool → Hs → RB} {R : Bool → Hp → Prop} (h : PostB Z W σ H m Q (r.bindB f))
    (c : ∀ b S H' m', Gr Z H m H' m' → SRel Z H' m' S → PostB Z W σ H' m' Q (f b S) → R b H') : PostB Z W σ H m R r := by
  cases r with
  | ok v S => exact fun H' m' g s => c v S H' m' g s (PostB.grow g h)
  | ex k v S => exact h
  | bad => exact h
theorem PostE.bindS {D : Ends} {L : Loc} (hl : LRel Z H m L σ) {r : RE} {f : PV → Hs → RS} {R : VK} (h : PostS Z W D H m (r.bindS L f))
    (c : ∀ v S H' m' x, Gr Z H m H' m' → SRel Z H' m' S → RV Z H' m' v x → PostS Z W D H' m' (f v S) → R x H') : PostE Z W σ H m R r := by
  cases r with
  | ok v S => exact fun H' m' x g s rv => c v S H' m' x g s rv (PostS.grow g h)
  | ex k v S => exact fun H' m' d g s e => h H' m' d σ g s (hl.grow g) e
  | bad => exact h
theorem PostB.bindS {D : Ends} {L : Loc} (hl : LRel Z H m L σ) {r : RB} {f : Bool → Hs → RS} {R : Bool → Hp → Prop} (h : PostS Z W D H m (r.bindS L f))
    (c : ∀ b S H' m', Gr Z H m H' m' → SRel Z H' m' S → PostS Z W D H' m' (f b S) → R b H') : PostB Z W σ H m R r := by
  cases r with
  | ok v S => exact fun H' m' g s => c v S H' m' g s (PostS.grow g h)
  | ex k v S => exact fun H' m' d g s e => h H' m' d σ g s (hl.grow g) e
  | bad => exact h
theorem PE.imp {e : Expr} {t t' : TE} (h : PE X e t) (i : ∀ σ H Q, t' σ H Q → t σ H Q) : PE X e t' := ⟨fun pins s σ H Q I q => h.run pins s σ H Q I (i σ H Q q)⟩
theorem PT.imp {e : Expr} {t t' : TT} (h : PT X e t) (i : ∀ σ H Q, t' σ H Q → t σ H Q) : PT X e t' := ⟨fun pins s σ H Q I q => h.run pins s σ H Q I (i σ H Q q)⟩
theorem PA.imp {e : List Expr} {t t' : TA} (h : PA X e t) (i : ∀ σ H Q, t' σ H Q → t σ H Q) : PA X e t' := ⟨fun pos pins s σ H Q I q => h.run pos pins s σ H Q I (i σ H Q q)⟩
theorem PS.imp {e : Stmt} {t t' : TS} (h : PS X e t) (i : ∀ D σ H, t' D σ H → t D σ H) : PS X e t' := ⟨fun pins s σ H D I q => h.run pins s σ H D I (i D σ H q)⟩
theorem PSs.imp {e : List Stmt} {t t' : TS} (h : PSs X e t) (i : ∀ D σ H, t' D σ H → t D σ H) : PSs X e t' := ⟨fun pins s σ H D I q => h.run pins s σ H D I (i D σ H q)⟩
theorem pe_bad {e : Expr} : PE X e (tE Z W fun _ _ => .bad) := ⟨fun _ _ _ _ _ _ ⟨_, _, _, _, _, h⟩ => h.elim⟩
theorem ps_bad {e : Stmt} : PS X e (tS Z W fun _ _ => .bad) := ⟨fun _ _ _ _ _ _ ⟨_, _, _, _, _, h⟩ => h.elim⟩
/-! ### names, constants -/
def varE (i : Nat) : Loc → Hs → RE := fun L S => match L[i]? with
  | some (some v) => .ok v S
  | _ => .bad
theorem ok_var {i : Nat} {x : Str} {pos : Pos} (hN : X.N[i]? = some x) (hv : Vis X.env.scope x) (hd : (x == ("__debug__" : Str)) = false) (hcd : (x == ("__classdict__" : Str)) = false) : PE X (.Name x pos) (tE Z W (varE i)) := by
  refine PE.imp (pe_var hN hv hd hcd) ?_
  rintro σ H Q ⟨m, L, S, hs, hl, hp⟩
  unfold varE at hp
  split at hp
  · rename_i v e
    obtain ⟨x, ex, r⟩ := hl.2 i v e
    exact ⟨x, ex, hp H m x Gr.refl hs r⟩
  · exact hp.elim
/-- a value that is the same whatever the store -/
def conE (v : PV) : Loc → Hs → RE := fun _ S => .ok v S
theorem ok_con {e : Expr} {v : PV} {x : V} (h : PE X e (tC x)) (r : ∀ H m, RV Z H m v x) : PE X e (tE Z W (conE v)) := by
  refine PE.imp h ?_
  rintro σ H Q ⟨m, L, S, hs, hl, hp⟩
  exact hp H m x Gr.refl hs (r H m)
/-! ### argument lists, displays -/
def nilA : Loc → Hs → RA := fun _ S => .ok [] S
def consA (f : Loc → Hs → RE) (g : Loc → Hs → RA) : Loc → Hs → RA := fun L S => (f L S).bindA fun v S1 => (g L S1).bindA fun vs S2 => .ok (v :: vs) S2
theorem ok_nil : PA X [] (tA Z W nilA) := PA.imp pa_nil fun σ H Q ⟨m, L, S, hs, hl, hp⟩ => hp H m [] Gr.refl hs RVs.nil
theorem ok_cons {e : Expr} {es : List Expr} {f : Loc → Hs → RE} {g : Loc → Hs → RA} (ha : PE X e (tE Z W f)) (hr : PA X es (tA Z W g)) (hs : starEach (e :: es) X.env = (false, eval e X.env) :: starEach es X.env) :
    PA X (e :: es) (tA Z W (consA f g)) := by
  refine PA.imp (pa_cons ha hr hs) ?_
  rintro σ H Q ⟨m, L, S, sr, hl, hp⟩
  refine ⟨m, L, S, sr, hl, PostE.bindA hp fun v S1 H1 m1 x g1 s1 r1 hp1 => ⟨m1, L, S1, s1, hl.grow g1, PostA.bindA hp1 fun vs S2 H2 m2 xs g2 s2 r2 hp2 => ?_⟩⟩
  exact hp2 H2 m2 (x :: xs) Gr.refl s2 (RVs.cons (r1.grow g2) r2)
/-- a list is short enough -/
def fits {A : Type} (xs : List A) : Bool := decide (xs.length ≤ 16777216)
theorem fits_ok {A : Type} {xs : List A} (h : fits xs = true) : xs.length ≤ sizeLine := by
  rw [sizeLine_eq]
  exact of_decide_eq_true h
def tupE (f : Loc → Hs → RA) : Loc → Hs → RE := fun L S => (f L S).bind fun vs S1 => if fits vs then .ok (.tup vs) S1 else .bad
/-- the heap with a new thing that nobody changes -/
theorem Gr.new {o : HO} {p : Addr} (h : H p = none) : Gr Z H m (upd H p o) m :=
  have k : ∀ b o', H b = some o' → upd H p o b = some o' := fun b o' e => by rw [upd_ne (ne_of_none e h)]; exact e
  ⟨⟨⟨[], rfl, fun _ h => nomatch h⟩, fun _ h => .inl h, fun b o' _ _ e => k b o' e, fun b o' e => ⟨o', k b o' e⟩, fun b xs q => by
    rcases q with q | q
    · refine .inl ?_
      rcases q with q | ⟨o', q⟩
      · exact .inl (k b _ q)
      · exact .inr ⟨o', k b _ q⟩
    · exact .inr q⟩, fun b o' _ e => k b o' e, rfl⟩
theorem CRel.tracked {c : Cell} {a : Addr} (h : CRel Z H m c a) : ∃ o, H a = some o := by
  cases c with
  | lst xs => obtain ⟨ys, e, _⟩ := h; exact ⟨_, e⟩
  | dct ks vs => obtain ⟨es, e, _⟩ := h; exact ⟨_, e⟩
  | ins k ns xs => obtain ⟨dx, ys, e, _⟩ := h; exact ⟨_, e⟩
  | tab i => obtain ⟨_, ps, e, _⟩ := h; exact ⟨_, e⟩
theorem paired_map {A B : Type} {F G : A → B → Prop} : ∀ {l : List A} {k : List B}, Paired F l k → (∀ a b, b ∈ k → F a b → G a b) → Paired G l k
  | _, _, .nil, _ => .nil
  | _, _, .cons r t, f => .cons (f _ _ List.mem_cons_self r) (paired_map t fun a b hb => f a b (List.mem_cons_of_mem _ hb))
theorem paired_mem {A B : Type} {F : A → B → Prop} : ∀ {l : List A} {k : List B} {b : B}, Paired F l k → b ∈ k → ∃ a, F a b
  | _, _, _, .nil, h => nomatch h
  | _, _, _, .cons r t, h => by
    rcases List.mem_cons.mp h with e | h
    · subst e; exact ⟨_, r⟩
    · exact paired_mem t h
theorem SRel.tracked {S : Hs} (s : SRel Z H m S) {a : Addr} (h : a ∈ m.l) : ∃ o, H a = some o := by
  obtain ⟨c, r⟩ := paired_mem s.cells h
  exact r.tracked
theorem SRel.new {S : Hs} {o : HO} {p : Addr} (h : H p = none) (s : SRel Z H m S) : SRel Z (upd H p o) m S :=
  ⟨paired_map s.cells fun c a _ r => r.grow (Gr.new h) fun o' e => by rw [upd_ne (ne_of_none e h)]; exact e, s.nd, fun a ha => (Gr.new (Z := Z) (m := m) h).g0.there a _ (s.hid a ha).choose_spec⟩
theorem SRel.notin {S : Hs} (s : SRel Z H m S) {p : Addr} (h : H p = none) : p ∉ m.l ∧ p ∉ m.h := by
  refine ⟨fun hm => ?_, fun hm => ?_⟩
  · obtain ⟨o, e⟩ := s.tracked hm
    rw [h] at e; cases e
  · obtain ⟨o, e⟩ := s.hid p hm
    rw [h] at e; cases e
theorem ok_tup {es : List Expr} {x1 : Nat} {pos : Pos} {f : Loc → Hs → RA} (h : PA X es (tA Z W f)) : PE X (.Tuple es x1 pos) (tE Z W (tupE f)) := by
  refine PE.imp (pe_tup h) ?_
  rintro σ H Q ⟨m, L, S, sr, hl, hp⟩
  refine ⟨m, L, S, sr, hl, PostA.bind hp fun vs S1 H1 m1 xs g1 s1 r1 hp1 => ?_⟩
  split at hp1
  · rename_i hf
    refine ⟨by rw [← r1.len]; exact fits_ok hf, fun p hn => ?_⟩
    refine hp1 _ m1 (.ref p) (Gr.new hn) (s1.new hn) ?_
    unfold RV
    exact ⟨p, xs, rfl, SqT.of upd_same, r1.grow (Gr.new hn)⟩
  · exact hp1.elim
/-- a new list that is never changed; a new list of the store -/
def lstE (fz : Bool) (f : Loc → Hs → RA) : Loc → Hs → RE := fun L S => (f L S).bind fun vs S1 => if fits vs then (if fz then .ok (.lst vs) S1 else .ok (.loc S1.length) (.lst vs :: S1)) else .bad
/-- one cell more -/
def Mp.push (m : Mp) (p : Addr) : Mp := ⟨p :: m.l, m.h⟩
theorem Gr.push {o : HO} {p : Addr} (h : H p = none) : Gr Z H m (upd H p o) (m.push p) := by
  have g := Gr.new (Z := Z) (m := m) (o := o) h
  exact ⟨⟨⟨[p], rfl, fun a ha => by rw [List.mem_singleton.mp ha]; exact h⟩, g.g0.hid, g.g0.keep0, g.g0.there, g.g0.tup⟩, g.keep, rfl⟩
theorem getR_top {A : Type} {l : List A} {a : A} : getR (a :: l) l.length = Option.some a := by
  unfold getR
  rw [List.reverse_cons, List.getElem?_append_right (by simp)]
  simp
theorem SRel.len {S : Hs} (s : SRel Z H m S) : S.length = m.l.length := Paired.length s.cells
theorem SRel.push {S : Hs} {o : HO} {p : Addr} {c : Cell} (h : H p = none) (s : SRel Z H m S) (r : CRel Z (upd H p o) (m.push p) c p) : SRel Z (upd H p o) (m.push p) (c :: S) :=
  ⟨.cons r (paired_map s.cells fun c a _ r => r.grow (Gr.push h) fun o' e => by rw [upd_ne (ne_of_none e h)]; exact e), List.nodup_cons.mpr ⟨(s.notin h).1, s.nd⟩, fun a ha => (Gr.new (Z := Z) (m := m) h).g0.there a _ (s.hid a ha).choose_spec⟩
theorem ok_lst {es : List Expr} {pos : Pos} {fz : Bool} {f : Loc → Hs → RA} (h : PA X es (tA Z W f)) : PE X (.List es pos) (tE Z W (lstE fz f)) := by
  refine PE.imp (pe_lst h) ?_
  rintro σ H Q ⟨m, L, S, sr, hl, hp⟩
  refine ⟨m, L, S, sr, hl, PostA.bind hp fun vs S1 H1 m1 xs g1 s1 r1 hp1 => ?_⟩
  split at hp1
  · rename_i hf
    refine ⟨by rw [← r1.len]; exact fits_ok hf, fun p hn => ?_⟩
    cases fz with
    | true =>
      refine hp1 _ m1 (.ref p) (Gr.new hn) (s1.new hn) ?_
      unfold RV
      exact ⟨p, xs, rfl, s1.notin hn, upd_same, r1.grow (Gr.new hn)⟩
    | false =>
      refine hp1 _ (m1.push p) (.ref p) (Gr.push hn) (s1.push hn ⟨xs, upd_same, r1.grow (Gr.push hn)⟩) ?_
      unfold RV
      exact ⟨p, by rw [s1.len]; exact getR_top, rfl⟩
  · exact hp1.elim
end
end MP
set_option maxRecDepth 100000
namespace MP
open PySem L2
/-! ### lists by what they hold -/
def asL (S : Hs) : PV → Option (List PV)
  | .lst xs => some xs
  | .loc n => match getR S n with
    | some (.lst xs) => some xs
    | _ => none
  | _ => none
/-- dicts by what they hold -/
def dctOf (S : Hs) : PV → Option (List PV × List PV)
  | .dct ks vs => some (ks, vs)
  | .loc n => match getR S n with
    | some (.dct ks vs) => some (ks, vs)
    | _ => none
  | _ => none
/-- lists and tuples -/
def asQ (S : Hs) : PV → Option (List PV)
  | .tup xs => some xs
  | .scr ns => some (ns.map .int)
  | v => asL S v
theorem paired_get {A B : Type} {F : A → B → Prop} : ∀ {l : List A} {k : List B} {n : Nat} {a : A}, Paired F l k → l[n]? = some a → ∃ b, k[n]? = some b ∧ F a b
  | _, _, _, _, .nil, e => by simp at e
  | _, _, 0, _, .cons r _, e => by simp at e; subst e; exact ⟨_, rfl, r⟩
  | _, _, n + 1, _, .cons _ t, e => by
    obtain ⟨b, h1, h2⟩ := paired_get (n := n) t (by simpa using e)
    exact ⟨b, by simpa using h1, h2⟩
theorem paired_append {A B : Type} {F : A → B → Prop} : ∀ {l l2 : List A} {k k2 : List B}, Paired F l k → Paired F l2 k2 → Paired F (l ++ l2) (k ++ k2)
  | _, _, _, _, .nil, s => s
  | _, _, _, _, .cons r t, s => .cons r (paired_append t s)
theorem paired_rev {A B : Type} {F : A → B → Prop} : ∀ {l : List A} {k : List B}, Paired F l k → Paired F l.reverse k.reverse
  | _, _, .nil => .nil
  | _, _, .cons r t => by
    rw [List.reverse_cons, List.reverse_cons]
    exact paired_append (paired_rev t) (.cons r .nil)
theorem paired_getR {A B : Type} {F : A → B → Prop} {l : List A} {k : List B} {n : Nat} {a : A} (p : Paired F l k) (h : getR l n = some a) : ∃ b, getR k n = some b ∧ F a b :=
  paired_get (paired_rev p) h
theorem getR_mem {A : Type} {l : List A} {n : Nat} {a : A} (h : getR l n = some a) : a ∈ l := List.mem_reverse.mp (List.mem_of_getElem? h)
section
variable {Z : Sta} {W : WX} {σ : L2.St} {H H1 : Hp} {m m1 : Mp} {Q : VK} {X : Cx} {S : Hs}
theorem SRel.at_ (s : SRel Z H m S) {n : Nat} {c : Cell} (h : getR S n = some c) : ∃ a, getR m.l n = some a ∧ CRel Z H m c a := paired_getR s.cells h
theorem asL_ok (s : SRel Z H m S) {v : PV} {x : V} {xs : List PV} (r : RV Z H m v x) (h : asL S v = some xs) : ∃ a ys, x = .ref a ∧ H a = some (.lst ys) ∧ RVs Z H m xs ys := by
  unfold asL at h
  split at h
  · cases h
    unfold RV at r
    obtain ⟨a, ys, e, _, h1, h2⟩ := r
    exact ⟨a, ys, e, h1, h2⟩
  · rename_i n
    split at h
    · rename_i zs e
      cases h
      unfold RV at r
      obtain ⟨a, ea, ex⟩ := r
      obtain ⟨b, eb, ys, h1, h2⟩ := s.at_ e
      rw [ea] at eb
      cases eb
      exact ⟨a, ys, ex, h1, h2⟩
    · cases h
  · cases h
theorem RVs.ints : ∀ {ns : List Int}, RVs Z H m (ns.map PV.int) (ns.map V.int)
  | [] => RVs.nil
  | n :: ns => RVs.cons (by unfold RV; rfl) RVs.ints
theorem asQ_ok (s : SRel Z H m S) {v : PV} {x : V} {xs : List PV} (r : RV Z H m v x) (h : asQ S v = some xs) : ∃ a ys, x = .ref a ∧ (SqL Z.K H a ys ∨ SqT Z.K H a ys) ∧ RVs Z H m xs ys := by
  unfold asQ at h
  split at h
  · cases h
    unfold RV at r
    obtain ⟨a, ys, e, h1, h2⟩ := r
    exact ⟨a, ys, e, .inr h1, h2⟩
  · cases h
    unfold RV at r
    obtain ⟨a, e, h1⟩ := r
    exact ⟨a, _, e, .inl h1.sq, RVs.ints⟩
  · obtain ⟨a, ys, e, h1, h2⟩ := asL_ok s r h
    exact ⟨a, ys, e, .inl (SqL.of h1), h2⟩
/-! ### operations on values -/
def OpOk (Z : Sta) (X : Cx) (W : WX) (f : Value → Value → Sem Value) (g : PV → PV → Hs → RE) : Prop :=
  ∀ (pins : List (Addr × Obj)) (s : Shared) (σ : L2.St) (H : Hp) (x y : V) (v u : Value) (m : Mp) (S : Hs) (p q : PV) (Q : VK), Inv X pins σ H s → RelV x v → RelV y u →
    SRel Z H m S → RV Z H m p x → RV Z H m q y → PostE Z W σ H m Q (g p q S) → wpAny (model X.prog X.w) X.A (f v u) (EP X pins σ Q) X.xe s
theorem OpOk.of {f : Value → Value → Sem Value} {r : R2} {g : PV → PV → Hs → RE} (ho : OpR X f r)
    (h : ∀ (σ : L2.St) (H : Hp) (m : Mp) (S : Hs) (p q : PV) (x y : V) (Q : VK), SRel Z H m S → RV Z H m p x → RV Z H m q y → PostE Z W σ H m Q (g p q S) → r x y H Q) : OpOk Z X W f g :=
  fun pins s σ H x y v u m S p q Q I rx ry sr rp rq hp => ho pins s σ H x y v u Q I rx ry (h σ H m S p q x y Q sr rp rq hp)
def binE (f g : Loc → Hs → RE) (o : PV → PV → Hs → RE) : Loc → Hs → RE := fun L S => (f L S).bind fun v S1 => (g L S1).bind fun w S2 => o v w S2
theorem bin_run {a b : Expr} {f g : Loc → Hs → RE} {o : PV → PV → Hs → RE} {F : Value → Value → Sem Value} (ha : PE X a (tE Z W f)) (hb : PE X b (tE Z W g)) (ho : OpOk Z X W F o)
    {pins : List (Addr × Obj)} {s : Shared} (I : Inv X pins σ H s) (h : tE Z W (binE f g o) σ H Q) :
    wpAny (model X.prog X.w) X.A (eval a X.env) (fun v s₁ => wpAny (model X.prog X.w) X.A (eval b X.env) (fun u s₂ => wpAny (model X.prog X.w) X.A (F v u) (EP X pins σ Q) X.xe s₂) X.xe s₁) X.xe s := by
  obtain ⟨m, L, S, sr, hl, hp⟩ := h
  have h1 : tE Z W f σ H fun x H1 => tE Z W g σ H1 fun y H2 => ∃ m S p q, SRel Z H2 m S ∧ RV Z H2 m p x ∧ RV Z H2 m q y ∧ PostE Z W σ H2 m Q (o p q S) :=
    ⟨m, L, S, sr, hl, PostE.bind hp fun v S1 H1 m1 x g1 s1 r1 hp1 => ⟨m1, L, S1, s1, hl.grow g1, PostE.bind hp1 fun w S2 H2 m2 y g2 s2 r2 hp2 => ⟨m2, S2, v, w, s2, r1.grow g2, r2, hp2⟩⟩⟩
  refine binT ha hb I h1 fun v u s2 x y H2 I2 rx ry ⟨m2, S2, p, q, s2', r1, r2, hp2⟩ => ?_
  exact ho pins s2 σ H2 x y v u m2 S2 p q Q I2 rx ry s2' r1 r2 hp2
theorem ok_bin {a b : Expr} {op : Operator} {pos : Pos} {f g : Loc → Hs → RE} {o : PV → PV → Hs → RE} (ha : PE X a (tE Z W f)) (hb : PE X b (tE Z W g)) (ho : OpOk Z X W (binaryOp op) o) :
    PE X (.BinOp a op b pos) (tE Z W (binE f g o)) := ⟨fun pins s σ H Q I h => PySem.wpAny_BinOp (bin_run ha hb ho I h)⟩
end
end MP
set_option maxRecDepth 100000
namespace MP
open PySem L2
section
open PySem.Spec PyProof.Rows
/-! ### tuple * 1, tuple * 0 -/
set_option maxHeartbeats 4000000
theorem tuple_mul1 (l : Addr) (items : Array Value) (n : Nat) (dd : Option Addr) (sl : Array (Option Value)) (u : Tok) :
    Meets (Builtin.«tuple.__mul__» ⟨[.ref l, .int 1 u], []⟩) (fun _ R s => s.heap.get? l = some { cls := .type "tuple", dict := dd, data := .seq items n, slots := sl } ∧ R (.ok (.ret (Value.ref l))) s) :=
  .of_wp fun prog w A R s h => by
    obtain ⟨hp, g, d, tk, os⟩ := s
    obtain ⟨hl, h⟩ := h
    have f1 := AutoSeq1.idx_int
    have c1 : (items.isEmpty || (1 : Int) == 1) = true := by simp
    wp_walk using wpAny_loadPart' hl
    repeat (first
      | (refine wpAny_ite_true (by simpa using c1) ?_; wp_walk using wpAny_loadPart' hl)
      | (refine wpAny_ite_false (by decide) ?_; wp_walk using wpAny_loadPart' hl))
    exact ⟨_, rfl, h⟩
theorem tuple_mul0 (l : Addr) (items : Array Value) (n : Nat) (dd : Option Addr) (sl : Array (Option Value)) (u : Tok) (c1 : items.isEmpty = false) :
    Meets (Builtin.«tuple.__mul__» ⟨[.ref l, .int 0 u], []⟩) (fun _ R s => s.heap.get? l = some { cls := .type "tuple", dict := dd, data := .seq items n, slots := sl } ∧
      R (.ok (.ret (Value.ref s.heap.objs.size))) { s with heap := s.heap.push { cls := Value.type "tuple", data := Data.seq #[] }, toks := s.toks }) :=
  .of_wp fun prog w A R s h => by
    obtain ⟨hp, g, d, tk, os⟩ := s
    obtain ⟨hl, h⟩ := h
    have f1 := AutoSeq1.idx_int
    have c2 : (items.isEmpty || (0 : Int) == 1) = false := by rw [c1]; rfl
    wp_walk using wpAny_loadPart' hl
    repeat (first
      | (refine wpAny_ite_false (decide_eq_false (by rw [c2]; exact Bool.false_ne_true)) ?_; wp_walk using wpAny_loadPart' hl)
      | (refine wpAny_ite_true (by simp) ?_; wp_walk using wpAny_loadPart' hl)
      | (refine wpAny_ite_false (by decide) ?_; wp_walk using wpAny_loadPart' hl))
    exact ⟨_, rfl, h⟩
/-- a tuple once, not at all -/
def rRepT1 (K : PySem.W.Frag) : R2 := fun x y H Q => ∃ l xs, x = .ref l ∧ y = .int 1 ∧ SqT K H l xs ∧ Q (.ref l) H
def rRepT0 (K : PySem.W.Frag) : R2 := fun x y H Q => ∃ l xs, x = .ref l ∧ y = .int 0 ∧ SqT K H l xs ∧ xs ≠ [] ∧ ∀ p, H p = none → Q (.ref p) (L2.upd H p (.tup []))
theorem op_repT1 {X : Cx} : OpR X (binaryOp .Mult) (rRepT1 X.K) := by
  intro pins s σ H x y v u Q I rx ry h
  obtain ⟨l, xs, rfl, rfl, hT, q⟩ := h
  cases rx
  obtain ⟨t, rfl⟩ := ry
  obtain ⟨its, r, ⟨⟨cls, dd, data, sl⟩, ho, hc, n, hd⟩, hs⟩ := I.tuple hT
  simp only at hc hd
  subst hc hd
  refine wpAny_binaryOp_repeat_ref (T := "tuple") (U := "int") (by decide) ⟨_, ho, rfl⟩ (fun s' => typeIs_int s' 1 t) noFill_tuple_mul F.fills_int_mul F.slot_int_rmul repeat_tuple F.slot_int_index.lookup
    (call_meets F.slot_int_rmul (typeIs_int s 1 t) F.entry_int_rmul (F.args_int_rmul_2 _ _) (int_rmul_tuple 1 t l its.toArray n dd sl)
      ⟨ho, rfl, ⟨_, ho, rfl⟩, call_meets F.slot_tuple_mul ⟨_, ho, rfl⟩ F.entry_tuple_mul (F.args_tuple_mul_2 _ _) (tuple_mul1 l its.toArray n dd sl t) ⟨ho, ?_⟩⟩)
  exact ⟨.ref l, H, I, rfl, q⟩
theorem op_repT0 {X : Cx} : OpR X (binaryOp .Mult) (rRepT0 X.K) := by
  intro pins s σ H x y v u Q I rx ry h
  obtain ⟨l, xs, rfl, rfl, hT, hne, q⟩ := h
  cases rx
  obtain ⟨t, rfl⟩ := ry
  obtain ⟨its, r, ⟨⟨cls, dd, data, sl⟩, ho, hc, n, hd⟩, hs⟩ := I.tuple hT
  simp only at hc hd
  subst hc hd
  have hi : its.toArray.isEmpty = false := by
    cases its with
    | nil => exact absurd (List.eq_nil_of_length_eq_zero r.length) hne
    | cons a b => rfl
  refine wpAny_binaryOp_repeat_ref (T := "tuple") (U := "int") (by decide) ⟨_, ho, rfl⟩ (fun s' => typeIs_int s' 0 t) noFill_tuple_mul F.fills_int_mul F.slot_int_rmul repeat_tuple F.slot_int_index.lookup
    (call_meets F.slot_int_rmul (typeIs_int s 0 t) F.entry_int_rmul (F.args_int_rmul_2 _ _) (int_rmul_tuple 0 t l its.toArray n dd sl)
      ⟨ho, rfl, ⟨_, ho, rfl⟩, call_meets F.slot_tuple_mul ⟨_, ho, rfl⟩ F.entry_tuple_mul (F.args_tuple_mul_2 _ _) (tuple_mul0 l its.toArray n dd sl t hi) ⟨ho, ?_⟩⟩)
  refine ⟨.ref s.heap.objs.size, _, I.laid (t' := s.toks) (o := .tup []) (fun b ob q => Heap.get?_push_of_some _ q) (Nat.le_refl _) ?_, rfl, q _ (I.hok.fresh (Nat.le_refl _))⟩
  exact ⟨Nat.zero_le _, _, .nil, IsTup.new _ _⟩
end
/-! ### operators on data of built-in kinds -/
def mulOk (i j : Int) : Bool := decide (i.natAbs.log2 + j.natAbs.log2 < 1000000)
def fdivI (i j : Int) : Option Int :=
  if decide (0 < j) && decide (j.natAbs.log2 < 9000) then some (i / j) else if decide (j ≠ 0) && decide (j.natAbs < 1073741824) then some (i.fdiv j) else none
def modI (i j : Int) : Option Int := if decide (0 < j) then some (i % j) else if decide (j ≠ 0) then some (i.fmod j) else none
def powOk (i j : Int) : Bool := decide (0 ≤ j) && decide (j ≤ 1000000) && decide (i.natAbs < 18446744073709551616)
def okO (v : Option PV) (S : Hs) : RE := match v with
  | some v => .ok v S
  | none => .bad
/-- a new list: frozen, or in the store -/
def newL (fz : Bool) (xs : List PV) (S : Hs) : RE := if fits xs then (if fz then .ok (.lst xs) S else .ok (.loc S.length) (.lst xs :: S)) else .bad
def newT (xs : List PV) (S : Hs) : RE := if fits xs then .ok (.tup xs) S else .bad
def addV (fz : Bool) (a b : PV) (S : Hs) : RE := match a, b with
  | .int i, .int j => .ok (.int (i + j)) S
  | .str s, .str t => if fits (s ++ t) then .ok (.str (s ++ t)) S else .bad
  | .tup xs, .tup ys => newT (xs ++ ys) S
  | a, b => match asL S a, asL S b with
    | some xs, some ys => newL fz (xs ++ ys) S
    | _, _ => .bad
def intV (f : Int → Int → Option Int) (a b : PV) (S : Hs) : RE := match a, b with
  | .int i, .int j => okO ((f i j).map .int) S
  | _, _ => .bad
def repL (xs : List PV) (k : Nat) : List PV := (List.replicate k xs).flatten
def mulV (fz : Bool) (a b : PV) (S : Hs) : RE := match a, b with
  | .int i, .int j => if mulOk i j then .ok (.int (i * j)) S else .bad
  | .tup xs, .int k => if (!xs.isEmpty) && decide (2 ≤ k) && decide (k ≤ 1000) && decide (xs.length ≤ 1000) then .ok (.tup (repL xs k.toNat)) S else if decide (k = 1) then .ok (.tup xs) S else if decide (k = 0) && !xs.isEmpty then .ok (.tup []) S else .bad
  | a, .int k => match asL S a with
    | some xs => if decide (0 ≤ k) && decide (k ≤ 16777216) && decide (xs.length * k.toNat ≤ 16777216) then newL fz (repL xs k.toNat) S else .bad
    | _ => .bad
  | _, _ => .bad
def binV (op : Operator) (fz : Bool) : PV → PV → Hs → RE := match op with
  | .Add => addV fz
  | .Sub => intV fun i j => some (i - j)
  | .Mult => mulV fz
  | .FloorDiv => intV fdivI
  | .Mod => intV modI
  | .Pow => intV fun i j => if powOk i j then some (i ^ j.toNat) else none
  | .LShift => intV fun i j => if powOk i j then some (i * 2 ^ j.toNat) else none
  | .RShift => intV fun i j => if decide (0 ≤ j) then some (i / 2 ^ j.toNat) else none
  | .BitAnd => intV fun i j => some (Builtin.bitAnd i j)
  | .BitOr => intV fun i j => some (Builtin.bitOr i j)
  | .BitXor => intV fun i j => some (Builtin.bitXor i j)
  | _ => fun _ _ _ => .bad
theorem sOk_app {s t : List Nat} (h : sOk s = true) (h' : sOk t = true) : sOk (s ++ t) = true := by
  unfold sOk at *
  rw [List.all_append, h, h']
  rfl
theorem str_app (s t : List Nat) : (⟨s.toArray⟩ : Str) ++ (⟨t.toArray⟩ : Str) = ⟨(s ++ t).toArray⟩ := by
  show Str.append _ _ = _
  unfold Str.append
  simp
theorem str_len (s : List Nat) : (⟨s.toArray⟩ : Str).length = s.length := by
  unfold Str.length
  simp
section
variable {Z : Sta} {W : WX} {σ : L2.St} {H H1 : Hp} {m m1 : Mp} {Q : VK} {X : Cx} {S : Hs} {x y : V}
theorem rv_int {i : Int} (r : RV Z H m (.int i) x) : x = .int i := by unfold RV at r; exact r
theorem rv_str {s : List Nat} (r : RV Z H m (.str s) x) : x = .str ⟨s.toArray⟩ ∧ sOk s = true := by unfold RV at r; exact r
theorem rv_bl {b : Bool} (r : RV Z H m (.bl b) x) : x = .bl b := by unfold RV at r; exact r
theorem rv_tup {xs : List PV} (r : RV Z H m (.tup xs) x) : ∃ a ys, x = .ref a ∧ SqT Z.K H a ys ∧ RVs Z H m xs ys := by unfold RV at r; exact r
theorem to_int {i : Int} : RV Z H m (.int i) (.int i) := by unfold RV; rfl
theorem to_bl {b : Bool} : RV Z H m (.bl b) (.bl b) := by unfold RV; rfl
theorem to_non : RV Z H m .non .non := by unfold RV; rfl
theorem to_str {s : List Nat} (h : sOk s = true) : RV Z H m (.str s) (.str ⟨s.toArray⟩) := by unfold RV; exact ⟨rfl, h⟩
theorem to_tup {xs : List PV} {a : Addr} {ys : List V} (h : SqT Z.K H a ys) (r : RVs Z H m xs ys) : RV Z H m (.tup xs) (.ref a) := by unfold RV; exact ⟨a, ys, rfl, h, r⟩
theorem newL_post {fz : Bool} {xs : List PV} {ys : List V} (sr : SRel Z H m S) (r : RVs Z H m xs ys) (hp : PostE Z W σ H m Q (newL fz xs S)) :
    ys.length ≤ sizeLine ∧ ∀ p, H p = none → Q (.ref p) (upd H p (.lst ys)) := by
  unfold newL at hp
  split at hp
  · rename_i hf
    refine ⟨by rw [← r.len]; exact fits_ok hf, fun p hn => ?_⟩
    cases fz with
    | true =>
      refine hp _ m (.ref p) (Gr.new hn) (sr.new hn) ?_
      unfold RV
      exact ⟨p, ys, rfl, sr.notin hn, upd_same, r.grow (Gr.new hn)⟩
    | false =>
      refine hp _ (m.push p) (.ref p) (Gr.push hn) (sr.push hn ⟨ys, upd_same, r.grow (Gr.push hn)⟩) ?_
      unfold RV
      exact ⟨p, by rw [sr.len]; exact getR_top, rfl⟩
  · exact hp.elim
theorem newT_post {xs : List PV} {ys : List V} (sr : SRel Z H m S) (r : RVs Z H m xs ys) (hp : PostE Z W σ H m Q (newT xs S)) :
    ys.length ≤ sizeLine ∧ ∀ p, H p = none → Q (.ref p) (upd H p (.tup ys)) := by
  unfold newT at hp
  split at hp
  · rename_i hf
    refine ⟨by rw [← r.len]; exact fits_ok hf, fun p hn => ?_⟩
    exact hp _ m (.ref p) (Gr.new hn) (sr.new hn) (to_tup (SqT.of upd_same) (r.grow (Gr.new hn)))
  · exact hp.elim
theorem newT_same {xs : List PV} {a : Addr} {ys : List V} (sr : SRel Z H m S) (h : SqT Z.K H a ys) (r : RVs Z H m xs ys) (hp : PostE Z W σ H m Q (newT xs S)) : Q (.ref a) H := by
  unfold newT at hp
  split at hp
  · exact hp H m (.ref a) Gr.refl sr (to_tup h r)
  · exact hp.elim
theorem addV_list {fz : Bool} {p q : PV} {xs ys : List PV} (e : addV fz p q S = newL fz (xs ++ ys) S) (hx : asL S p = some xs) (hy : asL S q = some ys)
    (sr : SRel Z H m S) (rp : RV Z H m p x) (rq : RV Z H m q y) (hp : PostE Z W σ H m Q (addV fz p q S)) : rCat x y H Q := by
  rw [e] at hp
  obtain ⟨a, xs', ex, h1, r1⟩ := asL_ok sr rp hx
  obtain ⟨b, ys', ey, h2, r2⟩ := asL_ok sr rq hy
  have z := newL_post sr (r1.append r2) hp
  exact ⟨a, b, xs', ys', ex, ey, h1, h2, by rw [← List.length_append]; exact z.1, z.2⟩
theorem add_ok {fz : Bool} (hK : X.K = Z.K) : OpOk Z X W (binaryOp .Add) (addV fz) := by
  refine OpOk.of (op_add.or (op_add_str.or (op_cat.or op_catA))) fun σ H m S p q x y Q sr rp rq hp => ?_
  unfold addV at hp
  split at hp
  · cases rv_int rp; cases rv_int rq
    exact .inl ⟨_, _, rfl, rfl, hp H m _ Gr.refl sr to_int⟩
  · obtain ⟨rfl, o1⟩ := rv_str rp
    obtain ⟨rfl, o2⟩ := rv_str rq
    split at hp
    · rename_i hf
      refine .inr (.inl ⟨_, _, rfl, rfl, ?_, ?_⟩)
      · rw [str_len, str_len, ← List.length_append]; exact fits_ok hf
      · rw [str_app]
        exact hp H m _ Gr.refl sr (to_str (sOk_app o1 o2))
    · exact hp.elim
  · obtain ⟨a, xs', rfl, h1, r1⟩ := rv_tup rp
    obtain ⟨b, ys', rfl, h2, r2⟩ := rv_tup rq
    have z := newT_post sr (r1.append r2) hp
    refine .inr (.inr (.inr ⟨a, b, xs', ys', rfl, rfl, by rw [hK]; exact h1, by rw [hK]; exact h2, by rw [← List.length_append]; exact z.1, fun e => ?_, fun _ e => ?_, fun _ _ => z.2⟩))
    · subst e
      refine newT_same sr h2 ?_ hp
      have := r1.append r2
      rwa [List.nil_append] at this
    · subst e
      refine newT_same sr h1 ?_ hp
      have := r1.append r2
      rwa [List.append_nil] at this
  · split at hp
    · rename_i xs ys hx hy
      obtain ⟨a, xs', ex, h1, r1⟩ := asL_ok sr rp hx
      obtain ⟨b, ys', ey, h2, r2⟩ := asL_ok sr rq hy
      have z := newL_post sr (r1.append r2) hp
      exact .inr (.inr (.inl ⟨a, b, xs', ys', ex, ey, h1, h2, by rw [← List.length_append]; exact z.1, z.2⟩))
    · exact hp.elim
theorem intV_post {f : Int → Int → Option Int} {p q : PV} (sr : SRel Z H m S) (rp : RV Z H m p x) (rq : RV Z H m q y) (hp : PostE Z W σ H m Q (intV f p q S)) :
    ∃ i j k, x = .int i ∧ y = .int j ∧ f i j = some k ∧ Q (.int k) H := by
  unfold intV at hp
  split at hp
  · rename_i i j
    cases rv_int rp; cases rv_int rq
    cases e : f i j with
    | none => rw [e] at hp; exact hp.elim
    | some k =>
      rw [e] at hp
      exact ⟨i, j, k, rfl, rfl, e, hp H m _ Gr.refl sr to_int⟩
  · exact hp.elim
theorem int_ok {f : Int → Int → Option Int} {F : Value → Value → Sem Value} {C : Int → Int → Prop} {g : Int → Int → Int} (ho : OpR X F (rI C fun i j => .int (g i j))) (h : ∀ i j k, f i j = some k → C i j ∧ k = g i j) : OpOk Z X W F (intV f) := by
  refine OpOk.of ho fun σ H m S p q x y Q sr rp rq hp => ?_
  obtain ⟨i, j, k, rfl, rfl, e, hq⟩ := intV_post sr rp rq hp
  obtain ⟨h1, rfl⟩ := h i j k e
  exact ⟨i, j, rfl, rfl, h1, hq⟩
theorem int_ok0 {f : Int → Int → Option Int} {F : Value → Value → Sem Value} {g : Int → Int → Int} (ho : OpR X F (rI0 fun i j => .int (g i j))) (h : ∀ i j k, f i j = some k → k = g i j) : OpOk Z X W F (intV f) := by
  refine OpOk.of ho fun σ H m S p q x y Q sr rp rq hp => ?_
  obtain ⟨i, j, k, rfl, rfl, e, hq⟩ := intV_post sr rp rq hp
  cases h i j k e
  exact ⟨i, j, rfl, rfl, hq⟩
theorem RVs.flat : ∀ {k : Nat} {xs : List PV} {ys : List V}, RVs Z H m xs ys → RVs Z H m (repL xs k) (List.replicate k ys).flatten
  | 0, _, _, _ => RVs.nil
  | k + 1, xs, ys, h => by
    have := RVs.append h (RVs.flat (k := k) h)
    simpa [repL, List.replicate_succ] using this
theorem mul_ok {fz : Bool} (hK : X.K = Z.K) : OpOk Z X W (binaryOp .Mult) (mulV fz) := by
  refine OpOk.of (op_mulW.or (op_repT.or (op_rep.or (op_repT1.or op_repT0)))) fun σ H m S p q x y Q sr rp rq hp => ?_
  unfold mulV at hp
  split at hp
  · cases rv_int rp; cases rv_int rq
    split at hp
    · rename_i hm
      exact .inl ⟨_, _, rfl, rfl, (show _ < 1000000 from of_decide_eq_true hm), hp H m _ Gr.refl sr to_int⟩
    · exact hp.elim
  · rename_i xs k
    obtain ⟨a, ys, rfl, h1, r1⟩ := rv_tup rp
    cases rv_int rq
    split at hp
    · rename_i hc
      simp only [Bool.and_eq_true, decide_eq_true_eq, Bool.not_eq_true'] at hc
      obtain ⟨⟨⟨c1, c2⟩, c3⟩, c4⟩ := hc
      refine .inr (.inl ⟨a, k, ys, rfl, rfl, by rw [hK]; exact h1, ?_, c2, c3, by rw [← r1.len]; exact c4, fun p hn => ?_⟩)
      · rintro rfl
        have := r1.len
        cases xs with
        | nil => simp at c1
        | cons _ _ => simp at this
      · exact hp _ m (.ref p) (Gr.new hn) (sr.new hn) (to_tup (SqT.of upd_same) (RVs.flat (r1.grow (Gr.new hn))))
    · split at hp
      · rename_i e1
        have e1 := of_decide_eq_true e1
        subst e1
        exact .inr (.inr (.inr (.inl ⟨a, ys, rfl, rfl, by rw [hK]; exact h1, hp H m _ Gr.refl sr (to_tup h1 r1)⟩)))
      · split at hp
        · rename_i e0
          rw [Bool.and_eq_true, decide_eq_true_eq] at e0
          obtain ⟨e0, e2⟩ := e0
          subst e0
          refine .inr (.inr (.inr (.inr ⟨a, ys, rfl, rfl, by rw [hK]; exact h1, ?_, fun p hn => ?_⟩)))
          · rintro rfl
            have := r1.len
            cases xs with
            | nil => simp at e2
            | cons _ _ => simp at this
          · exact hp _ m (.ref p) (Gr.new hn) (sr.new hn) (to_tup (SqT.of upd_same) RVs.nil)
        · exact hp.elim
  · rename_i k _ _
    cases rv_int rq
    split at hp
    · rename_i xs hx
      obtain ⟨a, ys, rfl, h1, r1⟩ := asL_ok sr rp hx
      split at hp
      · rename_i hc
        simp only [Bool.and_eq_true, decide_eq_true_eq] at hc
        obtain ⟨⟨c1, c2⟩, c3⟩ := hc
        have z := newL_post sr (RVs.flat r1) hp
        exact .inr (.inr (.inl ⟨a, k, ys, rfl, rfl, h1, by omega, by omega, by rw [← r1.len, sizeLine_eq]; exact c3, z.2⟩))
      · exact hp.elim
    · exact hp.elim
  · exact hp.elim
theorem bin_ok (op : Operator) (fz : Bool) (hK : X.K = Z.K) : OpOk Z X W (binaryOp op) (binV op fz) := by
  cases op with
  | Add => exact add_ok hK
  | Sub => exact int_ok0 op_sub fun i j k e => by cases e; rfl
  | Mult => exact mul_ok hK
  | Mod =>
    refine OpOk.of (op_mod.or op_modN) fun σ H m S p q x y Q sr rp rq hp => ?_
    obtain ⟨i, j, k, rfl, rfl, e, hq⟩ := intV_post sr rp rq hp
    unfold modI at e
    split at e
    · rename_i c; cases e
      exact .inl ⟨i, j, rfl, rfl, of_decide_eq_true c, hq⟩
    · split at e
      · rename_i c; cases e
        exact .inr ⟨i, j, rfl, rfl, of_decide_eq_true c, hq⟩
      · cases e
  | FloorDiv =>
    refine OpOk.of (op_fdivW.or op_fdivN) fun σ H m S p q x y Q sr rp rq hp => ?_
    obtain ⟨i, j, k, rfl, rfl, e, hq⟩ := intV_post sr rp rq hp
    unfold fdivI at e
    split at e
    · rename_i c; cases e
      simp only [Bool.and_eq_true, decide_eq_true_eq] at c
      exact .inl ⟨i, j, rfl, rfl, c, hq⟩
    · split at e
      · rename_i c; cases e
        simp only [Bool.and_eq_true, decide_eq_true_eq] at c
        exact .inr ⟨i, j, rfl, rfl, c, hq⟩
      · cases e
  | Pow =>
    refine int_ok op_pow fun i j k e => by
      split at e
      · rename_i c; cases e
        unfold powOk at c
        simp only [Bool.and_eq_true, decide_eq_true_eq] at c
        exact ⟨⟨c.1.1, c.1.2, by have := c.2; omega⟩, rfl⟩
      · cases e
  | LShift =>
    refine int_ok op_shl fun i j k e => by
      split at e
      · rename_i c; cases e
        unfold powOk at c
        simp only [Bool.and_eq_true, decide_eq_true_eq] at c
        exact ⟨⟨c.1.1, c.1.2, by have := c.2; omega⟩, rfl⟩
      · cases e
  | RShift =>
    refine int_ok op_shr fun i j k e => by
      split at e
      · rename_i c; cases e; exact ⟨of_decide_eq_true c, rfl⟩
      · cases e
  | BitAnd => exact int_ok0 op_and fun i j k e => by cases e; rfl
  | BitOr => exact int_ok0 op_or fun i j k e => by cases e; rfl
  | BitXor => exact int_ok0 op_xor fun i j k e => by cases e; rfl
  | MatMult => exact fun pins s σ H x y v u m S p q Q I rx ry sr rp rq hp => hp.elim
  | Div => exact fun pins s σ H x y v u m S p q Q I rx ry sr rp rq hp => hp.elim
end
end MP
set_option maxRecDepth 100000
namespace MP
open PySem L2
/-! ### == of data -/
def isD (S : Hs) : Nat → PV → Bool
  | 0, v => isFlat v
  | n + 1, v => if isFlat v then true else match asQ S v with
    | some xs => xs.all (isD S n)
    | none => false
def eqB (S : Hs) : Nat → PV → PV → Bool
  | 0, a, b => eqF a b
  | n + 1, a, b => if isFlat a || isFlat b then eqF a b else match asQ S a, asQ S b with
    | some xs, some ys => (isTup a == isTup b) && eqAll (eqB S n) xs ys
    | _, _ => false
def flatD : PV → PyData
  | .non => .none
  | .bl b => .bool b
  | .int i => .int i
  | .str s => .str ⟨s.toArray⟩
  | _ => .none
def toD (S : Hs) : Nat → PV → PyData
  | 0, v => flatD v
  | n + 1, v => if isFlat v then flatD v else match asQ S v with
    | some xs => if isTup v then .tuple (xs.map (toD S n)) else .list (xs.map (toD S n))
    | none => .none
theorem eqF_eq {a b : PV} (ha : isFlat a = true) (hb : isFlat b = true) : eqF a b = PyData.eqv (flatD a) (flatD b) := by
  cases a <;> first | (cases ha; done) | (cases b <;> first | (cases hb; done) | (simp [eqF, flatD, PyData.eqv]))
  rename_i s t
  by_cases h : s = t
  · subst h; simp
  · have : ¬ ((⟨s.toArray⟩ : Str) = ⟨t.toArray⟩) := fun e => h (by have := congrArg (fun z : Str => z.cps.toList) e; simpa using this)
    rw [beq_eq_false_iff_ne.mpr h, beq_eq_false_iff_ne.mpr this]
theorem eqAll_eq {f : PV → PV → Bool} {g : PV → PyData} : ∀ {xs ys : List PV}, (∀ x ∈ xs, ∀ y ∈ ys, f x y = PyData.eqv (g x) (g y)) → eqAll f xs ys = PyData.eqvAll (xs.map g) (ys.map g)
  | [], [], _ => by simp [eqAll, PyData.eqvAll]
  | [], _ :: _, _ => by simp [eqAll, PyData.eqvAll]
  | _ :: _, [], _ => by simp [eqAll, PyData.eqvAll]
  | x :: xs, y :: ys, h => by
    rw [List.map_cons, List.map_cons, PyData.eqvAll, eqAll, h x List.mem_cons_self y List.mem_cons_self, eqAll_eq fun a ha b hb => h a (List.mem_cons_of_mem _ ha) b (List.mem_cons_of_mem _ hb)]
theorem flat_data : ∀ {v : PV} {S : Hs} {n : Nat}, isFlat v = true → toD S n v = flatD v
  | _, _, 0, _ => rfl
  | _, _, n + 1, h => by unfold toD; rw [if_pos h]
theorem flat_of {d : PyData} {v : PV} (h : isFlat v = false) : asQ [] v = asQ [] v := rfl
theorem eqv_flat_seq {a : PV} {xs : List PyData} (ha : isFlat a = true) : PyData.eqv (flatD a) (.tuple xs) = false ∧ PyData.eqv (flatD a) (.list xs) = false ∧ PyData.eqv (.tuple xs) (flatD a) = false ∧ PyData.eqv (.list xs) (flatD a) = false := by
  cases a <;> first | (cases ha; done) | (simp [flatD, PyData.eqv])
theorem eqF_seq {a b : PV} (h : isFlat a = false ∨ isFlat b = false) : eqF a b = false := by
  rcases h with h | h
  · cases a <;> first | (cases h; done) | (cases b <;> rfl)
  · cases b <;> first | (cases h; done) | (cases a <;> rfl)
theorem asQ_of_isD {S : Hs} {n : Nat} {v : PV} (hf : isFlat v = false) (h : isD S (n + 1) v = true) : ∃ xs, asQ S v = some xs ∧ ∀ x ∈ xs, isD S n x = true := by
  unfold isD at h
  rw [if_neg (by rw [hf]; exact Bool.false_ne_true)] at h
  split at h
  · rename_i xs e
    exact ⟨xs, e, List.all_eq_true.mp h⟩
  · cases h
theorem toD_seq {S : Hs} {n : Nat} {v : PV} {xs : List PV} (hf : isFlat v = false) (h : asQ S v = some xs) : toD S (n + 1) v = if isTup v then .tuple (xs.map (toD S n)) else .list (xs.map (toD S n)) := by
  rw [toD, if_neg (by rw [hf]; exact Bool.false_ne_true), h]
theorem eqB_eq {S : Hs} : ∀ {n : Nat} {a b : PV}, isD S n a = true → isD S n b = true → eqB S n a b = PyData.eqv (toD S n a) (toD S n b)
  | 0, a, b, ha, hb => eqF_eq ha hb
  | n + 1, a, b, ha, hb => by
    cases fa : isFlat a with
    | true =>
      cases fb : isFlat b with
      | true =>
        rw [flat_data fa, flat_data fb, eqB, fa, fb]
        exact eqF_eq fa fb
      | false =>
        obtain ⟨ys, ey, hy⟩ := asQ_of_isD fb hb
        rw [flat_data fa, toD_seq fb ey, eqB, fa, fb]
        show eqF a b = _
        rw [eqF_seq (.inr fb)]
        split
        · exact (eqv_flat_seq fa).1.symm
        · exact (eqv_flat_seq fa).2.1.symm
    | false =>
      obtain ⟨xs, ex, hx⟩ := asQ_of_isD fa ha
      cases fb : isFlat b with
      | true =>
        rw [flat_data fb, toD_seq fa ex, eqB, fa, fb]
        show eqF a b = _
        rw [eqF_seq (.inl fa)]
        split
        · exact (eqv_flat_seq fb).2.2.1.symm
        · exact (eqv_flat_seq fb).2.2.2.symm
      | false =>
        obtain ⟨ys, ey, hy⟩ := asQ_of_isD fb hb
        rw [toD_seq fa ex, toD_seq fb ey, eqB, fa, fb, ex, ey]
        show (isTup a == isTup b && eqAll (eqB S n) xs ys) = _
        rw [eqAll_eq (g := toD S n) fun x hxm y hym => eqB_eq (hx x hxm) (hy y hym)]
        cases isTup a <;> cases isTup b <;> simp [PyData.eqv]
section
variable {Z : Sta} {W : WX} {σ : L2.St} {H H1 : Hp} {m m1 : Mp} {Q : VK} {X : Cx} {S : Hs} {x y : V}
theorem canLay_str {s : List Nat} (h : sOk s = true) : PyData.canLay0 (.str ⟨s.toArray⟩) = true := by
  unfold PyData.canLay0 PyData.strOk
  unfold sOk at h
  simpa using h
theorem flat_ok {v : PV} (r : RV Z H m v x) (h : isFlat v = true) : Dp Z.K H x (flatD v) ∧ (flatD v).canLay0 = true ∧ (flatD v).depth ≤ 0 := by
  cases v <;> first
    | (cases h; done)
    | skip
  · unfold RV at r; subst r; exact ⟨.non, by simp [flatD, PyData.canLay0], by simp [flatD, PyData.depth]⟩
  · unfold RV at r; subst r; exact ⟨.bl _, by simp [flatD, PyData.canLay0], by simp [flatD, PyData.depth]⟩
  · unfold RV at r; subst r; exact ⟨.int _, by simp [flatD, PyData.canLay0], by simp [flatD, PyData.depth]⟩
  · obtain ⟨rfl, o⟩ := rv_str r; exact ⟨.str _, canLay_str o, by simp [flatD, PyData.depth]⟩
theorem dp_all {g : PV → PyData} {n : Nat} : ∀ {xs : List PV} {ys : List V}, RVs Z H m xs ys → (∀ v ∈ xs, ∀ x, RV Z H m v x → Dp Z.K H x (g v) ∧ (g v).canLay0 = true ∧ (g v).depth ≤ n) →
    DpAll Z.K H ys (xs.map g) ∧ PyData.canLayAll0 (xs.map g) = true ∧ PyData.depthAll (xs.map g) ≤ n
  | [], _, r, _ => by unfold RVs at r; subst r; exact ⟨.nil, by simp [PyData.canLayAll0], by simp [PyData.depthAll]⟩
  | v :: xs, _, r, h => by
    unfold RVs at r
    obtain ⟨y, t, rfl, r1, r2⟩ := r
    obtain ⟨a1, a2, a3⟩ := h v List.mem_cons_self y r1
    obtain ⟨b1, b2, b3⟩ := dp_all (g := g) r2 fun w hw => h w (List.mem_cons_of_mem _ hw)
    rw [List.map_cons]
    exact ⟨.cons a1 b1, by simp [PyData.canLayAll0, a2, b2], by simp only [PyData.depthAll]; omega⟩
theorem data_ok (sr : SRel Z H m S) : ∀ {n : Nat} {v : PV} {x : V}, RV Z H m v x → isD S n v = true → Dp Z.K H x (toD S n v) ∧ (toD S n v).canLay0 = true ∧ (toD S n v).depth ≤ n
  | 0, v, x, r, h => flat_ok r h
  | n + 1, v, x, r, h => by
    cases f : isFlat v with
    | true =>
      rw [flat_data f]
      obtain ⟨a, b, c⟩ := flat_ok r f
      exact ⟨a, b, by omega⟩
    | false =>
      obtain ⟨xs, ex, hx⟩ := asQ_of_isD f h
      rw [toD_seq f ex]
      cases t : isTup v with
      | true =>
        rw [if_pos rfl]
        cases v <;> first | (cases t; done) | skip
        obtain ⟨a, ys, rfl, h1, r1⟩ := rv_tup r
        cases ex
        obtain ⟨a1, a2, a3⟩ := dp_all (g := toD S n) (n := n) r1 fun w hw y ry => data_ok sr ry (hx w hw)
        exact ⟨.tup h1 a1, by simp [PyData.canLay0, a2], by simp only [PyData.depth]; omega⟩
      | false =>
        rw [if_neg Bool.false_ne_true]
        have key : ∃ a ys, x = .ref a ∧ SqL Z.K H a ys ∧ RVs Z H m xs ys := by
          unfold asQ at ex
          split at ex
          · cases t
          · cases ex
            unfold RV at r
            obtain ⟨a, e, h1⟩ := r
            exact ⟨a, _, e, h1.sq, RVs.ints⟩
          · obtain ⟨a, ys, e, h1, h2⟩ := asL_ok sr r ex
            exact ⟨a, ys, e, SqL.of h1, h2⟩
        obtain ⟨a, ys, rfl, h1, r1⟩ := key
        obtain ⟨a1, a2, a3⟩ := dp_all (g := toD S n) (n := n) r1 fun w hw y ry => data_ok sr ry (hx w hw)
        exact ⟨.lst h1 a1, by simp [PyData.canLay0, a2], by simp only [PyData.depth]; omega⟩
/-- how deep data is compared -/
def deep : Nat := 12
def eqV (a b : PV) (S : Hs) : RE := if isD S deep a && isD S deep b then .ok (.bl (eqB S deep a b)) S else .bad
def neV (a b : PV) (S : Hs) : RE := if isD S deep a && isD S deep b then .ok (.bl (!eqB S deep a b)) S else .bad
theorem shaped_of {d : PyData} (h1 : d.canLay0 = true) (h2 : d.depth ≤ deep) : SeqAt.shaped d = true := by
  unfold SeqAt.shaped
  rw [h1, decide_eq_true (Nat.le_trans h2 (by decide))]
  rfl
theorem eq_ok (hK : X.K = Z.K) (hu : X.A.units + 64 < cLine) : OpOk Z X W (compareOp .Eq) eqV := by
  refine OpOk.of (op_eqD hu) fun σ H m S p q x y Q sr rp rq hp => ?_
  unfold eqV at hp
  split at hp
  · rename_i c
    rw [Bool.and_eq_true] at c
    obtain ⟨a1, a2, a3⟩ := data_ok sr rp c.1
    obtain ⟨b1, b2, b3⟩ := data_ok sr rq c.2
    refine ⟨_, _, by rw [hK]; exact a1, by rw [hK]; exact b1, shaped_of a2 a3, shaped_of b2 b3, ?_⟩
    rw [← eqB_eq c.1 c.2]
    exact hp H m _ Gr.refl sr to_bl
  · exact hp.elim
theorem ne_ok (hK : X.K = Z.K) (hu : X.A.units + 64 < cLine) : OpOk Z X W (compareOp .NotEq) neV := by
  refine OpOk.of (op_neD hu) fun σ H m S p q x y Q sr rp rq hp => ?_
  unfold neV at hp
  split at hp
  · rename_i c
    rw [Bool.and_eq_true] at c
    obtain ⟨a1, a2, a3⟩ := data_ok sr rp c.1
    obtain ⟨b1, b2, b3⟩ := data_ok sr rq c.2
    refine ⟨_, _, by rw [hK]; exact a1, by rw [hK]; exact b1, shaped_of a2 a3, shaped_of b2 b3, ?_⟩
    rw [← eqB_eq c.1 c.2]
    exact hp H m _ Gr.refl sr to_bl
  · exact hp.elim
end
end MP
set_option maxRecDepth 100000
namespace MP
open PySem L2
/-! ### order, in, is None -/
def ordV (f : Int → Int → Bool) (a b : PV) (S : Hs) : RE := match a, b with
  | .int i, .int j => .ok (.bl (f i j)) S
  | _, _ => .bad
def inB (S : Hs) (a b : PV) : Option Bool := match b with
  | .str t => match a with
    | .str [c] => some (t.contains c)
    | _ => none
  | b => match asQ S b with
    | some xs => if isFlat a && xs.all isFlat then some (xs.any fun y => eqF y a) else none
    | none => none
def inV (a b : PV) (S : Hs) : RE := okO ((inB S a b).map .bl) S
def ninV (a b : PV) (S : Hs) : RE := okO ((inB S a b).map fun c => .bl (!c)) S
def isNon : PV → Bool
  | .non => true
  | _ => false
def isV (neg : Bool) (a b : PV) (S : Hs) : RE := if isNon b then .ok (.bl (if neg then !isNon a else isNon a)) S else .bad
def cmpV (op : CmpOp) : PV → PV → Hs → RE := match op with
  | .Eq => eqV
  | .NotEq => neV
  | .Lt => ordV fun i j => decide (i < j)
  | .LtE => ordV fun i j => decide (i ≤ j)
  | .Gt => ordV fun i j => decide (j < i)
  | .GtE => ordV fun i j => decide (j ≤ i)
  | .In => inV
  | .NotIn => ninV
  | .Is => isV false
  | .IsNot => isV true
section
variable {Z : Sta} {W : WX} {σ : L2.St} {H H1 : Hp} {m m1 : Mp} {Q : VK} {X : Cx} {S : Hs} {x y : V}
theorem ord_ok {f : Int → Int → Bool} {F : Value → Value → Sem Value} (ho : OpR X F (rI0 fun i j => .bl (f i j))) : OpOk Z X W F (ordV f) := by
  refine OpOk.of ho fun σ H m S p q x y Q sr rp rq hp => ?_
  unfold ordV at hp
  split at hp
  · cases rv_int rp; cases rv_int rq
    exact ⟨_, _, rfl, rfl, hp H m _ Gr.refl sr to_bl⟩
  · exact hp.elim
theorem flat_V {v : PV} (r : RV Z H m v x) (h : isFlat v = true) : flatV x = true := by
  cases v <;> first | (cases h; done) | skip
  · unfold RV at r; subst r; rfl
  · unfold RV at r; subst r; rfl
  · unfold RV at r; subst r; rfl
  · obtain ⟨rfl, _⟩ := rv_str r; rfl
theorem eqF_V {a b : PV} (ra : RV Z H m a x) (rb : RV Z H m b y) (ha : isFlat a = true) (hb : isFlat b = true) : eqF a b = L2.eqV x y := by
  cases a <;> first | (cases ha; done) | skip
  all_goals cases b <;> first | (cases hb; done) | skip
  all_goals first
    | (obtain ⟨rfl, _⟩ := rv_str ra; obtain ⟨rfl, _⟩ := rv_str rb; skip)
    | (obtain ⟨rfl, _⟩ := rv_str ra; unfold RV at rb; subst rb; rfl)
    | (obtain ⟨rfl, _⟩ := rv_str rb; unfold RV at ra; subst ra; rfl)
    | (unfold RV at ra rb; subst ra; subst rb; rfl)
  rename_i s t _ _
  show (s == t) = ((⟨s.toArray⟩ : Str) == ⟨t.toArray⟩)
  by_cases h : s = t
  · subst h; simp
  · have : ¬ ((⟨s.toArray⟩ : Str) = ⟨t.toArray⟩) := fun e => h (by have := congrArg (fun z : Str => z.cps.toList) e; simpa using this)
    rw [beq_eq_false_iff_ne.mpr h, beq_eq_false_iff_ne.mpr this]
theorem all_flat : ∀ {xs : List PV} {ys : List V}, RVs Z H m xs ys → xs.all isFlat = true → ys.all flatV = true
  | [], _, r, _ => by unfold RVs at r; subst r; rfl
  | v :: xs, _, r, h => by
    unfold RVs at r
    obtain ⟨y, t, rfl, r1, r2⟩ := r
    rw [List.all_cons, Bool.and_eq_true] at h
    rw [List.all_cons, flat_V r1 h.1, all_flat r2 h.2]; rfl
theorem any_flat {a : PV} (ra : RV Z H m a x) (ha : isFlat a = true) : ∀ {xs : List PV} {ys : List V}, RVs Z H m xs ys → xs.all isFlat = true → (xs.any fun y => eqF y a) = L2.inV x ys
  | [], _, r, _ => by unfold RVs at r; subst r; rfl
  | v :: xs, _, r, h => by
    unfold RVs at r
    obtain ⟨y, t, rfl, r1, r2⟩ := r
    rw [List.all_cons, Bool.and_eq_true] at h
    unfold L2.inV
    rw [List.any_cons, List.any_cons, eqF_V r1 ra h.1 ha]
    exact congrArg _ (any_flat ra ha r2 h.2)
theorem inB_ok {a b : PV} {k : Bool} (hK : X.K = Z.K) (sr : SRel Z H m S) (ra : RV Z H m a x) (rb : RV Z H m b y) (h : inB S a b = some k) :
    (∃ (c : Nat) (z : Str), x = .str ⟨#[c]⟩ ∧ y = .str z ∧ k = decide (c ∈ z.cps.toList)) ∨
      ∃ p xs, y = .ref p ∧ (SqL X.K H p xs ∨ SqT X.K H p xs) ∧ flatV x = true ∧ xs.all flatV = true ∧ k = L2.inV x xs := by
  unfold inB at h
  split at h
  · obtain ⟨rfl, _⟩ := rv_str rb
    split at h
    · cases h
      obtain ⟨rfl, _⟩ := rv_str ra
      refine .inl ⟨_, _, rfl, rfl, ?_⟩
      simp
    · cases h
  · split at h
    · rename_i xs ex
      split at h
      · rename_i c
        rw [Bool.and_eq_true] at c
        cases h
        obtain ⟨p, ys, rfl, hq, hr⟩ := asQ_ok sr rb ex
        exact .inr ⟨p, ys, rfl, by rw [hK]; exact hq, flat_V ra c.1, all_flat hr c.2, any_flat ra c.1 hr c.2⟩
      · cases h
    · cases h
theorem okO_post {v : Option PV} (h : PostE Z W σ H m Q (okO v S)) : ∃ w, v = some w ∧ PostE Z W σ H m Q (.ok w S) := by
  cases v with
  | none => exact h.elim
  | some w => exact ⟨w, rfl, h⟩
theorem in_ok (hK : X.K = Z.K) : OpOk Z X W (compareOp .In) inV := by
  refine OpOk.of (op_in_sign.or op_in_seq) fun σ H m S p q x y Q sr rp rq hp => ?_
  obtain ⟨w, e, hp⟩ := okO_post hp
  cases hb : inB S p q with
  | none => rw [hb] at e; cases e
  | some k =>
    rw [hb] at e; cases e
    have q0 := hp H m _ Gr.refl sr to_bl
    rcases inB_ok (X := X) hK sr rp rq hb with ⟨c, z, h1, h2, h3⟩ | ⟨a, xs, h1, h2, h3, h4, h5⟩
    · exact .inl ⟨c, z, h1, h2, by rw [← h3]; exact q0⟩
    · exact .inr ⟨a, xs, h1, h2, h3, h4, by rw [← h5]; exact q0⟩
theorem nin_ok (hK : X.K = Z.K) : OpOk Z X W (compareOp .NotIn) ninV := by
  refine OpOk.of (op_notIn_sign.or op_notIn_seq) fun σ H m S p q x y Q sr rp rq hp => ?_
  obtain ⟨w, e, hp⟩ := okO_post hp
  cases hb : inB S p q with
  | none => rw [hb] at e; cases e
  | some k =>
    rw [hb] at e; cases e
    have q0 := hp H m _ Gr.refl sr to_bl
    rcases inB_ok (X := X) hK sr rp rq hb with ⟨c, z, h1, h2, h3⟩ | ⟨a, xs, h1, h2, h3, h4, h5⟩
    · exact .inl ⟨c, z, h1, h2, by rw [← h3]; exact q0⟩
    · exact .inr ⟨a, xs, h1, h2, h3, h4, by rw [← h5]; exact q0⟩
theorem non_iff {v : PV} (r : RV Z H m v x) : decide (x = V.non) = isNon v := by
  cases v <;> first
    | (unfold RV at r; subst r; rfl)
    | (unfold RV at r; obtain ⟨a, ys, rfl, _⟩ := r; rfl)
    | (unfold RV at r; obtain ⟨a, dx, ys, rfl, _⟩ := r; rfl)
    | (unfold RV at r; obtain ⟨a, _, rfl⟩ := r; rfl)
    | (unfold RV at r; obtain ⟨a, rfl, _⟩ := r; rfl)
    | (unfold RV at r; obtain ⟨rfl, _⟩ := r; rfl)
theorem isV_post {neg : Bool} {p q : PV} (sr : SRel Z H m S) (rp : RV Z H m p x) (rq : RV Z H m q y) (hp : PostE Z W σ H m Q (isV neg p q S)) : y = .non ∧ Q (.bl (if neg then !decide (x = .non) else decide (x = .non))) H := by
  unfold isV at hp
  split at hp
  · rename_i c
    cases q <;> first | (cases c; done) | skip
    unfold RV at rq
    rw [non_iff rp]
    exact ⟨rq, hp H m _ Gr.refl sr to_bl⟩
  · exact hp.elim
theorem cmp_ok (op : CmpOp) (hK : X.K = Z.K) (hu : X.A.units + 64 < cLine) : OpOk Z X W (compareOp op) (cmpV op) := by
  cases op with
  | Eq => exact eq_ok hK hu
  | NotEq => exact ne_ok hK hu
  | Lt => exact ord_ok op_lt
  | LtE => exact ord_ok op_le
  | Gt => exact ord_ok op_gt
  | GtE => exact ord_ok op_ge
  | In => exact in_ok hK
  | NotIn => exact nin_ok hK
  | Is => exact OpOk.of op_isN fun σ H m S p q x y Q sr rp rq hp => isV_post sr rp rq hp
  | IsNot => exact OpOk.of op_notN fun σ H m S p q x y Q sr rp rq hp => isV_post sr rp rq hp
theorem ok_cmp {a b : Expr} {op : CmpOp} {pos : Pos} {f g : Loc → Hs → RE} {o : PV → PV → Hs → RE} (ha : PE X a (tE Z W f)) (hb : PE X b (tE Z W g)) (ho : OpOk Z X W (compareOp op) o) (hm : behindInMarks op b = false) :
    PE X (.Compare a [op] [b] pos) (tE Z W (binE f g o)) := ⟨fun pins s σ H Q I h => PySem.wpAny_Compare1 (bin_run ha hb ho I h) hm⟩
/-! ### truth -/
def tru (S : Hs) (v : PV) : Option Bool := match v with
  | .non => some false
  | .bl b => some b
  | .int i => some (i != 0)
  | .str s => if fits s then some (!s.isEmpty) else none
  | v => (asQ S v).map fun xs => !xs.isEmpty
theorem rvs_empty : ∀ {xs : List PV} {ys : List V}, RVs Z H m xs ys → ys.isEmpty = xs.isEmpty
  | [], _, r => by unfold RVs at r; subst r; rfl
  | _ :: _, _, r => by unfold RVs at r; obtain ⟨y, t, rfl, _⟩ := r; rfl
theorem tru_post {v : PV} {k : Bool} (sr : SRel Z H m S) (r : RV Z H m v x) (h : tru S v = some k) : TruV Z.K x H k := by
  unfold tru at h
  split at h
  · cases h; unfold RV at r; subst r; rfl
  · cases h; unfold RV at r; subst r; rfl
  · cases h; unfold RV at r; subst r; rfl
  · split at h
    · rename_i s c
      cases h
      obtain ⟨rfl, _⟩ := rv_str r
      refine ⟨by rw [str_len]; exact fits_ok c, ?_⟩
      rw [str_len]
      cases s with
      | nil => rfl
      | cons a t =>
        have : ((((a :: t).length : Nat) : Int) != 0) = true := by simp; omega
        rw [this]; rfl
    · cases h
  · cases e : asQ S v with
    | none => rw [e] at h; cases h
    | some xs =>
      rw [e] at h; cases h
      obtain ⟨a, ys, rfl, hq, hr⟩ := asQ_ok sr r e
      show TruV Z.K (V.ref a) H (!xs.isEmpty)
      rw [← rvs_empty hr]
      rcases hq with hq | hq
      · exact .inl ⟨ys, hq, rfl⟩
      · exact .inr (.inl ⟨ys, hq, rfl⟩)
def okB (v : Option Bool) (S : Hs) : RB := match v with
  | some b => .ok b S
  | none => .bad
/-- an expression as a test by the truth of its value -/
def truB (f : Loc → Hs → RE) : Loc → Hs → RB := fun L S => (f L S).bindB fun v S1 => okB (tru S1 v) S1
theorem okB_post {v : Option Bool} {Q : Bool → Hp → Prop} (h : PostB Z W σ H m Q (okB v S)) : ∃ w, v = some w ∧ PostB Z W σ H m Q (.ok w S) := by
  cases v with
  | none => exact h.elim
  | some w => exact ⟨w, rfl, h⟩
theorem ok_truth {a : Expr} {f : Loc → Hs → RE} (hK : X.K = Z.K) (ha : PE X a (tE Z W f)) (he : ∀ whole, isTrue a X.env whole = (do let v ← whole; standAt a.pos; holding [v] (truthy v))) : PT X a (tB Z W (truB f)) := by
  refine PT.imp (pt_truth ha he) ?_
  rintro σ H Q ⟨m, L, S, sr, hl, hp⟩
  refine ⟨m, L, S, sr, hl, PostE.bindB hp fun v S1 H1 m1 x g1 s1 r1 hp1 => ?_⟩
  obtain ⟨k, e, hp1⟩ := okB_post hp1
  exact ⟨k, by rw [hK]; exact tru_post s1 r1 e, hp1 H1 m1 Gr.refl s1⟩
def notB (f : Loc → Hs → RB) : Loc → Hs → RB := fun L S => (f L S).bindB fun b S1 => .ok (!b) S1
theorem ok_notB {a : Expr} {pos : Pos} {f : Loc → Hs → RB} (ha : PT X a (tB Z W f)) : PT X (.UnaryOp .Not a pos) (tB Z W (notB f)) := by
  refine PT.imp (pt_not ha) ?_
  rintro σ H Q ⟨m, L, S, sr, hl, hp⟩
  exact ⟨m, L, S, sr, hl, PostB.bindB hp fun v S1 H1 m1 g1 s1 hp1 => hp1 H1 m1 Gr.refl s1⟩
def andB (f g : Loc → Hs → RB) : Loc → Hs → RB := fun L S => (f L S).bindB fun b S1 => if b then g L S1 else .ok false S1
def orB (f g : Loc → Hs → RB) : Loc → Hs → RB := fun L S => (f L S).bindB fun b S1 => if b then .ok true S1 else g L S1
theorem ok_andB {a b : Expr} {rest : List Expr} {pos : Pos} {f g : Loc → Hs → RB} (ha : PT X a (tB Z W f)) (hb : PW X (.BoolOp .And (b :: rest) pos) (tB Z W g)) : PW X (.BoolOp .And (a :: b :: rest) pos) (tB Z W (andB f g)) := by
  refine ⟨fun wh pins s σ H Q I ⟨m, L, S, sr, hl, hp⟩ => (pw_and ha hb).run wh pins s σ H Q I ⟨m, L, S, sr, hl, PostB.bindB hp fun v S1 H1 m1 g1 s1 hp1 => ?_⟩⟩
  cases v with
  | true => rw [if_pos rfl]; exact ⟨m1, L, S1, s1, hl.grow g1, hp1⟩
  | false => rw [if_neg Bool.false_ne_true]; exact hp1 H1 m1 Gr.refl s1
theorem ok_orB {a b : Expr} {rest : List Expr} {pos : Pos} {f g : Loc → Hs → RB} (ha : PT X a (tB Z W f)) (hb : PW X (.BoolOp .Or (b :: rest) pos) (tB Z W g)) : PW X (.BoolOp .Or (a :: b :: rest) pos) (tB Z W (orB f g)) := by
  refine ⟨fun wh pins s σ H Q I ⟨m, L, S, sr, hl, hp⟩ => (pw_or ha hb).run wh pins s σ H Q I ⟨m, L, S, sr, hl, PostB.bindB hp fun v S1 H1 m1 g1 s1 hp1 => ?_⟩⟩
  cases v with
  | true => rw [if_pos rfl]; exact hp1 H1 m1 Gr.refl s1
  | false => rw [if_neg Bool.false_ne_true]; exact ⟨m1, L, S1, s1, hl.grow g1, hp1⟩
/-- a comparison as a test -/
def asB : RE → RB
  | .ok (.bl b) S => .ok b S
  | .ex k v S => .ex k v S
  | _ => .bad
def cmpB (f : Loc → Hs → RE) : Loc → Hs → RB := fun L S => asB (f L S)
theorem asB_post {Q : Bool → Hp → Prop} {r : RE} (h : PostB Z W σ H m Q (asB r)) : PostE Z W σ H m (fun x H' => ∃ b, x = .bl b ∧ Q b H') r := by
  cases r with
  | ok v S =>
    cases v <;> first | exact h.elim | skip
    intro H' m' x g s r
    exact ⟨_, rv_bl r, h H' m' g s⟩
  | ex k v S => exact h
  | bad => exact h
theorem ok_cmpB {a b : Expr} {op : CmpOp} {pos : Pos} {f g : Loc → Hs → RE} {o : PV → PV → Hs → RE} (ha : PE X a (tE Z W f)) (hb : PE X b (tE Z W g)) (ho : OpOk Z X W (compareOp op) o) (hm : behindInMarks op b = false) :
    PT X (.Compare a [op] [b] pos) (tB Z W (cmpB (binE f g o))) := by
  refine ⟨fun pins s σ H Q I ⟨m, L, S, sr, hl, hp⟩ => PySem.wpAny_isTrue_Compare1 (thn (bin_run ha hb ho I ⟨m, L, S, sr, hl, asB_post hp⟩) fun v s1 h1 => thn h1 fun u s2 h2 => thn h2 fun c s3 ⟨x, H1, I1, r1, b, e, q⟩ => ?_) hm⟩
  subst e
  cases r1
  exact wpAny_truthy_bool ⟨H1, I1, q⟩
/-! ### conditional expressions; and, or, not by value -/
def iteE (c : Loc → Hs → RB) (f g : Loc → Hs → RE) : Loc → Hs → RE := fun L S => (c L S).bind fun b S1 => if b then f L S1 else g L S1
theorem ok_ite {c a b : Expr} {pos : Pos} {t : Loc → Hs → RB} {f g : Loc → Hs → RE} (hc : PT X c (tB Z W t)) (ha : PE X a (tE Z W f)) (hb : PE X b (tE Z W g)) : PE X (.IfExp c a b pos) (tE Z W (iteE t f g)) := by
  refine PE.imp (pe_ifExp hc ha hb) ?_
  rintro σ H Q ⟨m, L, S, sr, hl, hp⟩
  refine ⟨m, L, S, sr, hl, PostB.bind hp fun v S1 H1 m1 g1 s1 hp1 => ?_⟩
  cases v with
  | true => rw [if_pos rfl]; exact ⟨m1, L, S1, s1, hl.grow g1, hp1⟩
  | false => rw [if_neg Bool.false_ne_true]; exact ⟨m1, L, S1, s1, hl.grow g1, hp1⟩
def okT (v : Option Bool) (f : Bool → RE) : RE := match v with
  | some b => f b
  | none => .bad
theorem okT_post {v : Option Bool} {f : Bool → RE} (h : PostE Z W σ H m Q (okT v f)) : ∃ b, v = some b ∧ PostE Z W σ H m Q (f b) := by
  cases v with
  | none => exact h.elim
  | some w => exact ⟨w, rfl, h⟩
def andE (f g : Loc → Hs → RE) : Loc → Hs → RE := fun L S => (f L S).bind fun v S1 => okT (tru S1 v) fun b => if b then g L S1 else .ok v S1
def orE (f g : Loc → Hs → RE) : Loc → Hs → RE := fun L S => (f L S).bind fun v S1 => okT (tru S1 v) fun b => if b then .ok v S1 else g L S1
def notE (f : Loc → Hs → RE) : Loc → Hs → RE := fun L S => (f L S).bind fun v S1 => okT (tru S1 v) fun b => .ok (.bl (!b)) S1
theorem ok_andE {a b : Expr} {rest : List Expr} {pos : Pos} {f g : Loc → Hs → RE} (hK : X.K = Z.K) (ha : PE X a (tE Z W f)) (hb : PE X (.BoolOp .And (b :: rest) pos) (tE Z W g)) : PE X (.BoolOp .And (a :: b :: rest) pos) (tE Z W (andE f g)) := by
  refine PE.imp (pe_andT ha hb) ?_
  rintro σ H Q ⟨m, L, S, sr, hl, hp⟩
  refine ⟨m, L, S, sr, hl, PostE.bind hp fun v S1 H1 m1 x g1 s1 r1 hp1 => ?_⟩
  obtain ⟨k, e, hp1⟩ := okT_post hp1
  refine ⟨k, by rw [hK]; exact tru_post s1 r1 e, ?_⟩
  cases k with
  | true => rw [if_pos rfl]; exact ⟨m1, L, S1, s1, hl.grow g1, hp1⟩
  | false => rw [if_neg Bool.false_ne_true]; exact hp1 H1 m1 x Gr.refl s1 r1
theorem ok_orE {a b : Expr} {rest : List Expr} {pos : Pos} {f g : Loc → Hs → RE} (hK : X.K = Z.K) (ha : PE X a (tE Z W f)) (hb : PE X (.BoolOp .Or (b :: rest) pos) (tE Z W g)) : PE X (.BoolOp .Or (a :: b :: rest) pos) (tE Z W (orE f g)) := by
  refine PE.imp (pe_orT ha hb) ?_
  rintro σ H Q ⟨m, L, S, sr, hl, hp⟩
  refine ⟨m, L, S, sr, hl, PostE.bind hp fun v S1 H1 m1 x g1 s1 r1 hp1 => ?_⟩
  obtain ⟨k, e, hp1⟩ := okT_post hp1
  refine ⟨k, by rw [hK]; exact tru_post s1 r1 e, ?_⟩
  cases k with
  | true => rw [if_pos rfl]; exact hp1 H1 m1 x Gr.refl s1 r1
  | false => rw [if_neg Bool.false_ne_true]; exact ⟨m1, L, S1, s1, hl.grow g1, hp1⟩
theorem ok_notE {a : Expr} {pos : Pos} {f : Loc → Hs → RE} (hK : X.K = Z.K) (ha : PE X a (tE Z W f)) : PE X (.UnaryOp .Not a pos) (tE Z W (notE f)) := by
  refine PE.imp (pe_notT ha) ?_
  rintro σ H Q ⟨m, L, S, sr, hl, hp⟩
  refine ⟨m, L, S, sr, hl, PostE.bind hp fun v S1 H1 m1 x g1 s1 r1 hp1 => ?_⟩
  obtain ⟨k, e, hp1⟩ := okT_post hp1
  exact ⟨k, by rw [hK]; exact tru_post s1 r1 e, hp1 H1 m1 _ Gr.refl s1 to_bl⟩
def unaV (op : UnaryOp) (v : PV) (S : Hs) : RE := match op, v with
  | .USub, .int i => .ok (.int (-i)) S
  | .Invert, .int i => .ok (.int (Builtin.bitNot i)) S
  | _, _ => .bad
def unaE (op : UnaryOp) (f : Loc → Hs → RE) : Loc → Hs → RE := fun L S => (f L S).bind fun v S1 => unaV op v S1
theorem ok_una {a : Expr} {op : UnaryOp} {pos : Pos} {f : Loc → Hs → RE} (ho : op = .USub ∨ op = .Invert) (ha : PE X a (tE Z W f)) : PE X (.UnaryOp op a pos) (tE Z W (unaE op f)) := by
  cases op with
  | Not => exact absurd ho (by simp)
  | UAdd => exact absurd ho (by simp)
  | USub =>
    refine PE.imp (pe_un un_neg ha) ?_
    rintro σ H Q ⟨m, L, S, sr, hl, hp⟩
    refine ⟨m, L, S, sr, hl, PostE.bind hp fun v S1 H1 m1 x g1 s1 r1 hp1 => ?_⟩
    unfold unaV at hp1
    split at hp1
    · cases rv_int r1; exact ⟨_, rfl, hp1 H1 m1 _ Gr.refl s1 to_int⟩
    · cases rv_int r1; rename_i e; cases e
    · exact hp1.elim
  | Invert =>
    refine PE.imp (pe_un un_inv ha) ?_
    rintro σ H Q ⟨m, L, S, sr, hl, hp⟩
    refine ⟨m, L, S, sr, hl, PostE.bind hp fun v S1 H1 m1 x g1 s1 r1 hp1 => ?_⟩
    unfold unaV at hp1
    split at hp1
    · rename_i e; cases e
    · cases rv_int r1; exact ⟨_, rfl, hp1 H1 m1 _ Gr.refl s1 to_int⟩
    · exact hp1.elim
end
end MP
set_option maxRecDepth 100000
namespace MP
open PySem L2
/-! ### targets -/
abbrev TgF := PV → Loc → Hs → RS
section
variable (Z : Sta)
/-- the slots are the same but for some -/
def Out (T : List Nat) (σ σ' : L2.St) : Prop := σ'.length = σ.length ∧ ∀ i, i ∉ T → σ'[i]? = σ[i]?
def PostG (T : List Nat) (σ : L2.St) (H : Hp) (m : Mp) (Q : L2.St → Hp → Prop) : RS → Prop
  | .nx L S => ∀ H' m' σ', Gr Z H m H' m' → SRel Z H' m' S → LRel Z H' m' L σ' → Out T σ σ' → Q σ' H'
  | _ => False
def tG (T : List Nat) (f : TgF) : TG := fun x σ H Q => ∃ m L S v, SRel Z H m S ∧ LRel Z H m L σ ∧ RV Z H m v x ∧ PostG Z T σ H m Q (f v L S)
def tGs (T : List Nat) (f : List PV → Loc → Hs → RS) : TGs := fun xs σ H Q => ∃ m L S vs, SRel Z H m S ∧ LRel Z H m L σ ∧ RVs Z H m vs xs ∧ PostG Z T σ H m Q (f vs L S)
end
section
variable {Z : Sta} {W : WX} {σ : L2.St} {H H1 : Hp} {m m1 : Mp} {X : Cx} {S : Hs} {x y : V}
variable {T T' : List Nat}
theorem Out.refl {σ : L2.St} : Out T σ σ := ⟨rfl, fun _ _ => rfl⟩
theorem Out.trans {σ σ1 σ2 : L2.St} (a : Out T σ σ1) (b : Out T' σ1 σ2) : Out (T ++ T') σ σ2 :=
  ⟨b.1.trans a.1, fun i hi => (b.2 i fun h => hi (List.mem_append_right _ h)).trans (a.2 i fun h => hi (List.mem_append_left _ h))⟩
theorem PostG.grow {Q : L2.St → Hp → Prop} {r : RS} (g : Gr Z H m H1 m1) (h : PostG Z T σ H m Q r) : PostG Z T σ H1 m1 Q r := by
  cases r with
  | nx L S => exact fun H' m' σ g' => h H' m' σ (g.trans g')
  | _ => exact h
theorem PG.imp {e : Expr} {t t' : TG} (h : PG X e t) (i : ∀ x σ H Q, t' x σ H Q → t x σ H Q) : PG X e t' := ⟨fun pins s σ H v u Q I r q => h.run pins s σ H v u Q I r (i v σ H Q q)⟩
theorem PGs.imp {e : List Expr} {t t' : TGs} (h : PGs X e t) (i : ∀ x σ H Q, t' x σ H Q → t x σ H Q) : PGs X e t' := ⟨fun pins s σ H v u Q I r q => h.run pins s σ H v u Q I r (i v σ H Q q)⟩
theorem LRel.set {L : Loc} {i : Nat} {v : PV} (hl : LRel Z H m L σ) (r : RV Z H m v x) : LRel Z H m (L.set i (some v)) (σ.set i (some x)) := by
  refine ⟨by rw [List.length_set, List.length_set]; exact hl.1, fun j w e => ?_⟩
  by_cases h : i = j
  · subst h
    by_cases hi : i < L.length
    · rw [List.getElem?_set_self hi] at e
      cases e
      exact ⟨x, by rw [List.getElem?_set_self (by rw [hl.1]; exact hi)], r⟩
    · rw [List.getElem?_eq_none (by simpa using hi)] at e
      cases e
  · rw [List.getElem?_set_ne h] at e
    obtain ⟨z, ez, rz⟩ := hl.2 j w e
    exact ⟨z, by rw [List.getElem?_set_ne h]; exact ez, rz⟩
def nameT (i : Nat) : TgF := fun v L S => .nx (L.set i (some v)) S
theorem ok_nameT {i : Nat} {x : Str} {pos : Pos} (hN : X.N.Nodup) (hi : X.N[i]? = some x) (hx : L2.Loc X.env.scope x) (hf : X.fn x = true ∨ X.env.scope.names.lookup x = some .local) : PG X (.Name x pos) (tG Z [i] (nameT i)) := by
  refine PG.imp (pg_name hN hi hx hf) ?_
  rintro x σ H Q ⟨m, L, S, v, sr, hl, r, hp⟩
  exact hp H m _ Gr.refl sr (hl.set r) ⟨by rw [List.length_set], fun j hj => List.getElem?_set_ne (fun e => hj (by rw [e]; exact List.mem_singleton.mpr rfl))⟩
def nilT : List PV → Loc → Hs → RS := fun vs L S => match vs with
  | [] => .nx L S
  | _ => .bad
def consT (f : TgF) (g : List PV → Loc → Hs → RS) : List PV → Loc → Hs → RS := fun vs L S => match vs with
  | v :: r => match f v L S with
    | .nx L1 S1 => g r L1 S1
    | _ => .bad
  | [] => .bad
theorem ok_nilT : PGs X [] (tGs Z [] nilT) := by
  refine PGs.imp pgs_nil ?_
  rintro xs σ H Q ⟨m, L, S, vs, sr, hl, r, hp⟩
  cases vs with
  | nil =>
    unfold RVs at r
    exact ⟨r, hp H m σ Gr.refl sr hl Out.refl⟩
  | cons _ _ => exact hp.elim
theorem ok_consT {e : Expr} {es : List Expr} {f : TgF} {g : List PV → Loc → Hs → RS} (h1 : PG X e (tG Z T f)) (h2 : PGs X es (tGs Z T' g))
    (hs : (assignEach (e :: es) X.env).map (·.2) = assign e X.env :: (assignEach es X.env).map (·.2)) : PGs X (e :: es) (tGs Z (T ++ T') (consT f g)) := by
  refine PGs.imp (pgs_cons h1 h2 hs) ?_
  rintro xs σ H Q ⟨m, L, S, vs, sr, hl, r, hp⟩
  cases vs with
  | nil => exact hp.elim
  | cons v t =>
    unfold RVs at r
    obtain ⟨y, ys, rfl, r1, r2⟩ := r
    refine ⟨y, ys, rfl, m, L, S, v, sr, hl, r1, ?_⟩
    unfold consT at hp
    cases e : f v L S with
    | nx L1 S1 =>
      simp only [e] at hp
      refine fun H' m' σ' g' s' l' o => ⟨m', L1, S1, t, s', l', RVs.grow g' r2, ?_⟩
      have hp' := PostG.grow g' hp
      revert hp'
      cases g t L1 S1 with
      | nx L2 S2 => exact fun hp' H2 m2 σ2 g2 s2 l2 o2 => hp' H2 m2 σ2 g2 s2 l2 (o.trans o2)
      | _ => exact fun hp' => hp'
    | _ => simp only [e] at hp; exact hp.elim
def tupT (g : List PV → Loc → Hs → RS) (n : Nat) : TgF := fun v L S => match asQ S v with
  | some xs => if xs.length = n then g xs L S else .bad
  | none => .bad
theorem PG.or {e : Expr} {t t' : TG} (h : PG X e t) (h' : PG X e t') : PG X e (fun x σ H Q => t x σ H Q ∨ t' x σ H Q) :=
  ⟨fun pins s σ H v u Q I r q => q.elim (h.run pins s σ H v u Q I r) (h'.run pins s σ H v u Q I r)⟩
theorem ok_tupT {es : List Expr} {k : Nat} {pos : Pos} {g : List PV → Loc → Hs → RS} {n : Nat} (hK : X.K = Z.K) (hc : X.calm = true) (h : PGs X es (tGs Z T g)) (hn : (assignEach es X.env).length = n) (hst : (assignEach es X.env).findIdx? (·.1) = none) :
    PG X (.Tuple es k pos) (tG Z T (tupT g n)) := by
  refine PG.imp (PG.or (pg_tup hc h hn hst) (pg_unl hc h hn hst)) ?_
  rintro x σ H Q ⟨m, L, S, v, sr, hl, r, hp⟩
  unfold tupT at hp
  cases e : asQ S v with
  | none => simp only [e] at hp; exact hp.elim
  | some xs =>
    simp only [e] at hp
    split at hp
    · rename_i hlen
      obtain ⟨a, ys, rfl, hq, hr⟩ := asQ_ok sr r e
      have hl2 : ys.length = n := by rw [← hr.len]; exact hlen
      rcases hq with hq | hq
      · exact .inr ⟨a, ys, rfl, by rw [hK]; exact hq, hl2, m, L, S, xs, sr, hl, hr, hp⟩
      · exact .inl ⟨a, ys, rfl, by rw [hK]; exact hq, hl2, m, L, S, xs, sr, hl, hr, hp⟩
    · exact hp.elim
/-! ### what is walked -/
inductive Desc where
  | seq (v : PV) | rng (lo : Int) (n : Nat) | txt (s : List Nat)
  | zip (a b : PV) | enm (v : PV) | dk (v : PV) | dv (v : PV) | di (v : PV)
inductive RI where
  | ok (d : Desc) (S : Hs) | ex (k : Nat) (v : PV) (S : Hs) | bad
/-- the i-th: none: it stops there; nothing at all: it isn't to be walked -/
def fetch (S : Hs) (i : Nat) : Desc → Option (Option PV)
  | .seq v => match asQ S v with
    | some xs => some xs[i]?
    | none => none
  | .rng lo n => if i < n then some (some (.int (lo + (i : Int)))) else some none
  | .txt s => match s[i]? with
    | some c => some (some (.str [c]))
    | none => some none
  | .zip a b => match asQ S a with
    | some xs => (match asQ S b with
      | some ys => (match xs[i]?, ys[i]? with
        | some x, some y => some (some (.tup [x, y]))
        | _, _ => some none)
      | none => none)
    | none => none
  | .enm v => match asQ S v with
    | some xs => (match xs[i]? with
      | some x => some (some (.tup [.int i, x]))
      | none => some none)
    | none => none
  | .dk v => match dctOf S v with
    | some (ks, _) => some ks[i]?
    | none => none
  | .dv v => match dctOf S v with
    | some (_, vs) => some vs[i]?
    | none => none
  | .di v => match dctOf S v with
    | some (ks, vs) => (match ks[i]?, vs[i]? with
      | some k, some x => some (some (.tup [k, x]))
      | _, _ => some none)
    | none => none
def DRel (Z : Sta) (d : Desc) (J : It) (H : Hp) (m : Mp) : Prop :=
  ∀ (H1 : Hp) (m1 : Mp) (S1 : Hs) (i : Nat), Gr0 Z H m H1 m1 → SRel Z H1 m1 S1 →
    (∀ v, fetch S1 i d = some (some v) → J.go i H1 ∧ ∀ x H2, J.yld i H1 x H2 → ∃ m2, Gr Z H1 m1 H2 m2 ∧ SRel Z H2 m2 S1 ∧ RV Z H2 m2 v x) ∧ (fetch S1 i d = some none → J.stop i H1)
def PostI (Z : Sta) (W : WX) (σ : L2.St) (H : Hp) (m : Mp) (R : It → Hp → Prop) : RI → Prop
  | .ok d S => ∀ H' m' J, Gr Z H m H' m' → SRel Z H' m' S → DRel Z d J H' m' → R J H'
  | .ex k v S => PostX Z W σ H m k v S
  | .bad => False
def tI (Z : Sta) (W : WX) (f : Loc → Hs → RI) : TI := fun σ H R => ∃ m L S, SRel Z H m S ∧ LRel Z H m L σ ∧ PostI Z W σ H m R (f L S)
theorem PI.imp {tg e : Expr} {t t' : TI} (h : PI X tg e t) (i : ∀ σ H Q, t' σ H Q → t σ H Q) : PI X tg e t' := ⟨fun pins s σ H Q I q => h.run pins s σ H Q I (i σ H Q q)⟩
theorem PI.or {tg e : Expr} {t t' : TI} (h : PI X tg e t) (h' : PI X tg e t') : PI X tg e (fun σ H Q => t σ H Q ∨ t' σ H Q) :=
  ⟨fun pins s σ H Q I q => q.elim (h.run pins s σ H Q I) (h'.run pins s σ H Q I)⟩
def iterOf (v : PV) (S : Hs) : RI := match v with
  | .str s => .ok (.txt s) S
  | v => match asQ S v with
    | some _ => .ok (.seq v) S
    | none => .bad
def valI (f : Loc → Hs → RE) : Loc → Hs → RI := fun L S => match f L S with
  | .ok v S1 => iterOf v S1
  | .ex k v S1 => .ex k v S1
  | .bad => .bad
theorem fetch_seq {S : Hs} {v : PV} {i : Nat} {r : Option PV} (h : fetch S i (.seq v) = some r) : ∃ xs, asQ S v = some xs ∧ xs[i]? = r := by
  have h' : (match asQ S v with
    | some xs => some xs[i]?
    | none => none) = some r := h
  cases e : asQ S v with
  | none => rw [e] at h'; cases h'
  | some xs => rw [e] at h'; cases h'; exact ⟨xs, rfl, rfl⟩
theorem drel_list {v : PV} {a : Addr} (r : RV Z H m v (.ref a)) (ht : isTup v = false) : DRel Z (.seq v) (Itl Z.K a) H m := by
  intro H1 m1 S1 i g sr
  have key : ∀ {xs}, asQ S1 v = some xs → ∃ ys, SqL Z.K H1 a ys ∧ RVs Z H1 m1 xs ys := fun {xs} e => by
    unfold asQ at e
    split at e
    · cases ht
    · cases e
      have r' := RV.grow0 g r
      unfold RV at r'
      obtain ⟨b, e, h1⟩ := r'
      cases e
      exact ⟨_, h1.sq, RVs.ints⟩
    · obtain ⟨b, ys, e1, h1, h2⟩ := asL_ok sr (RV.grow0 g r) e
      cases e1
      exact ⟨ys, SqL.of h1, h2⟩
  refine ⟨fun w hf => ?_, fun hf => ?_⟩
  · obtain ⟨xs, e, ei⟩ := fetch_seq hf
    obtain ⟨ys, hq, hr⟩ := key e
    obtain ⟨y, ey, ry⟩ := hr.get ei
    refine ⟨⟨ys, y, hq, ey⟩, fun x H2 hy => ?_⟩
    obtain ⟨rfl, hy⟩ := hy
    have := hy ys hq
    rw [ey] at this
    cases this
    exact ⟨m1, Gr.refl, sr, ry⟩
  · obtain ⟨xs, e, ei⟩ := fetch_seq hf
    obtain ⟨ys, hq, hr⟩ := key e
    exact ⟨ys, hq, by rw [← hr.len]; exact List.getElem?_eq_none_iff.mp ei⟩
theorem drel_tup {xs : List PV} {a : Addr} {ys : List V} (hq : SqT Z.K H a ys) (hr : RVs Z H m xs ys) : DRel Z (.seq (.tup xs)) (Itt Z.K a) H m := by
  intro H1 m1 S1 i g sr
  have hq1 := g.tup _ _ hq
  have hr1 := RVs.grow0 g hr
  refine ⟨fun w hf => ?_, fun hf => ?_⟩
  · obtain ⟨zs, e, ei⟩ := fetch_seq hf
    cases e
    obtain ⟨y, ey, ry⟩ := hr1.get ei
    refine ⟨⟨ys, y, hq1, ey⟩, fun x H2 hy => ?_⟩
    obtain ⟨rfl, hy⟩ := hy
    have := hy ys hq1
    rw [ey] at this
    cases this
    exact ⟨m1, Gr.refl, sr, ry⟩
  · obtain ⟨zs, e, ei⟩ := fetch_seq hf
    cases e
    exact ⟨ys, hq1, by rw [← hr1.len]; exact List.getElem?_eq_none_iff.mp ei⟩
theorem drel_rng {lo : Int} {n : Nat} : DRel Z (.rng lo n) (Itr lo n) H m := by
  intro H1 m1 S1 i g sr
  refine ⟨fun w hf => ?_, fun hf => ?_⟩
  · have h' : (if i < n then some (some (PV.int (lo + (i : Int)))) else some none) = some (some w) := hf
    split at h'
    · rename_i hi
      cases h'
      refine ⟨hi, fun x H2 hy => ?_⟩
      obtain ⟨rfl, rfl⟩ := hy
      exact ⟨m1, Gr.refl, sr, to_int⟩
    · cases h'
  · have h' : (if i < n then some (some (PV.int (lo + (i : Int)))) else some none) = some none := hf
    split at h'
    · cases h'
    · rename_i hi
      exact Nat.le_of_not_lt hi
theorem sOk_one {s : List Nat} {i c : Nat} (h : sOk s = true) (e : s[i]? = some c) : sOk [c] = true := by
  unfold sOk at *
  have := List.all_eq_true.mp h c (List.mem_of_getElem? e)
  simpa using this
theorem drel_txt {s : List Nat} (ho : sOk s = true) : DRel Z (.txt s) (Its ⟨s.toArray⟩) H m := by
  intro H1 m1 S1 i g sr
  refine ⟨fun w hf => ?_, fun hf => ?_⟩
  · have h' : (match s[i]? with
      | some c => some (some (PV.str [c]))
      | none => some none) = some (some w) := hf
    cases e : s[i]? with
    | none => rw [e] at h'; cases h'
    | some c =>
      rw [e] at h'; cases h'
      refine ⟨by have := (List.getElem?_eq_some_iff.mp e).1; show i < (⟨s.toArray⟩ : Str).cps.size; simpa using this, fun x H2 hy => ?_⟩
      obtain ⟨rfl, c', hc, rfl⟩ := hy
      have : c' = c := by
        have hc' : s[i]? = some c' := by simpa using hc
        rw [e] at hc'
        exact (Option.some.inj hc').symm
      subst this
      exact ⟨m1, Gr.refl, sr, to_str (sOk_one ho e)⟩
  · have h' : (match s[i]? with
      | some c => some (some (PV.str [c]))
      | none => some none) = some none := hf
    cases e : s[i]? with
    | some c => rw [e] at h'; cases h'
    | none =>
      show (⟨s.toArray⟩ : Str).cps.size ≤ i
      have := List.getElem?_eq_none_iff.mp e
      simpa using this
theorem ok_valI {tg e : Expr} {g : Loc → Hs → RE} (hK : X.K = Z.K) (he : PE X e (tE Z W g)) : PI X tg e (tI Z W (valI g)) := by
  refine PI.imp (PI.or (pi_list he) (PI.or (pi_tup he) (pi_str he))) ?_
  rintro σ H R ⟨m, L, S, sr, hl, hp⟩
  unfold valI at hp
  cases er : g L S with
  | bad => rw [er] at hp; exact hp.elim
  | ex k v S1 => rw [er] at hp; exact .inl ⟨m, L, S, sr, hl, by rw [er]; exact hp⟩
  | ok v S1 =>
    rw [er] at hp
    have hp' : PostI Z W σ H m R (iterOf v S1) := hp
    unfold iterOf at hp'
    split at hp'
    · rename_i s
      refine .inr (.inr ⟨m, L, S, sr, hl, ?_⟩)
      rw [er]
      intro H1 m1 x g1 s1 r1
      obtain ⟨rfl, ho⟩ := rv_str r1
      exact ⟨_, rfl, hp' H1 m1 _ g1 s1 (drel_txt ho)⟩
    · cases ea : asQ S1 v with
      | none => rw [ea] at hp'; exact hp'.elim
      | some xs =>
        rw [ea] at hp'
        cases ht : isTup v with
        | true =>
          refine .inr (.inl ⟨m, L, S, sr, hl, ?_⟩)
          rw [er]
          intro H1 m1 x g1 s1 r1
          cases v <;> first | (cases ht; done) | skip
          obtain ⟨a, ys, rfl, hq, hr⟩ := rv_tup r1
          exact ⟨a, rfl, ⟨ys, by rw [hK]; exact hq⟩, by rw [hK]; exact hp' H1 m1 _ g1 s1 (drel_tup hq hr)⟩
        | false =>
          refine .inl ⟨m, L, S, sr, hl, ?_⟩
          rw [er]
          intro H1 m1 x g1 s1 r1
          have key : ∃ a ys, x = .ref a ∧ SqL Z.K H1 a ys := by
            unfold asQ at ea
            split at ea
            · cases ht
            · cases ea
              unfold RV at r1
              obtain ⟨a, e, h1⟩ := r1
              exact ⟨a, _, e, h1.sq⟩
            · obtain ⟨a, ys, e, h1, h2⟩ := asL_ok s1 r1 ea
              exact ⟨a, ys, e, SqL.of h1⟩
          obtain ⟨a, ys, rfl, hq⟩ := key
          exact ⟨a, rfl, ⟨ys, by rw [hK]; exact hq⟩, by rw [hK]; exact hp' H1 m1 _ g1 s1 (drel_list r1 ht)⟩
end
end MP
set_option maxRecDepth 100000
namespace MP
open PySem L2
/-! ### stores into the store -/
def setR {A : Type} (S : List A) (n : Nat) (a : A) : List A := (S.reverse.set n a).reverse
theorem setR_len {A : Type} {S : List A} {n : Nat} {a : A} : (setR S n a).length = S.length := by unfold setR; simp
theorem getR_setR {A : Type} {S : List A} {n : Nat} {a b : A} (h : getR S n = some b) : getR (setR S n a) n = some a := by
  unfold getR setR at *
  rw [List.reverse_reverse, List.getElem?_set_self (List.getElem?_eq_some_iff.mp h).1]
theorem paired_all {A B : Type} {F G : A → B → Prop} : ∀ {l : List A} {k : List B}, Paired F l k → (∀ (i : Nat) x y, k[i]? = some y → F x y → G x y) → Paired G l k
  | _, _, .nil, _ => .nil
  | _, _, .cons r t, f => .cons (f 0 _ _ (by simp) r) (paired_all t fun i x y hy q => f (i + 1) x y (by simpa using hy) q)
theorem paired_set {A B : Type} {F G : A → B → Prop} {a : A} {b : B} (hg : G a b) : ∀ {l : List A} {k : List B} (n : Nat), Paired F l k → (∀ (i : Nat) x y, i ≠ n → k[i]? = some y → F x y → G x y) → k[n]? = some b → Paired G (l.set n a) k
  | _, _, _, .nil, _, e => by simp at e
  | _, _, 0, .cons r t, f, e => by
    simp at e
    subst e
    exact .cons hg (paired_all t fun i x y hy q => f (i + 1) x y (Nat.succ_ne_zero _) (by simpa using hy) q)
  | _, _, n + 1, .cons r t, f, e => by
    refine .cons (f 0 _ _ (Nat.succ_ne_zero _).symm (by simp) r) (paired_set hg n t (fun i x y hi hy q => f (i + 1) x y (by omega) (by simpa using hy) q) (by simpa using e))
section
variable {Z : Sta} {W : WX} {σ : L2.St} {H H1 : Hp} {m m1 : Mp} {X : Cx} {S : Hs} {x y : V} {a : Addr}
theorem no_tup {o : HO} (h : H a = some o) (h1 : ∀ xs, o ≠ .tup xs) (h2 : ∀ ob u, o ≠ .frz ob u) : ∀ xs, ¬ Rd H a (.tup xs) := by
  rintro xs (q | ⟨ob, q⟩)
  · rw [h] at q; exact h1 xs (Option.some.inj q)
  · rw [h] at q; exact h2 ob _ (Option.some.inj q)
theorem no_tup_lst {ys : List V} (h : H a = some (.lst ys)) : ∀ xs, ¬ Rd H a (.tup xs) := no_tup h (fun _ e => nomatch e) fun _ _ e => nomatch e
theorem upd_tups {o : HO} (h : ∀ xs, ¬ Rd H a (.tup xs)) : ∀ b xs, SqT Z.K H b xs → SqT Z.K (L2.upd H a o) b xs := fun b xs q => by
  rcases q with q | q
  · have z : b ≠ a := fun z => h xs (by rw [← z]; exact q)
    refine .inl ?_
    rcases q with q | ⟨o', q⟩
    · exact .inl (by rw [upd_ne z]; exact q)
    · exact .inr ⟨o', by rw [upd_ne z]; exact q⟩
  · exact .inr q
theorem upd_there {o : HO} : ∀ b o', H b = some o' → ∃ o'', L2.upd H a o b = some o'' := fun b o' e => by
  by_cases z : b = a
  · subst z; exact ⟨o, upd_same⟩
  · exact ⟨o', by rw [upd_ne z]; exact e⟩
theorem Gr.upd {o : HO} (ha : a ∈ m.l) (h : ∀ xs, ¬ Rd H a (.tup xs)) : Gr Z H m (L2.upd H a o) m :=
  have k : ∀ b o', b ∉ m.l → H b = some o' → L2.upd H a o b = some o' := fun b o' hb e => by rw [upd_ne (fun z => hb (by rw [z]; exact ha))]; exact e
  ⟨⟨⟨[], rfl, fun _ h => nomatch h⟩, fun _ h => .inl h, fun b o' hb _ e => k b o' hb e, upd_there, upd_tups h⟩, k, rfl⟩
theorem Gr0.updH {o : HO} (ha : a ∈ m.h) (h : ∀ xs, ¬ Rd H a (.tup xs)) : Gr0 Z H m (L2.upd H a o) m :=
  ⟨⟨[], rfl, fun _ h => nomatch h⟩, fun _ h => .inl h, fun b o' _ hb e => by rw [upd_ne (fun z => hb (by rw [z]; exact ha))]; exact e, upd_there, upd_tups h⟩
theorem getR_inj {l : List Addr} (nd : l.Nodup) {i j : Nat} (h1 : getR l i = some a) (h2 : getR l j = some a) : i = j := by
  unfold getR at h1 h2
  have nd' : l.reverse.Nodup := List.pairwise_reverse.mpr (nd.imp fun h => h.symm)
  obtain ⟨l1, e1⟩ := List.getElem?_eq_some_iff.mp h1
  obtain ⟨l2, e2⟩ := List.getElem?_eq_some_iff.mp h2
  exact (List.getElem_inj nd').mp (e1.trans e2.symm)
/-- a cell is changed, and the thing that it stands for -/
theorem SRel.set {n : Nat} {c : Cell} {o : HO} (s : SRel Z H m S) (hm : getR m.l n = some a) (ht : ∀ xs, ¬ Rd H a (.tup xs)) (r : CRel Z (upd H a o) m c a) : SRel Z (upd H a o) m (setR S n c) := by
  have g := Gr.upd (Z := Z) (o := o) (getR_mem hm) ht
  refine ⟨?_, s.nd, fun b hb => g.g0.there b _ (s.hid b hb).choose_spec⟩
  have key := paired_set (F := CRel Z H m) (G := CRel Z (upd H a o) m) r n (paired_rev s.cells) (fun i c' b hi hb q => ?_) hm
  · have := paired_rev key
    rw [List.reverse_reverse] at this
    exact this
  · have hne : b ≠ a := fun z => hi (getR_inj s.nd (show getR m.l i = some a by unfold getR; rw [← z]; exact hb) hm)
    exact q.grow g fun o' e => by rw [upd_ne hne]; exact e
/-- what is being made is changed -/
theorem SRel.updH {o : HO} (s : SRel Z H m S) (ha : a ∈ m.h) (hl : a ∉ m.l) (h : ∀ xs, ¬ Rd H a (.tup xs)) : SRel Z (upd H a o) m S :=
  ⟨paired_map s.cells fun c b hb q => q.grow0 (Gr0.updH ha h) fun o' e => by rw [upd_ne (fun z => hl (by rw [← z]; exact hb))]; exact e, s.nd, fun b hb => (Gr0.updH (Z := Z) (o := o) ha h).there b _ (s.hid b hb).choose_spec⟩
/-! ### comprehensions -/
def wipeL (L : Loc) : List Nat → Loc
  | [] => L
  | v :: vs => (wipeL L vs).set v none
theorem LRel.wipe {L : Loc} (hl : LRel Z H m L σ) : ∀ vs : List Nat, LRel Z H m (wipeL L vs) (L2.wipe σ vs)
  | [] => hl
  | v :: vs => by
    have h := LRel.wipe hl vs
    refine ⟨by unfold wipeL L2.wipe; rw [List.length_set, List.length_set]; exact h.1, fun j w e => ?_⟩
    unfold wipeL at e
    by_cases hj : v = j
    · subst hj
      by_cases hi : v < (wipeL L vs).length
      · rw [List.getElem?_set_self hi] at e; cases e
      · rw [List.getElem?_eq_none (by simpa using hi)] at e; cases e
    · rw [List.getElem?_set_ne hj] at e
      obtain ⟨z, ez, rz⟩ := h.2 j w e
      exact ⟨z, by unfold L2.wipe; rw [List.getElem?_set_ne hj]; exact ez, rz⟩
theorem wipe_get {σ : L2.St} {i : Nat} : ∀ {vs : List Nat}, (L2.wipe σ vs)[i]? = if i ∈ vs then (if i < σ.length then some none else none) else σ[i]?
  | [] => by simp [L2.wipe]
  | v :: vs => by
    unfold L2.wipe
    by_cases h : v = i
    · subst h
      rw [if_pos List.mem_cons_self]
      by_cases hi : v < σ.length
      · rw [List.getElem?_set_self (by rw [wipe_length]; exact hi), if_pos hi]
      · rw [List.getElem?_eq_none (by rw [List.length_set, wipe_length]; omega), if_neg hi]
    · rw [List.getElem?_set_ne h, wipe_get]
      by_cases h2 : i ∈ vs
      · rw [if_pos h2, if_pos (List.mem_cons_of_mem _ h2)]
      · rw [if_neg h2, if_neg (by rw [List.mem_cons]; rintro (e | e); exact h e.symm; exact h2 e)]
theorem wipe_out {σ σ2 : L2.St} {T vs : List Nat} (o : Out T (L2.wipe σ vs) σ2) (hT : ∀ i ∈ T, i ∈ vs) : L2.wipe σ2 vs = L2.wipe σ vs := by
  apply List.ext_getElem?
  intro i
  have hlen : σ2.length = σ.length := by rw [o.1, wipe_length]
  rw [wipe_get, wipe_get]
  by_cases h : i ∈ vs
  · rw [if_pos h, if_pos h, hlen]
  · rw [if_neg h, if_neg h, o.2 i (fun hi => h (hT i hi)), wipe_get, if_neg h]
/-- the items made so far, the last one ahead -/
def lcLoop (d : Desc) (L0 : Loc) (tgt : TgF) (cond : Loc → Hs → RB) (elt : Loc → Hs → RE) : Nat → Nat → List PV → Hs → Option (List PV × Hs)
  | 0, _, _, _ => none
  | fuel + 1, i, acc, S => match fetch S i d with
    | none => none
    | some none => some (acc, S)
    | some (some v) => match tgt v L0 S with
      | .nx L2 S2 => match cond L2 S2 with
        | .ok true S3 => match elt L2 S3 with
          | .ok y S4 => if i < 16777216 then lcLoop d L0 tgt cond elt fuel (i + 1) (y :: acc) S4 else none
          | _ => none
        | .ok false S3 => lcLoop d L0 tgt cond elt fuel (i + 1) acc S3
        | _ => none
      | _ => none
/-- turns of a loop at most -/
def turns : Nat := 1000000000
def lcEnd (fz : Bool) : Option (List PV × Hs) → RE
  | some (acc, S) => if fz then .ok (.lst acc.reverse) S else .ok (.loc S.length) (.lst acc.reverse :: S)
  | none => .bad
def lcE (fz : Bool) (own : List Nat) (src : Loc → Hs → RI) (tgt : TgF) (cond : Loc → Hs → RB) (elt : Loc → Hs → RE) : Loc → Hs → RE := fun L S => match src L S with
  | .ok d S1 => lcEnd fz (lcLoop d (wipeL L own) tgt cond elt turns 0 [] S1)
  | .ex k v S1 => .ex k v S1
  | .bad => .bad
/-- nothing is raised in a comprehension's block -/
def W0 : WX := fun _ _ _ _ => False
theorem PostI.bind {R : It → Hp → Prop} {r : RI} {f : Desc → Hs → RE} {Q : VK} (h : PostE Z W σ H m Q (match r with
    | .ok d S => f d S
    | .ex k v S => .ex k v S
    | .bad => .bad)) (c : ∀ d S H' m' J, Gr Z H m H' m' → SRel Z H' m' S → DRel Z d J H' m' → PostE Z W σ H' m' Q (f d S) → R J H') : PostI Z W σ H m R r := by
  cases r with
  | ok d S => exact fun H' m' J g s dr => c d S H' m' J g s dr (PostE.grow g h)
  | ex k v S => exact h
  | bad => exact h
/-- what a turn of a comprehension keeps: D is the new list -/
structure LcI (Z : Sta) (H1 : Hp) (m1 : Mp) (D : Addr) (H : Hp) (m : Mp) (S : Hs) (i : Nat) (acc : List PV) : Prop where
  g0 : Gr0 Z H1 m1 H m
  ks : ∀ b o, b ∉ m1.l → H1 b = some o → H b = some o
  eh : m.h = D :: m1.h
  dl : D ∉ m.l
  sr : SRel Z H m S
  here : ∃ ys, H D = some (.lst ys) ∧ RVs Z H m acc.reverse ys
  le : acc.length ≤ i
theorem LcI.grow {D : Addr} {H1 : Hp} {m1 : Mp} {i : Nat} {acc : List PV} {H' : Hp} {m' : Mp} {S' : Hs} (c : LcI Z H1 m1 D H m S i acc) (g : Gr Z H m H' m') (s' : SRel Z H' m' S') : LcI Z H1 m1 D H' m' S' i acc := by
  obtain ⟨ys, hD, hr⟩ := c.here
  refine ⟨c.g0.trans g.g0, fun b o hb e => g.keep b o (c.g0.memL hb e) (c.ks b o hb e), g.eqh.trans c.eh, g.g0.memL c.dl hD, s', ⟨ys, g.keep D _ c.dl hD, RVs.grow g hr⟩, c.le⟩
theorem LcI.more {D : Addr} {H1 : Hp} {m1 : Mp} {i : Nat} {acc : List PV} {v : PV} (c : LcI Z H1 m1 D H m S i acc) (hD1 : H1 D = none) (r : RV Z H m v x) :
    ∃ ys, H D = some (.lst ys) ∧ ys.length = acc.length ∧ LcI Z H1 m1 D (upd H D (.lst (ys ++ [x]))) m S (i + 1) (v :: acc) := by
  obtain ⟨ys, hD, hr⟩ := c.here
  have hm : D ∈ m.h := by rw [c.eh]; exact List.mem_cons_self
  have g := Gr0.updH (Z := Z) (o := .lst (ys ++ [x])) hm (no_tup_lst hD)
  refine ⟨ys, hD, by rw [← hr.len, List.length_reverse], c.g0.trans g, fun b o hb e => ?_, c.eh, c.dl, c.sr.updH hm c.dl (no_tup_lst hD), ⟨_, upd_same, ?_⟩, by have := c.le; simp only [List.length_cons]; omega⟩
  · rw [upd_ne (ne_of_none e hD1)]
    exact c.ks b o hb e
  · rw [List.reverse_cons]
    exact RVs.append (RVs.grow0 g hr) (RVs.cons (RV.grow0 g r) RVs.nil)
theorem LcI.skip {D : Addr} {H1 : Hp} {m1 : Mp} {i : Nat} {acc : List PV} (c : LcI Z H1 m1 D H m S i acc) : LcI Z H1 m1 D H m S (i + 1) acc :=
  ⟨c.g0, c.ks, c.eh, c.dl, c.sr, c.here, Nat.le_succ_of_le c.le⟩
/-- the end of a comprehension -/
theorem LcI.done {D : Addr} {H1 : Hp} {m1 : Mp} {i : Nat} {acc : List PV} {fz : Bool} {Q : VK} (c : LcI Z H1 m1 D H m S i acc) (hD1 : H1 D = none) (hn : D ∉ m1.h) (hp : PostE Z W σ H1 m1 Q (lcEnd fz (some (acc, S)))) : Q (.ref D) H := by
  obtain ⟨ys, hD, hr⟩ := c.here
  -- D is no longer being made
  have gb : Gr0 Z H m H ⟨m.l, m1.h⟩ := ⟨⟨[], rfl, fun _ h => nomatch h⟩, fun a ha => .inl (by rw [c.eh]; exact List.mem_cons_of_mem _ ha), fun _ _ _ _ e => e, fun _ o e => ⟨o, e⟩, fun _ _ q => q⟩
  have sb : SRel Z H ⟨m.l, m1.h⟩ S := ⟨paired_map c.sr.cells fun c' b _ q => q.grow0 gb fun _ e => e, c.sr.nd, fun b hb => c.sr.hid b (by rw [c.eh]; exact List.mem_cons_of_mem _ hb)⟩
  have gr : Gr Z H1 m1 H ⟨m.l, m1.h⟩ := ⟨⟨c.g0.suf, fun _ h => .inl h, fun b o hb _ e => c.ks b o hb e, c.g0.there, c.g0.tup⟩, c.ks, rfl⟩
  cases fz with
  | true =>
    refine hp H ⟨m.l, m1.h⟩ (.ref D) gr sb ?_
    unfold RV
    exact ⟨D, ys, rfl, ⟨c.dl, hn⟩, hD, RVs.grow0 gb hr⟩
  | false =>
    have gp : GrV Z H m H ⟨D :: m.l, m1.h⟩ := ⟨⟨[D], rfl⟩, fun a o hn e => ⟨⟨fun h => (List.mem_cons.mp h).elim (fun z => hn.2 (by rw [c.eh, z]; exact List.mem_cons_self)) hn.1, fun h => hn.2 (by rw [c.eh]; exact List.mem_cons_of_mem _ h)⟩, e⟩, fun _ _ q => q⟩
    have sp : SRel Z H ⟨D :: m.l, m1.h⟩ (.lst acc.reverse :: S) := ⟨.cons ⟨ys, hD, RVs.growV gp hr⟩ (paired_map c.sr.cells fun c' b _ q => q.growV gp fun _ e => e), List.nodup_cons.mpr ⟨c.dl, c.sr.nd⟩, sb.hid⟩
    have gf : Gr Z H1 m1 H ⟨D :: m.l, m1.h⟩ := by
      refine ⟨⟨?_, fun _ h => .inl h, fun b o hb _ e => c.ks b o hb e, c.g0.there, c.g0.tup⟩, c.ks, rfl⟩
      obtain ⟨ms, em, hms⟩ := c.g0.suf
      refine ⟨D :: ms, by rw [em]; rfl, fun a ha => ?_⟩
      rcases List.mem_cons.mp ha with z | z
      · rw [z]; exact hD1
      · exact hms a z
    refine hp H ⟨D :: m.l, m1.h⟩ (.ref D) gf sp ?_
    unfold RV
    exact ⟨D, by rw [c.sr.len]; exact getR_top, rfl⟩
theorem lc_read {fz : Bool} {own T : List Nat} {tgt : TgF} {cond : Loc → Hs → RB} {elt : Loc → Hs → RE} {src : Loc → Hs → RI} {Q : VK} (hT : ∀ i ∈ T, i ∈ own)
    (h : tE Z W (lcE fz own src tgt cond elt) σ H Q) : tLc (tI Z W src) (tG Z T tgt) (tB Z W0 cond) (tE Z W0 elt) own σ H Q := by
  obtain ⟨m, L, S, sr, hl, hp⟩ := h
  refine ⟨m, L, S, sr, hl, PostI.bind hp fun d S1 H1 m1 J g1 s1 dr hp1 => ?_⟩
  intro D hD
  have hl1 : LRel Z H1 m1 (wipeL L own) (L2.wipe σ own) := (hl.grow g1).wipe own
  refine ⟨fun i k H' => ∃ m' S' acc, LcI Z H1 m1 D H' m' S' i acc ∧ PostE Z W σ H1 m1 Q (lcEnd fz (lcLoop d (wipeL L own) tgt cond elt k i acc S')), ⟨turns, ⟨m1.l, D :: m1.h⟩, S1, [], ?_, hp1⟩, ?_⟩
  · -- the start
    have g := Gr.new (Z := Z) (m := m1) (o := .lst []) hD
    have gv : GrV Z H1 m1 (upd H1 D (.lst [])) ⟨m1.l, D :: m1.h⟩ := ⟨⟨[], rfl⟩, fun a o hn e => ⟨⟨hn.1, fun h => (List.mem_cons.mp h).elim (fun z => by rw [z, hD] at e; cases e) hn.2⟩, g.keep a o hn.1 e⟩, g.g0.tup⟩
    refine ⟨⟨⟨[], rfl, fun _ h => nomatch h⟩, fun a h => (List.mem_cons.mp h).elim (fun z => .inr (by rw [z]; exact hD)) .inl, fun b o hb _ e => g.keep b o hb e, g.g0.there, g.g0.tup⟩, fun b o hb e => g.keep b o hb e, rfl, (s1.notin hD).1, ?_, ⟨[], upd_same, RVs.nil⟩, Nat.le_refl _⟩
    refine ⟨paired_map s1.cells fun c' b hb q => q.growV gv fun o e => by rw [upd_ne (ne_of_none e hD)]; exact e, s1.nd, fun b hb => ?_⟩
    rcases List.mem_cons.mp hb with z | z
    · rw [z]; exact ⟨_, upd_same⟩
    · obtain ⟨o, e⟩ := s1.hid b z
      exact ⟨o, by rw [upd_ne (ne_of_none e hD)]; exact e⟩
  · rintro i k H' ⟨m', S', acc, c, hk⟩
    cases k with
    | zero => exact hk.elim
    | succ k =>
      rw [lcLoop] at hk
      have dr' := dr H' m' S' i c.g0 c.sr
      cases ef : fetch S' i d with
      | none => rw [ef] at hk; exact hk.elim
      | some r =>
        cases r with
        | none =>
          rw [ef] at hk
          exact .inl ⟨dr'.2 ef, c.done hD (s1.notin hD).2 hk⟩
        | some v =>
          rw [ef] at hk
          obtain ⟨hgo, hy⟩ := dr'.1 v ef
          refine .inr ⟨hgo, fun H2 => ∃ m' S' acc, LcI Z H1 m1 D H2 m' S' (i + 1) acc ∧ PostE Z W σ H1 m1 Q (lcEnd fz (lcLoop d (wipeL L own) tgt cond elt k (i + 1) acc S')), fun H2 h2 => ⟨k, Nat.lt_succ_self _, h2⟩, fun x H2 hyx => ?_⟩
          obtain ⟨m2, g2, s2, r2⟩ := hy x H2 hyx
          have c2 := c.grow g2 s2
          have hl2 : LRel Z H2 m2 (wipeL L own) (L2.wipe σ own) := ⟨hl1.1, fun i v e => let ⟨x, ex, r⟩ := hl1.2 i v e; ⟨x, ex, r.grow0 c2.g0⟩⟩
          refine ⟨m2, wipeL L own, S', v, s2, hl2, r2, ?_⟩
          simp only at hk
          cases et : tgt v (wipeL L own) S' with
          | nx L3 S3 =>
            rw [et] at hk
            simp only at hk
            intro H3 m3 σ3 g3 s3 l3 o3
            refine ⟨wipe_out o3 hT, m3, L3, S3, s3, l3, ?_⟩
            have c3 := c2.grow g3 s3
            cases ec : cond L3 S3 with
            | ok b S4 =>
              rw [ec] at hk
              intro H4 m4 g4 s4
              have c4 := c3.grow g4 s4
              cases b with
              | true =>
                rw [if_pos rfl]
                simp only at hk
                refine ⟨m4, L3, S4, s4, l3.grow g4, ?_⟩
                cases ee : elt L3 S4 with
                | ok y S5 =>
                  rw [ee] at hk
                  simp only at hk
                  intro H5 m5 yv g5 s5 r5
                  have c5 := c4.grow g5 s5
                  split at hk
                  · rename_i hi
                    obtain ⟨ys, hD5, hlen, c6⟩ := c5.more hD r5
                    exact ⟨ys, hD5, by rw [hlen, sizeLine_eq]; exact Nat.lt_of_le_of_lt c5.le hi, m5, S5, y :: acc, c6, hk⟩
                  · exact hk.elim
                | ex k' v' S' => rw [ee] at hk; exact hk.elim
                | bad => rw [ee] at hk; exact hk.elim
              | false =>
                rw [if_neg Bool.false_ne_true]
                simp only at hk
                exact ⟨m4, S4, acc, c4.skip, hk⟩
            | ex k' v' S' => rw [ec] at hk; exact hk.elim
            | bad => rw [ec] at hk; exact hk.elim
          | rt _ _ => rw [et] at hk; exact hk.elim
          | bk _ _ => rw [et] at hk; exact hk.elim
          | ct _ _ => rw [et] at hk; exact hk.elim
          | ex _ _ _ _ => rw [et] at hk; exact hk.elim
          | bad => rw [et] at hk; exact hk.elim
end
end MP
set_option maxRecDepth 100000
namespace MP
open PySem L2
section
variable {Z : Sta} {W : WX} {σ : L2.St} {H H1 : Hp} {m m1 : Mp} {X : Cx} {S : Hs} {x y : V} {a : Addr} {T : List Nat}
/-! ### blocks -/
def nilS : Loc → Hs → RS := fun L S => .nx L S
def seqS (f g : Loc → Hs → RS) : Loc → Hs → RS := fun L S => (f L S).bind g
theorem ok_nilS : PSs X [] (tS Z W nilS) := PSs.imp pss_nil fun D σ H ⟨m, L, S, sr, hl, hp⟩ => hp H m σ Gr.refl sr hl
theorem PostS.bind {D : Ends} {r : RS} {g : Loc → Hs → RS} (h : PostS Z W D H m (r.bind g)) : PostS Z W { D with nx := tS Z W g D } H m r := by
  cases r with
  | nx L S => exact fun H' m' σ' gr s l => ⟨m', L, S, s, l, PostS.grow gr h⟩
  | rt v S => exact h
  | bk L S => exact h
  | ct L S => exact h
  | ex k v L S => exact h
  | bad => exact h
theorem ok_seqS {st : Stmt} {rest : List Stmt} {f g : Loc → Hs → RS} (h1 : PS X st (tS Z W f)) (h2 : PSs X rest (tS Z W g)) : PSs X (st :: rest) (tS Z W (seqS f g)) :=
  PSs.imp (pss_cons h1 h2) fun D σ H ⟨m, L, S, sr, hl, hp⟩ => ⟨m, L, S, sr, hl, PostS.bind hp⟩
/-! ### small statements -/
def expS (f : Loc → Hs → RE) : Loc → Hs → RS := fun L S => (f L S).bindS L fun _ S1 => .nx L S1
def retS (f : Loc → Hs → RE) : Loc → Hs → RS := fun L S => (f L S).bindS L fun v S1 => .rt v S1
def retN : Loc → Hs → RS := fun _ S => .rt .non S
def bkS : Loc → Hs → RS := fun L S => .bk L S
def ctS : Loc → Hs → RS := fun L S => .ct L S
theorem ok_expS {e : Expr} {pos : Pos} {f : Loc → Hs → RE} (he : PE X e (tE Z W f)) (hs : swapsWith e none pos.line X.env = pure false) : PS X (.Expr e pos) (tS Z W (expS f)) :=
  PS.imp (ps_expr he hs) fun D σ H ⟨m, L, S, sr, hl, hp⟩ => ⟨m, L, S, sr, hl, PostE.bindS hl hp fun v S1 H1 m1 x g1 s1 r1 hp1 => hp1 H1 m1 σ Gr.refl s1 (hl.grow g1)⟩
theorem ok_retS {e : Expr} {pos : Pos} {f : Loc → Hs → RE} (he : PE X e (tE Z W f)) : PS X (.Return (some e) pos) (tS Z W (retS f)) :=
  PS.imp (ps_ret he) fun D σ H ⟨m, L, S, sr, hl, hp⟩ => ⟨m, L, S, sr, hl, PostE.bindS hl hp fun v S1 H1 m1 x g1 s1 r1 hp1 => hp1 H1 m1 x Gr.refl s1 r1⟩
theorem ok_retN {pos : Pos} : PS X (.Return none pos) (tS Z W retN) := PS.imp ps_retN fun D σ H ⟨m, L, S, sr, hl, hp⟩ => hp H m .non Gr.refl sr to_non
theorem ok_pass {pos : Pos} : PS X (.Pass pos) (tS Z W nilS) := PS.imp ps_pass fun D σ H ⟨m, L, S, sr, hl, hp⟩ => hp H m σ Gr.refl sr hl
theorem ok_bk {pos : Pos} : PS X (.Break pos) (tS Z W bkS) := PS.imp ps_break fun D σ H ⟨m, L, S, sr, hl, hp⟩ => hp H m σ Gr.refl sr hl
theorem ok_ct {pos : Pos} : PS X (.Continue pos) (tS Z W ctS) := PS.imp ps_continue fun D σ H ⟨m, L, S, sr, hl, hp⟩ => hp H m σ Gr.refl sr hl
def ifS (c : Loc → Hs → RB) (f g : Loc → Hs → RS) : Loc → Hs → RS := fun L S => (c L S).bindS L fun b S1 => if b then f L S1 else g L S1
theorem ok_ifS {c : Expr} {p q : List Stmt} {pos : Pos} {t : Loc → Hs → RB} {f g : Loc → Hs → RS} (hc : PT X c (tB Z W t)) (h1 : PSs X p (tS Z W f)) (h2 : PSs X q (tS Z W g)) : PS X (.If c p q pos) (tS Z W (ifS t f g)) := by
  refine PS.imp (ps_if hc h1 h2) ?_
  rintro D σ H ⟨m, L, S, sr, hl, hp⟩
  refine ⟨m, L, S, sr, hl, PostB.bindS hl hp fun v S1 H1 m1 g1 s1 hp1 => ?_⟩
  cases v with
  | true => rw [if_pos rfl]; exact ⟨m1, L, S1, s1, hl.grow g1, hp1⟩
  | false => rw [if_neg Bool.false_ne_true]; exact ⟨m1, L, S1, s1, hl.grow g1, hp1⟩
/-! ### assignments -/
def onlyN : RS → RS
  | .nx L S => .nx L S
  | _ => .bad
def asgS (f : Loc → Hs → RE) (g : TgF) : Loc → Hs → RS := fun L S => (f L S).bindS L fun v S1 => onlyN (g v L S1)
theorem onlyN_post {D : Ends} {r : RS} (h : PostS Z W D H m (onlyN r)) : PostG Z T σ H m D.nx r := by
  cases r with
  | nx L S => exact fun H' m' σ' g s l _ => h H' m' σ' g s l
  | _ => exact h.elim
theorem asg_read {D : Ends} {f : Loc → Hs → RE} {g : TgF} (h : tS Z W (asgS f g) D σ H) : tAsg (tE Z W f) (tG Z T g) D σ H := by
  obtain ⟨m, L, S, sr, hl, hp⟩ := h
  exact ⟨m, L, S, sr, hl, PostE.bindS hl hp fun v S1 H1 m1 x g1 s1 r1 hp1 => ⟨m1, L, S1, v, s1, hl.grow g1, r1, onlyN_post hp1⟩⟩
theorem ok_asg {tg e : Expr} {pos : Pos} {f : Loc → Hs → RE} {g : TgF} (he : PE X e (tE Z W f)) (hg : PG X tg (tG Z T g)) (hs : swapsWithSole [tg] e pos.line X.env = pure false) (hw : swappedStores [tg] e X.env = pure none)
    (h1 : (assignEach [tg] X.env).map (·.2) = [assign tg X.env]) : PS X (.Assign [tg] e pos) (tS Z W (asgS f g)) :=
  PS.imp (ps_asg he hg hs hw h1) fun D σ H h => asg_read h
/-- a, b = x, y with plain names -/
def parS (i j : Nat) (f : Loc → Hs → RA) : Loc → Hs → RS := fun L S => match f L S with
  | .ok [v, w] S1 => .nx ((L.set i (some v)).set j (some w)) S1
  | .ex k v S1 => .ex k v L S1
  | _ => .bad
theorem ok_par {i j : Nat} {xn yn : Str} {p q : Expr} {px py pt : Pos} {kt k2 : Nat} {pt2 pos : Pos} {f : Loc → Hs → RA} (hc : X.calm = true) (hN : X.N.Nodup) (hi : X.N[i]? = some xn) (hj : X.N[j]? = some yn) (hij : i ≠ j)
    (hx : X.env.scope.names.lookup xn = some .local) (hy : X.env.scope.names.lookup yn = some .local) (ha : PA X [p, q] (tA Z W f))
    (hw : swappedStores [.Tuple [.Name xn px, .Name yn py] kt pt] (.Tuple [p, q] k2 pt2) X.env = pure (some [xn, yn]))
    (hs : swapsWithSole [.Tuple [.Name xn px, .Name yn py] kt pt] (.Tuple [p, q] k2 pt2) pos.line X.env = pure false) :
    PS X (.Assign [.Tuple [.Name xn px, .Name yn py] kt pt] (.Tuple [p, q] k2 pt2) pos) (tS Z W (parS i j f)) := by
  refine PS.imp (ps_par hc hN hi hj hij hx hy ha hw hs) ?_
  rintro D σ H ⟨m, L, S, sr, hl, hp⟩
  refine ⟨m, L, S, sr, hl, ?_⟩
  unfold parS at hp
  split at hp
  · rename_i v w S1 e
    rw [e]
    intro H1 m1 xs g1 s1 r1
    unfold RVs at r1
    obtain ⟨y, t, rfl, r, rt⟩ := r1
    unfold RVs at rt
    obtain ⟨y2, t2, rfl, r2, rt⟩ := rt
    unfold RVs at rt
    subst rt
    exact ⟨y, y2, rfl, hp H1 m1 _ g1 s1 (((hl.grow g1).set r).set r2)⟩
  · rename_i k v S1 e
    rw [e]
    exact fun H' m' d g s ex => hp H' m' d σ g s (hl.grow g) ex
  · exact hp.elim
/-! ### name op= e -/
def OpOkI (Z : Sta) (X : Cx) (W : WX) (op : Operator) (g : PV → PV → Hs → RE) : Prop := OpOk Z X W (inplaceOp op) g
def augS (i : Nat) (f : Loc → Hs → RE) (o : PV → PV → Hs → RE) : Loc → Hs → RS := fun L S => match L[i]? with
  | some (some v) => (f L S).bindS L fun w S1 => (o v w S1).bindS L fun z S2 => .nx (L.set i (some z)) S2
  | _ => .bad
theorem ok_aug {i : Nat} {xn : Str} {e : Expr} {op : Operator} {pos pos' : Pos} {f : Loc → Hs → RE} {o : PV → PV → Hs → RE} (hN : X.N.Nodup) (hi : X.N[i]? = some xn) (hx : L2.Loc X.env.scope xn) (he : PE X e (tE Z W f)) (ho : OpOk Z X W (inplaceOp op) o)
    (hf : X.fn xn = true ∨ X.env.scope.names.lookup xn = some .local) : PS X (.AugAssign (.Name xn pos') op e pos) (tS Z W (augS i f o)) := by
  refine ⟨fun pins s σ H D I h => ?_⟩
  obtain ⟨m, L, S, sr, hl, hp⟩ := h
  unfold augS at hp
  split at hp
  case h_2 => exact hp.elim
  rename_i v e1
  obtain ⟨xv, ex, rx⟩ := hl.2 i v e1
  obtain ⟨mm, hn, hlk⟩ := I.loc
  have vis : Vis X.env.scope xn := by rcases hx with k | k; exact .inl k; exact .inr (.inl k)
  obtain ⟨u, r, l⟩ := hlk i xn xv hi ex vis
  refine PySem.wpAny_AugAssign_Name ?_
  have h0 : tE Z W f σ H fun y H1 => ∃ m S w, SRel Z H1 m S ∧ LRel Z H1 m L σ ∧ RV Z H1 m v xv ∧ RV Z H1 m w y ∧ PostS Z W D H1 m ((o v w S).bindS L fun z S2 => .nx (L.set i (some z)) S2) :=
    ⟨m, L, S, sr, hl, PostE.bindS hl hp fun w S1 H1 m1 y g1 s1 r1 hp1 => ⟨m1, S1, w, s1, hl.grow g1, rx.grow g1, r1, hp1⟩⟩
  have go : wpAny (model X.prog X.w) X.A (eval e X.env) (fun w s₂ => wpAny (model X.prog X.w) X.A (inplaceOp op u w) (fun r s₃ => wpAny (model X.prog X.w) X.A (storeName X.env xn r) (fun _ => SP X pins D .next) X.xe s₃) X.xe s₂) X.xe s := by
    refine thn (he.run pins s σ H _ I h0) fun w s1 ⟨yv, H1, I1, ry, m1, S1, q, s1', l1, rx1, rq, hp1⟩ => ?_
    refine thn (ho pins s1 σ H1 xv yv u w m1 S1 v q (fun z H2 => D.nx (σ.set i (some z)) H2) I1 r ry s1' rx1 rq (PostE.bindS l1 hp1 fun z S2 H2 m2 zv g2 s2 r2 hp2 => hp2 H2 m2 _ Gr.refl s2 ((l1.grow g2).set r2))) fun z s2 ⟨zv, H2, I2, r2, q2⟩ => ?_
    exact store_ok I2 hN hi hx r2 (fun s3 I3 => ⟨_, H2, I3, q2⟩) hf
  rcases l with ⟨hk, hm⟩ | ⟨hk, c, hc, hcell⟩
  · exact PySem.wpAny_loadName_local I.ok.kind hk hn hm go
  · rcases hk with hk | hk
    · exact PySem.wpAny_loadName_cell I.ok.kind hk hc hcell go
    · rcases hx with k | k
      · have : X.env.scope.names.lookup xn = some .free := hk
        rw [k] at this; cases this
      · have : X.env.scope.names.lookup xn = some .free := hk
        rw [k] at this; cases this
/-! ### loops -/
def forLoop (d : Desc) (tgt : TgF) (body : Loc → Hs → RS) : Nat → Nat → Loc → Hs → RS
  | 0, _, _, _ => .bad
  | fuel + 1, i, L, S => match fetch S i d with
    | none => .bad
    | some none => .nx L S
    | some (some v) => match tgt v L S with
      | .nx L1 S1 => match body L1 S1 with
        | .nx L2 S2 => forLoop d tgt body fuel (i + 1) L2 S2
        | .ct L2 S2 => forLoop d tgt body fuel (i + 1) L2 S2
        | .bk L2 S2 => .nx L2 S2
        | r => r
      | _ => .bad
def forS (src : Loc → Hs → RI) (tgt : TgF) (body : Loc → Hs → RS) : Loc → Hs → RS := fun L S => match src L S with
  | .ok d S1 => forLoop d tgt body turns 0 L S1
  | .ex k v S1 => .ex k v L S1
  | .bad => .bad
theorem ok_for {tg iter : Expr} {body : List Stmt} {pos : Pos} {src : Loc → Hs → RI} {tgt : TgF} {b : Loc → Hs → RS} (hp : PassesOwn (model X.prog X.w) X.A X.env X.xe) (hc : X.calm = true) (hi : PI X tg iter (tI Z W src)) (hg : PG X tg (tG Z T tgt)) (hb : PSs X body (tS Z W b))
    (hs : ∀ x, foldedSetIterable iter X.env x = pure x) : PS X (.For tg iter body [] pos) (tS Z W (forS src tgt b)) := by
  refine PS.imp (ps_for hp hc hi hg hb hs) ?_
  rintro D σ H ⟨m, L, S, sr, hl, hq⟩
  refine ⟨m, L, S, sr, hl, ?_⟩
  unfold forS at hq
  cases es : src L S with
  | bad => rw [es] at hq; exact hq.elim
  | ex k v S1 => rw [es] at hq; exact fun H' m' d g s ex => hq H' m' d σ g s (hl.grow g) ex
  | ok d S1 =>
    rw [es] at hq
    intro H1 m1 J g1 s1 dr
    refine ⟨fun i k σ' H' => ∃ m' L' S', Gr Z H1 m1 H' m' ∧ SRel Z H' m' S' ∧ LRel Z H' m' L' σ' ∧ PostS Z W D H' m' (forLoop d tgt b k i L' S'), ⟨turns, m1, L, S1, Gr.refl, s1, hl.grow g1, PostS.grow g1 hq⟩, ?_⟩
    rintro i k σ' H' ⟨m', L', S', g', s', l', hk⟩
    cases k with
    | zero => exact hk.elim
    | succ k =>
      rw [forLoop] at hk
      have dr' := dr H' m' S' i g'.g0 s'
      cases ef : fetch S' i d with
      | none => rw [ef] at hk; exact hk.elim
      | some r =>
        cases r with
        | none =>
          rw [ef] at hk
          exact .inl ⟨dr'.2 ef, hk H' m' σ' Gr.refl s' l'⟩
        | some v =>
          rw [ef] at hk
          obtain ⟨hgo, hy⟩ := dr'.1 v ef
          refine .inr ⟨hgo, fun σ2 H2 => ∃ m' L' S', Gr Z H1 m1 H2 m' ∧ SRel Z H2 m' S' ∧ LRel Z H2 m' L' σ2 ∧ PostS Z W D H2 m' (forLoop d tgt b k (i + 1) L' S'), fun σ2 H2 h2 => ⟨k, Nat.lt_succ_self _, h2⟩, fun x H2 hyx => ?_⟩
          obtain ⟨m2, g2, s2, r2⟩ := hy x H2 hyx
          refine ⟨m2, L', S', v, s2, l'.grow g2, r2, ?_⟩
          simp only at hk
          cases et : tgt v L' S' with
          | nx L3 S3 =>
            rw [et] at hk
            simp only at hk
            intro H3 m3 σ3 g3 s3 l3 o3
            refine ⟨m3, L3, S3, s3, l3, ?_⟩
            have hk3 := PostS.grow (g2.trans g3) hk
            have gg := (g'.trans g2).trans g3
            cases ec : b L3 S3 with
            | nx L4 S4 =>
              rw [ec] at hk3
              exact fun H4 m4 σ4 g4 s4 l4 => ⟨m4, L4, S4, gg.trans g4, s4, l4, PostS.grow g4 hk3⟩
            | ct L4 S4 =>
              rw [ec] at hk3
              exact fun H4 m4 σ4 g4 s4 l4 => ⟨m4, L4, S4, gg.trans g4, s4, l4, PostS.grow g4 hk3⟩
            | bk L4 S4 => rw [ec] at hk3; exact hk3
            | rt v S4 => rw [ec] at hk3; exact hk3
            | ex k v L S4 => rw [ec] at hk3; exact hk3
            | bad => rw [ec] at hk3; exact hk3
          | rt _ _ => rw [et] at hk; exact hk.elim
          | bk _ _ => rw [et] at hk; exact hk.elim
          | ct _ _ => rw [et] at hk; exact hk.elim
          | ex _ _ _ _ => rw [et] at hk; exact hk.elim
          | bad => rw [et] at hk; exact hk.elim
def whLoop (c : Loc → Hs → RB) (body : Loc → Hs → RS) : Nat → Loc → Hs → RS
  | 0, _, _ => .bad
  | fuel + 1, L, S => match c L S with
    | .ok true S1 => match body L S1 with
      | .nx L2 S2 => whLoop c body fuel L2 S2
      | .ct L2 S2 => whLoop c body fuel L2 S2
      | .bk L2 S2 => .nx L2 S2
      | r => r
    | .ok false S1 => .nx L S1
    | .ex k v S1 => .ex k v L S1
    | .bad => .bad
def whS (c : Loc → Hs → RB) (body : Loc → Hs → RS) : Loc → Hs → RS := whLoop c body turns
theorem ok_wh {c : Expr} {body : List Stmt} {pos : Pos} {t : Loc → Hs → RB} {b : Loc → Hs → RS} (hp : PassesOwn (model X.prog X.w) X.A X.env X.xe) (hc : PT X c (tB Z W t)) (hb : PSs X body (tS Z W b)) : PS X (.While c body [] pos) (tS Z W (whS t b)) := by
  refine PS.imp (ps_while hp hc hb) ?_
  rintro D σ H ⟨m, L, S, sr, hl, hq⟩
  refine ⟨fun k σ' H' => ∃ m' L' S', SRel Z H' m' S' ∧ LRel Z H' m' L' σ' ∧ PostS Z W D H' m' (whLoop t b k L' S'), ⟨turns, m, L, S, sr, hl, hq⟩, ?_⟩
  rintro k σ' H' ⟨m', L', S', s', l', hk⟩
  cases k with
  | zero => exact hk.elim
  | succ k =>
    rw [whLoop] at hk
    refine ⟨m', L', S', s', l', ?_⟩
    cases et : t L' S' with
    | bad => rw [et] at hk; exact hk.elim
    | ex k v S1 => rw [et] at hk; exact fun H2 m2 d g s ex => hk H2 m2 d σ' g s (l'.grow g) ex
    | ok v S1 =>
      rw [et] at hk
      intro H2 m2 g2 s2
      have hk2 := PostS.grow g2 hk
      cases v with
      | false =>
        rw [if_neg Bool.false_ne_true]
        exact hk2 H2 m2 σ' Gr.refl s2 (l'.grow g2)
      | true =>
        rw [if_pos rfl]
        simp only at hk2
        refine ⟨fun σ2 H2 => ∃ m' L' S', SRel Z H2 m' S' ∧ LRel Z H2 m' L' σ2 ∧ PostS Z W D H2 m' (whLoop t b k L' S'), fun σ2 H2 h2 => ⟨k, Nat.lt_succ_self _, h2⟩, m2, L', S1, s2, l'.grow g2, ?_⟩
        cases ec : b L' S1 with
        | nx L4 S4 =>
          rw [ec] at hk2
          exact fun H4 m4 σ4 g4 s4 l4 => ⟨m4, L4, S4, s4, l4, PostS.grow g4 hk2⟩
        | ct L4 S4 =>
          rw [ec] at hk2
          exact fun H4 m4 σ4 g4 s4 l4 => ⟨m4, L4, S4, s4, l4, PostS.grow g4 hk2⟩
        | bk L4 S4 => rw [ec] at hk2; exact hk2
        | rt v S4 => rw [ec] at hk2; exact hk2
        | ex k v L S4 => rw [ec] at hk2; exact hk2
        | bad => rw [ec] at hk2; exact hk2
end
end MP
set_option maxRecDepth 100000
namespace MP
open PySem L2
/-! ### freezing -/
def mapO {A B : Type} (f : A → Option B) : List A → Option (List B)
  | [] => some []
  | a :: as => match f a with
    | some b => match mapO f as with
      | some bs => some (b :: bs)
      | none => none
    | none => none
/-- a value without the store -/
def freeze (S : Hs) : Nat → PV → Option PV
  | 0, _ => none
  | n + 1, v => match v with
    | .tup xs => (mapO (freeze S n) xs).map .tup
    | .lst xs => (mapO (freeze S n) xs).map .lst
    | .dct ks vs => (mapO (freeze S n) vs).map (.dct ks)
    | .obj k ns xs => (mapO (freeze S n) xs).map (.obj k ns)
    | .loc i => match getR S i with
      | some (.lst xs) => (mapO (freeze S n) xs).map .lst
      | some (.dct ks vs) => (mapO (freeze S n) vs).map (.dct ks)
      | some (.ins k ns xs) => (mapO (freeze S n) xs).map (.obj k ns)
      | some (.tab _) => none
      | none => none
    | v => some v
def dpF : Nat := 24
section
variable {Z : Sta} {W : WX} {σ : L2.St} {H H1 : Hp} {m m1 m2 : Mp} {X : Cx} {S : Hs} {x y : V} {a : Addr}
theorem freezes_rv {f : PV → Option PV} : ∀ {xs : List PV} {ys : List V} {ws : List PV}, (∀ v x w, v ∈ xs → RV Z H m v x → f v = some w → RV Z H m2 w x) → RVs Z H m xs ys → mapO f xs = some ws → RVs Z H m2 ws ys
  | [], _, _, _, r, e => by cases e; unfold RVs at r; subst r; exact RVs.nil
  | v :: xs, _, _, h, r, e => by
    unfold RVs at r
    obtain ⟨y, t, rfl, r1, r2⟩ := r
    unfold mapO at e
    cases e1 : f v with
    | none => rw [e1] at e; cases e
    | some b =>
      rw [e1] at e
      cases e2 : mapO f xs with
      | none => rw [e2] at e; cases e
      | some bs =>
        rw [e2] at e
        cases e
        exact RVs.cons (h v y b List.mem_cons_self r1 e1) (freezes_rv (fun v x w hv => h v x w (List.mem_cons_of_mem _ hv)) r2 e2)
theorem map_some {A B : Type} {f : A → B} {o : Option A} {b : B} (h : o.map f = some b) : ∃ a, o = some a ∧ f a = b := by
  cases o with
  | none => cases h
  | some a => exact ⟨a, rfl, Option.some.inj h⟩
/-- a key lies in no store -/
theorem keys_any {n : Nat} (ih : ∀ {k : PV} {x : V}, isKey n k = true → RV Z H m k x → RV Z H m2 k x) : ∀ {ks : List PV} {xs : List V}, ks.all (isKey n) = true → RVs Z H m ks xs → RVs Z H m2 ks xs
  | [], _, _, r => by unfold RVs at r; subst r; exact RVs.nil
  | k :: ks, _, h, r => by
    unfold RVs at r
    obtain ⟨y, t, rfl, r1, r2⟩ := r
    rw [List.all_cons, Bool.and_eq_true] at h
    exact RVs.cons (ih h.1 r1) (keys_any ih h.2 r2)
theorem flat_any {k : PV} {x : V} (h : isFlat k = true) (r : RV Z H m k x) : RV Z H m2 k x := by
  cases k <;> first
    | (cases h; done)
    | (unfold RV at r ⊢; exact r)
theorem key_any : ∀ {n : Nat} {k : PV} {x : V}, isKey n k = true → RV Z H m k x → RV Z H m2 k x
  | 0, k, x, h, r => flat_any h r
  | n + 1, k, x, h, r => by
    unfold isKey at h
    split at h
    · unfold RV at r ⊢
      obtain ⟨a, ys, e, hq, hr⟩ := r
      exact ⟨a, ys, e, hq, keys_any (fun h r => key_any h r) h hr⟩
    · exact flat_any h r
theorem keysB_all {ks : List PV} (h : keysB ks = true) : ks.all (isKey kd) = true := by
  unfold keysB at h
  rw [Bool.and_eq_true, Bool.and_eq_true] at h
  exact h.1.1
theorem keysB_any {ks : List PV} {xs : List V} (h : keysB ks = true) (r : RVs Z H m ks xs) : RVs Z H m2 ks xs := keys_any (n := kd) (fun h r => key_any h r) (keysB_all h) r
theorem freeze_rv (hS : ∀ i c, getR S i = some c → ∃ a, getR m.l i = some a ∧ CRel Z H m c a ∧ a ∉ m2.l ∧ a ∉ m2.h) (hf : ∀ a o, H a = some o → a ∉ m.l ∧ a ∉ m.h → a ∉ m2.l ∧ a ∉ m2.h) :
    ∀ {n : Nat} {v w : PV} {x : V}, RV Z H m v x → freeze S n v = some w → RV Z H m2 w x
  | 0, _, _, _, _, e => by cases e
  | n + 1, v, w, x, r, e => by
    have go : ∀ {xs : List PV} {ys : List V} {ws : List PV}, RVs Z H m xs ys → mapO (freeze S n) xs = some ws → RVs Z H m2 ws ys :=
      fun r e => freezes_rv (fun v x w _ r e => freeze_rv hS hf r e) r e
    unfold freeze at e
    cases v with
    | non => cases e; unfold RV at r ⊢; exact r
    | bl b => cases e; unfold RV at r ⊢; exact r
    | int b => cases e; unfold RV at r ⊢; exact r
    | str b => cases e; unfold RV at r ⊢; exact r
    | st b => cases e; unfold RV at r ⊢; exact r
    | ty b => cases e; unfold RV at r ⊢; exact r
    | scr ns =>
      cases e
      unfold RV at r ⊢
      obtain ⟨a, ex, h⟩ := r
      refine ⟨a, ex, ?_⟩
      rcases h with ⟨h1, h2⟩ | h
      · rcases h2 with h2 | ⟨o, h2⟩
        · exact .inl ⟨hf a _ h2 h1, .inl h2⟩
        · exact .inl ⟨hf a _ h2 h1, .inr ⟨o, h2⟩⟩
      · exact .inr h
    | tup xs =>
      obtain ⟨ws, e1, rfl⟩ := map_some e
      unfold RV at r ⊢
      obtain ⟨a, ys, ex, hq, hr⟩ := r
      exact ⟨a, ys, ex, hq, go hr e1⟩
    | lst xs =>
      obtain ⟨ws, e1, rfl⟩ := map_some e
      unfold RV at r ⊢
      obtain ⟨a, ys, ex, hn, hq, hr⟩ := r
      exact ⟨a, ys, ex, hf a _ hq hn, hq, go hr e1⟩
    | dct ks vs =>
      obtain ⟨ws, e1, rfl⟩ := map_some e
      unfold RV at r ⊢
      obtain ⟨a, es, ex, hq, h1, h2, h3, h4⟩ := r
      refine ⟨a, es, ex, ?_, h1, h2, keysB_any h1 h3, go h4 e1⟩
      rcases hq with ⟨hn, hq⟩ | hq
      · exact .inl ⟨hf a _ hq hn, hq⟩
      · exact .inr hq
    | obj k ns xs =>
      obtain ⟨ws, e1, rfl⟩ := map_some e
      unfold RV at r ⊢
      obtain ⟨a, dx, ys, ex, hn, hq, hl, hr⟩ := r
      exact ⟨a, dx, ys, ex, hf a _ hq hn, hq, hl, go hr e1⟩
    | loc i =>
      unfold RV at r
      obtain ⟨a, ea, ex⟩ := r
      cases ec : getR S i with
      | none => simp only [ec] at e; cases e
      | some c =>
        obtain ⟨b, eb, rc, hn⟩ := hS i c ec
        rw [ea] at eb
        cases eb
        cases c with
        | lst xs =>
          simp only [ec] at e
          obtain ⟨ws, e1, rfl⟩ := map_some e
          obtain ⟨ys, hq, hr⟩ := rc
          unfold RV
          exact ⟨a, ys, ex, hn, hq, go hr e1⟩
        | dct ks vs =>
          simp only [ec] at e
          obtain ⟨ws, e1, rfl⟩ := map_some e
          obtain ⟨es, hq, h1, h2, h3, h4⟩ := rc
          unfold RV
          exact ⟨a, es, ex, .inl ⟨hn, hq⟩, h1, h2, keysB_any h1 h3, go h4 e1⟩
        | ins k ns xs =>
          simp only [ec] at e
          obtain ⟨ws, e1, rfl⟩ := map_some e
          obtain ⟨dx, ys, hq, hl, hr⟩ := rc
          unfold RV
          exact ⟨a, dx, ys, ex, hn, hq, hl, go hr e1⟩
        | tab j =>
          simp only [ec] at e
          cases e
/-! ### a call apart from the store -/
/-- the store is out of reach -/
def Mp.apart (m : Mp) : Mp := ⟨[], m.l ++ m.h⟩
theorem notin_app {l k : List Addr} : a ∉ l ++ k ↔ a ∉ l ∧ a ∉ k := by rw [List.mem_append, not_or]
theorem SRel.apart (s : SRel Z H m S) : SRel Z H m.apart [] :=
  ⟨.nil, List.nodup_nil, fun a h => (List.mem_append.mp h).elim (fun q => s.tracked q) (fun q => s.hid a q)⟩
theorem arg_apart {v w : PV} {n : Nat} (r : RV Z H m v x) (e : freeze [] n v = some w) : RV Z H m.apart w x :=
  freeze_rv (m := m) (fun i c h => by unfold getR at h; simp at h) (fun a o _ hn => ⟨List.not_mem_nil, notin_app.mpr hn⟩) r e
theorem args_apart {vs ws : List PV} {xs : List V} {n : Nat} (r : RVs Z H m vs xs) (e : mapO (freeze [] n) vs = some ws) : RVs Z H m.apart ws xs :=
  freezes_rv (fun v x w _ r e => arg_apart r e) r e
/-- behind the call: the store is as it was -/
theorem Gr.back (g : Gr Z H m.apart H1 m1) : Gr Z H m H1 m :=
  have k : ∀ b o, H b = some o → H1 b = some o := fun b o h => g.keep b o List.not_mem_nil h
  ⟨⟨⟨[], rfl, fun _ h => nomatch h⟩, fun _ h => .inl h, fun b o _ _ h => k b o h, g.g0.there, g.g0.tup⟩, fun b o _ h => k b o h, rfl⟩
theorem SRel.back (g : Gr Z H m.apart H1 m1) (s : SRel Z H m S) : SRel Z H1 m S :=
  ⟨paired_map s.cells fun c a _ q => q.grow g.back fun o h => g.keep a o List.not_mem_nil h, s.nd, fun a h => g.g0.there a _ (s.hid a h).choose_spec⟩
theorem res_back {S1 : Hs} {v w : PV} {n : Nat} (s : SRel Z H m S) (g : Gr Z H m.apart H1 m1) (s1 : SRel Z H1 m1 S1) (r : RV Z H1 m1 v x) (e : freeze S1 n v = some w) : RV Z H1 m w x := by
  refine freeze_rv (m := m1) (fun i c h => ?_) (fun a o _ hn => ?_) r e
  · obtain ⟨a, ea, rc⟩ := s1.at_ h
    refine ⟨a, ea, rc, ?_⟩
    obtain ⟨ms, em, hms⟩ := g.g0.suf
    have hm : a ∈ ms := by
      have := getR_mem ea
      rw [em] at this
      simpa [Mp.apart] using this
    exact s.notin (hms a hm)
  · have := hn.2
    rw [g.eqh] at this
    exact notin_app.mp this
/-- what a def promises: f tells what comes of it -/
def spF (Z : Sta) (np : Nat) (f : List PV → Hs → RE) : Sp := fun vs H Q E => vs.length = np ∧ ∃ m S ps, SRel Z H m S ∧ RVs Z H m ps vs ∧ PostE Z (fun c d _ H' => E c d H') [] H m Q (f ps S)
theorem PostE.noσ {W : WX} {E : XK} {Q : VK} {r : RE} (h : PostE Z W σ H m Q r) (he : ∀ c d H', W c d σ H' → E c d H') : PostE Z (fun c d _ H' => E c d H') [] H m Q r := by
  cases r with
  | ok v S => exact h
  | ex k v S => exact fun H' m' d g s e => he _ _ _ (h H' m' d g s e)
  | bad => exact h
/-- what a call hands back, without its store -/
def endC (S : Hs) : RE → RE
  | .ok v [] => .ok v S
  | .ok v S1 => match freeze S1 dpF v with
    | some w => .ok w S
    | none => .bad
  | .ex k v [] => .ex k v S
  | .ex k v S1 => match freeze S1 dpF v with
    | some w => .ex k w S
    | none => .bad
  | .bad => .bad
def isoC (f : List PV → Hs → RE) (args : List PV) (S : Hs) : RE := match S with
  | [] => endC [] (f args [])
  | S => match mapO (freeze [] dpF) args with
    | some as => endC S (f as [])
    | none => f args S
theorem res_bare {v : PV} (g : Gr Z H m.apart H1 m1) (s1 : SRel Z H1 m1 []) (r : RV Z H1 m1 v x) : RV Z H1 m v x := by
  have e : m1.l = [] := by
    have := s1.len
    exact List.eq_nil_of_length_eq_zero this.symm
  refine RV.growV ⟨⟨m.l, by rw [e, List.append_nil]⟩, fun a o hn h => ⟨?_, h⟩, fun _ _ h => h⟩ r
  rw [g.eqh] at hn
  exact notin_app.mp hn.2
theorem exc_back {S1 : Hs} {v w : PV} {n : Nat} {d : Option Addr} (s : SRel Z H m S) (g : Gr Z H m.apart H1 m1) (s1 : SRel Z H1 m1 S1) (r : ExcAt Z H1 m1 v d) (e : freeze S1 n v = some w) : ExcAt Z H1 m w d := by
  obtain ⟨dx, x, rfl, hd, hr⟩ := r
  exact ⟨dx, x, rfl, hd, res_back s g s1 hr e⟩
theorem end_post {r : RE} (s : SRel Z H m S) (h : PostE Z W σ H m Q (endC S r)) {E : XK} (he : ∀ c d H', W c d σ H' → E c d H') : PostE Z (fun c d _ H' => E c d H') [] H m.apart Q r := by
  unfold endC at h
  split at h
  · exact fun H1 m1 x g1 s1 r1 => h H1 m x g1.back (s.back g1) (res_bare g1 s1 r1)
  · rename_i v S1 _
    cases ew : freeze S1 dpF v with
    | none => rw [ew] at h; exact h.elim
    | some w =>
      rw [ew] at h
      exact fun H1 m1 x g1 s1 r1 => h H1 m x g1.back (s.back g1) (res_back s g1 s1 r1 ew)
  · refine fun H1 m1 d g1 s1 r1 => he _ _ _ (h H1 m d g1.back (s.back g1) ?_)
    obtain ⟨dx, x, rfl, hd, hr⟩ := r1
    exact ⟨dx, x, rfl, hd, res_bare g1 s1 hr⟩
  · rename_i k v S1 _
    cases ew : freeze S1 dpF v with
    | none => rw [ew] at h; exact h.elim
    | some w =>
      rw [ew] at h
      exact fun H1 m1 d g1 s1 r1 => he _ _ _ (h H1 m d g1.back (s.back g1) (exc_back s g1 s1 r1 ew))
  · exact h.elim
/-- the promise is met by a call apart -/
theorem iso_sp {np : Nat} {f : List PV → Hs → RE} {args : List PV} {xs : List V} {Q : VK} {E : XK} (s : SRel Z H m S) (r : RVs Z H m args xs) (hl : xs.length = np) (h : PostE Z W σ H m Q (isoC f args S)) (he : ∀ c d H', W c d σ H' → E c d H') : spF Z np f xs H Q E := by
  unfold isoC at h
  split at h
  · have e : m.apart = m := by
      have e : m.l = [] := List.eq_nil_of_length_eq_zero s.len.symm
      obtain ⟨l, k⟩ := m
      cases e
      rfl
    have h2 := end_post s h he
    exact ⟨hl, m.apart, [], args, s.apart, by rw [e]; exact r, h2⟩
  · rename_i S _
    cases ea : mapO (freeze [] dpF) args with
    | none =>
      rw [ea] at h
      exact ⟨hl, m, _, args, s, r, h.noσ he⟩
    | some as =>
      rw [ea] at h
      exact ⟨hl, m.apart, [], as, s.apart, args_apart r ea, end_post s h he⟩
theorem call_sp {np : Nat} {f : List PV → Hs → RE} {args : List PV} {xs : List V} {Q : VK} {E : XK} (s : SRel Z H m S) (r : RVs Z H m args xs) (hl : xs.length = np) (h : PostE Z W σ H m Q (f args S)) (he : ∀ c d H', W c d σ H' → E c d H') : spF Z np f xs H Q E :=
  ⟨hl, m, S, args, s, r, h.noσ he⟩
/-! ### a def by its body -/
def runB (ns : Nat) (b : Loc → Hs → RS) : List PV → Hs → RE := fun args S => match b (args.map some ++ List.replicate (ns - args.length) none) S with
  | .nx _ S1 => .ok .non S1
  | .rt v S1 => .ok v S1
  | .ex k v _ S1 => .ex k v S1
  | _ => .bad
theorem lrel_start {N : List Str} : ∀ {ps : List PV} {vs : List V}, RVs Z H m ps vs → LRel Z H m (ps.map some ++ List.replicate (N.length - ps.length) none) (L2.start N vs) := fun {ps vs} r => by
  have e := r.len
  unfold L2.start
  refine ⟨by simp [e], fun i v h => ?_⟩
  by_cases hi : i < ps.length
  · rw [List.getElem?_append_left (by simpa using hi)] at h
    rw [List.getElem?_map] at h
    cases ep : ps[i]? with
    | none => rw [ep] at h; cases h
    | some p =>
      rw [ep] at h
      cases h
      obtain ⟨x, ex, rx⟩ := r.get ep
      refine ⟨x, ?_, rx⟩
      rw [List.getElem?_append_left (by rw [List.length_map, ← e]; exact hi), List.getElem?_map, ex]
      rfl
  · rw [List.getElem?_append_right (by simpa using hi)] at h
    rw [List.getElem?_replicate] at h
    split at h <;> cases h
theorem run_post {N : List Str} {b : Loc → Hs → RS} {ps : List PV} {vs : List V} {Q : VK} {E : XK} (s : SRel Z H m S) (r : RVs Z H m ps vs) (h : PostE Z (fun c d _ H' => E c d H') [] H m Q (runB N.length b ps S)) :
    tS Z (fun c d _ H' => E c d H') b { nx := fun _ H' => Q .non H', rt := Q } (L2.start N vs) H := by
  refine ⟨m, _, S, s, lrel_start r, ?_⟩
  unfold runB at h
  cases eb : b (ps.map some ++ List.replicate (N.length - ps.length) none) S with
  | nx L S1 => rw [eb] at h; exact fun H' m' σ' g s l => h H' m' .non g s to_non
  | rt v S1 => rw [eb] at h; exact h
  | bk L S1 => rw [eb] at h; exact h.elim
  | ct L S1 => rw [eb] at h; exact h.elim
  | ex k v L S1 => rw [eb] at h; exact fun H' m' d σ' g s l e => h H' m' d g s e
  | bad => rw [eb] at h; exact h.elim
end
end MP
set_option maxRecDepth 100000
namespace MP
open PySem L2
/-! ### binding -/
/-- a way to call a def: n values by place, keywords ks; arr puts them, and the defaults, in the parameters' order -/
def BindOk (Z : Sta) (fd : FuncData) (ps : List Str) (n : Nat) (ks : List Str) (arr : List PV → List PV → List PV) : Prop :=
  ∀ (s : Shared) (us ws : List Value) (xs zs : List V), Z.K.In s.heap → us.length = n → ws.length = ks.length → Vals xs us → Vals zs ws →
    ∃ (ts : List Value) (ys : List V), BindsTo s fd ⟨us, ks.zip ws⟩ (ps.zip ts) ∧ Vals ys ts ∧ ys.length = ps.length ∧ ∀ (H : Hp) (m : Mp) (vs qs : List PV), RVs Z H m vs xs → RVs Z H m qs zs → RVs Z H m (arr vs qs) ys
/-- a place of the text where all is plain -/
structure Good (Z : Sta) (lv : Nat) (X : Cx) (W : WX) : Prop where
  prog : X.prog = Z.P
  w : X.w = Z.w
  K : X.K = Z.K
  mg : X.mg = Z.mg
  base : X.base = Z.base
  room3 : Room (lv + 3) X.A
  calm : X.calm = true
  nd : X.N.Nodup
  takes : Takes X W
theorem Good.room {Z : Sta} {lv : Nat} {X : Cx} {W : WX} (g : Good Z lv X W) : Room (lv + 1) X.A := g.room3.mono (by omega)
def noStar1 : Expr → Bool
  | .Starred _ _ => false
  | _ => true
def noStar (es : List Expr) : Bool := es.all noStar1
theorem star_cons {e : Expr} {es : List Expr} {env : Env} (h : noStar1 e = true) : starEach (e :: es) env = (false, eval e env) :: starEach es env := by
  cases e <;> first | rfl | cases h
theorem star_any {env : Env} {pos : Pos} : ∀ {es : List Expr}, noStar es = true → (backTo pos (starEach es env)).any (·.1) = false
  | [], _ => rfl
  | e :: es, h => by
    unfold noStar at h
    rw [List.all_cons, Bool.and_eq_true] at h
    rw [star_cons h.1]
    show (false || (backTo pos (starEach es env)).any (·.1)) = false
    rw [star_any (es := es) h.2]
    rfl
section
variable {Z : Sta} {W : WX} {σ : L2.St} {H H1 : Hp} {m m1 m2 : Mp} {X : Cx} {S : Hs} {x y : V} {a : Addr} {lv : Nat}
/-! ### keywords -/
theorem ok_knil : PK X [] (tA Z W nilA) := ⟨fun pos pins s σ H Q I ⟨m, L, S, sr, hl, hp⟩ => pk_nil.run pos pins s σ H Q I (hp H m [] Gr.refl sr RVs.nil)⟩
theorem ok_kcons {nm : Option Str} {e : Expr} {kpos : Pos} {kws : List Keyword} {f : Loc → Hs → RE} {g : Loc → Hs → RA} (ha : PE X e (tE Z W f)) (hr : PK X kws (tA Z W g)) : PK X (⟨nm, e, kpos⟩ :: kws) (tA Z W (consA f g)) := by
  refine ⟨fun pos pins s σ H Q I ⟨m, L, S, sr, hl, hp⟩ => (pk_cons ha hr).run pos pins s σ H Q I ?_⟩
  refine ⟨m, L, S, sr, hl, PostE.bindA hp fun v S1 H1 m1 x g1 s1 r1 hp1 => ⟨m1, L, S1, s1, hl.grow g1, PostA.bindA hp1 fun vs S2 H2 m2 xs g2 s2 r2 hp2 => ?_⟩⟩
  exact hp2 H2 m2 (x :: xs) Gr.refl s2 (RVs.cons (r1.grow g2) r2)
theorem kw_names {env : Env} {pos : Pos} : ∀ {kws : List Keyword} {ks : List Str}, kws.map (·.arg) = ks.map some → (backToKw pos (keywordEach kws env)).all (·.1.isSome) = true ∧ (backToKw pos (keywordEach kws env)).filterMap (·.1) = ks ∧ (backToKw pos (keywordEach kws env)).any (·.1.isNone) = false
  | [], ks, h => by
    cases ks with
    | nil => exact ⟨rfl, rfl, rfl⟩
    | cons _ _ => cases h
  | ⟨nm, e, p⟩ :: kws, ks, h => by
    cases ks with
    | nil => cases h
    | cons k ks =>
      rw [List.map_cons, List.map_cons] at h
      injection h with h1 h2
      have h1' : nm = some k := h1
      subst h1'
      obtain ⟨a1, a2, a3⟩ := kw_names (env := env) (pos := pos) h2
      have e0 : ∃ t, backToKw pos (keywordEach (⟨some k, e, p⟩ :: kws) env) = (some k, t) :: backToKw pos (keywordEach kws env) := ⟨_, rfl⟩
      obtain ⟨t, e0⟩ := e0
      rw [e0]
      exact ⟨by rw [List.all_cons, a1]; rfl, by rw [List.filterMap_cons, a2], by rw [List.any_cons, a3]; rfl⟩
/-! ### a call of what is known -/
inductive ArgsOk (Z : Sta) (X : Cx) (W : WX) : List Expr → (Loc → Hs → RA) → Prop where
  | nil : ArgsOk Z X W [] nilA
  | cons {e : Expr} {es : List Expr} {g : Loc → Hs → RA} : PA X (e :: es) (tA Z W g) → noStar (e :: es) = true → ArgsOk Z X W (e :: es) g
inductive KwsOk (Z : Sta) (X : Cx) (W : WX) : List Keyword → List Str → (Loc → Hs → RA) → Prop where
  | nil : KwsOk Z X W [] [] nilA
  | cons {e : Keyword} {es : List Keyword} {ks : List Str} {g : Loc → Hs → RA} : PK X (e :: es) (tA Z W g) → (e :: es).map (·.arg) = ks.map some → KwsOk Z X W (e :: es) ks g
/-- the values by place, then those by keyword -/
def callE (n nk : Nat) (ga gk : Loc → Hs → RA) (f : List PV → List PV → Hs → RE) : Loc → Hs → RE := fun L S => (ga L S).bind fun vs S1 => (gk L S1).bind fun qs S2 => if vs.length = n ∧ qs.length = nk then f vs qs S2 else .bad
/-- what the callee is handed, and what is asked of it -/
def CallAt (Z : Sta) (X : Cx) (W : WX) (pins : List (Addr × Obj)) (σ : L2.St) (H : Hp) (m : Mp) (Q : VK) (f : List PV → List PV → Hs → RE) (n : Nat) (ks : List Str) (F : List Value → List Value → Sem Value) : Prop :=
  ∀ (us ws : List Value) (s2 : Shared) (xs zs : List V) (H2 : Hp) (m2 : Mp) (S2 : Hs) (vs qs : List PV), Gr Z H m H2 m2 → Inv X pins σ H2 s2 → Vals xs us → Vals zs ws → SRel Z H2 m2 S2 → RVs Z H2 m2 vs xs → RVs Z H2 m2 qs zs → vs.length = n → qs.length = ks.length →
    PostE Z W σ H2 m2 Q (f vs qs S2) → wpAny (model X.prog X.w) X.A (F us ws) (EP X pins σ Q) X.xe s2
theorem callWith_all {es : List Expr} {kws : List Keyword} {ks : List Str} {pos : Pos} {fv : Value} {first : List Value} {ga gk : Loc → Hs → RA} {n : Nat} {f : List PV → List PV → Hs → RE} {pins : List (Addr × Obj)} {s : Shared} {Q : VK} {L : Loc}
    (hk : PySem.W.keepIn X.K fv = true) (ha : ArgsOk Z X W es ga) (hkw : KwsOk Z X W kws ks gk) (I : Inv X pins σ H s) (sr : SRel Z H m S) (hl : LRel Z H m L σ)
    (hp : PostE Z W σ H m Q (callE n ks.length ga gk f L S)) (hc : CallAt Z X W pins σ H m Q f n ks fun us ws => call fv (first ++ us) (ks.zip ws)) :
    wpAny (model X.prog X.w) X.A (callWith pos fv first (backTo pos (starEach es X.env)) (backToKw pos (keywordEach kws X.env))) (EP X pins σ Q) X.xe s := by
  cases ha with
  | nil =>
    cases hkw with
    | nil =>
      refine PySem.W.callWith_K0 I.kIn hk ?_
      have hp1 : PostE Z W σ H m Q (if ([] : List PV).length = n ∧ ([] : List PV).length = ([] : List Str).length then f [] [] S else .bad) := hp
      split at hp1
      · rename_i c
        exact hc [] [] s [] [] H m S [] [] Gr.refl I .nil .nil sr RVs.nil RVs.nil c.1 c.2 hp1
      · exact hp1.elim
    | cons hq hks =>
      obtain ⟨k1, k2, k3⟩ := kw_names (env := X.env) (pos := pos) hks
      have hp0 : PostE Z W σ H m Q ((gk L S).bind fun qs S2 => if ([] : List PV).length = n ∧ qs.length = ks.length then f [] qs S2 else .bad) := hp
      refine PySem.W.callWith_KW0 (h₀ := X.base) I.ok.mod.kin hk k1 (thn (hq.run pos pins s σ H (fun zs H2 => ∃ m2 S2 qs, Gr Z H m H2 m2 ∧ SRel Z H2 m2 S2 ∧ RVs Z H2 m2 qs zs ∧ ([] : List PV).length = n ∧ qs.length = ks.length ∧ PostE Z W σ H2 m2 Q (f [] qs S2)) I
        ⟨m, L, S, sr, hl, PostA.bind hp0 fun qs S2 H2 m2 zs g2 s2 r2 hp2 => ?_⟩) fun ws s2 ⟨zs, H2, I2, rz, m2, S2, qs, g2, sr2, r2, c1, c2, hp2⟩ => ⟨I2.kIn, ?_⟩) k3
      · split at hp2
        · rename_i c
          exact ⟨m2, S2, qs, g2, s2, r2, c.1, c.2, hp2⟩
        · exact hp2.elim
      · rw [k2]
        exact hc [] ws s2 [] zs H2 m2 S2 [] qs g2 I2 .nil rz sr2 RVs.nil r2 c1 c2 hp2
  | cons hpa hst =>
    rename_i e0 es0
    have hst' : noStar1 e0 = true ∧ noStar es0 = true := by
      unfold noStar at hst
      rw [List.all_cons, Bool.and_eq_true] at hst
      exact hst
    cases hkw with
    | nil =>
      have hp0 : PostE Z W σ H m Q ((ga L S).bind fun vs S1 => if vs.length = n ∧ ([] : List PV).length = ([] : List Str).length then f vs [] S1 else .bad) := hp
      refine PySem.W.callWith_K (h₀ := X.base) I.ok.mod.kin hk (thn (hpa.run pos pins s σ H (fun xs H2 => ∃ m2 S2 vs, Gr Z H m H2 m2 ∧ SRel Z H2 m2 S2 ∧ RVs Z H2 m2 vs xs ∧ vs.length = n ∧ PostE Z W σ H2 m2 Q (f vs [] S2)) I
        ⟨m, L, S, sr, hl, PostA.bind hp0 fun vs S2 H2 m2 xs g2 s2 r2 hp2 => ?_⟩) fun us s2 ⟨xs, H2, I2, rx, m2, S2, vs, g2, sr2, r2, c1, hp2⟩ => ⟨I2.kIn, ?_⟩) (star_cons hst'.1) (star_any hst'.2)
      · split at hp2
        · rename_i c
          exact ⟨m2, S2, vs, g2, s2, r2, c.1, hp2⟩
        · exact hp2.elim
      · exact hc us [] s2 xs [] H2 m2 S2 vs [] g2 I2 rx .nil sr2 r2 RVs.nil c1 rfl hp2
    | cons hq hks =>
      obtain ⟨k1, k2, k3⟩ := kw_names (env := X.env) (pos := pos) hks
      have hpl : ∀ {e : Expr} {es : List Expr}, noStar (e :: es) = true → ∀ b, b = false → ((backTo pos (starEach (e :: es) X.env)).any (·.1) || b) = false := fun h b hb => by
        rw [star_any h, hb]; rfl
      refine PySem.W.callWith_KW (h₀ := X.base) I.ok.mod.kin hk k1 (thn (hpa.run pos pins s σ H (fun xs H1 => ∃ m1 S1 vs, Gr Z H m H1 m1 ∧ SRel Z H1 m1 S1 ∧ LRel Z H1 m1 L σ ∧ RVs Z H1 m1 vs xs ∧ PostE Z W σ H1 m1 Q ((gk L S1).bind fun qs S2 => if vs.length = n ∧ qs.length = ks.length then f vs qs S2 else .bad)) I
        ⟨m, L, S, sr, hl, PostA.bind hp fun vs S1 H1 m1 xs g1 s1 r1 hp1 => ⟨m1, S1, vs, g1, s1, hl.grow g1, r1, hp1⟩⟩) fun us s1 ⟨xs, H1, I1, rx, m1, S1, vs, g1, sr1, hl1, r1, hp1⟩ => ?_) (hpl hst _ k3) (star_cons hst'.1)
      refine thn (hq.run pos pins s1 σ H1 (fun zs H2 => ∃ m2 S2 qs, Gr Z H1 m1 H2 m2 ∧ SRel Z H2 m2 S2 ∧ RVs Z H2 m2 qs zs ∧ vs.length = n ∧ qs.length = ks.length ∧ PostE Z W σ H2 m2 Q (f vs qs S2)) I1
        ⟨m1, L, S1, sr1, hl1, PostA.bind hp1 fun qs S2 H2 m2 zs g2 s2 r2 hp2 => ?_⟩) fun ws s2 ⟨zs, H2, I2, rz, m2, S2, qs, g2, sr2, r2, c1, c2, hp2⟩ => ⟨I2.kIn, ?_⟩
      · split at hp2
        · rename_i c
          exact ⟨m2, S2, qs, g2, s2, r2, c.1, c.2, hp2⟩
        · exact hp2.elim
      · rw [k2]
        exact hc us ws s2 xs zs H2 m2 S2 vs qs (g1.trans g2) I2 rx rz sr2 (r1.grow g2) r2 c1 c2 hp2
end
/-! ### the callee runs -/
/-- a def and what it promises -/
structure Fn (Z : Sta) (lv : Nat) (g : Nat) (fd : FuncData) (ps : List Str) (f : List PV → Hs → RE) : Prop where
  ok : FnOk Z.P Z.w Z.K Z.mg Z.base (CX Z.P Z.w) lv (Z.G g) fd ps (spF Z ps.length f)
  kp : PySem.W.keepIn Z.K (.ref (Z.G g)) = true
  fn : PySem.W.isFn Z.K (.ref (Z.G g)) = true
section
variable {Z : Sta} {W : WX} {σ : L2.St} {H H1 : Hp} {m m1 m2 : Mp} {X : Cx} {S : Hs} {x y : V} {a : Addr} {lv g : Nat} {fd : FuncData} {ps ks : List Str} {f : List PV → Hs → RE} {pins : List (Addr × Obj)} {s : Shared} {Q : VK}
theorem own_code {A : Around} {us : List Value} {kw : List (Str × Value)} {ts : List Value} {ys : List V} {E : XK} {R : Result → Shared → Prop} (gd : Good Z lv X W) (F : Fn Z lv g fd ps f) (hr : Room lv A) (hA : A.frames = X.A.frames)
    (I : Inv X pins σ H s) (hb : BindsTo s fd ⟨us, kw⟩ (ps.zip ts)) (rt : Vals ys ts) (h : spF Z ps.length f ys H Q E) (hR : ∀ v H' u s', Inv X pins σ H' s' → RelV v u → Q v H' → R (.ok (.ret u)) s')
    (hE : ∀ e s', CX X.prog X.w X.stack H s E e s' → R (.error e) s') : codeAny (model X.prog X.w) A (.call (.ref (Z.G g)) ⟨us, kw⟩) R s := by
  have e0 : Env0 Z.P Z.w Z.K Z.mg Z.base A X.stack s H := by
    have e := I.env0
    rw [gd.prog, gd.w, gd.K, gd.mg, gd.base] at e
    exact ⟨by rw [hA]; exact e.frames, e.mod, e.bs, e.bsz, e.funs, e.frf, e.hok, e.bare⟩
  have q := F.ok.run A X.stack s H ⟨us, kw⟩ ts ys Q E hr e0 hb rt h
  rw [← gd.prog, ← gd.w] at q
  refine codeAny_mono q fun r s' hq => ?_
  cases r with
  | error e => exact hE e s' hq
  | ok fl =>
    cases fl with
    | ret u =>
      obtain ⟨v, H', I', rv, qv⟩ := I.after hq
      exact hR v H' u s' I' rv qv
    | next => exact False.elim hq
    | brk => exact False.elim hq
    | cont => exact False.elim hq
theorem own_run {A : Around} {us : List Value} {kw : List (Str × Value)} {ts : List Value} {ys : List V} {R : Value → Shared → Prop} (gd : Good Z lv X W) (F : Fn Z lv g fd ps f) (hr : Room lv A) (hA : A.frames = X.A.frames)
    (I : Inv X pins σ H s) (hb : BindsTo s fd ⟨us, kw⟩ (ps.zip ts)) (rt : Vals ys ts) (h : spF Z ps.length f ys H Q (WE W σ)) (hR : ∀ v H' u s', Inv X pins σ H' s' → RelV v u → Q v H' → R u s') :
    wpAny (model X.prog X.w) A (call (.ref (Z.G g)) us kw) R X.xe s :=
  wpAny_call (own_code gd F hr hA I hb rt h hR fun e s' c => passAt gd.takes σ pins H s e s' I c)
/-- a call of a def: apart from the store, or in it -/
def useC (iso : Bool) (f : List PV → Hs → RE) (args : List PV) (S : Hs) : RE := if iso then isoC f args S else f args S
theorem use_sp {iso : Bool} {np : Nat} {args : List PV} {xs : List V} {E : XK} (s : SRel Z H m S) (r : RVs Z H m args xs) (hl : xs.length = np) (h : PostE Z W σ H m Q (useC iso f args S)) (he : ∀ c d H', W c d σ H' → E c d H') : spF Z np f xs H Q E := by
  cases iso with
  | true => exact iso_sp s r hl h he
  | false => exact call_sp s r hl h he
/-- f(e, .., k = v, ..), f a def of the text -/
theorem ok_callG {es : List Expr} {kws : List Keyword} {nm : Str} {p pos : Pos} {ga gk : Loc → Hs → RA} {n : Nat} {iso : Bool} {arr : List PV → List PV → List PV} (gd : Good Z lv X W) (F : Fn Z lv g fd ps f) (hb : BindOk Z fd ps n ks arr) (hg : Gl X nm) (hm : Z.mg nm = some (.ref (Z.G g)))
    (ha : ArgsOk Z X W es ga) (hkw : KwsOk Z X W kws ks gk) (hdb : (nm == ("__debug__" : Str)) = false) :
    PE X (.Call (.Name nm p) es kws pos) (tE Z W (callE n ks.length ga gk fun vs qs => useC iso f (arr vs qs))) := by
  refine ⟨fun pins s σ H Q I ⟨m, L, S, sr, hl, hp⟩ => ?_⟩
  refine PySem.wpAny_Call_Name_kw (ld_glob I hg (by rw [gd.mg]; exact hm) ?_ hdb)
  refine callWith_all (by rw [gd.K]; exact F.kp) ha hkw I sr hl hp fun us ws s2 xs zs H2 m2 S2 vs qs g2 I2 rx rz sr2 r1 r2 c1 c2 hp2 => ?_
  obtain ⟨ts, ys, b1, b2, b3, b4⟩ := hb s2 us ws xs zs (by rw [← gd.K]; exact I2.kIn) (by rw [← rx.length, ← r1.len]; exact c1) (by rw [← rz.length, ← r2.len]; exact c2) rx rz
  exact own_run gd F (gd.room.mono (Nat.le_succ _)) rfl I2 b1 b2 (use_sp sr2 (b4 H2 m2 vs qs r1 r2) b3 hp2 fun _ _ _ h => h) fun v H' u s' I' rv q => ⟨v, H', I', rv, q⟩
end
end MP
set_option maxRecDepth 100000
namespace MP
open PySem L2
/-! ### the table of the text: what a class's name stands for, how defs are called -/
inductive FK where
  | fld | prop (g : Nat) | meth (g : Nat) | bad
structure Tab where
  run : Nat → List PV → Hs → RE
  has : Nat → Bool
  mem : Nat → Nat → FK
  arr : Nat → Nat → List Str → Option (List PV → List PV → List PV)
def FKOk (Z : Sta) (has : Nat → Bool) (k f : Nat) : FK → Prop
  | .fld => Cls Z.K (Z.G k) ∧ NoAttr Z.K (Z.G k) (Z.FN f)
  | .prop g => Cls Z.K (Z.G k) ∧ (∃ p, PropOf Z.K (Z.G k) (Z.FN f) p (Z.G g)) ∧ has g = true
  | .meth g => Cls Z.K (Z.G k) ∧ Meth Z.K (Z.G k) (Z.FN f) (Z.G g) ∧ has g = true
  | .bad => True
structure TabOk (Z : Sta) (lv : Nat) (T : Tab) (fdO : Nat → FuncData) (psO : Nat → List Str) : Prop where
  fn : ∀ g, T.has g = true → Fn Z lv g (fdO g) (psO g) (T.run g)
  mem : ∀ k f, FKOk Z T.has k f (T.mem k f)
  arr : ∀ g n ks a, T.arr g n ks = some a → BindOk Z (fdO g) (psO g) n ks a
/-! ### instances -/
def clsOf (S : Hs) : PV → Option (Nat × List Nat × List PV)
  | .obj k ns xs => some (k, ns, xs)
  | .loc i => match getR S i with
    | some (.ins k ns xs) => some (k, ns, xs)
    | _ => none
  | _ => none
def lookN (f : Nat) : List Nat → List PV → Option PV
  | n :: ns, x :: xs => if n = f then some x else lookN f ns xs
  | _, _ => none
section
variable {Z : Sta} {W : WX} {σ : L2.St} {H H1 : Hp} {m m1 m2 : Mp} {X : Cx} {S : Hs} {x y : V} {a : Addr} {lv g k f : Nat} {T : Tab} {fdO : Nat → FuncData} {psO : Nat → List Str} {pins : List (Addr × Obj)} {s : Shared} {Q : VK}
theorem clsOf_ok (sr : SRel Z H m S) {v : PV} {ns : List Nat} {xs : List PV} (r : RV Z H m v x) (h : clsOf S v = some (k, ns, xs)) :
    ∃ a dx ys, x = .ref a ∧ H a = some (.ins (Z.G k) dx (zipF Z ns ys)) ∧ ns.length = ys.length ∧ RVs Z H m xs ys := by
  unfold clsOf at h
  split at h
  · cases h
    unfold RV at r
    obtain ⟨a, dx, ys, e, _, q, l, rr⟩ := r
    exact ⟨a, dx, ys, e, q, l, rr⟩
  · rename_i i
    split at h
    · rename_i e
      cases h
      unfold RV at r
      obtain ⟨a, ea, ex⟩ := r
      obtain ⟨b, eb, dx, ys, q, l, rr⟩ := sr.at_ e
      rw [ea] at eb
      cases eb
      exact ⟨a, dx, ys, ex, q, l, rr⟩
    · cases h
  · cases h
theorem lookN_ok : ∀ {ns : List Nat} {xs : List PV} {ys : List V} {v : PV}, RVs Z H m xs ys → lookN f ns xs = some v → ∃ y, (zipF Z ns ys).lookup (Z.FN f) = some y ∧ RV Z H m v y
  | [], xs, ys, v, _, e => by unfold lookN at e; cases e
  | n :: ns, [], ys, v, _, e => by unfold lookN at e; cases e
  | n :: ns, x :: xs, ys, v, r, e => by
    unfold RVs at r
    obtain ⟨y, t, rfl, r1, r2⟩ := r
    unfold lookN at e
    have ez : zipF Z (n :: ns) (y :: t) = (Z.FN n, y) :: zipF Z ns t := by rw [zipF]
    rw [ez, List.lookup_cons]
    split at e
    · rename_i c
      cases e
      subst c
      refine ⟨y, ?_, r1⟩
      rw [beq_self_eq_true]
    · rename_i c
      have : (Z.FN f == Z.FN n) = false := by
        rw [beq_eq_false_iff_ne]
        exact fun q => c (Z.inj _ _ q).symm
      rw [this]
      exact lookN_ok r2 e
theorem lookN_none : ∀ {ns : List Nat} {ys : List V}, f ∉ ns → (zipF Z ns ys).lookup (Z.FN f) = none
  | [], _, _ => by unfold zipF; rfl
  | _ :: _, [], _ => by unfold zipF; rfl
  | n :: ns, y :: ys, h => by
    have ez : zipF Z (n :: ns) (y :: ys) = (Z.FN n, y) :: zipF Z ns ys := by rw [zipF]
    rw [ez, List.lookup_cons]
    have : (Z.FN f == Z.FN n) = false := by
      rw [beq_eq_false_iff_ne]
      exact fun q => h (by rw [Z.inj _ _ q]; exact List.mem_cons_self)
    rw [this]
    exact lookN_none fun q => h (List.mem_cons_of_mem _ q)
/-- v.f -/
def attrV (T : Tab) (f : Nat) (v : PV) (S : Hs) : RE := match clsOf S v with
  | some (k, ns, xs) => match T.mem k f with
    | .fld => okO (lookN f ns xs) S
    | .prop g => match T.arr g 1 [] with
      | some a => isoC (T.run g) (a [v] []) S
      | none => .bad
    | _ => .bad
  | none => .bad
def attrE (T : Tab) (f : Nat) (e : Loc → Hs → RE) : Loc → Hs → RE := fun L S => (e L S).bind fun v S1 => attrV T f v S1
/-- no exceptions come out -/
def noX : RE → RE
  | .ok v S => .ok v S
  | _ => .bad
theorem attr_run {p : PV} {v : Value} {nm : Str} (TO : TabOk Z lv T fdO psO) (gd : Good Z lv X W) (hf : Z.FN f = nm) (I : Inv X pins σ H s) (rx : RelV x v) (sr : SRel Z H m S) (r : RV Z H m p x)
    (hp : PostE Z W σ H m Q (noX (attrV T f p S))) {b : Bool} : wpAny (model X.prog X.w) X.A (getAttr v nm b) (EP X pins σ Q) X.xe s := by
  subst hf
  unfold attrV at hp
  split at hp
  · rename_i k ns xs ec
    obtain ⟨a, dx, ys, rfl, ha, hl, rr⟩ := clsOf_ok sr r ec
    obtain rfl : v = Value.ref a := rx
    have tk := TO.mem k f
    split at hp
    · rename_i em
      rw [em] at tk
      cases el : lookN f ns xs with
      | none => rw [el] at hp; exact hp.elim
      | some w =>
        rw [el] at hp
        obtain ⟨y, ey, ry⟩ := lookN_ok rr el
        refine getattr_ok I ha (by rw [gd.K]; exact tk.1) (by rw [gd.K]; exact tk.2) ey fun u s' I' ru => ?_
        exact ⟨y, H, I', ru, hp H m y Gr.refl sr ry⟩
    · rename_i g em
      rw [em] at tk
      obtain ⟨hc, ⟨p', hpo⟩, hh⟩ := tk
      have F := TO.fn g hh
      split at hp
      · rename_i aa ea
        have hb := TO.arr g 1 [] aa ea
        obtain ⟨mA, O, _, _, _, _⟩ := ins_get I.hok ha
        obtain ⟨od, J, _⟩ := O.look
        obtain ⟨rest, hrec⟩ := hpo.rec_
        have I1 := I.tok (s.toks + 1)
        obtain ⟨ts, zs, b1, b2, b3, b4⟩ := hb { s with toks := s.toks + 1 } [.ref a] [] [.ref a] [] (by rw [← gd.K]; exact I1.kIn) rfl rfl (.cons rfl .nil) .nil
        have hcd : (PySem.W.clsIn X.K (Z.G k)).isSome = true := by
          obtain ⟨cd, hc', _⟩ := PySem.W.any_some hc.hd
          rw [gd.K, hc']
          rfl
        have hq : PostE Z (fun _ _ _ _ => False) σ H m Q (isoC (T.run g) (aa [p] []) S) := by
          cases e : isoC (T.run g) (aa [p] []) S with
          | ok v S1 => rw [e] at hp; exact hp
          | ex k v S1 => rw [e] at hp; exact hp.elim
          | bad => rw [e] at hp; exact hp.elim
        have hg := hc.get (Z.FN f)
        rw [← gd.K] at hg
        refine PySem.W.get_bind I.kIn J (PySem.W.plainGet_of hg).1 (PySem.W.findObj_data hcd (by rw [gd.K]; exact hpo.at_) (by rw [gd.K]; exact hpo.get) (by rw [gd.K]; exact hpo.tak)) (PySem.W.plainGet_of hg).2 ?_
        refine wpAny_call (PySem.W.prop_get (s := { s with toks := s.toks + 1 }) I.kIn (by rw [gd.K]; exact hrec) ?_)
        refine own_code gd F (gd.room.in1) rfl I1 b1 b2 (iso_sp (W := fun _ _ _ _ => False) sr (b4 H m [p] [] (RVs.cons r RVs.nil) RVs.nil) b3 hq fun _ _ _ h => h) (fun v H' u s' I' rv q => ?_) fun e s' c => ?_
        · show wpAny _ _ (handedOut u) _ _ _
          rw [PySem.W.handedOut_of (handed_of rv)]
          exact wpAny_pure ⟨v, H', I', rv, q⟩
        · obtain ⟨_, _, _, _, _, _, _, _, _, _, _, _, z⟩ := c
          exact z.elim
      · exact hp.elim
    · exact hp.elim
  · exact hp.elim
end
end MP
set_option maxRecDepth 100000
namespace MP
open PySem L2
section
variable {Z : Sta} {W : WX} {σ : L2.St} {H H1 H2 : Hp} {m m1 m2 : Mp} {X : Cx} {S S1 : Hs} {x y : V} {a : Addr} {lv g k f : Nat} {T : Tab} {fdO : Nat → FuncData} {psO : Nat → List Str} {pins : List (Addr × Obj)} {s : Shared} {Q : VK}
/-! ### attributes -/
def attrX (T : Tab) (f : Nat) (e : Loc → Hs → RE) : Loc → Hs → RE := fun L S => (e L S).bind fun v S1 => noX (attrV T f v S1)
theorem ok_attr {e : Expr} {nm : Str} {pos : Pos} {fe : Loc → Hs → RE} (TO : TabOk Z lv T fdO psO) (gd : Good Z lv X W) (hf : Z.FN f = nm) (he : PE X e (tE Z W fe))
    (hb : attributeBase e nm X.env (eval e X.env) = eval e X.env) : PE X (.Attribute e nm pos) (tE Z W (attrX T f fe)) := by
  refine ⟨fun pins s σ H Q I ⟨m, L, S, sr, hl, hp⟩ => ?_⟩
  have h1 : tE Z W fe σ H fun x H1 => ∃ m S p, SRel Z H1 m S ∧ RV Z H1 m p x ∧ PostE Z W σ H1 m Q (noX (attrV T f p S)) :=
    ⟨m, L, S, sr, hl, PostE.bind hp fun v S1 H1 m1 x g1 s1 r1 hp1 => ⟨m1, S1, v, s1, r1, hp1⟩⟩
  refine attr_of hb (thn (he.run pins s σ H _ I h1) fun u s1 ⟨x, H1, I1, rx, m1, S1, p, sr1, r1, hp1⟩ => ?_)
  exact attr_run TO gd hf I1 rx sr1 r1 hp1
/-! ### methods -/
def methE (T : Tab) (mN n : Nat) (ks : List Str) (iso : Bool) (fo : Loc → Hs → RE) (ga gk : Loc → Hs → RA) : Loc → Hs → RE := fun L S => (fo L S).bind fun v S1 => match clsOf S1 v with
  | some (k, ns, xs) => if mN ∈ ns then .bad else match T.mem k mN with
    | .meth g => match T.arr g (n + 1) ks with
      | some a => callE n ks.length ga gk (fun vs qs => useC iso (T.run g) (a (v :: vs) qs)) L S1
      | none => .bad
    | _ => .bad
  | none => .bad
theorem ok_meth {o : Expr} {nm : Str} {apos pos : Pos} {es : List Expr} {kws : List Keyword} {ks : List Str} {n : Nat} {iso : Bool} {fo : Loc → Hs → RE} {ga gk : Loc → Hs → RA} {pl : Sem Bool} (TO : TabOk Z lv T fdO psO) (gd : Good Z lv X W)
    (hf : Z.FN f = nm) (ho : PE X o (tE Z W fo)) (ha : ArgsOk Z X W es ga) (hkw : KwsOk Z X W kws ks gk)
    (ht : eval (.Call (.Attribute o nm apos) es kws pos) X.env = (do
      let ov ← eval o X.env
      standAt apos.atName
      let (f, first) ← holding [ov] (getMethod ov nm pl)
      callWith pos f first (backTo pos (starEach es X.env)) (backToKw pos (keywordEach kws X.env)))) :
    PE X (.Call (.Attribute o nm apos) es kws pos) (tE Z W (methE T f n ks iso fo ga gk)) := by
  subst hf
  refine ⟨fun pins s σ H Q I ⟨m, L, S, sr, hl, hp⟩ => ?_⟩
  refine PySem.W.methodCall_KW (pl := pl) (thn (ho.run pins s σ H (fun x H1 => ∃ m1 S1 v k ns xs g a, SRel Z H1 m1 S1 ∧ LRel Z H1 m1 L σ ∧ RV Z H1 m1 v x ∧ clsOf S1 v = some (k, ns, xs) ∧ f ∉ ns ∧ T.mem k f = .meth g ∧ T.arr g (n + 1) ks = some a ∧
      PostE Z W σ H1 m1 Q (callE n ks.length ga gk (fun vs qs => useC iso (T.run g) (a (v :: vs) qs)) L S1)) I ⟨m, L, S, sr, hl, PostE.bind hp fun v S1 H1 m1 x g1 s1 r1 hp1 => ?_⟩) fun u s1 ⟨x, H1, I1, rx, m1, S1, v, k, ns, xs, g, aa, sr1, hl1, r1, ec, en, em, ea, hp1⟩ => ?_) ht
  · split at hp1
    · rename_i k ns xs ec
      split at hp1
      · exact hp1.elim
      · rename_i en
        split at hp1
        · rename_i g em
          split at hp1
          · rename_i aa ea
            exact ⟨m1, S1, v, k, ns, xs, g, aa, s1, hl.grow g1, r1, ec, en, em, ea, hp1⟩
          · exact hp1.elim
        · exact hp1.elim
    · exact hp1.elim
  · obtain ⟨a, dx, ys, rfl, hA, hle, rr⟩ := clsOf_ok sr1 r1 ec
    obtain rfl : u = Value.ref a := rx
    have tk := TO.mem k f
    rw [em] at tk
    obtain ⟨hc, hm, hh⟩ := tk
    have F := TO.fn g hh
    have hb := TO.arr g (n + 1) ks aa ea
    refine getmeth_ok I1 hA (by rw [gd.K]; exact hc) (by rw [gd.K]; exact hm) (lookN_none en) ?_
    refine callWith_all (by rw [gd.K]; exact F.kp) ha hkw I1 sr1 hl1 hp1 fun us ws s2 xs2 zs H2 m2 S2 vs qs g2 I2 rx2 rz2 sr2 q1 q2 c1 c2 hp2 => ?_
    obtain ⟨ts, ys2, b1, b2, b3, b4⟩ := hb s2 (.ref a :: us) ws (.ref a :: xs2) zs (by rw [← gd.K]; exact I2.kIn) (by rw [List.length_cons, ← rx2.length, ← q1.len, c1]) (by rw [← rz2.length, ← q2.len]; exact c2) (.cons rfl rx2) rz2
    exact own_run gd F (gd.room.mono (Nat.le_succ _)) rfl I2 b1 b2 (use_sp sr2 (b4 H2 m2 (v :: vs) qs (RVs.cons (r1.grow g2) q1) q2) b3 hp2 fun _ _ _ h => h) fun v H' u s' I' rv q => ⟨v, H', I', rv, q⟩
/-! ### the making of instances -/
/-- another store beside this one -/
structure Beside (Z : Sta) (H : Hp) (m : Mp) (H2 : Hp) (m2 : Mp) : Prop where
  keep : ∀ b o, H b = some o → H2 b = some o ∧ b ∉ m2.l
  hid : m2.h = m.l ++ m.h
  new : ∀ b ∈ m2.l, H b = none
  tup : ∀ b xs, SqT Z.K H b xs → SqT Z.K H2 b xs
theorem Beside.back (c : Beside Z H m H2 m2) (g : Gr Z H2 m2 H1 m1) : Gr Z H m H1 m :=
  have k : ∀ b o, H b = some o → H1 b = some o := fun b o h => g.keep b o (c.keep b o h).2 (c.keep b o h).1
  ⟨⟨⟨[], rfl, fun _ h => nomatch h⟩, fun _ h => .inl h, fun b o _ _ h => k b o h, fun b o h => ⟨o, k b o h⟩, fun b xs h => g.g0.tup b xs (c.tup b xs h)⟩, fun b o _ h => k b o h, rfl⟩
theorem Beside.srel (c : Beside Z H m H2 m2) (g : Gr Z H2 m2 H1 m1) (s : SRel Z H m S) : SRel Z H1 m S :=
  ⟨paired_map s.cells fun c' a _ q => q.grow (c.back g) fun o h => g.keep a o (c.keep a o h).2 (c.keep a o h).1, s.nd, fun a h => let ⟨o, e⟩ := s.hid a h; ⟨o, g.keep a o (c.keep a o e).2 (c.keep a o e).1⟩⟩
theorem Beside.res {v w : PV} {n : Nat} (c : Beside Z H m H2 m2) (s : SRel Z H m S) (g : Gr Z H2 m2 H1 m1) (s1 : SRel Z H1 m1 S1) (r : RV Z H1 m1 v x) (e : freeze S1 n v = some w) : RV Z H1 m w x := by
  refine freeze_rv (m := m1) (fun i c' h => ?_) (fun a o _ hn => ?_) r e
  · obtain ⟨a, ea, rc⟩ := s1.at_ h
    refine ⟨a, ea, rc, ?_⟩
    obtain ⟨ms, em, hms⟩ := g.g0.suf
    have hm := getR_mem ea
    rw [em] at hm
    refine s.notin ?_
    rcases List.mem_append.mp hm with q | q
    · cases e2 : H a with
      | none => rfl
      | some o =>
        have := (c.keep a o e2).1
        rw [hms a q] at this
        cases this
    · exact c.new a q
  · have := hn.2
    rw [g.eqh, c.hid] at this
    exact notin_app.mp this
theorem Beside.exc {v w : PV} {n : Nat} {d : Option Addr} (c : Beside Z H m H2 m2) (s : SRel Z H m S) (g : Gr Z H2 m2 H1 m1) (s1 : SRel Z H1 m1 S1) (r : ExcAt Z H1 m1 v d) (e : freeze S1 n v = some w) : ExcAt Z H1 m w d := by
  obtain ⟨dx, x, rfl, hd, hr⟩ := r
  exact ⟨dx, x, rfl, hd, c.res s g s1 hr e⟩
/-- arguments over there -/
theorem Beside.args {vs ws : List PV} {xs : List V} {n : Nat} (c : Beside Z H m H2 m2) (r : RVs Z H m vs xs) (e : mapO (freeze [] n) vs = some ws) : RVs Z H2 m2 ws xs := by
  refine RVs.growV (m := m.apart) (H := H) ⟨⟨m2.l, by unfold Mp.apart; simp⟩, fun a o hn h => ⟨⟨(c.keep a o h).2, by rw [c.hid]; exact hn.2⟩, (c.keep a o h).1⟩, c.tup⟩ (args_apart r e)
theorem beside_made {C dx p : Addr} (hx : H p = none) (hd : H dx = none) (hne : dx ≠ p) : Beside Z H m (upd (upd H dx (.own p)) p (.ins C dx [])) ⟨[p], m.l ++ m.h⟩ := by
  have k : ∀ b o, H b = some o → upd (upd H dx (.own p)) p (.ins C dx []) b = some o ∧ b ≠ p := fun b o h => by
    have h1 : b ≠ p := ne_of_none h hx
    have h2 : b ≠ dx := ne_of_none h hd
    exact ⟨by rw [upd_ne h1, upd_ne h2]; exact h, h1⟩
  refine ⟨fun b o h => ⟨(k b o h).1, fun hm => (k b o h).2 (List.mem_singleton.mp hm)⟩, rfl, fun b hb => by rw [List.mem_singleton.mp hb]; exact hx, fun b xs q => ?_⟩
  rcases q with q | q
  · refine .inl ?_
    rcases q with q | ⟨o', q⟩
    · exact .inl (k b _ q).1
    · exact .inr ⟨o', (k b _ q).1⟩
  · exact .inr q
/-- an instance, made apart, then frozen; or in the store -/
def makeV (iso : Bool) (k : Nat) (f : List PV → Hs → RE) (a : List PV → List PV → List PV) (vs qs : List PV) (S : Hs) : RE := match iso with
  | true => match mapO (freeze [] dpF) vs, mapO (freeze [] dpF) qs with
    | some vs', some qs' => match f (a (.loc 0 :: vs') qs') [.ins k [] []] with
      | .ok .non S1 => match freeze S1 dpF (.loc 0) with
        | some w => .ok w S
        | none => .bad
      | .ex k v S1 => match freeze S1 dpF v with
        | some w => .ex k w S
        | none => .bad
      | _ => .bad
    | _, _ => .bad
  | false => match f (a (.loc S.length :: vs) qs) (.ins k [] [] :: S) with
    | .ok .non S1 => .ok (.loc S.length) S1
    | .ex k v S1 => .ex k v S1
    | _ => .bad
theorem gr_made {C dx p : Addr} (hx : H p = none) (hd : H dx = none) (hne : dx ≠ p) : Gr Z H m (upd (upd H dx (.own p)) p (.ins C dx [])) (m.push p) := by
  have B := beside_made (Z := Z) (m := m) (C := C) hx hd hne
  exact ⟨⟨⟨[p], rfl, fun a ha => by rw [List.mem_singleton.mp ha]; exact hx⟩, fun _ h => .inl h, fun b o _ _ h => (B.keep b o h).1, fun b o h => ⟨o, (B.keep b o h).1⟩, B.tup⟩, fun b o _ h => (B.keep b o h).1, rfl⟩
theorem make_run {iso : Bool} {ks : List Str} {n : Nat} {arr : List PV → List PV → List PV} {us ws : List Value} {xs zs : List V} {vs qs : List PV} (TO : TabOk Z lv T fdO psO) (gd : Good Z lv X W) (M : Mk Z.K (Z.G k) (Z.G g)) (hh : T.has g = true) (he : T.arr g (n + 1) ks = some arr)
    (I : Inv X pins σ H s) (rx : Vals xs us) (rz : Vals zs ws) (sr : SRel Z H m S) (r1 : RVs Z H m vs xs) (r2 : RVs Z H m qs zs) (c1 : vs.length = n) (c2 : qs.length = ks.length) (hp : PostE Z W σ H m Q (makeV iso k (T.run g) arr vs qs S)) :
    wpAny (model X.prog X.w) X.A (call (.ref (Z.G k)) us (ks.zip ws)) (EP X pins σ Q) X.xe s := by
  have F := TO.fn g hh
  have hb := TO.arr g (n + 1) ks arr he
  have hx := I.hok.fresh (Nat.le_succ s.heap.objs.size)
  have hd := I.hok.fresh (Nat.le_refl s.heap.objs.size)
  have hne := Nat.ne_of_lt (Nat.lt_succ_self s.heap.objs.size)
  have I2 := Inv.made (C := Z.G k) I
  obtain ⟨ts, ys, b1, b2, b3, b4⟩ := hb _ (.ref (s.heap.objs.size + 1) :: us) ws (.ref (s.heap.objs.size + 1) :: xs) zs (by rw [← gd.K]; exact I2.kIn) (by rw [List.length_cons, ← rx.length, ← r1.len, c1]) (by rw [← rz.length, ← r2.len]; exact c2) (.cons rfl rx) rz
  have hA : (X.A.under (.builtin "type.__call__" ⟨.ref (Z.G k) :: us, ks.zip ws⟩)).frames = X.A.frames := by
    first | rfl | (simp [Around.under, Code.envs, Code.isFrame, pushEnvs])
  have key : spF Z (psO g).length (T.run g) ys (upd (upd H s.heap.objs.size (.own (s.heap.objs.size + 1))) (s.heap.objs.size + 1) (.ins (Z.G k) s.heap.objs.size [])) (fun v H2 => v = .non ∧ Q (.ref (s.heap.objs.size + 1)) H2) (WE W σ) := by
    cases iso with
    | true =>
      have B := beside_made (Z := Z) (m := m) (C := Z.G k) hx hd hne
      unfold makeV at hp
      simp only at hp
      split at hp
      · rename_i vs' qs' e1 e2
        have sr2 : SRel Z (upd (upd H s.heap.objs.size (.own (s.heap.objs.size + 1))) (s.heap.objs.size + 1) (.ins (Z.G k) s.heap.objs.size [])) ⟨[s.heap.objs.size + 1], m.l ++ m.h⟩ [.ins k [] []] := by
          refine ⟨.cons ⟨s.heap.objs.size, [], ?_, rfl, RVs.nil⟩ .nil, by simp, fun a h => ?_⟩
          · rw [upd_same]; unfold zipF; rfl
          · rcases List.mem_append.mp h with q | q
            · obtain ⟨o, e⟩ := sr.tracked q; exact ⟨o, (B.keep a o e).1⟩
            · obtain ⟨o, e⟩ := sr.hid a q; exact ⟨o, (B.keep a o e).1⟩
        have r0 : RV Z (upd (upd H s.heap.objs.size (.own (s.heap.objs.size + 1))) (s.heap.objs.size + 1) (.ins (Z.G k) s.heap.objs.size [])) ⟨[s.heap.objs.size + 1], m.l ++ m.h⟩ (.loc 0) (.ref (s.heap.objs.size + 1)) := by
          unfold RV
          exact ⟨_, rfl, rfl⟩
        refine ⟨b3, _, _, _, sr2, b4 _ _ _ _ (RVs.cons r0 (B.args r1 e1)) (B.args r2 e2), ?_⟩
        split at hp
        · rename_i S1 ef
          rw [ef]
          split at hp
          · rename_i w ew
            intro H1 m1 x g1 s1 rr
            unfold RV at rr
            refine ⟨rr, hp H1 m _ (B.back g1) (B.srel g1 sr) (B.res sr g1 s1 (RV.grow g1 r0) ew)⟩
          · exact hp.elim
        · rename_i k' v S1 ef
          rw [ef]
          split at hp
          · rename_i w ew
            exact fun H1 m1 d g1 s1 rr => hp H1 m d (B.back g1) (B.srel g1 sr) (B.exc sr g1 s1 rr ew)
          · exact hp.elim
        · exact hp.elim
      · exact hp.elim
    | false =>
      have G1 := gr_made (Z := Z) (m := m) (C := Z.G k) hx hd hne
      have sr2 : SRel Z (upd (upd H s.heap.objs.size (.own (s.heap.objs.size + 1))) (s.heap.objs.size + 1) (.ins (Z.G k) s.heap.objs.size [])) (m.push (s.heap.objs.size + 1)) (.ins k [] [] :: S) := by
        refine ⟨.cons ⟨s.heap.objs.size, [], ?_, rfl, RVs.nil⟩ (paired_map sr.cells fun c a _ r => r.grow G1 fun o' e => ?_), List.nodup_cons.mpr ⟨(sr.notin hx).1, sr.nd⟩, fun a ha => G1.g0.there a _ (sr.hid a ha).choose_spec⟩
        · rw [upd_same]; unfold zipF; rfl
        · rw [upd_ne (ne_of_none e hx), upd_ne (ne_of_none e hd)]; exact e
      have r0 : RV Z (upd (upd H s.heap.objs.size (.own (s.heap.objs.size + 1))) (s.heap.objs.size + 1) (.ins (Z.G k) s.heap.objs.size [])) (m.push (s.heap.objs.size + 1)) (.loc S.length) (.ref (s.heap.objs.size + 1)) := by
        unfold RV
        exact ⟨_, by rw [sr.len]; exact getR_top, rfl⟩
      refine ⟨b3, _, _, _, sr2, b4 _ _ _ _ (RVs.cons r0 (r1.grow G1)) (r2.grow G1), ?_⟩
      unfold makeV at hp
      simp only at hp
      split at hp
      · rename_i S1 ef
        rw [ef]
        intro H1 m1 x g1 s1 rr
        unfold RV at rr
        exact ⟨rr, hp H1 m1 _ (G1.trans g1) s1 (RV.grow g1 r0)⟩
      · rename_i k' v S1 ef
        rw [ef]
        exact fun H1 m1 d g1 s1 rr => hp H1 m1 d (G1.trans g1) s1 rr
      · exact hp.elim
  refine wpAny_call (make_map (f := Z.G g) I.kIn (by rw [gd.K]; exact M.makes) (by rw [gd.K]; exact M.init) (by rw [gd.K]; exact beq_iff_eq.mp M.fn) ?_)
  refine own_code gd F (gd.room.make (Z.G k) us (ks.zip ws)) hA I2 b1 b2 key (fun v H' u s' I' rv q => ?_) fun e s' c => passAt gd.takes σ pins _ _ e s' I2 c
  obtain ⟨rfl, q⟩ := q
  exact ⟨rv, ⟨V.ref (s.heap.objs.size + 1), H', I', rfl, q⟩⟩
/-- C(e, .., k = v, ..), C an own class -/
theorem ok_make {es : List Expr} {kws : List Keyword} {ks : List Str} {nm : Str} {p pos : Pos} {ga gk : Loc → Hs → RA} {n : Nat} {iso : Bool} {arr : List PV → List PV → List PV} (TO : TabOk Z lv T fdO psO) (gd : Good Z lv X W) (M : Mk Z.K (Z.G k) (Z.G g)) (hh : T.has g = true) (hb : T.arr g (n + 1) ks = some arr)
    (hg : Gl X nm) (hm : Z.mg nm = some (.ref (Z.G k))) (ha : ArgsOk Z X W es ga) (hkw : KwsOk Z X W kws ks gk) (hdb : (nm == ("__debug__" : Str)) = false) :
    PE X (.Call (.Name nm p) es kws pos) (tE Z W (callE n ks.length ga gk fun vs qs => makeV iso k (T.run g) arr vs qs)) := by
  refine ⟨fun pins s σ H Q I ⟨m, L, S, sr, hl, hp⟩ => ?_⟩
  refine PySem.wpAny_Call_Name_kw (ld_glob I hg (by rw [gd.mg]; exact hm) ?_ hdb)
  refine callWith_all (by rw [gd.K]; exact M.kp) ha hkw I sr hl hp fun us ws s2 xs zs H2 m2 S2 vs qs g2 I2 rx rz sr2 r1 r2 c1 c2 hp2 => ?_
  exact make_run TO gd M hh hb I2 rx rz sr2 r1 r2 c1 c2 hp2
end
end MP
set_option maxRecDepth 100000
namespace MP
open PySem PySem.W PySem.Calls PyProof.Rows
/-! ### operators of own classes -/
section
variable {prog : Program} {w : World} {M : Model} {A : Around} {E : Value → Shared → Prop} {s : Shared} {K : Frag} {x C f : Addr} {ox : Obj} {od : Option Obj} {nm T : String} {Q : Value → Shared → Prop} {b : Value}
def Took (Q : Value → Shared → Prop) (r : Option Value) (s' : Shared) : Prop := ∃ v, r = some v ∧ Q v s'
theorem o1_same (X : K.In s.heap) (I : InstAt s.heap x ox C od) (hb : Looks (model prog w) s.heap (typeOf b) (.ref C)) (hc : selfFirst K C = true) (hs : findIn K (.ref C) (PySem.dunder nm) = some (some (.ref f))) (hf : isFn K (.ref f) = true)
    (h : wpAny (model prog w) A (call (.ref f) [.ref x, b]) (PySem.W.CmpBack Q) E s) : wpAny (model prog w) A (binaryOp1 nm (.ref x) b) (Took Q) E s := by
  obtain ⟨cd, rest, hcd, hm⟩ := ksp_first hc
  have one := ksp_try X I hs hf h
  obtain ⟨hh, g, d, tt, os⟩ := s
  have L1 : Looks (model prog w) hh (typeOf (.ref x)) (.ref C) := I.type
  have L2 : Looks (model prog w) hh (typeOf b) (.ref C) := hb
  have L3 : Looks (model prog w) hh (fillsNumberSlot (.ref C) nm) true := fills_K X hcd hm hs
  unfold binaryOp1
  refine wpAny_bind (L1.at (wpAny_bind (L2.at (wpAny_bind (L3.at ?_)))))
  simp only [beq_self_eq_true, if_true]
  ksp_lk
  refine wpAny_mono one (fun r s' hr' => ?_) fun _ _ e => e
  obtain ⟨v, rfl, hq⟩ := hr'
  ksp_lk
  exact ⟨v, rfl, hq⟩
theorem o1_T {fo ro rc : Option Value} (X : K.In s.heap) (I : InstAt s.heap x ox C od) (hb : Looks (model prog w) s.heap (typeOf b) (.type T)) (hc : selfFirst K C = true)
    (hs : findIn K (.ref C) (PySem.dunder nm) = some (some (.ref f))) (hf : isFn K (.ref f) = true) (hr : findIn K (.ref C) (dunderR nm) = some rc) (hp : rc = none ∨ ∃ g : Addr, rc = some (.ref g))
    (h1 : findIn K (.type T) (PySem.dunder nm) = some fo) (h2 : findIn K (.type T) (dunderR nm) = some ro) (hsub : subIn K (.type T) (.ref C) = some false)
    (h : wpAny (model prog w) A (call (.ref f) [.ref x, b]) (PySem.W.CmpBack Q) E s) : wpAny (model prog w) A (binaryOp1 nm (.ref x) b) (Took Q) E s := by
  obtain ⟨cd, rest, hcd, hm⟩ := ksp_first hc
  have one := ksp_try X I hs hf h
  obtain ⟨hh, g, d, tt, os⟩ := s
  have L1 : Looks (model prog w) hh (typeOf (.ref x)) (.ref C) := I.type
  have L2 : Looks (model prog w) hh (typeOf b) (.type T) := hb
  have L3 : Looks (model prog w) hh (fillsNumberSlot (.ref C) nm) true := fills_K X hcd hm hs
  have L4 : Looks (model prog w) hh (fillsNumberSlot (.type T) nm) ((fo.isSome && !isSeqSlot fo) || (ro.isSome && !isSeqSlot ro)) := ksp_fillsT X h1 h2
  have L5 : Looks (model prog w) hh (isSubtype (.type T) (.ref C)) false := looks_subIn X hsub
  have L6 : Looks (model prog w) hh (numberSlotInPython (.ref C) nm) true := ksp_inPy X hs hr hp
  have L7 : Looks (model prog w) hh (numberSlotInPython (.type T) nm) false := Looks.of_pure rfl
  have L8 : Looks (model prog w) hh (typeLookup (.type T) (dunderR nm)) ro := looks_findIn X h2
  generalize ((fo.isSome && !isSeqSlot fo) || (ro.isSome && !isSeqSlot ro)) = right at L4
  have hne : (Value.ref C == Value.type T) = false := Bool.eq_false_iff.mpr fun q => by cases beq_iff_eq.mp q
  unfold binaryOp1
  refine wpAny_bind (L1.at (wpAny_bind (L2.at (wpAny_bind (L3.at ?_)))))
  simp only [hne, Bool.false_eq_true, if_false]
  cases right with
  | false =>
    ksp_lk
    refine wpAny_mono one (fun r s' hr' => ?_) fun _ _ e => e
    obtain ⟨v, rfl, hq⟩ := hr'
    ksp_lk
    exact ⟨v, rfl, hq⟩
  | true =>
    ksp_lk
    refine wpAny_mono one (fun r s' hr' => ?_) fun _ _ e => e
    obtain ⟨v, rfl, hq⟩ := hr'
    ksp_lk
    exact ⟨v, rfl, hq⟩
/-- the reflected one: the left operand's kind has no such operator -/
theorem o1_R {rfv : Value} {a : Value} (X : K.In s.heap) (I : InstAt s.heap x ox C od) (ha : Looks (model prog w) s.heap (typeOf a) (.type T)) (hc : selfFirst K C = true)
    (hs : findIn K (.ref C) (dunderR nm) = some (some (.ref f))) (hd : findIn K (.ref C) (PySem.dunder nm) = some (some rfv)) (how : ownNameWrapper rfv (PySem.dunder nm) = false) (hf : isFn K (.ref f) = true)
    (h1 : findIn K (.type T) (PySem.dunder nm) = some none) (h2 : findIn K (.type T) (dunderR nm) = some none)
    (h : wpAny (model prog w) A (call (.ref f) [.ref x, a]) (PySem.W.CmpBack Q) E s) : wpAny (model prog w) A (binaryOp1 nm a (.ref x)) (Took Q) E s := by
  obtain ⟨cd, rest, hcd, hm⟩ := ksp_first hc
  have one := ksp_try X I hs hf h
  obtain ⟨hh, g, d, tt, os⟩ := s
  have L1 : Looks (model prog w) hh (typeOf (.ref x)) (.ref C) := I.type
  have L2 : Looks (model prog w) hh (typeOf a) (.type T) := ha
  have L4 : Looks (model prog w) hh (fillsNumberSlot (.type T) nm) false := ksp_fillsT (fo := none) (ro := none) X h1 h2
  have L3 : Looks (model prog w) hh (fillsNumberSlot (.ref C) nm) true := by
    intro A Q E s k q
    unfold fillsNumberSlot
    refine wpAny_bind ((looks_clsIn X hcd).andThen (f := fun cd => pure cd.mro) .now A _ E s k ?_)
    rw [hm, List.anyM_cons]
    refine wpAny_bind ?_
    show wpAny _ A (List.anyM _ [PySem.dunder nm, dunderR nm]) _ _ _
    rw [List.anyM_cons]
    refine wpAny_bind (wpAny_bind (looks_findIn X hd A _ E s k ?_))
    dsimp only
    rw [how, if_pos (show (!false) = true from rfl)]
    refine wpAny_pure ?_
    rw [if_pos rfl]
    refine wpAny_pure ?_
    rw [if_pos rfl]
    exact wpAny_pure q
  have hne : (Value.type T == Value.ref C) = false := Bool.eq_false_iff.mpr fun q => by cases beq_iff_eq.mp q
  unfold binaryOp1
  refine wpAny_bind (L2.at (wpAny_bind (L1.at (wpAny_bind (L4.at ?_)))))
  simp only [hne, Bool.false_eq_true, if_false]
  ksp_lk
  refine wpAny_mono one (fun r s' hr' => ?_) fun _ _ e => e
  obtain ⟨v, rfl, hq⟩ := hr'
  ksp_lk
  exact ⟨v, rfl, hq⟩
theorem bin_of1 {op : Operator} {a : Value} (h : wpAny (model prog w) A (binaryOp1 op.info.2 a b) (Took Q) E s) : wpAny (model prog w) A (binaryOp op a b) Q E s := by
  rcases hi : op.info with ⟨sym, nm'⟩
  rw [hi] at h
  simp only [binaryOp, hi]
  refine wpAny_holding (wpAny_bind (wpAny_mono h (fun r s' hr => ?_) fun _ _ e => e))
  obtain ⟨v, rfl, hq⟩ := hr
  exact wpAny_pure hq
def noInp (K : Frag) (C : Addr) (i : Str) : Bool := match clsIn K C with
  | some cd => cd.mro.all fun c => decide (findIn K c i = some none)
  | none => false
theorem anyM_no {h : Heap} {i : Str} {p : Value → Sem Bool} : ∀ {l : List Value}, (∀ c ∈ l, Looks M h (p c) false) → Looks M h (l.anyM p) false
  | [], _ => .now
  | c :: l, q => by
    rw [List.anyM_cons]
    exact (q c List.mem_cons_self).andThen (anyM_no (i := i) fun c hc => q c (List.mem_cons_of_mem _ hc))
theorem inp_of1 {op : Operator} (X : K.In s.heap) (I : InstAt s.heap x ox C od) (hn : noInp K C (dunderI op.info.2) = true) (h : wpAny (model prog w) A (binaryOp1 op.info.2 (.ref x) b) (Took Q) E s) : wpAny (model prog w) A (inplaceOp op (.ref x) b) Q E s := by
  have L1 : Looks (model prog w) s.heap (typeOf (.ref x)) (.ref C) := I.type
  have L2 : Looks (model prog w) s.heap (fillsInplaceSlot (.ref C) op.info.2 (op == .Add)) false := by
    unfold noInp at hn
    cases hc : clsIn K C with
    | none => rw [hc] at hn; cases hn
    | some cd =>
      rw [hc] at hn
      unfold fillsInplaceSlot
      refine Looks.andThen (a := cd.mro) ((looks_clsIn X hc).andThen (f := fun cd => pure cd.mro) .now) ?_
      refine anyM_no (i := dunderI op.info.2) fun c hm => ?_
      have e := of_decide_eq_true (List.all_eq_true.mp hn c hm)
      exact (looks_findIn X e).andThen .now
  unfold inplaceOp
  refine wpAny_holding (wpAny_bind (L1.here (wpAny_bind (L2.here ?_))))
  rw [if_neg Bool.false_ne_true]
  refine wpAny_bind (wpAny_mono h (fun r s' hr => ?_) fun _ _ e => e)
  obtain ⟨v, rfl, hq⟩ := hr
  exact wpAny_pure hq
end
/-! ### an int on the left of an own one -/
section
variable {prog : Program} {w : World} {M : Model} {A : Around} {E : Value → Shared → Prop} {s : Shared} {K : Frag} {x C f : Addr} {ox : Obj} {od : Option Obj} {nm : String} {Q : Value → Shared → Prop} {i : Int} {t : Tok}
theorem no_int {nm' : String} {id : String} {g : Int → Int → Sem Fin} {B : Builtin} {R : Option Value → Shared → Prop} (slot : Slot "int" (dunder nm) id) (entry : entryFor table id = some B) (hB : B = Builtin.Int.intBinary nm' g) (args : ∀ a b, argsOk id ⟨[a, b], []⟩)
    (hx : s.heap.get? x = some ox) (hd : ox.data = .plain) (h : R none s) : wpAny (model prog w) A (tryMethod (.int i t) (dunder nm) (.ref x)) R E s := by
  refine wpAny_tryMethod_declines (typeIs_int s i t) slot (wpAny_call_entry slot (typeIs_int s i t) entry ?_ (args _ _))
  rw [hB]
  unfold Builtin.Int.intBinary
  refine wpAny_bind (wpAny_of_eq (a := ((Value.int i t : Value), [Value.ref x])) (by first | rfl | (simp only [slotArgs]; rfl)) ?_)
  refine wpAny_bind (wpAny_of_eq (a := i) rfl ?_)
  refine wpAny_bind ?_
  show wpAny _ _ (asInt? (.ref x)) _ _ _
  unfold asInt?
  refine wpAny_bind (wpAny_load hx ?_)
  rw [hd]
  refine wpAny_pure ?_
  exact wpAny_bind (wpAny_rule (wpAny_pure ⟨_, rfl, rfl, h⟩))
/-- int's own operator lets an instance pass -/
structure IntNo (nm : String) : Prop where
  fills : fillsNumberSlot (.type "int") nm = pure true
  no : ∀ {prog : Program} {w : World} {A : Around} {E : Value → Shared → Prop} {s : Shared} {x : Addr} {ox : Obj} {R : Option Value → Shared → Prop} {i : Int} {t : Tok}, s.heap.get? x = some ox → ox.data = .plain → R none s →
    wpAny (model prog w) A (tryMethod (.int i t) (dunder nm) (.ref x)) R E s
theorem intNo_add : IntNo "add" := by
  refine ⟨F.fills_int_add, ?_⟩
  intro prog w A E s x ox R i t a b c
  have sl : Slot "int" (dunder "add") "int.__add__" := F.slot_int_add
  have en : entryFor table "int.__add__" = some Builtin.«int.__add__» := F.entry_int_add
  exact no_int (nm := "add") (id := "int.__add__") (B := Builtin.«int.__add__») sl en (by unfold Builtin.«int.__add__»; exact rfl) F.args_int_add_2 a b c
theorem intNo_sub : IntNo "sub" := by
  refine ⟨F.fills_int_sub, ?_⟩
  intro prog w A E s x ox R i t a b c
  have sl : Slot "int" (dunder "sub") "int.__sub__" := F.slot_int_sub
  have en : entryFor table "int.__sub__" = some Builtin.«int.__sub__» := F.entry_int_sub
  exact no_int (nm := "sub") (id := "int.__sub__") (B := Builtin.«int.__sub__») sl en (by unfold Builtin.«int.__sub__»; exact rfl) F.args_int_sub_2 a b c
theorem intNo_mul : IntNo "mul" := by
  refine ⟨F.fills_int_mul, ?_⟩
  intro prog w A E s x ox R i t a b c
  have sl : Slot "int" (dunder "mul") "int.__mul__" := F.slot_int_mul
  have en : entryFor table "int.__mul__" = some Builtin.«int.__mul__» := F.entry_int_mul
  exact no_int (nm := "mul") (id := "int.__mul__") (B := Builtin.«int.__mul__») sl en (by unfold Builtin.«int.__mul__»; exact rfl) F.args_int_mul_2 a b c
theorem intNo_and : IntNo "and" := by
  refine ⟨F.fills_int_and, ?_⟩
  intro prog w A E s x ox R i t a b c
  have sl : Slot "int" (dunder "and") "int.__and__" := F.slot_int_and
  have en : entryFor table "int.__and__" = some Builtin.«int.__and__» := F.entry_int_and
  exact no_int (nm := "and") (id := "int.__and__") (B := Builtin.«int.__and__») sl en (by unfold Builtin.«int.__and__»; exact rfl) F.args_int_and_2 a b c
theorem intNo_or : IntNo "or" := by
  refine ⟨F.fills_int_or, ?_⟩
  intro prog w A E s x ox R i t a b c
  have sl : Slot "int" (dunder "or") "int.__or__" := F.slot_int_or
  have en : entryFor table "int.__or__" = some Builtin.«int.__or__» := F.entry_int_or
  exact no_int (nm := "or") (id := "int.__or__") (B := Builtin.«int.__or__») sl en (by unfold Builtin.«int.__or__»; exact rfl) F.args_int_or_2 a b c
theorem intNo_xor : IntNo "xor" := by
  refine ⟨F.fills_int_xor, ?_⟩
  intro prog w A E s x ox R i t a b c
  have sl : Slot "int" (dunder "xor") "int.__xor__" := F.slot_int_xor
  have en : entryFor table "int.__xor__" = some Builtin.«int.__xor__» := F.entry_int_xor
  exact no_int (nm := "xor") (id := "int.__xor__") (B := Builtin.«int.__xor__») sl en (by unfold Builtin.«int.__xor__»; exact rfl) F.args_int_xor_2 a b c
/-- an int on the left, the own class has the reflected one -/
theorem o1_RI {rfv : Value} (N : IntNo nm) (X : K.In s.heap) (I : InstAt s.heap x ox C od) (hp : ox.data = .plain) (hc : selfFirst K C = true)
    (hs : findIn K (.ref C) (dunderR nm) = some (some (.ref f))) (hd : findIn K (.ref C) (PySem.dunder nm) = some (some rfv)) (how : ownNameWrapper rfv (PySem.dunder nm) = false) (hf : isFn K (.ref f) = true)
    (hsub : subIn K (.ref C) (.type "int") = some false)
    (h : wpAny (model prog w) A (call (.ref f) [.ref x, .int i t]) (PySem.W.CmpBack Q) E s) : wpAny (model prog w) A (binaryOp1 nm (.int i t) (.ref x)) (Took Q) E s := by
  obtain ⟨cd, rest, hcd, hm⟩ := ksp_first hc
  have one := ksp_try X I hs hf h
  have hno : ∀ {R : Option Value → Shared → Prop}, R none s → wpAny (model prog w) A (tryMethod (.int i t) (dunder nm) (.ref x)) R E s := fun h => N.no I.1 hp h
  obtain ⟨hh, g, d, tt, os⟩ := s
  have L1 : Looks (model prog w) hh (typeOf (.ref x)) (.ref C) := I.type
  have L2 : Looks (model prog w) hh (typeOf (.int i t)) (.type "int") := .of_pure rfl
  have L3 : Looks (model prog w) hh (fillsNumberSlot (.ref C) nm) true := by
    intro A Q E s k q
    unfold fillsNumberSlot
    refine wpAny_bind ((looks_clsIn X hcd).andThen (f := fun cd => pure cd.mro) .now A _ E s k ?_)
    rw [hm, List.anyM_cons]
    refine wpAny_bind ?_
    show wpAny _ A (List.anyM _ [PySem.dunder nm, dunderR nm]) _ _ _
    rw [List.anyM_cons]
    refine wpAny_bind (wpAny_bind (looks_findIn X hd A _ E s k ?_))
    dsimp only
    rw [how, if_pos (show (!false) = true from rfl)]
    refine wpAny_pure ?_
    rw [if_pos rfl]
    refine wpAny_pure ?_
    rw [if_pos rfl]
    exact wpAny_pure q
  have L5 : Looks (model prog w) hh (isSubtype (.ref C) (.type "int")) false := looks_subIn X hsub
  have hne : (Value.type "int" == Value.ref C) = false := Bool.eq_false_iff.mpr fun q => by cases beq_iff_eq.mp q
  unfold binaryOp1
  refine wpAny_bind (L2.at (wpAny_bind (L1.at (wpAny_bind (wpAny_of_eq N.fills ?_)))))
  simp only [hne, Bool.false_eq_true, if_false]
  refine wpAny_bind (L3.at ?_)
  simp only [Bool.and_self, if_true]
  refine wpAny_bind (L5.at ?_)
  have hpy : numberSlotInPython (.type "int") nm = pure false := rfl
  simp only [Bool.false_eq_true, if_false, pure_bind, Bool.not_false, Bool.and_self, if_true, hpy]
  refine wpAny_bind (hno ?_)
  simp only [Bool.false_eq_true, if_false, pure_bind, Bool.not_false, Bool.and_self, if_true]
  refine wpAny_bind (wpAny_mono one (fun r s' hr' => ?_) fun _ _ e => e)
  obtain ⟨v, rfl, hq⟩ := hr'
  exact wpAny_bind (wpAny_rule (wpAny_pure ⟨v, rfl, hq⟩))
end
end MP
set_option maxRecDepth 100000
namespace MP
open PySem L2
/-! ### special methods of own classes -/
structure OpT where
  f : Nat
  r : Nat
  ks : List Nat
  rs : List Nat
  ri : List Nat
def ownC (T : Tab) (k f : Nat) (args : List PV) (S : Hs) : RE := match T.mem k f with
  | .meth g => match T.arr g args.length [] with
    | some a => isoC (T.run g) (a args []) S
    | none => .bad
  | _ => .bad
/-- what of an own class an operator asks -/
structure OwnOp (Z : Sta) (op : Operator) (k : Nat) : Prop where
  first : PySem.W.selfFirst Z.K (Z.G k) = true
  rc : ∃ rc, PySem.W.findIn Z.K (.ref (Z.G k)) (dunderR op.info.2) = some rc ∧ (rc = none ∨ ∃ g : Addr, rc = some (.ref g))
  str : (∃ fo, PySem.W.findIn Z.K (.type "str") (dunder op.info.2) = some fo) ∧ (∃ ro, PySem.W.findIn Z.K (.type "str") (dunderR op.info.2) = some ro) ∧ PySem.W.subIn Z.K (.type "str") (.ref (Z.G k)) = some false
  int : (∃ fo, PySem.W.findIn Z.K (.type "int") (dunder op.info.2) = some fo) ∧ (∃ ro, PySem.W.findIn Z.K (.type "int") (dunderR op.info.2) = some ro) ∧ PySem.W.subIn Z.K (.type "int") (.ref (Z.G k)) = some false
  inp : noInp Z.K (Z.G k) (PySem.dunderI op.info.2) = true
structure OwnRef (Z : Sta) (op : Operator) (k : Nat) : Prop where
  first : PySem.W.selfFirst Z.K (Z.G k) = true
  dn : ∃ rfv, PySem.W.findIn Z.K (.ref (Z.G k)) (dunder op.info.2) = some (some rfv) ∧ ownNameWrapper rfv (dunder op.info.2) = false
  s1 : PySem.W.findIn Z.K (.type "str") (dunder op.info.2) = some none
  s2 : PySem.W.findIn Z.K (.type "str") (dunderR op.info.2) = some none
structure OwnRefI (Z : Sta) (op : Operator) (k : Nat) : Prop where
  first : PySem.W.selfFirst Z.K (Z.G k) = true
  dn : ∃ rfv, PySem.W.findIn Z.K (.ref (Z.G k)) (dunder op.info.2) = some (some rfv) ∧ ownNameWrapper rfv (dunder op.info.2) = false
  sub : PySem.W.subIn Z.K (.ref (Z.G k)) (.type "int") = some false
structure OpTOk (Z : Sta) (op : Operator) (o : OpT) : Prop where
  nm : Z.FN o.f = dunder op.info.2
  nr : Z.FN o.r = dunderR op.info.2
  ks : ∀ k ∈ o.ks, OwnOp Z op k
  rs : ∀ k ∈ o.rs, OwnRef Z op k
  ri : ∀ k ∈ o.ri, OwnRefI Z op k ∧ IntNo op.info.2
def simp2 : PV → Bool
  | .str _ => true
  | .int _ => true
  | _ => false
def own2 (T : Tab) (o : OpT) (p q : PV) (S : Hs) : RE := match clsOf S p, clsOf S q with
  | none, none => .bad
  | some (k, _, _), some (k2, _, _) => if k = k2 ∧ k ∈ o.ks then ownC T k o.f [p, q] S else .bad
  | some (k, _, _), none => if k ∈ o.ks ∧ simp2 q = true then ownC T k o.f [p, q] S else .bad
  | none, some (k2, _, _) => match p with
    | .str _ => if k2 ∈ o.rs then ownC T k2 o.r [q, p] S else .bad
    | .int _ => if k2 ∈ o.ri then ownC T k2 o.r [q, p] S else .bad
    | _ => .bad
def binD (T : Tab) (o : OpT) (b : PV → PV → Hs → RE) (p q : PV) (S : Hs) : RE := if (clsOf S p).isNone && (clsOf S q).isNone then b p q S else own2 T o p q S
def inpD (T : Tab) (o : OpT) (b : PV → PV → Hs → RE) (p q : PV) (S : Hs) : RE := if (clsOf S p).isNone then b p q S else own2 T o p q S
section
variable {Z : Sta} {W : WX} {σ : L2.St} {H H1 : Hp} {m m1 m2 : Mp} {X : Cx} {S : Hs} {x y : V} {a : Addr} {lv g k f : Nat} {T : Tab} {fdO : Nat → FuncData} {psO : Nat → List Str} {pins : List (Addr × Obj)} {s : Shared} {Q : VK}
theorem ownC_ok {args : List PV} {xs : List V} {us : List Value} (TO : TabOk Z lv T fdO psO) (gd : Good Z lv X W) (I : Inv X pins σ H s) (sr : SRel Z H m S) (ra : RVs Z H m args xs) (rv : Vals xs us) (hp : PostE Z W σ H m Q (ownC T k f args S)) :
    ∃ g, Cls Z.K (Z.G k) ∧ PySem.W.findIn Z.K (.ref (Z.G k)) (Z.FN f) = some (some (.ref (Z.G g))) ∧ PySem.W.isFn Z.K (.ref (Z.G g)) = true ∧
      ∀ (A : Around) (R : Value → Shared → Prop), Room lv A → A.frames = X.A.frames → (∀ v H' u s', Inv X pins σ H' s' → RelV v u → Q v H' → R u s') → wpAny (model X.prog X.w) A (call (.ref (Z.G g)) us) R X.xe s := by
  unfold ownC at hp
  split at hp
  · rename_i g em
    have tk := TO.mem k f
    rw [em] at tk
    obtain ⟨hc, hm, hh⟩ := tk
    split at hp
    · rename_i aa ea
      have hb := TO.arr g args.length [] aa ea
      have F := TO.fn g hh
      refine ⟨g, hc, hm.at_, hm.fn, fun A R hr hA hR => ?_⟩
      obtain ⟨ts, ys, b1, b2, b3, b4⟩ := hb s us [] xs [] (by rw [← gd.K]; exact I.kIn) (by rw [← rv.length, ← ra.len]) rfl rv .nil
      exact own_run gd F hr hA I b1 b2 (iso_sp sr (b4 H m args [] ra RVs.nil) b3 hp fun _ _ _ h => h) hR
    · exact hp.elim
  · exact hp.elim
theorem ni_of {x : V} {u : Value} (r : RelV x u) {R : Value → Shared → Prop} {s' : Shared} (h : R u s') : PySem.W.CmpBack R u s' := by
  cases x with
  | ref a => cases r; exact h
  | non => cases r; exact h
  | bl b => cases r; exact h
  | int i => obtain ⟨t, rfl⟩ := r; exact h
  | str i => obtain ⟨t, rfl⟩ := r; exact h
  | byt i => obtain ⟨t, rfl⟩ := r; exact h
  | flt i => obtain ⟨t, rfl⟩ := r; exact h
  | ty i => cases r; exact h
/-- the first operator step, of own classes -/
theorem bin1_ok {op : Operator} {o : OpT} {p q : PV} {v u : Value} (TO : TabOk Z lv T fdO psO) (gd : Good Z lv X W) (O : OpTOk Z op o) (I : Inv X pins σ H s) (rx : RelV x v) (ry : RelV y u) (sr : SRel Z H m S) (rp : RV Z H m p x) (rq : RV Z H m q y)
    (hp : PostE Z W σ H m Q (own2 T o p q S)) :
    wpAny (model X.prog X.w) X.A (binaryOp1 op.info.2 v u) (Took (EP X pins σ Q)) X.xe s ∧ ∀ k ns xs, clsOf S p = some (k, ns, xs) → k ∈ o.ks := by
  unfold own2 at hp
  cases ep : clsOf S p with
  | none =>
    rw [ep] at hp
    refine ⟨?_, fun k ns xs e => nomatch e⟩
    cases eq : clsOf S q with
    | none => rw [eq] at hp; exact hp.elim
    | some kk =>
      obtain ⟨k2, ns2, xs2⟩ := kk
      rw [eq] at hp
      simp only at hp
      cases p with
      | str st =>
        simp only at hp
        split at hp
        case isFalse => exact hp.elim
        rename_i hk
        have W1 := O.rs k2 hk
        obtain ⟨b, dy, ys, rfl, hB, hl, rr⟩ := clsOf_ok sr rq eq
        obtain rfl : u = Value.ref b := ry
        obtain ⟨rfl, _⟩ := rv_str rp
        obtain ⟨tk, rfl⟩ := rx
        obtain ⟨g, hc, hm, hf, call⟩ := ownC_ok TO gd I sr (RVs.cons rq (RVs.cons rp RVs.nil)) (.cons rfl (.cons ⟨tk, rfl⟩ .nil)) hp
        obtain ⟨mA, J, _⟩ := ins_get I.hok hB
        obtain ⟨od, J, _⟩ := J.look
        obtain ⟨rfv, d1, d2⟩ := W1.dn
        have kI := I.kIn
        rw [gd.K] at kI
        rw [O.nr] at hm
        exact o1_R kI J (.of_pure rfl) W1.first hm d1 d2 hf W1.s1 W1.s2 (call X.A _ (gd.room.mono (Nat.le_succ _)) rfl fun v H' u s' I' rv q => ni_of rv ⟨v, H', I', rv, q⟩)
      | int ii =>
        simp only at hp
        split at hp
        case isFalse => exact hp.elim
        rename_i hk
        have W1 := (O.ri k2 hk).1
        obtain ⟨b, dy, ys, rfl, hB, hl, rr⟩ := clsOf_ok sr rq eq
        obtain rfl : u = Value.ref b := ry
        cases rv_int rp
        obtain ⟨tk, rfl⟩ := rx
        obtain ⟨g, hc, hm, hf, call⟩ := ownC_ok TO gd I sr (RVs.cons rq (RVs.cons rp RVs.nil)) (.cons rfl (.cons ⟨tk, rfl⟩ .nil)) hp
        obtain ⟨mA, J, _⟩ := ins_get I.hok hB
        obtain ⟨od, J, _⟩ := J.look
        obtain ⟨rfv, d1, d2⟩ := W1.dn
        have kI := I.kIn
        rw [gd.K] at kI
        rw [O.nr] at hm
        exact o1_RI (O.ri k2 hk).2 kI J rfl W1.first hm d1 d2 hf W1.sub (call X.A _ (gd.room.mono (Nat.le_succ _)) rfl fun v H' u s' I' rv q => ni_of rv ⟨v, H', I', rv, q⟩)
      | _ => exact hp.elim
  | some kk =>
    obtain ⟨k, ns, xs⟩ := kk
    rw [ep] at hp
    obtain ⟨a, dx, ys, rfl, hA, hl, rr⟩ := clsOf_ok sr rp ep
    obtain rfl : v = Value.ref a := rx
    obtain ⟨mA, J, _⟩ := ins_get I.hok hA
    obtain ⟨od, J, _⟩ := J.look
    have kI := I.kIn
    rw [gd.K] at kI
    cases eq : clsOf S q with
    | none =>
      rw [eq] at hp
      simp only at hp
      split at hp
      case isFalse => exact hp.elim
      rename_i hk
      have W1 := O.ks k hk.1
      refine ⟨?_, fun k' ns xs e => by cases e; exact hk.1⟩
      obtain ⟨g, hc, hm, hf, call⟩ := ownC_ok TO gd I sr (RVs.cons rp (RVs.cons rq RVs.nil)) (.cons rfl (.cons ry .nil)) hp
      rw [O.nm] at hm
      obtain ⟨rc, rc1, rc2⟩ := W1.rc
      have fin := call X.A _ (gd.room.mono (Nat.le_succ _)) rfl fun v H' u s' I' rv q => ni_of (R := EP X pins σ Q) rv ⟨v, H', I', rv, q⟩
      cases q with
      | str st =>
        obtain ⟨rfl, _⟩ := rv_str rq
        obtain ⟨tk, rfl⟩ := ry
        obtain ⟨⟨fo, h1⟩, ⟨ro, h2⟩, h3⟩ := W1.str
        exact o1_T (T := "str") kI J (.of_pure rfl) W1.first hm hf rc1 rc2 h1 h2 h3 fin
      | int i =>
        cases rv_int rq
        obtain ⟨tk, rfl⟩ := ry
        obtain ⟨⟨fo, h1⟩, ⟨ro, h2⟩, h3⟩ := W1.int
        exact o1_T (T := "int") kI J (.of_pure rfl) W1.first hm hf rc1 rc2 h1 h2 h3 fin
      | _ => exact absurd hk.2 Bool.false_ne_true
    | some kk2 =>
      obtain ⟨k2, ns2, xs2⟩ := kk2
      rw [eq] at hp
      simp only at hp
      split at hp
      case isFalse => exact hp.elim
      rename_i hk
      obtain ⟨e, hk⟩ := hk
      subst e
      have W1 := O.ks k hk
      refine ⟨?_, fun k' ns xs e => by cases e; exact hk⟩
      obtain ⟨b, dy, ys2, rfl, hB, hl2, rr2⟩ := clsOf_ok sr rq eq
      obtain rfl : u = Value.ref b := ry
      obtain ⟨mB, J2, _⟩ := ins_get I.hok hB
      obtain ⟨od2, J2, _⟩ := J2.look
      obtain ⟨g, hc, hm, hf, call⟩ := ownC_ok TO gd I sr (RVs.cons rp (RVs.cons rq RVs.nil)) (.cons rfl (.cons rfl .nil)) hp
      rw [O.nm] at hm
      exact o1_same kI J J2.type W1.first hm hf (call X.A _ (gd.room.mono (Nat.le_succ _)) rfl fun v H' u s' I' rv q => ni_of rv ⟨v, H', I', rv, q⟩)
theorem binD_ok {op : Operator} {o : OpT} {b : PV → PV → Hs → RE} (TO : TabOk Z lv T fdO psO) (gd : Good Z lv X W) (O : OpTOk Z op o) (hb : OpOk Z X W (binaryOp op) b) : OpOk Z X W (binaryOp op) (binD T o b) := by
  intro pins s σ H x y v u m S p q Q I rx ry sr rp rq hp
  unfold binD at hp
  split at hp
  · exact hb pins s σ H x y v u m S p q Q I rx ry sr rp rq hp
  · exact bin_of1 (bin1_ok TO gd O I rx ry sr rp rq hp).1
theorem inpD_ok {op : Operator} {o : OpT} {b : PV → PV → Hs → RE} (TO : TabOk Z lv T fdO psO) (gd : Good Z lv X W) (O : OpTOk Z op o) (hb : OpOk Z X W (inplaceOp op) b) : OpOk Z X W (inplaceOp op) (inpD T o b) := by
  intro pins s σ H x y v u m S p q Q I rx ry sr rp rq hp
  unfold inpD at hp
  cases ep : clsOf S p with
  | none =>
    rw [ep] at hp
    exact hb pins s σ H x y v u m S p q Q I rx ry sr rp rq hp
  | some kk =>
    obtain ⟨k, ns, xs⟩ := kk
    rw [ep] at hp
    obtain ⟨h1, h2⟩ := bin1_ok TO gd O I rx ry sr rp rq hp
    have W1 := O.ks k (h2 k ns xs ep)
    obtain ⟨a, dx, ys, rfl, hA, hl, rr⟩ := clsOf_ok sr rp ep
    obtain rfl : v = Value.ref a := rx
    obtain ⟨mA, J, _⟩ := ins_get I.hok hA
    obtain ⟨od, J, _⟩ := J.look
    have kI := I.kIn
    rw [gd.K] at kI
    exact inp_of1 kI J W1.inp h1
/-! ### one operand -/
structure UnT where
  f : Nat
  ks : List Nat
def unName : UnaryOp → Str
  | .USub => "__neg__"
  | .Invert => "__invert__"
  | .UAdd => "__pos__"
  | .Not => ""
def unaO (T : Tab) (u : UnT) (op : UnaryOp) (f : Loc → Hs → RE) : Loc → Hs → RE := fun L S => (f L S).bind fun v S1 => match clsOf S1 v with
  | some (k, _, _) => if k ∈ u.ks then ownC T k u.f [v] S1 else .bad
  | none => unaV op v S1
theorem una_post {op : UnaryOp} {p : PV} {v : Value} (ho : op = .USub ∨ op = .Invert) (I : Inv X pins σ H s) (rx : RelV x v) (sr : SRel Z H m S) (rp : RV Z H m p x) (hp : PostE Z W σ H m Q (unaV op p S)) : wpAny (model X.prog X.w) X.A (unaryOp op v) (EP X pins σ Q) X.xe s := by
  cases op with
  | Not => exact absurd ho (by simp)
  | UAdd => exact absurd ho (by simp)
  | USub =>
    unfold unaV at hp
    split at hp
    · cases rv_int rp; exact un_neg pins s σ H _ _ Q I rx ⟨_, rfl, hp H m _ Gr.refl sr to_int⟩
    · cases rv_int rp; rename_i e; cases e
    · exact hp.elim
  | Invert =>
    unfold unaV at hp
    split at hp
    · rename_i e; cases e
    · cases rv_int rp; exact un_inv pins s σ H _ _ Q I rx ⟨_, rfl, hp H m _ Gr.refl sr to_int⟩
    · exact hp.elim
theorem ok_unaO {e : Expr} {op : UnaryOp} {u : UnT} {pos : Pos} {fe : Loc → Hs → RE} (TO : TabOk Z lv T fdO psO) (gd : Good Z lv X W) (ho : op = .USub ∨ op = .Invert) (hu : Z.FN u.f = unName op) (ha : PE X e (tE Z W fe)) : PE X (.UnaryOp op e pos) (tE Z W (unaO T u op fe)) := by
  refine ⟨fun pins s σ H Q I ⟨m, L, S, sr, hl, hp⟩ => ?_⟩
  refine PySem.wpAny_UnaryOp (thn (ha.run pins s σ H (fun x H1 => ∃ m1 S1 p, SRel Z H1 m1 S1 ∧ RV Z H1 m1 p x ∧ PostE Z W σ H1 m1 Q (match clsOf S1 p with
    | some (k, _, _) => if k ∈ u.ks then ownC T k u.f [p] S1 else .bad
    | none => unaV op p S1)) I ⟨m, L, S, sr, hl, PostE.bind hp fun v S1 H1 m1 x g1 s1 r1 hp1 => ⟨m1, S1, v, s1, r1, hp1⟩⟩) fun v s1 ⟨x, H1, I1, rx, m1, S1, p, sr1, r1, hp1⟩ => ?_)
  split at hp1
  · rename_i k ns xs ec
    split at hp1
    · obtain ⟨a, dx, ys, rfl, hA, hl, rr⟩ := clsOf_ok sr1 r1 ec
      obtain rfl : v = Value.ref a := rx
      obtain ⟨g, hc, hm, hf, call⟩ := ownC_ok TO gd I1 sr1 (RVs.cons r1 RVs.nil) (.cons rfl .nil) hp1
      obtain ⟨mA, J, _⟩ := ins_get I1.hok hA
      obtain ⟨od, J, _⟩ := J.look
      have kI := I1.kIn
      rw [gd.K] at kI
      rw [hu] at hm
      have fin := call X.A _ (gd.room.mono (Nat.le_succ _)) rfl fun v H' u s' I' rv q => (⟨v, H', I', rv, q⟩ : EP X pins σ Q u s')
      rcases ho with rfl | rfl
      · unfold unaryOp
        exact PySem.wpAny_holding (PySem.wpAny_bind (PySem.W.special_fn kI J hm (beq_iff_eq.mp hf) (PySem.wpAny_mono fin (fun _ _ z => PySem.wpAny_pure z) fun _ _ z => z)))
      · unfold unaryOp
        exact PySem.wpAny_holding (PySem.wpAny_bind (PySem.W.special_fn kI J hm (beq_iff_eq.mp hf) (PySem.wpAny_mono fin (fun _ _ z => PySem.wpAny_pure z) fun _ _ z => z)))
    · exact hp1.elim
  · exact una_post ho I1 rx sr1 r1 hp1
end
end MP
set_option maxRecDepth 100000
namespace MP
open PySem PySem.W PySem.Calls PyProof.Rows
section
variable {prog : Program} {w : World} {A : Around} {E : Value → Shared → Prop} {s : Shared} {K : Frag} {x C f : Addr} {ox : Obj} {od : Option Obj} {b tb : Value}
def NotB (Q : Value → Shared → Prop) (v : Value) (s' : Shared) : Prop := ∃ c, v = .bool c ∧ Q (.bool (!c)) s'
open Builtin in
theorem one_ne {Q : Value → Shared → Prop} (hu : A.in1.units < cLine) (X : K.In s.heap) (I : InstAt s.heap x ox C od) (hm : mroIn K C (.type "object") = some true) (he : findIn K (.ref C) "__eq__" = some (some (.ref f))) (hf : isFn K (.ref f) = true)
    (h : wpAny (model prog w) A.in1 (call (.ref f) [.ref x, b]) (NotB Q) E s) : wpAny (model prog w) A (call (.builtin "object.__ne__") [.ref x, b]) Q E s := by
  refine wpAny_call (codeAny_call_builtin (by decide +kernel) PySem.F.cmpEntry_ne (check_slot (i := "object.__ne__") (owner := "object") (n := "__ne__") (by decide +kernel) (by decide +kernel) (I.type.andThen (looks_mroIn X hm)) (PySem.F.cmpArgs_ne _ _) ?_))
  unfold Builtin.«object.__ne__»
  refine wpAny_bind (m := slotArgs "__ne__" 1 _) (wpAny_pure ?_)
  repeat (first
    | with_reducible refine wpAny_cRoomFor hu ?_
    | (refine wpAny_bind (m := callSpecialIfBound? (.ref x) (Str.ofString "__eq__") [b])
        (ifBound_K X I he hf (wpAny_mono h (fun r s' hr => by
          obtain ⟨b, rfl, hq⟩ := hr
          repeat (first | exact hq | exact wpAny_pure hq | exact wpAny_truthy_bool hq | (refine wpAny_bind (m := truthy (.bool _)) (wpAny_truthy_bool ?_)) | wp_step)) fun _ _ e => e)))
    | wp_step)
theorem ne_K {Q : Value → Shared → Prop} (hu : A.in1.units < cLine) (hu0 : A.units < cLine) (X : K.In s.heap) (I : InstAt s.heap x ox C od) (hb : Looks (model prog w) s.heap (typeOf b) tb) (hn : notFirst K C tb = true) (hm : mroIn K C (.type "object") = some true)
    (hs : findIn K (.ref C) "__ne__" = some (some (.builtin "object.__ne__"))) (he : findIn K (.ref C) "__eq__" = some (some (.ref f))) (hf : isFn K (.ref f) = true)
    (h : wpAny (model prog w) A.in1 (call (.ref f) [.ref x, b]) (NotB Q) E s) : wpAny (model prog w) A (richCompare .NotEq (.ref x) b) Q E s := by
  have one : wpAny (model prog w) A (tryCompare (.ref x) (Str.ofString "__ne__") b) (fun r s' => ∃ v, r = some v ∧ Q v s') E s := by
    have fin := one_ne (Q := fun v s' => v ≠ .notImplemented ∧ Q v s') hu X I hm he hf (wpAny_mono h (fun v s' hv => by obtain ⟨c, rfl, q⟩ := hv; exact ⟨c, rfl, ⟨(fun z => nomatch z), q⟩⟩) fun _ _ e => e)
    unfold tryCompare
    simp only [callSpecialIfBound?, bindSpecialIfBound?]
    refine wpAny_bind (wpAny_holding (wpAny_bind (wpAny_bind (wpAny_bind (I.type.here ((looks_findIn X hs).here ?_))))))
    refine wpAny_bind (wpAny_askSetting (wpAny_ite ?_))
    have hbs : ∀ self, bindSpecial (.builtin "object.__ne__") self = pure (.builtin "object.__ne__", [self]) := fun self => by kernel_rfl
    have last : wpAny (model prog w) A (call (.builtin "object.__ne__") ([.ref x] ++ [b]) >>= fun v => pure (some v)) (fun r s' => wpAny (model prog w) A (match r with
      | some .notImplemented | none => pure none
      | some v => pure (some v)) (fun r s' => ∃ v, r = some v ∧ Q v s') E s') E s := wpAny_bind (wpAny_mono fin (fun v s' h' => wpAny_pure (by
        obtain ⟨h1, h2⟩ := h'
        cases v <;> first | exact absurd rfl h1 | exact wpAny_pure ⟨_, rfl, h2⟩)) fun _ _ h' => h')
    split
    · exact wpAny_bind ((Looks.of_pure (hbs _)).here (wpAny_pure (by exact last)))
    · exact wpAny_tryCatch (wpAny_bind ((Looks.of_pure (hbs _)).here (wpAny_pure (by exact last))))
  unfold richCompare
  simp only [oneThing_ref]
  refine wpAny_holding (wpAny_bind (wpAny_cRoomFor hu0 ?_))
  refine wpAny_bind (I.type.here (wpAny_bind (hb.here ?_)))
  split
  · rename_i q
    have e : subIn K tb (.ref C) = some false := by
      rcases Bool.or_eq_true_iff.mp hn with e | e
      · rw [beq_iff_eq.mp e] at q; simp at q
      · exact beq_iff_eq.mp e
    refine wpAny_bind ((looks_subIn X e).here ?_)
    simp only [Bool.false_eq_true, if_false]
    refine wpAny_bind (wpAny_mono one (fun r s' z => ?_) fun _ _ e => e)
    obtain ⟨v, rfl, hq⟩ := z
    exact wpAny_pure hq
  · refine wpAny_bind (wpAny_pure ?_)
    simp only [Bool.false_eq_true, if_false]
    refine wpAny_bind (wpAny_mono one (fun r s' z => ?_) fun _ _ e => e)
    obtain ⟨v, rfl, hq⟩ := z
    exact wpAny_pure hq
open Builtin
/-- the truth of an instance with __len__ -/
def PosBack (Q : Bool → Shared → Prop) (v : Value) (s' : Shared) : Prop := ∃ n t, v = .int n t ∧ (0 ≤ n ∧ n < 2 ^ 63) ∧ ∀ k, Q (n != 0) { s' with toks := k }
theorem truthy_len {Q : Bool → Shared → Prop} {h₀ : Heap} {L : Addr} {m : Str → Option Value} (F : Fr h₀ L s.heap m) (X₀ : K.In h₀) (I : InstAt s.heap x ox C od) (hs : findIn K (.ref C) "__bool__" = some none) (hl : findIn K (.ref C) "__len__" = some (some (.ref f))) (hf : isFn K (.ref f) = true)
    (h : wpAny (model prog w) A.in1 (call (.ref f) [.ref x]) (PosBack Q) E s) : wpAny (model prog w) A (truthy (.ref x)) Q E s := by
  have X := X₀.keeps F.keep
  unfold truthy
  refine wpAny_bind (m := callSpecial? (.ref x) (Str.ofString "__bool__")) (wpAny_bind (wpAny_bind (I.type.here ((looks_findIn X hs).here (wpAny_pure ?_)))))
  refine wpAny_bind (wpAny_bind (I.type.here ((looks_findIn X hl).here ?_)))
  rw [if_neg (by simp)]
  refine wpAny_bind (wpAny_runValue (codeAny_builtin entry_len ?_))
  unfold Builtin.«len»
  refine wpAny_bind (m := oneArg "len" _) (wpAny_pure ?_)
  refine wpAny_bind (m := callSpecial? (.ref x) (Str.ofString "__len__")) (special_fn X I hl (beq_iff_eq.mp hf) (wpAny_mono h (fun r s' hr => ?_) fun _ _ y => y))
  obtain ⟨n, t, rfl, ⟨h0, h1⟩, hq⟩ := hr
  refine wpAny_bind (wpAny_holding (wpAny_pure ?_))
  refine wpAny_bind (wpAny_letGo ?_)
  show wpAny _ _ (if n < 0 then _ else _) _ _ _
  rw [if_neg (by omega)]
  show wpAny _ _ (if n ≥ 2 ^ 63 then _ else _) _ _ _
  rw [if_neg (by omega)]
  exact wpAny_bind (wpAny_mkInt (wpAny_pure (wpAny_pure (hq _))))
end
end MP
set_option maxRecDepth 100000
namespace MP
open PySem L2
/-! ### kinds of values -/
/-- 0 None, 1 bool, 2 int, 3 str, 4 list, 5 tuple; 100 + k: the own class k -/
def tyN (S : Hs) : PV → Option Nat
  | .non => some 0
  | .bl _ => some 1
  | .int _ => some 2
  | .str _ => some 3
  | .lst _ => some 4
  | .tup _ => some 5
  | .dct _ _ => some 6
  | .scr _ => some 4
  | .obj k _ _ => some (100 + k)
  | .loc i => match getR S i with
    | some (.lst _) => some 4
    | some (.dct _ _) => some 6
    | some (.ins k _ _) => some (100 + k)
    | some (.tab _) => none
    | none => none
  | _ => none
def tyS : Nat → String
  | 0 => "NoneType" | 1 => "bool" | 2 => "int" | 3 => "str" | 4 => "list" | 5 => "tuple" | 6 => "dict" | _ => "object"
def tyV (Z : Sta) (n : Nat) : Value := if n < 100 then .type (tyS n) else .ref (Z.G (n - 100))
/-- what isinstance, == ask of an own class -/
structure OwnTy (Z : Sta) (k : Nat) : Prop where
  cl : Cls Z.K (Z.G k)
  ha : PySem.W.findIn Z.K (.ref (Z.G k)) "__class__" = some (some (.builtin "object.__class__"))
  hn : PySem.W.specialIn Z.K (.builtin "object.__class__") "__get__" = some (some (.builtin "getset_descriptor.__get__"))
  htk : PySem.W.takesIn Z.K (.builtin "object.__class__") = some true
  hm : PySem.W.mroIn Z.K (Z.G k) (.type "object") = some true
section
variable {Z : Sta} {W : WX} {σ : L2.St} {H H1 : Hp} {m m1 m2 : Mp} {X : Cx} {S : Hs} {x y : V} {a : Addr} {lv g k f : Nat} {T : Tab} {fdO : Nat → FuncData} {psO : Nat → List Str} {pins : List (Addr × Obj)} {s : Shared} {Q : VK}
theorem sqT_ty {K : PySem.W.Frag} {ys : List V} (h : SqT K H a ys) : TyX K H (.ref a) (.type "tuple") := by
  rcases h with h | ⟨o, its, n, h1, h2, _⟩
  · rcases h with h | ⟨o, h⟩
    · exact .base (.tup h)
    · exact .fTuple h
  · exact .kTuple h1 h2
/-- a value's type, looked up -/
theorem tyX_looks {M : Model} {u t : Value} (I : Inv X pins σ H s) (rx : RelV x u) (h : TyX X.K H x t) (hn : t ≠ .type "NoneType" ∨ True) : PySem.W.Looks M s.heap (typeOf u) t := by
  cases h with
  | base h =>
    cases h with
    | non => cases (show u = Value.none from rx); exact .of_pure rfl
    | bl b => cases (show u = Value.bool b from rx); exact .of_pure rfl
    | int i => obtain ⟨t, q⟩ := (show ∃ t, u = Value.int i t from rx); cases q; exact .of_pure rfl
    | str i => obtain ⟨t, q⟩ := (show ∃ t, u = Value.str i t from rx); cases q; exact .of_pure rfl
    | flt i => obtain ⟨t, q⟩ := (show ∃ t, u = Value.float i t from rx); cases q; exact .of_pure rfl
    | @lst a xs ea =>
      cases (show u = Value.ref a from rx)
      obtain ⟨_, _, n, _, h1⟩ := (show ObjOk X.prog X.w H s.heap a (.lst xs) from I.hok a _ ea)
      exact (PySem.W.Looks.ld h1).andThen .now
    | @frz a ob xs ea =>
      cases (show u = Value.ref a from rx)
      obtain ⟨_, _, _, n, _, h1⟩ := (show ObjOk X.prog X.w H s.heap a (.frz ob (.lst xs)) from I.hok a _ ea)
      exact (PySem.W.Looks.ld h1).andThen .now
    | @tup a xs ea =>
      cases (show u = Value.ref a from rx)
      obtain ⟨_, _, _, p⟩ := (show ObjOk X.prog X.w H s.heap a (.tup xs) from I.hok a _ ea)
      obtain ⟨o, h1, h2, _⟩ := p
      rw [← h2]
      exact (PySem.W.Looks.ld h1).andThen .now
    | @dK a kvs ea =>
      cases (show u = Value.ref a from rx)
      obtain ⟨_, _, vs, _, p⟩ := (show ObjOk X.prog X.w H s.heap a (.dK kvs) from I.hok a _ ea)
      obtain ⟨o, es, ep, h1, h2, _⟩ := p
      rw [← h2.1]
      exact (PySem.W.Looks.ld h1).andThen .now
    | @dT a kvs ea =>
      cases (show u = Value.ref a from rx)
      obtain ⟨_, _, xs, _, o, es, ep, h1, h2, _⟩ := (show ObjOk X.prog X.w H s.heap a (.dT kvs) from I.hok a _ ea)
      rw [← h2.1]
      exact (PySem.W.Looks.ld h1).andThen .now
    | @ins a C dx fs ea cl ha hn htk hm =>
      cases (show u = Value.ref a from rx)
      obtain ⟨mA, O, _⟩ := ins_get I.hok ea
      obtain ⟨od, J, _⟩ := O.look
      exact J.type
  | byt y => obtain ⟨t, q⟩ := (show ∃ t, u = Value.bytes y t from rx); cases q; exact .of_pure rfl
  | @set a S n ea =>
    cases (show u = Value.ref a from rx)
    obtain ⟨o, _, _, _, e, ex, _⟩ := I.hok a _ ea
    rw [← ex.1]
    exact (PySem.W.Looks.ld e).andThen .now
  | @kList a o e c =>
    cases (show u = Value.ref a from rx)
    rw [← c]
    exact (PySem.W.Looks.ld (I.kIn a o e)).andThen .now
  | @kTuple a o e c =>
    cases (show u = Value.ref a from rx)
    rw [← c]
    exact (PySem.W.Looks.ld (I.kIn a o e)).andThen .now
  | @kDict a o e c =>
    cases (show u = Value.ref a from rx)
    rw [← c]
    exact (PySem.W.Looks.ld (I.kIn a o e)).andThen .now
  | @fTuple a ob xs ea =>
    cases (show u = Value.ref a from rx)
    obtain ⟨_, _, _, _, o, h1, h2, _⟩ := (show ObjOk X.prog X.w H s.heap a (.frz ob (.tup xs)) from I.hok a _ ea)
    rw [← h2]
    exact (PySem.W.Looks.ld h1).andThen .now
  | @fDict a ob kvs ea =>
    cases (show u = Value.ref a from rx)
    obtain ⟨_, _, _, vs, _, o, es, ep, h1, h2, _⟩ := (show ObjOk X.prog X.w H s.heap a (.frz ob (.dK kvs)) from I.hok a _ ea)
    rw [← h2.1]
    exact (PySem.W.Looks.ld h1).andThen .now
/-- a value's type, dicts too -/
inductive TyM (K : PySem.W.Frag) (H : Hp) : V → Value → Prop where
  | x {x : V} {t : Value} (h : TyX K H x t) : TyM K H x t
  | d {a : Addr} {es : List (Int × V × V)} (e : H a = some (dO a es)) : TyM K H (.ref a) (.type "dict")
theorem dO_at {P : Program} {w : World} {h : Heap} {es : List (Int × V × V)} (hok : HOk P w H h) (e : H a = some (dO a es)) :
    (a == sysModules) = false ∧ ∃ (o : Obj) (ds : Array DictEntry) (ep : Nat), h.get? a = some o ∧ o.ExactDict ∧ o.data = .dict ds ep ∧ Paired EntR es ds.toList := (hok a _ e).1
theorem kitM_of {x : V} {u t : Value} (I : Inv X pins σ H s) (rx : RelV x u) (ty : TyM X.K H x t) : ∃ P : Heap → Prop, PySem.W.KitX X.K u t P ∧ P s.heap ∧ u ≠ .builtin "__main__.__loader__#opaque" := by
  cases ty with
  | x h => exact kit_of I rx h
  | @d a es e =>
    cases (show u = Value.ref a from rx)
    obtain ⟨_, o, ds, ep, h1, h2, _⟩ := dO_at I.hok e
    exact ⟨_, PySem.W.kitx_dict, ⟨o, h1, h2.1⟩, fun z => nomatch z⟩
theorem tyM_looks {M : Model} {u t : Value} (I : Inv X pins σ H s) (rx : RelV x u) (h : TyM X.K H x t) : PySem.W.Looks M s.heap (typeOf u) t := by
  cases h with
  | x h => exact tyX_looks I rx h (.inr trivial)
  | @d a es e =>
    cases (show u = Value.ref a from rx)
    obtain ⟨_, o, ds, ep, h1, h2, _⟩ := dO_at I.hok e
    rw [← h2.1]
    exact (PySem.W.Looks.ld h1).andThen .now
theorem tyN_ok {n : Nat} {p : PV} (sr : SRel Z H m S) (r : RV Z H m p x) (e : tyN S p = some n) (hk : 100 ≤ n → OwnTy Z (n - 100)) : TyM Z.K H x (tyV Z n) := by
  cases p with
  | non => cases e; unfold RV at r; subst r; exact .x <| .base .non
  | bl b => cases e; unfold RV at r; subst r; exact .x <| .base (.bl b)
  | int b => cases e; unfold RV at r; subst r; exact .x <| .base (.int b)
  | str b => cases e; obtain ⟨rfl, _⟩ := rv_str r; exact .x <| .base (.str _)
  | lst b =>
    cases e
    unfold RV at r
    obtain ⟨a, ys, rfl, _, q, _⟩ := r
    exact .x <| .base (.lst q)
  | dct ks vs =>
    cases e
    unfold RV at r
    obtain ⟨a, es, rfl, hq, _⟩ := r
    rcases hq with ⟨_, hq⟩ | ⟨_, o, ds, ep, h1, h2, _⟩
    · exact .d hq
    · exact .x (.kDict h1 h2.1)
  | tup b =>
    cases e
    obtain ⟨a, ys, rfl, q, _⟩ := rv_tup r
    exact .x (sqT_ty q)
  | scr b =>
    cases e
    unfold RV at r
    obtain ⟨a, rfl, h⟩ := r
    rcases h with ⟨_, h⟩ | ⟨o, its, n, h1, h2, _⟩
    · rcases h with h | ⟨o, h⟩
      · exact .x <| .base (.lst h)
      · exact .x <| .base (.frz h)
    · exact .x (.kList h1 h2)
  | obj k ns xs =>
    cases e
    obtain ⟨a, dx, ys, rfl, q, _⟩ := clsOf_ok (k := k) (ns := ns) (xs := xs) sr r rfl
    have o := hk (Nat.le_add_right _ _)
    rw [Nat.add_sub_cancel_left] at o
    unfold tyV
    rw [if_neg (by omega), Nat.add_sub_cancel_left]
    exact .x <| .base (.ins q o.cl o.ha o.hn o.htk o.hm)
  | loc i =>
    unfold tyN at e
    simp only at e
    split at e
    · rename_i xs ec
      cases e
      obtain ⟨a, ys, rfl, q, _⟩ := asL_ok (xs := xs) sr r (by unfold asL; simp only [ec])
      exact .x <| .base (.lst q)
    · rename_i ks vs ec
      cases e
      unfold RV at r
      obtain ⟨a, ea, rfl⟩ := r
      obtain ⟨b, eb, es, rc, _⟩ := sr.at_ ec
      rw [ea] at eb
      cases eb
      exact .d rc
    · rename_i k ns xs ec
      cases e
      obtain ⟨a, dx, ys, rfl, q, _⟩ := clsOf_ok (k := k) (ns := ns) (xs := xs) sr r (by unfold clsOf; simp only [ec])
      have o := hk (Nat.le_add_right _ _)
      rw [Nat.add_sub_cancel_left] at o
      unfold tyV
      rw [if_neg (by omega), Nat.add_sub_cancel_left]
      exact .x <| .base (.ins q o.cl o.ha o.hn o.htk o.hm)
    · cases e
    · cases e
  | st k => cases e
  | ty k => cases e
end
end MP
set_option maxRecDepth 100000
namespace MP
open PySem L2
/-! ### comparisons with own classes -/
structure CmpT where
  e : Nat
  c : Nat
  l : Nat
  s : Nat
  r : Nat
  ks : List Nat
  ls : List Nat
/-- == of an own class: its __ne__ is object's -/
structure OwnEq (Z : Sta) (k : Nat) : Prop where
  ty : OwnTy Z k
  ne : PySem.W.findIn Z.K (.ref (Z.G k)) "__ne__" = some (some (.builtin "object.__ne__"))
  nf : ∀ n, n < 7 → PySem.W.subIn Z.K (.type (tyS n)) (.ref (Z.G k)) = some false
/-- an own class with __len__ and no __bool__ -/
structure OwnLen (Z : Sta) (k : Nat) : Prop where
  nb : PySem.W.findIn Z.K (.ref (Z.G k)) "__bool__" = some none
structure CmpTOk (Z : Sta) (ct : CmpT) : Prop where
  e : Z.FN ct.e = "__eq__"
  c : Z.FN ct.c = "__contains__"
  l : Z.FN ct.l = "__len__"
  s : Z.FN ct.s = "__str__"
  r : Z.FN ct.r = "__repr__"
  ks : ∀ k ∈ ct.ks, OwnEq Z k
  ls : ∀ k ∈ ct.ls, OwnLen Z k
/-- the right one's class is no lower one -/
def rightOk (S : Hs) (k : Nat) (q : PV) : Bool := match tyN S q with
  | some n => decide (n < 7) || decide (n = 100 + k)
  | none => false
def eqD (T : Tab) (c : CmpT) (p q : PV) (S : Hs) : RE := match clsOf S p with
  | some (k, _, _) => if k ∈ c.ks ∧ rightOk S k q = true then ownC T k c.e [p, q] S else .bad
  | none => if (clsOf S q).isNone then eqV p q S else .bad
def notR : RE → RE
  | .ok (.bl b) S => .ok (.bl (!b)) S
  | .ex k v S => .ex k v S
  | _ => .bad
def neD (T : Tab) (c : CmpT) (p q : PV) (S : Hs) : RE := match clsOf S p with
  | some (k, _, _) => if k ∈ c.ks ∧ rightOk S k q = true then notR (ownC T k c.e [p, q] S) else .bad
  | none => if (clsOf S q).isNone then neV p q S else .bad
def blR : RE → RE
  | .ok (.bl b) S => .ok (.bl b) S
  | .ex k v S => .ex k v S
  | _ => .bad
def inD (T : Tab) (c : CmpT) (p q : PV) (S : Hs) : RE := match clsOf S q with
  | some (k, _, _) => blR (ownC T k c.c [q, p] S)
  | none => inV p q S
def ninD (T : Tab) (c : CmpT) (p q : PV) (S : Hs) : RE := match clsOf S q with
  | some (k, _, _) => notR (ownC T k c.c [q, p] S)
  | none => ninV p q S
def cmpD (T : Tab) (c : CmpT) (op : CmpOp) : PV → PV → Hs → RE := match op with
  | .Eq => eqD T c
  | .NotEq => neD T c
  | .In => inD T c
  | .NotIn => ninD T c
  | op => cmpV op
section
variable {Z : Sta} {W : WX} {σ : L2.St} {H H1 : Hp} {m m1 m2 : Mp} {X : Cx} {S : Hs} {x y : V} {a : Addr} {lv g k f : Nat} {T : Tab} {fdO : Nat → FuncData} {psO : Nat → List Str} {pins : List (Addr × Obj)} {s : Shared} {Q : VK} {c : CmpT}
theorem notR_post {r : RE} (h : PostE Z W σ H m Q (notR r)) : PostE Z W σ H m (fun x H' => ∃ b, x = .bl b ∧ Q (.bl (!b)) H') r := by
  cases r with
  | ok v S =>
    cases v <;> first | exact h.elim | skip
    intro H' m' x g s r
    exact ⟨_, rv_bl r, h H' m' _ g s to_bl⟩
  | ex k v S => exact h
  | bad => exact h
theorem blR_post {r : RE} (h : PostE Z W σ H m Q (blR r)) : PostE Z W σ H m (fun x H' => ∃ b, x = .bl b ∧ Q (.bl b) H') r := by
  cases r with
  | ok v S =>
    cases v <;> first | exact h.elim | skip
    intro H' m' x g s r
    exact ⟨_, rv_bl r, h H' m' _ g s to_bl⟩
  | ex k v S => exact h
  | bad => exact h
theorem right_ok {q : PV} {u : Value} {M : Model} (I : Inv X pins σ H s) (hK : X.K = Z.K) (O : OwnEq Z k) (sr : SRel Z H m S) (r : RV Z H m q y) (ry : RelV y u) (e : rightOk S k q = true) :
    ∃ tb, PySem.W.Looks M s.heap (typeOf u) tb ∧ PySem.W.notFirst Z.K (Z.G k) tb = true := by
  unfold rightOk at e
  split at e
  · rename_i n en
    rw [Bool.or_eq_true, decide_eq_true_eq, decide_eq_true_eq] at e
    have T1 : TyM Z.K H y (tyV Z n) := tyN_ok sr r en fun h => by
      have : n = 100 + k := by omega
      subst this
      rw [Nat.add_sub_cancel_left]
      exact O.ty
    refine ⟨tyV Z n, tyM_looks I ry (by rw [hK]; exact T1), ?_⟩
    · unfold PySem.W.notFirst tyV
      rcases e with e | e
      · rw [if_pos (by omega), O.nf n e]
        simp
      · subst e
        rw [if_neg (by omega), Nat.add_sub_cancel_left]
        simp
  · cases e
theorem eqD_ok (TO : TabOk Z lv T fdO psO) (gd : Good Z lv X W) (C : CmpTOk Z c) : OpOk Z X W (compareOp .Eq) (eqD T c) := by
  intro pins s σ H x y v u m S p q Q I rx ry sr rp rq hp
  unfold eqD at hp
  split at hp
  · rename_i k ns xs ec
    split at hp
    case isFalse => exact hp.elim
    rename_i hk
    have O := C.ks k hk.1
    obtain ⟨a, dx, ys, rfl, hA, hl, rr⟩ := clsOf_ok sr rp ec
    obtain rfl : v = Value.ref a := rx
    obtain ⟨mA, J, _⟩ := ins_get I.hok hA
    obtain ⟨od, J, _⟩ := J.look
    obtain ⟨g, hc, hm, hf, call⟩ := ownC_ok TO gd I sr (RVs.cons rp (RVs.cons rq RVs.nil)) (.cons rfl (.cons ry .nil)) hp
    obtain ⟨tb, h1, h2⟩ := right_ok (M := model X.prog X.w) I gd.K O sr rq ry hk.2
    obtain ⟨mm, hF⟩ := I.fr
    rw [C.e] at hm
    show wpAny _ _ (richCompare .Eq _ _) _ _ _
    have kin := I.ok.mod.kin
    rw [gd.K] at kin
    exact PySem.W.cmp_K (op := .Eq) gd.room3.units0 hF kin J h1 h2 hm hf (call X.A _ (gd.room.mono (Nat.le_succ _)) rfl fun v H' u s' I' rv q => ni_of rv ⟨v, H', I', rv, q⟩)
  · split at hp
    · exact eq_ok gd.K (by have := gd.room3.un; omega) pins s σ H x y v u m S p q Q I rx ry sr rp rq hp
    · exact hp.elim
theorem neD_ok (TO : TabOk Z lv T fdO psO) (gd : Good Z lv X W) (C : CmpTOk Z c) : OpOk Z X W (compareOp .NotEq) (neD T c) := by
  intro pins s σ H x y v u m S p q Q I rx ry sr rp rq hp
  unfold neD at hp
  split at hp
  · rename_i k ns xs ec
    split at hp
    case isFalse => exact hp.elim
    rename_i hk
    have O := C.ks k hk.1
    obtain ⟨a, dx, ys, rfl, hA, hl, rr⟩ := clsOf_ok sr rp ec
    obtain rfl : v = Value.ref a := rx
    obtain ⟨mA, J, _⟩ := ins_get I.hok hA
    obtain ⟨od, J, _⟩ := J.look
    obtain ⟨g, hc, hm, hf, call⟩ := ownC_ok TO gd I sr (RVs.cons rp (RVs.cons rq RVs.nil)) (.cons rfl (.cons ry .nil)) (notR_post hp)
    obtain ⟨tb, h1, h2⟩ := right_ok (M := model X.prog X.w) I gd.K O sr rq ry hk.2
    have kI := I.kIn
    rw [gd.K] at kI
    rw [C.e] at hm
    show wpAny _ _ (richCompare .NotEq _ _) _ _ _
    refine ne_K (by have := gd.room3.un; show X.A.units + 1 < cLine; omega) gd.room3.units0 kI J h1 h2 O.ty.hm O.ne hm hf (call X.A.in1 _ gd.room.in1 rfl fun v H' u s' I' rv q => ?_)
    obtain ⟨b, rfl, q⟩ := q
    cases rv
    exact ⟨b, rfl, ⟨.bl (!b), H', I', rfl, q⟩⟩
  · split at hp
    · exact ne_ok gd.K (by have := gd.room3.un; omega) pins s σ H x y v u m S p q Q I rx ry sr rp rq hp
    · exact hp.elim
theorem inD_ok (TO : TabOk Z lv T fdO psO) (gd : Good Z lv X W) (C : CmpTOk Z c) : OpOk Z X W (compareOp .In) (inD T c) := by
  intro pins s σ H x y v u m S p q Q I rx ry sr rp rq hp
  unfold inD at hp
  split at hp
  · rename_i k ns xs ec
    obtain ⟨a, dx, ys, rfl, hA, hl, rr⟩ := clsOf_ok sr rq ec
    obtain rfl : u = Value.ref a := ry
    obtain ⟨mA, J, _⟩ := ins_get I.hok hA
    obtain ⟨od, J, _⟩ := J.look
    obtain ⟨g, hc, hm, hf, call⟩ := ownC_ok TO gd I sr (RVs.cons rq (RVs.cons rp RVs.nil)) (.cons rfl (.cons rx .nil)) (blR_post hp)
    obtain ⟨mm, hF⟩ := I.fr
    rw [C.c] at hm
    have kin := I.ok.mod.kin
    rw [gd.K] at kin
    refine PySem.W.in_K hF kin J hm hf (call X.A _ (gd.room.mono (Nat.le_succ _)) rfl fun v H' u s' I' rv q => ?_)
    obtain ⟨b, rfl, q⟩ := q
    cases rv
    exact wpAny_truthy_bool ⟨.bl b, H', I', rfl, q⟩
  · exact cmp_ok .In gd.K (by have := gd.room3.un; omega) pins s σ H x y v u m S p q Q I rx ry sr rp rq hp
theorem ninD_ok (TO : TabOk Z lv T fdO psO) (gd : Good Z lv X W) (C : CmpTOk Z c) : OpOk Z X W (compareOp .NotIn) (ninD T c) := by
  intro pins s σ H x y v u m S p q Q I rx ry sr rp rq hp
  unfold ninD at hp
  split at hp
  · rename_i k ns xs ec
    obtain ⟨a, dx, ys, rfl, hA, hl, rr⟩ := clsOf_ok sr rq ec
    obtain rfl : u = Value.ref a := ry
    obtain ⟨mA, J, _⟩ := ins_get I.hok hA
    obtain ⟨od, J, _⟩ := J.look
    obtain ⟨g, hc, hm, hf, call⟩ := ownC_ok TO gd I sr (RVs.cons rq (RVs.cons rp RVs.nil)) (.cons rfl (.cons rx .nil)) (notR_post hp)
    obtain ⟨mm, hF⟩ := I.fr
    rw [C.c] at hm
    have kin := I.ok.mod.kin
    rw [gd.K] at kin
    refine PySem.W.notIn_K hF kin J hm hf (call X.A _ (gd.room.mono (Nat.le_succ _)) rfl fun v H' u s' I' rv q => ?_)
    obtain ⟨b, rfl, q⟩ := q
    cases rv
    exact wpAny_truthy_bool ⟨.bl (!b), H', I', rfl, q⟩
  · exact cmp_ok .NotIn gd.K (by have := gd.room3.un; omega) pins s σ H x y v u m S p q Q I rx ry sr rp rq hp
theorem cmpD_ok (op : CmpOp) (TO : TabOk Z lv T fdO psO) (gd : Good Z lv X W) (C : CmpTOk Z c) : OpOk Z X W (compareOp op) (cmpD T c op) := by
  have hu : X.A.units + 64 < cLine := by have := gd.room3.un; omega
  cases op with
  | Eq => exact eqD_ok TO gd C
  | NotEq => exact neD_ok TO gd C
  | In => exact inD_ok TO gd C
  | NotIn => exact ninD_ok TO gd C
  | Lt => exact cmp_ok .Lt gd.K hu
  | LtE => exact cmp_ok .LtE gd.K hu
  | Gt => exact cmp_ok .Gt gd.K hu
  | GtE => exact cmp_ok .GtE gd.K hu
  | Is => exact cmp_ok .Is gd.K hu
  | IsNot => exact cmp_ok .IsNot gd.K hu
/-! ### calls of built-ins -/
def CallOk (Z : Sta) (X : Cx) (W : WX) (f : Value) (g : List PV → Hs → RE) : Prop :=
  ∀ (pins : List (Addr × Obj)) (s : Shared) (σ : L2.St) (H : Hp) (xs : List V) (us : List Value) (m : Mp) (S : Hs) (ps : List PV) (Q : VK), Inv X pins σ H s → Vals xs us → SRel Z H m S → RVs Z H m ps xs → PostE Z W σ H m Q (g ps S) →
    wpAny (model X.prog X.w) X.A (call f us) (EP X pins σ Q) X.xe s
theorem CallOk.of {f : Value} {r : List V → Hp → VK → Prop} {g : List PV → Hs → RE} (ho : CallR X f r)
    (h : ∀ (σ : L2.St) (H : Hp) (m : Mp) (S : Hs) (ps : List PV) (xs : List V) (Q : VK), SRel Z H m S → RVs Z H m ps xs → PostE Z W σ H m Q (g ps S) → r xs H Q) : CallOk Z X W f g :=
  fun pins s σ H xs us m S ps Q I rx sr rp hp => ho pins s σ H xs us Q I rx (h σ H m S ps xs Q sr rp hp)
def bltE (ga : Loc → Hs → RA) (g : List PV → Hs → RE) : Loc → Hs → RE := fun L S => (ga L S).bind g
theorem ok_blt {id : String} {e : Expr} {es : List Expr} {nm : Str} {p pos : Pos} {ga : Loc → Hs → RA} {g : List PV → Hs → RE} (gd : Good Z lv X W) (hc : CallOk Z X W (.builtin id) g) (hg : Gl X nm) (hm : Z.mg nm = none) (hv : bootBuiltins nm = some (.builtin id)) (ha : PA X (e :: es) (tA Z W ga))
    (hst : noStar (e :: es) = true) (hn : nm ≠ "__name__") (hdb : (nm == ("__debug__" : Str)) = false) : PE X (.Call (.Name nm p) (e :: es) [] pos) (tE Z W (bltE ga g)) := by
  refine ⟨fun pins s σ H Q I ⟨m, L, S, sr, hl, hp⟩ => ?_⟩
  have hst' : noStar1 e = true ∧ noStar es = true := by
    unfold noStar at hst
    rw [List.all_cons, Bool.and_eq_true] at hst
    exact hst
  refine PySem.wpAny_Call_Name_kw (ld_blt I hg (by rw [gd.mg]; exact hm) hv ?_ hn hdb)
  refine PyProof.Rows.callWith_builtin1 (thn (ha.run pos pins s σ H (fun xs H1 => ∃ m1 S1 ps, SRel Z H1 m1 S1 ∧ RVs Z H1 m1 ps xs ∧ PostE Z W σ H1 m1 Q (g ps S1)) I ⟨m, L, S, sr, hl, PostA.bind hp fun vs S1 H1 m1 xs g1 s1 r1 hp1 => ⟨m1, S1, vs, s1, r1, hp1⟩⟩) fun us s1 ⟨xs, H1, I1, rx, m1, S1, ps, sr1, rp, hp1⟩ => ?_) (star_cons hst'.1) (star_any hst'.2)
  exact hc pins s1 σ H1 xs us m1 S1 ps Q I1 rx sr1 rp hp1
theorem ok_bltT {T' : String} {e : Expr} {es : List Expr} {nm : Str} {p pos : Pos} {ga : Loc → Hs → RA} {g : List PV → Hs → RE} (gd : Good Z lv X W) (hc : CallOk Z X W (.type T') g) (hg : Gl X nm) (hm : Z.mg nm = none) (hv : bootBuiltins nm = some (.type T')) (ha : PA X (e :: es) (tA Z W ga))
    (hst : noStar (e :: es) = true) (hn : nm ≠ "__name__") (hdb : (nm == ("__debug__" : Str)) = false) : PE X (.Call (.Name nm p) (e :: es) [] pos) (tE Z W (bltE ga g)) := by
  refine ⟨fun pins s σ H Q I ⟨m, L, S, sr, hl, hp⟩ => ?_⟩
  have hst' : noStar1 e = true ∧ noStar es = true := by
    unfold noStar at hst
    rw [List.all_cons, Bool.and_eq_true] at hst
    exact hst
  refine PySem.wpAny_Call_Name_kw (ld_blt I hg (by rw [gd.mg]; exact hm) hv ?_ hn hdb)
  refine PyProof.Rows.callWith_type1 (thn (ha.run pos pins s σ H (fun xs H1 => ∃ m1 S1 ps, SRel Z H1 m1 S1 ∧ RVs Z H1 m1 ps xs ∧ PostE Z W σ H1 m1 Q (g ps S1)) I ⟨m, L, S, sr, hl, PostA.bind hp fun vs S1 H1 m1 xs g1 s1 r1 hp1 => ⟨m1, S1, vs, s1, r1, hp1⟩⟩) fun us s1 ⟨xs, H1, I1, rx, m1, S1, ps, sr1, rp, hp1⟩ => ?_) (star_cons hst'.1) (star_any hst'.2)
  exact hc pins s1 σ H1 xs us m1 S1 ps Q I1 rx sr1 rp hp1
end
end MP
set_option maxRecDepth 100000
namespace MP
open PySem L2
/-! ### len, str, repr, bool -/
def len63 : PV → Option Int
  | .int n => if decide (0 ≤ n) && decide (n < 9223372036854775808) then some n else none
  | _ => none
def lenR : RE → RE
  | .ok v S => match len63 v with
    | some n => .ok (.int n) S
    | none => .bad
  | .ex k v S => .ex k v S
  | .bad => .bad
def lenV (S : Hs) : PV → RE
  | .str s => if fits s then .ok (.int s.length) S else .bad
  | v => match asQ S v with
    | some xs => .ok (.int xs.length) S
    | none => .bad
def lenD (T : Tab) (c : CmpT) (ps : List PV) (S : Hs) : RE := match ps with
  | [v] => match clsOf S v with
    | some (k, _, _) => lenR (ownC T k c.l [v] S)
    | none => lenV S v
  | _ => .bad
def strR : RE → RE
  | .ok (.str s) S => .ok (.str s) S
  | .ex k v S => .ex k v S
  | _ => .bad
/-- the digits of a whole number -/
def digI (i : Int) : List Nat := (Str.ofString (toString i)).cps.toList
def smallI (i : Int) : Bool := decide (i.natAbs.log2 < 1920)
def plainC (c : Nat) : Bool := decide (32 ≤ c) && decide (c < 127) && (c != 39) && (c != 92)
def strD (T : Tab) (c : CmpT) (ps : List PV) (S : Hs) : RE := match ps with
  | [v] => match clsOf S v with
    | some (k, _, _) => strR (ownC T k c.s [v] S)
    | none => match v with
      | .str s => .ok (.str s) S
      | .int i => if smallI i && sOk (digI i) then .ok (.str (digI i)) S else .bad
      | _ => .bad
  | _ => .bad
def reprD (T : Tab) (c : CmpT) (ps : List PV) (S : Hs) : RE := match ps with
  | [v] => match clsOf S v with
    | some (k, _, _) => strR (ownC T k c.r [v] S)
    | none => match v with
      | .str s => if s.all plainC && decide (s.length ≤ 1000000) then .ok (.str (39 :: (s ++ [39]))) S else .bad
      | .int i => if smallI i && sOk (digI i) then .ok (.str (digI i)) S else .bad
      | _ => .bad
  | _ => .bad
def posR : RE → RE
  | .ok v S => match len63 v with
    | some n => .ok (.bl (n != 0)) S
    | none => .bad
  | .ex k v S => .ex k v S
  | .bad => .bad
/-- the truth of any value -/
def truD (T : Tab) (c : CmpT) (v : PV) (S : Hs) : RE := match clsOf S v with
  | some (k, _, _) => if k ∈ c.ls then posR (ownC T k c.l [v] S) else .bad
  | none => okO ((tru S v).map .bl) S
section
variable {Z : Sta} {W : WX} {σ : L2.St} {H H1 : Hp} {m m1 m2 : Mp} {X : Cx} {S : Hs} {x y : V} {a : Addr} {lv g k f : Nat} {T : Tab} {fdO : Nat → FuncData} {psO : Nat → List Str} {pins : List (Addr × Obj)} {s : Shared} {Q : VK} {c : CmpT}
theorem rvs1 {p : PV} {xs : List V} (r : RVs Z H m [p] xs) : ∃ x, xs = [x] ∧ RV Z H m p x := by
  unfold RVs at r
  obtain ⟨y, t, rfl, r1, r2⟩ := r
  unfold RVs at r2
  subst r2
  exact ⟨y, rfl, r1⟩
theorem rvs2 {p q : PV} {xs : List V} (r : RVs Z H m [p, q] xs) : ∃ x y, xs = [x, y] ∧ RV Z H m p x ∧ RV Z H m q y := by
  unfold RVs at r
  obtain ⟨y, t, rfl, r1, r2⟩ := r
  obtain ⟨z, rfl, r3⟩ := rvs1 r2
  exact ⟨y, z, rfl, r1, r3⟩
theorem len63_ok {v : PV} {n : Int} (h : len63 v = some n) : v = .int n ∧ 0 ≤ n ∧ n < 2 ^ 63 := by
  unfold len63 at h
  split at h
  · split at h
    · rename_i c
      cases h
      simp only [Bool.and_eq_true, decide_eq_true_eq] at c
      exact ⟨rfl, c.1, by have := c.2; omega⟩
    · cases h
  · cases h
theorem lenR_post {r : RE} (h : PostE Z W σ H m Q (lenR r)) : PostE Z W σ H m (fun x H' => ∃ n : Int, x = .int n ∧ (0 ≤ n ∧ n < 2 ^ 63) ∧ Q (.int n) H') r := by
  cases r with
  | ok v S =>
    unfold lenR at h
    cases e : len63 v with
    | none => simp only [e] at h; exact h.elim
    | some n =>
      simp only [e] at h
      obtain ⟨rfl, h1⟩ := len63_ok e
      exact fun H' m' x g s r => ⟨n, rv_int r, h1, h H' m' _ g s to_int⟩
  | ex k v S => exact h
  | bad => exact h
theorem posR_post {r : RE} (h : PostE Z W σ H m Q (posR r)) : PostE Z W σ H m (fun x H' => ∃ n : Int, x = .int n ∧ (0 ≤ n ∧ n < 2 ^ 63) ∧ Q (.bl (n != 0)) H') r := by
  cases r with
  | ok v S =>
    unfold posR at h
    cases e : len63 v with
    | none => simp only [e] at h; exact h.elim
    | some n =>
      simp only [e] at h
      obtain ⟨rfl, h1⟩ := len63_ok e
      exact fun H' m' x g s r => ⟨n, rv_int r, h1, h H' m' _ g s to_bl⟩
  | ex k v S => exact h
  | bad => exact h
theorem strR_post {r : RE} (h : PostE Z W σ H m Q (strR r)) : PostE Z W σ H m (fun x H' => ∃ z, x = .str z ∧ Q (.str z) H') r := by
  cases r with
  | ok v S =>
    cases v <;> first | exact h.elim | skip
    intro H' m' x g s r
    obtain ⟨rfl, ho⟩ := rv_str r
    exact ⟨_, rfl, h H' m' _ g s (to_str ho)⟩
  | ex k v S => exact h
  | bad => exact h
theorem lenV_post {v : PV} (hK : X.K = Z.K) (sr : SRel Z H m S) (r : RV Z H m v x) (h : PostE Z W σ H m Q (lenV S v)) : ∃ n, LenV X.K x H n ∧ Q (.int n) H := by
  unfold lenV at h
  split at h
  · split at h
    · rename_i hf
      obtain ⟨rfl, _⟩ := rv_str r
      refine ⟨_, ⟨?_, rfl⟩, ?_⟩
      · rw [str_len]; exact fits_ok hf
      · rw [str_len]; exact h H m _ Gr.refl sr to_int
    · exact h.elim
  · split at h
    · rename_i xs e
      obtain ⟨a, ys, rfl, hq, rr⟩ := asQ_ok sr r e
      refine ⟨ys.length, ?_, ?_⟩
      · rw [hK]
        rcases hq with q | q
        · exact .inl ⟨ys, q, rfl⟩
        · exact .inr ⟨ys, q, rfl⟩
      · have := h H m _ Gr.refl sr to_int
        rw [rr.len] at this
        exact this
    · exact h.elim
theorem len_ok (TO : TabOk Z lv T fdO psO) (gd : Good Z lv X W) (C : CmpTOk Z c) : CallOk Z X W (.builtin "len") (lenD T c) := by
  intro pins s σ H xs us m S ps Q I rx sr rp hp
  unfold lenD at hp
  split at hp
  · rename_i v
    obtain ⟨x, rfl, r1⟩ := rvs1 rp
    split at hp
    · rename_i k ns zs ec
      obtain ⟨a, dx, ys, rfl, hA, hl, rr⟩ := clsOf_ok sr r1 ec
      obtain ⟨u, rfl, ru⟩ := vals1 rx
      obtain rfl : u = Value.ref a := ru
      obtain ⟨mA, J, _⟩ := ins_get I.hok hA
      obtain ⟨od, J, _⟩ := J.look
      obtain ⟨g, hc, hm, hf, call⟩ := ownC_ok TO gd I sr rp (.cons rfl .nil) (lenR_post hp)
      obtain ⟨mm, hF⟩ := I.fr
      rw [C.l] at hm
      have kin := I.ok.mod.kin
      rw [gd.K] at kin
      refine PySem.W.len_K hF kin J hm hf (call X.A.in1 _ gd.room.in1 rfl fun v H' u s' I' rv q => ?_)
      obtain ⟨n, rfl, h1, q⟩ := q
      obtain ⟨t, rfl⟩ := rv
      exact ⟨h1, ⟨.int n, H', I'.tok _, ⟨_, rfl⟩, q⟩⟩
    · obtain ⟨n, h1, h2⟩ := lenV_post gd.K sr r1 hp
      exact call_len pins s σ H [x] us Q I rx ⟨x, n, rfl, h1, h2⟩
  · exact hp.elim
theorem digI_str (i : Int) : (⟨(digI i).toArray⟩ : Str) = Str.ofString (toString i) := by
  unfold digI
  simp
theorem str_ok (TO : TabOk Z lv T fdO psO) (gd : Good Z lv X W) (C : CmpTOk Z c) : CallOk Z X W (.type "str") (strD T c) := by
  intro pins s σ H xs us m S ps Q I rx sr rp hp
  unfold strD at hp
  split at hp
  · rename_i v
    obtain ⟨x, rfl, r1⟩ := rvs1 rp
    split at hp
    · rename_i k ns zs ec
      obtain ⟨a, dx, ys, rfl, hA, hl, rr⟩ := clsOf_ok sr r1 ec
      obtain ⟨u, rfl, ru⟩ := vals1 rx
      obtain rfl : u = Value.ref a := ru
      obtain ⟨mA, J, _⟩ := ins_get I.hok hA
      obtain ⟨od, J, _⟩ := J.look
      obtain ⟨g, hc, hm, hf, call⟩ := ownC_ok TO gd I sr rp (.cons rfl .nil) (strR_post hp)
      have kI := I.kIn
      rw [gd.K] at kI
      rw [C.s] at hm
      have r3 : Room (lv + 1) X.A.in1 := (gd.room3.mono (Nat.le_succ (lv + 2))).in1
      refine PySem.W.kso_call (by have := gd.room3.un; show X.A.units + 1 + 1 < cLine; omega) kI J hm hf (call X.A.in1.in1 _ r3.in1 rfl fun v H' u s' I' rv q => ?_)
      obtain ⟨z, rfl, q⟩ := q
      obtain ⟨t, rfl⟩ := rv
      exact ⟨.str z, H', I', ⟨_, rfl⟩, q⟩
    · split at hp
      · rename_i st ec
        obtain ⟨rfl, ho⟩ := rv_str r1
        exact SkE.call_str_str pins s σ H _ us Q I rx ⟨_, rfl, hp H m _ Gr.refl sr (to_str ho)⟩
      · rename_i i ec
        cases rv_int r1
        split at hp
        · rename_i hc
          rw [Bool.and_eq_true] at hc
          refine call_str_int pins s σ H _ us Q I rx ⟨i, rfl, of_decide_eq_true hc.1, ?_⟩
          have := hp H m _ Gr.refl sr (to_str hc.2)
          rw [digI_str] at this
          exact this
        · exact hp.elim
      · exact hp.elim
  · exact hp.elim
theorem foldl_plain {q : Nat} : ∀ (l : List Nat) (acc : Array Nat), q = 39 → l.all plainC = true → l.foldl (fun out c => out ++ (Builtin.Str.reprChar q c).toArray) acc = acc ++ l.toArray
  | [], acc, _, _ => by simp
  | c :: l, acc, hq, h => by
    rw [List.all_cons, Bool.and_eq_true] at h
    have hc : Builtin.Str.reprChar q c = [c] := by
      subst hq
      have h1 := h.1
      unfold plainC at h1
      simp only [Bool.and_eq_true, decide_eq_true_eq, bne_iff_ne] at h1
      obtain ⟨⟨⟨c1, c2⟩, c3⟩, c4⟩ := h1
      have hp : ∀ c, c < 127 → 32 ≤ c → Unicode.isPrintable c = true := by decide +kernel
      unfold Builtin.Str.reprChar
      rw [if_neg (by simp [c3, c4]), if_neg (by simp; omega), if_neg (by simp; omega), if_neg (by simp; omega), if_pos (hp c c2 c1)]
    rw [List.foldl_cons, hc, foldl_plain l _ hq h.2]
    apply Array.ext'
    simp
theorem repr_plain {l : List Nat} (h : l.all plainC = true) : reprText ⟨l.toArray⟩ = ⟨(39 :: (l ++ [39])).toArray⟩ := by
  have hq : reprQuote ⟨l.toArray⟩ = 39 := by
    unfold reprQuote
    have : (l.toArray.contains 39) = false := by
      rw [Bool.eq_false_iff]
      intro e
      have hm : 39 ∈ l := by simpa using e
      have := List.all_eq_true.mp h 39 hm
      exact absurd this (by decide)
    rw [if_neg (by simp only [this]; simp)]
  unfold reprText
  rw [hq, ← Array.foldl_toList, foldl_plain _ _ rfl h]
  congr 1
  apply Array.ext'
  simp
theorem sOk_plain {l : List Nat} (h : l.all plainC = true) : sOk (39 :: (l ++ [39])) = true := by
  unfold sOk
  rw [List.all_cons, List.all_append]
  have : l.all (fun c => decide (c < 1114112)) = true := List.all_eq_true.mpr fun c hc => by
    have := List.all_eq_true.mp h c hc
    unfold plainC at this
    simp only [Bool.and_eq_true, decide_eq_true_eq] at this
    exact decide_eq_true (by have := this.1.1.2; omega)
  rw [this]
  decide
theorem repr_ok (TO : TabOk Z lv T fdO psO) (gd : Good Z lv X W) (C : CmpTOk Z c) : CallOk Z X W (.builtin "repr") (reprD T c) := by
  intro pins s σ H xs us m S ps Q I rx sr rp hp
  unfold reprD at hp
  split at hp
  · rename_i v
    obtain ⟨x, rfl, r1⟩ := rvs1 rp
    split at hp
    · rename_i k ns zs ec
      obtain ⟨a, dx, ys, rfl, hA, hl, rr⟩ := clsOf_ok sr r1 ec
      obtain ⟨u, rfl, ru⟩ := vals1 rx
      obtain rfl : u = Value.ref a := ru
      obtain ⟨mA, J, _⟩ := ins_get I.hok hA
      obtain ⟨od, J, _⟩ := J.look
      obtain ⟨g, hc, hm, hf, call⟩ := ownC_ok TO gd I sr rp (.cons rfl .nil) (strR_post hp)
      obtain ⟨mm, hF⟩ := I.fr
      rw [C.r] at hm
      have kin := I.ok.mod.kin
      rw [gd.K] at kin
      refine PySem.W.repr_K (by have := gd.room3.un; show X.A.units + 1 < cLine; omega) hF kin J hm hf (call X.A.in1 _ gd.room.in1 rfl fun v H' u s' I' rv q => ?_)
      obtain ⟨z, rfl, q⟩ := q
      obtain ⟨t, rfl⟩ := rv
      exact ⟨.str z, H', I', ⟨_, rfl⟩, q⟩
    · split at hp
      · rename_i st ec
        obtain ⟨rfl, ho⟩ := rv_str r1
        split at hp
        · rename_i hc
          rw [Bool.and_eq_true] at hc
          obtain ⟨u, rfl, t, rfl⟩ := vals1 rx
          have hz : (reprText ⟨st.toArray⟩).length ≤ sizeLine := by
            rw [repr_plain hc.1, str_len, sizeLine_eq]
            have := of_decide_eq_true hc.2
            simp
            omega
          refine PySem.P.repr_of_str (⟨.str _, H, I.tok _, ⟨_, rfl⟩, ?_⟩) hz
          rw [repr_plain hc.1]
          exact hp H m _ Gr.refl sr (to_str (sOk_plain hc.1))
        · exact hp.elim
      · rename_i i ec
        cases rv_int r1
        split at hp
        · rename_i hc
          rw [Bool.and_eq_true] at hc
          refine SkE.call_repr_int pins s σ H _ us Q I rx ⟨i, rfl, of_decide_eq_true hc.1, ?_⟩
          have := hp H m _ Gr.refl sr (to_str hc.2)
          rw [digI_str] at this
          exact this
        · exact hp.elim
      · exact hp.elim
  · exact hp.elim
end
end MP
set_option maxRecDepth 100000
namespace MP
section
open PySem PySem.Calls PyProof.Rows
variable {prog : Program} {w : World} {A : Around} {E : Value → Shared → Prop} {s : Shared}
theorem call_bool_any {x : Value} {Q : Value → Shared → Prop} (h : wpAny (model prog w) A.in1.in1 (truthy x) (fun b s' => Q (.bool b) s') E s) : wpAny (model prog w) A (call (.type "bool") [x]) Q E s := by
  refine callType_codes (T := "bool") (Bi := Builtin.«object.__init__») (Q₁ := fun r s₁ => ∃ b, r = .bool b ∧ Q r s₁) PySem.F.called_bool (PySem.F.typeCall_bool_1 _) PySem.F.entry_object_init ?_ ?_
  · refine codeAny_of_tree ?_
    show wpAny _ A.in1.in1 (do checkBuiltinCall "bool.__new__" ⟨[.type "bool", x], []⟩; again (.builtin "bool.__new__" ⟨[.type "bool", x], []⟩)) _ _ s
    refine wpAny_bind (wpAny_of_eq (PySem.F.newCall_bool_1 _) (wpAny_pure ⟨plainId_quiet (by decide +kernel) _, codeAny_builtin PySem.F.entry_bool_new ?_⟩))
    rw [Around.under_plainId (by decide +kernel) _]
    have f1 := F.conv_sub_bool
    obtain ⟨hp, g, d, tk, os⟩ := s
    have fin : wpAny (model prog w) A.in1.in1 (truthy x >>= fun b => (do ret (.bool b))) (fun r s' => ∃ v, r = Fin.done (.ret v) ∧ ∃ b, v = .bool b ∧ Q v s') E ⟨hp, g, d, tk, os⟩ :=
      wpAny_bind (wpAny_mono h (fun b s' q => wpAny_pure ⟨_, rfl, b, rfl, q⟩) fun _ _ e => e)
    refine wpAny_mono (Q := fun r s' => ∃ v, r = Fin.done (.ret v) ∧ ∃ b, v = .bool b ∧ Q v s') ?_ (fun r s' q => ?_) fun _ _ e => e
    · unfold Builtin.«bool.__new__»
      repeat (first | exact fin | assumption | wp_step)
    · obtain ⟨v, rfl, q⟩ := q
      exact q
  · rintro obj s₁ ⟨b, rfl, hq⟩
    exact ⟨rfl, PySem.F.args_object_init_2 _ _, object_init_meets PySem.F.called_bool.init.lookup PySem.F.called_bool.made (by decide) prog w A.in1 _ s₁ ⟨rfl, rfl, hq⟩⟩
end
open PySem L2
/-! ### bool, isinstance, list, all, any -/
def boolD (T : Tab) (c : CmpT) (ps : List PV) (S : Hs) : RE := match ps with
  | [v] => match clsOf S v with
    | some _ => truD T c v S
    | none => match v with
      | .int i => .ok (.bl (i != 0)) S
      | .bl b => .ok (.bl b) S
      | .non => .ok (.bl false) S
      | v => match asL S v with
        | some xs => .ok (.bl (!xs.isEmpty)) S
        | none => .bad
  | _ => .bad
def truDB (T : Tab) (c : CmpT) (f : Loc → Hs → RE) : Loc → Hs → RB := fun L S => (f L S).bindB fun v S1 => asB (truD T c v S1)
/-- what isinstance says, by kinds -/
abbrev IsaT := Nat → Nat → Option Bool
def IsaOk (Z : Sta) (isa : IsaT) : Prop := ∀ t c b, isa t c = some b → (100 ≤ t → OwnTy Z (t - 100)) ∧ PySem.W.kitOne Z.K (tyV Z t) (tyV Z c) = some b
def tyNo (n : String) : Nat := if n = "bool" then 1 else if n = "int" then 2 else if n = "str" then 3 else if n = "list" then 4 else if n = "tuple" then 5 else if n = "dict" then 6 else 99
def clsNo : PV → Option Nat
  | .st k => some (100 + k)
  | .ty n => if decide (tyNo n < 7) && decide (n = tyS (tyNo n)) then some (tyNo n) else none
  | _ => none
def isi1 (isa : IsaT) (t : Nat) (c : PV) : Option Bool := match clsNo c with
  | some k => isa t k
  | none => none
def anyI (f : PV → Option Bool) : List PV → Option Bool
  | [] => some false
  | c :: r => match f c with
    | some true => some true
    | some false => anyI f r
    | none => none
def isiV (isa : IsaT) (ps : List PV) (S : Hs) : RE := match ps with
  | [v, c] => match tyN S v with
    | some t => match c with
      | .tup (c :: cs) => okO ((anyI (isi1 isa t) (c :: cs)).map .bl) S
      | c => okO ((isi1 isa t c).map .bl) S
    | none => .bad
  | _ => .bad
def listV (fz : Bool) (ps : List PV) (S : Hs) : RE := match ps with
  | [v] => match v with
    | .str s => if fits s then newL fz (s.map fun c => .str [c]) S else .bad
    | v => match asQ S v with
      | some xs => newL fz xs S
      | none => .bad
  | _ => .bad
def tupleV (ps : List PV) (S : Hs) : RE := match ps with
  | [.tup xs] => newT xs S
  | [v] => match asL S v with
    | some xs => newT xs S
    | none => .bad
  | _ => .bad
def asBs : List PV → Option (List Bool)
  | [] => some []
  | .bl b :: r => (asBs r).map (b :: ·)
  | _ => none
def allV (ps : List PV) (S : Hs) : RE := match ps with
  | [v] => match asL S v with
    | some xs => okO ((asBs xs).map fun bs => .bl (bs.all id)) S
    | none => .bad
  | _ => .bad
def anyV (ps : List PV) (S : Hs) : RE := match ps with
  | [v] => match asL S v with
    | some xs => okO ((asBs xs).map fun bs => .bl (bs.any id)) S
    | none => .bad
  | _ => .bad
section
variable {Z : Sta} {W : WX} {σ : L2.St} {H H1 : Hp} {m m1 m2 : Mp} {X : Cx} {S : Hs} {x y : V} {a : Addr} {lv g k f : Nat} {T : Tab} {fdO : Nat → FuncData} {psO : Nat → List Str} {pins : List (Addr × Obj)} {s : Shared} {Q : VK} {c : CmpT}
theorem truth_own {p : PV} {v : Value} {R : Bool → Hp → Prop} {A : Around} (hA : A.frames = X.A.frames) (hr : Room lv A.in1) (TO : TabOk Z lv T fdO psO) (gd : Good Z lv X W) (C : CmpTOk Z c) (I : Inv X pins σ H s) (rx : RelV x v) (sr : SRel Z H m S) (r : RV Z H m p x) (hc : (clsOf S p).isSome)
    (hp : PostE Z W σ H m (fun x H' => ∃ b, x = .bl b ∧ R b H') (truD T c p S)) : wpAny (model X.prog X.w) A (truthy v) (TP X pins σ R) X.xe s := by
  unfold truD at hp
  split at hp
  · rename_i k ns zs ec
    split at hp
    case isFalse => exact hp.elim
    rename_i hk
    obtain ⟨a, dx, ys, rfl, hA', hl, rr⟩ := clsOf_ok sr r ec
    obtain rfl : v = Value.ref a := rx
    obtain ⟨mA, J, _⟩ := ins_get I.hok hA'
    obtain ⟨od, J, _⟩ := J.look
    obtain ⟨g, hc, hm, hf, call⟩ := ownC_ok TO gd I sr (RVs.cons r RVs.nil) (.cons rfl .nil) (posR_post hp)
    obtain ⟨mm, hF⟩ := I.fr
    rw [C.l] at hm
    have kin := I.ok.mod.kin
    rw [gd.K] at kin
    refine truthy_len hF kin J (C.ls k hk).nb hm hf (call A.in1 _ hr hA fun v H' u s' I' rv q => ?_)
    obtain ⟨n, rfl, h1, b, e, q⟩ := q
    cases e
    obtain ⟨t, rfl⟩ := rv
    exact ⟨n, t, rfl, h1, fun k => ⟨H', I'.tok _, q⟩⟩
  · rename_i ec
    rw [ec] at hc
    cases hc
theorem ok_truthD {a : Expr} {f : Loc → Hs → RE} (TO : TabOk Z lv T fdO psO) (gd : Good Z lv X W) (C : CmpTOk Z c) (ha : PE X a (tE Z W f)) (he : ∀ whole, isTrue a X.env whole = (do let v ← whole; standAt a.pos; holding [v] (truthy v))) : PT X a (tB Z W (truDB T c f)) := by
  refine ⟨fun pins s σ H Q I ⟨m, L, S, sr, hl, hp⟩ => ?_⟩
  refine PyProof.Rows.isTrue_plain (thn (ha.run pins s σ H (fun x H1 => ∃ m1 S1 p, SRel Z H1 m1 S1 ∧ RV Z H1 m1 p x ∧ PostE Z W σ H1 m1 (fun x H' => ∃ b, x = .bl b ∧ Q b H') (truD T c p S1)) I ⟨m, L, S, sr, hl, PostE.bindB hp fun v S1 H1 m1 x g1 s1 r1 hp1 => ⟨m1, S1, v, s1, r1, asB_post hp1⟩⟩) fun v s1 ⟨x, H1, I1, rx, m1, S1, p, sr1, r1, hp1⟩ => ?_) (he _)
  cases e : clsOf S1 p with
  | some kk => exact truth_own rfl gd.room.in1 TO gd C I1 rx sr1 r1 (by rw [e]; rfl) hp1
  | none =>
    unfold truD at hp1
    rw [e] at hp1
    cases et : tru S1 p with
    | none => simp only [et] at hp1; exact hp1.elim
    | some b =>
      simp only [et] at hp1
      obtain ⟨b', e', q⟩ := hp1 H1 m1 (.bl b) Gr.refl sr1 to_bl
      cases e'
      exact tru_ok pins s1 σ H1 x v Q I1 rx ⟨b, by rw [gd.K]; exact tru_post sr1 r1 et, q⟩
theorem bool_ok (TO : TabOk Z lv T fdO psO) (gd : Good Z lv X W) (C : CmpTOk Z c) : CallOk Z X W (.type "bool") (boolD T c) := by
  intro pins s σ H xs us m S ps Q I rx sr rp hp
  unfold boolD at hp
  split at hp
  · rename_i v
    obtain ⟨x, rfl, r1⟩ := rvs1 rp
    have r3 : Room (lv + 2) X.A.in1 := gd.room3.in1
    have r2 : Room (lv + 1) X.A.in1.in1 := r3.in1
    cases e : clsOf S v with
    | some kk =>
      obtain ⟨u, rfl, ru⟩ := vals1 rx
      rw [e] at hp
      have q0 : PostE Z W σ H m (fun x H' => ∃ b, x = .bl b ∧ Q (.bl b) H') (truD T c v S) := by
        simp only at hp
        unfold truD at hp ⊢
        rw [e] at hp ⊢
        simp only at hp ⊢
        split at hp
        · rename_i hk
          rw [if_pos hk]
          cases eo : ownC T kk.1 c.l [v] S with
          | ok v' S1 =>
            rw [eo] at hp
            unfold posR at hp ⊢
            simp only at hp ⊢
            cases en : len63 v' with
            | none => rw [en] at hp; exact hp.elim
            | some n =>
              rw [en] at hp
              exact fun H' m' x g s r => ⟨_, rv_bl r, by rw [← rv_bl r]; exact hp H' m' x g s r⟩
          | ex k' v' S1 => rw [eo] at hp; exact hp
          | bad => rw [eo] at hp; exact hp.elim
        · exact hp.elim
      exact call_bool_any (thn (truth_own (A := X.A.in1.in1) rfl r2.in1 TO gd C I ru sr r1 (by rw [e]; rfl) q0) fun b s1 ⟨H1, I1, q⟩ => ⟨.bl b, H1, I1, rfl, q⟩)
    | none =>
      rw [e] at hp
      simp only at hp
      split at hp
      · cases rv_int r1
        exact call_bool1 pins s σ H _ us Q I rx (.inl ⟨_, rfl, hp H m _ Gr.refl sr to_bl⟩)
      · cases rv_bl r1
        exact call_bool1 pins s σ H _ us Q I rx (.inr ⟨_, rfl, hp H m _ Gr.refl sr to_bl⟩)
      · unfold RV at r1
        subst r1
        obtain ⟨u, rfl, ru⟩ := vals1 rx
        cases ru
        exact PySem.call_bool_none ⟨.bl false, H, I, rfl, hp H m _ Gr.refl sr to_bl⟩
      · split at hp
        · rename_i xs el
          obtain ⟨a, ys, rfl, hq, rr⟩ := asL_ok sr r1 el
          refine call_boolL pins s σ H _ us Q I rx ⟨a, ys, rfl, SqL.of hq, ?_⟩
          rw [rvs_empty rr]
          exact hp H m _ Gr.refl sr to_bl
        · exact hp.elim
  · exact hp.elim
theorem clsV_ok {p : PV} {k : Nat} (r : RV Z H m p y) (ek : clsNo p = some k) : ClsV y (tyV Z k) := by
  unfold clsNo at ek
  split at ek
  · cases ek
    unfold RV at r
    subst r
    unfold tyV
    rw [if_neg (by omega), Nat.add_sub_cancel_left]
    exact .own _
  · split at ek
    · rename_i n c
      cases ek
      rw [Bool.and_eq_true, decide_eq_true_eq, decide_eq_true_eq] at c
      unfold RV at r
      subst r
      unfold tyV
      rw [if_pos (by omega), ← c.2]
      exact .ty _
    · cases ek
  · cases ek
theorem isi1_ok {isa : IsaT} (O : IsaOk Z isa) {p : PV} {t : Nat} {b : Bool} {u : Value} (r : RV Z H m p y) (ru : RelV y u) (e : isi1 isa t p = some b) : (100 ≤ t → OwnTy Z (t - 100)) ∧ PySem.W.kitOne Z.K (tyV Z t) u = some b := by
  unfold isi1 at e
  split at e
  · rename_i k ek
    obtain ⟨o1, o2⟩ := O t k b e
    rw [(clsV_ok r ek).eq ru]
    exact ⟨o1, o2⟩
  · cases e
theorem anyI_ok {isa : IsaT} (O : IsaOk Z isa) {t : Nat} : ∀ {cs : List PV} {ys : List V} {us : List Value} {b : Bool}, RVs Z H m cs ys → Vals ys us → anyI (isi1 isa t) cs = some b → PySem.W.kitAny Z.K (tyV Z t) us = some b
  | [], _, _, b, r, v, e => by
    unfold RVs at r
    subst r
    cases v
    cases e
    rfl
  | c :: cs, _, _, b, r, v, e => by
    unfold RVs at r
    obtain ⟨y, ys, rfl, r1, r2⟩ := r
    cases v with
    | cons v1 v2 =>
      unfold anyI at e
      cases e1 : isi1 isa t c with
      | none => rw [e1] at e; cases e
      | some b1 =>
        rw [e1] at e
        have h := (isi1_ok O r1 v1 e1).2
        unfold PySem.W.kitAny
        rw [h]
        cases b1 with
        | true => cases e; rfl
        | false => exact anyI_ok O r2 v2 e
theorem isi_ok {isa : IsaT} (gd : Good Z lv X W) (O : IsaOk Z isa) : CallOk Z X W (.builtin "isinstance") (isiV isa) := by
  intro pins s σ H xs us m S ps Q I rv sr rp hp
  unfold isiV at hp
  split at hp
  · rename_i v cl
    obtain ⟨x, y, rfl, r1, r2⟩ := rvs2 rp
    obtain ⟨u1, u2, rfl, v1, v2⟩ := vals2 rv
    split at hp
    · rename_i t et
      split at hp
      · rename_i c cs
        cases ei : anyI (isi1 isa t) (c :: cs) with
        | none => rw [ei] at hp; exact hp.elim
        | some b =>
          rw [ei] at hp
          have ht : 100 ≤ t → OwnTy Z (t - 100) := by
            have e := ei
            unfold anyI at e
            cases e1 : isi1 isa t c with
            | none => rw [e1] at e; cases e
            | some b1 =>
              unfold isi1 at e1
              split at e1
              · exact (O _ _ _ e1).1
              · cases e1
          obtain ⟨a, ys, rfl, hq, hr⟩ := rv_tup r2
          cases (show u2 = Value.ref a from v2)
          obtain ⟨its, vi, ⟨o, h1, h2, n, h3⟩, _⟩ := I.tuple (by rw [gd.K]; exact hq)
          obtain ⟨oc, od, dt, sl⟩ := o
          simp only at h2 h3
          subst h2 h3
          obtain ⟨P, Zx, p, hx⟩ := kitM_of I v1 (by rw [gd.K]; exact tyN_ok sr r1 et ht)
          refine PySem.W.kia_tup Zx I.kIn p h1 (by rw [gd.K]; exact anyI_ok O hr vi ei) hx fun tk => ?_
          exact ⟨.bl b, H, I.tok tk, rfl, hp H m _ Gr.refl sr to_bl⟩
      · cases ei : isi1 isa t cl with
        | none => rw [ei] at hp; exact hp.elim
        | some b =>
          rw [ei] at hp
          obtain ⟨o1, o2⟩ := isi1_ok O r2 v2 ei
          obtain ⟨P, Zx, p, hx⟩ := kitM_of I v1 (by rw [gd.K]; exact tyN_ok sr r1 et o1)
          exact PySem.W.kia_one Zx I.kIn p (by rw [gd.K]; exact o2) hx fun tk => ⟨.bl b, H, I.tok tk, rfl, hp H m _ Gr.refl sr to_bl⟩
    · exact hp.elim
  · exact hp.elim
end
end MP
set_option maxRecDepth 100000
namespace MP
open PySem L2
/-! ### texts joined -/
def asStrs : List PV → Option (List (List Nat))
  | [] => some []
  | .str s :: r => (asStrs r).map (s :: ·)
  | _ => none
def joinL (a : List Nat) : List (List Nat) → List Nat
  | [] => []
  | x :: r => x ++ (r.map fun p => a ++ p).flatten
def sumL (ys : List (List Nat)) : Nat := (ys.map (·.length)).sum
def joinV (a : List Nat) (v : PV) (S : Hs) : RE := match asQ S v with
  | some xs => match asStrs xs with
    | some ys => if decide (sumL ys + ys.length * a.length ≤ 16777216) then .ok (.str (joinL a ys)) S else .bad
    | none => .bad
  | none => .bad
def joinE (fo fe : Loc → Hs → RE) : Loc → Hs → RE := fun L S => (fo L S).bind fun v S1 => match v with
  | .str a => (fe L S1).bind fun w S2 => joinV a w S2
  | _ => .bad
/-! ### f-strings -/
def fmtV (v : PV) (S : Hs) : RE := match v with
  | .str s => if fits s then .ok (.str s) S else .bad
  | .int i => if smallI i && sOk (digI i) then .ok (.str (digI i)) S else .bad
  | _ => .bad
def fmtE (f : Loc → Hs → RE) : Loc → Hs → RE := fun L S => (f L S).bind fmtV
def jsE : List (Loc → Hs → RE) → List Nat → Loc → Hs → RE
  | [], acc => fun _ S => .ok (.str acc) S
  | f :: fs, acc => fun L S => (f L S).bind fun v S1 => match v with
    | .str s => if fits (acc ++ s) then jsE fs (acc ++ s) L S1 else .bad
    | _ => .bad
section
variable {Z : Sta} {W : WX} {σ : L2.St} {H H1 : Hp} {m m1 m2 : Mp} {X : Cx} {S : Hs} {x y : V} {a : Addr} {lv g k f : Nat} {T : Tab} {fdO : Nat → FuncData} {psO : Nat → List Str} {pins : List (Addr × Obj)} {s : Shared} {Q : VK} {c : CmpT}
theorem asStrs_ok : ∀ {xs : List PV} {ys : List V} {ss : List (List Nat)}, RVs Z H m xs ys → asStrs xs = some ss → ys = (ss.map fun s => (⟨s.toArray⟩ : Str)).map V.str ∧ ss.all sOk = true
  | [], ys, ss, r, e => by
    cases e
    unfold RVs at r
    exact ⟨r, rfl⟩
  | x :: xs, ys, ss, r, e => by
    unfold RVs at r
    obtain ⟨y, t, rfl, r1, r2⟩ := r
    cases x <;> first | (cases e; done) | skip
    rename_i z
    unfold asStrs at e
    obtain ⟨u, e1, rfl⟩ := map_some e
    obtain ⟨rfl, h2⟩ := asStrs_ok r2 e1
    obtain ⟨rfl, h1⟩ := rv_str r1
    exact ⟨rfl, by rw [List.all_cons, h1, h2]; rfl⟩
theorem glued_eq (a : List Nat) : ∀ (ys : List (List Nat)) (acc : List Nat), (ys.map fun s => (⟨s.toArray⟩ : Str)).foldl (fun acc p => acc ++ (⟨a.toArray⟩ : Str).cps ++ p.cps) acc.toArray = (acc ++ (ys.map fun p => a ++ p).flatten).toArray
  | [], acc => by simp
  | y :: ys, acc => by
    rw [List.map_cons, List.foldl_cons]
    have : acc.toArray ++ (⟨a.toArray⟩ : Str).cps ++ (⟨y.toArray⟩ : Str).cps = (acc ++ a ++ y).toArray := by simp
    rw [this, glued_eq a ys]
    simp
theorem join_eq (a : List Nat) (ys : List (List Nat)) : Txt.join ⟨a.toArray⟩ (ys.map fun s => (⟨s.toArray⟩ : Str)) = ⟨(joinL a ys).toArray⟩ := by
  unfold Txt.join Builtin.Str.glued
  cases ys with
  | nil => rfl
  | cons y ys =>
    have := glued_eq a ys y
    simp only [List.map_cons, List.drop_succ_cons, List.drop_zero, List.headD_cons]
    rw [this]
    rfl
theorem sOk_flat {a : List Nat} (ha : sOk a = true) : ∀ {ys : List (List Nat)}, ys.all sOk = true → sOk ((ys.map fun p => a ++ p).flatten) = true
  | [], _ => rfl
  | y :: ys, h => by
    rw [List.all_cons, Bool.and_eq_true] at h
    rw [List.map_cons, List.flatten_cons]
    exact sOk_app (sOk_app ha h.1) (sOk_flat ha h.2)
theorem sOk_join {a : List Nat} {ys : List (List Nat)} (ha : sOk a = true) (h : ys.all sOk = true) : sOk (joinL a ys) = true := by
  cases ys with
  | nil => rfl
  | cons y ys =>
    rw [List.all_cons, Bool.and_eq_true] at h
    exact sOk_app h.1 (sOk_flat ha h.2)
theorem ok_join {o e : Expr} {apos pos : Pos} {fo fe : Loc → Hs → RE} (hK : X.K = Z.K) (ho : PE X o (tE Z W fo)) (he : PE X e (tE Z W fe)) (hs : starEach [e] X.env = [(false, eval e X.env)]) (hbase : attributeBase o "join" X.env (eval o X.env) = eval o X.env) (hline : (apos.endLine == pos.line) = true) :
    PE X (.Call (.Attribute o "join" apos) [e] [] pos) (tE Z W (joinE fo fe)) := by
  refine PE.imp (pe_join ho he hs hbase hline) ?_
  rintro σ H Q ⟨m, L, S, sr, hl, hp⟩
  refine ⟨m, L, S, sr, hl, PostE.bind hp fun v S1 H1 m1 x g1 s1 r1 hp1 => ?_⟩
  split at hp1
  · rename_i a
    obtain ⟨rfl, ho1⟩ := rv_str r1
    refine ⟨⟨_, rfl⟩, m1, L, S1, s1, hl.grow g1, PostE.bind hp1 fun w S2 H2 m2 y g2 s2 r2 hp2 => ?_⟩
    unfold joinV at hp2
    split at hp2
    · rename_i xs ex
      split at hp2
      · rename_i ys ey
        split at hp2
        · rename_i hc
          obtain ⟨b, zs, rfl, hq, rr⟩ := asQ_ok s2 r2 ex
          obtain ⟨rfl, hso⟩ := asStrs_ok rr ey
          refine ⟨_, b, ys.map fun s => (⟨s.toArray⟩ : Str), rfl, rfl, by rw [hK]; exact hq, ?_, ?_⟩
          · have h1 := of_decide_eq_true hc
            have h2 : ((ys.map fun s => (⟨s.toArray⟩ : Str)).map (·.length)) = ys.map (·.length) := by
              rw [List.map_map]
              exact List.map_congr_left fun y _ => str_len y
            rw [h2, List.length_map, str_len]
            exact h1
          · rw [join_eq]
            exact hp2 H2 m2 _ Gr.refl s2 (to_str (sOk_join ho1 hso))
        · exact hp2.elim
      · exact hp2.elim
    · exact hp2.elim
  · exact hp1.elim
/-! ### f-strings -/
theorem ok_fmt {e : Expr} {pos : Pos} {fe : Loc → Hs → RE} (he : PE X e (tE Z W fe)) : PE X (.FormattedValue e (-1) none pos) (tE Z W (fmtE fe)) := by
  refine PE.imp (pe_fmt he) ?_
  rintro σ H Q ⟨m, L, S, sr, hl, hp⟩
  refine ⟨m, L, S, sr, hl, PostE.bind hp fun v S1 H1 m1 x g1 s1 r1 hp1 => ?_⟩
  unfold fmtV at hp1
  split at hp1
  · split at hp1
    · rename_i hf
      obtain ⟨rfl, ho⟩ := rv_str r1
      exact .inl ⟨_, rfl, by rw [str_len]; exact fits_ok hf, hp1 H1 m1 _ Gr.refl s1 (to_str ho)⟩
    · exact hp1.elim
  · split at hp1
    · rename_i hc
      rw [Bool.and_eq_true] at hc
      cases rv_int r1
      have := hp1 H1 m1 _ Gr.refl s1 (to_str hc.2)
      rw [digI_str] at this
      exact .inr ⟨_, rfl, of_decide_eq_true hc.1, this⟩
    · exact hp1.elim
  · exact hp1.elim
inductive JsOk (Z : Sta) (X : Cx) (W : WX) : List Expr → List (Loc → Hs → RE) → Prop where
  | nil : JsOk Z X W [] []
  | cons {e : Expr} {es : List Expr} {f : Loc → Hs → RE} {fs : List (Loc → Hs → RE)} : PE X e (tE Z W f) → JsOk Z X W es fs → JsOk Z X W (e :: es) (f :: fs)
theorem JsOk.pj : ∀ {es : List Expr} {fs : List (Loc → Hs → RE)}, JsOk Z X W es fs → PJ X es (fs.map (tE Z W))
  | _, _, .nil => .nil
  | _, _, .cons h r => .cons h r.pj
theorem js_read : ∀ {fs : List (Loc → Hs → RE)} {acc : List Nat} {L : Loc} {H : Hp} {m : Mp} {S : Hs}, SRel Z H m S → LRel Z H m L σ → sOk acc = true → PostE Z W σ H m Q (jsE fs acc L S) → tJs (fs.map (tE Z W)) ⟨acc.toArray⟩ σ H fun out H1 => Q (.str out) H1
  | [], acc, L, H, m, S, sr, hl, ho, hp => hp H m _ Gr.refl sr (to_str ho)
  | f :: fs, acc, L, H, m, S, sr, hl, ho, hp => by
    refine ⟨m, L, S, sr, hl, PostE.bind hp fun v S1 H1 m1 x g1 s1 r1 hp1 => ?_⟩
    split at hp1
    · rename_i st
      obtain ⟨rfl, ho1⟩ := rv_str r1
      split at hp1
      · rename_i hf
        refine ⟨_, rfl, by rw [str_app, str_len]; exact fits_ok hf, ?_⟩
        rw [str_app]
        exact js_read s1 (hl.grow g1) (sOk_app ho ho1) hp1
      · exact hp1.elim
    · exact hp1.elim
theorem ok_js {e1 e2 : Expr} {es : List Expr} {f1 f2 : Loc → Hs → RE} {fs : List (Loc → Hs → RE)} {pos : Pos} (h : JsOk Z X W (e1 :: e2 :: es) (f1 :: f2 :: fs)) : PE X (.JoinedStr (e1 :: e2 :: es) pos) (tE Z W (jsE (f1 :: f2 :: fs) [])) := by
  refine PE.imp (pe_joined h.pj) ?_
  rintro σ H Q ⟨m, L, S, sr, hl, hp⟩
  exact js_read sr hl rfl hp
/-! ### list, tuple, all, any -/
theorem list_ok {fz : Bool} (gd : Good Z lv X W) : CallOk Z X W (.type "list") (listV fz) := by
  intro pins s σ H xs us m S ps Q I rx sr rp hp
  unfold listV at hp
  split at hp
  · rename_i v
    obtain ⟨x, rfl, r1⟩ := rvs1 rp
    split at hp
    · rename_i st
      split at hp
      · rename_i hf
        obtain ⟨rfl, ho⟩ := rv_str r1
        obtain ⟨u, rfl, t, rfl⟩ := vals1 rx
        have hz : (⟨st.toArray⟩ : Str).cps.size ≤ sizeLine := by
          have := fits_ok hf
          simpa using this
        have rr : RVs Z H m (st.map fun c => PV.str [c]) (st.map fun c => V.str ⟨#[c]⟩) := by
          clear hf hp hz rx I r1 rp
          induction st with
          | nil => exact RVs.nil
          | cons c l ih =>
            unfold sOk at ho
            rw [List.all_cons, Bool.and_eq_true] at ho
            exact RVs.cons (by unfold RV; exact ⟨rfl, by unfold sOk; rw [List.all_cons, ho.1]; rfl⟩) (ih (by unfold sOk; exact ho.2))
        have z := newL_post sr rr hp
        refine PySem.call_list_str (gd.room3.hd) _ _ (fun h' tk acc' c' kp e hi => ?_) hz
        have hval : Vals (st.map fun c => V.str ⟨#[c]⟩) acc'.toList := by
          have h1 : acc'.toList.length = st.length := by
            have := hi.1
            simpa using this
          have h2 : ∀ (j : Nat) (v : Value), acc'.toList[j]? = some v → ∃ c, st[j]? = some c ∧ RelV (V.str ⟨#[c]⟩) v := fun j v hv => by
            obtain ⟨c, u, e1, e2⟩ := hi.2 j v (by simpa using hv)
            exact ⟨c, by simpa using e1, ⟨u, e2⟩⟩
          clear hi e
          generalize acc'.toList = l at h1 h2
          clear z rr hf hp hz rx I r1 rp ho
          induction st generalizing l with
          | nil =>
            cases l with
            | nil => exact .nil
            | cons _ _ => cases h1
          | cons c st ih =>
            cases l with
            | nil => cases h1
            | cons u l =>
              obtain ⟨c', e1, e2⟩ := h2 0 u rfl
              cases e1
              exact .cons e2 (ih l (by simpa using h1) fun j v hv => h2 (j + 1) v hv)
        exact ⟨.ref s.heap.objs.size, _, I.laid (t' := tk) kp (Nat.le_refl _) (show ObjOk X.prog X.w _ h' _ (.lst _) from ⟨z.1, acc'.toList, c', hval, by rw [Array.toArray_toList]; exact e⟩), rfl, z.2 _ (I.hok.fresh (Nat.le_refl _))⟩
      · exact hp.elim
    · split at hp
      · rename_i xs el
        obtain ⟨b, ys, rfl, hq, rr⟩ := asQ_ok sr r1 el
        exact call_list_of pins s σ H _ us Q I rx ⟨b, ys, rfl, by rw [gd.K]; exact hq, (newL_post sr rr hp).2⟩
      · exact hp.elim
  · exact hp.elim
theorem asBs_ok : ∀ {xs : List PV} {ys : List V} {bs : List Bool}, RVs Z H m xs ys → asBs xs = some bs → ys = bs.map V.bl
  | [], ys, bs, r, e => by
    cases e
    unfold RVs at r
    exact r
  | x :: xs, ys, bs, r, e => by
    unfold RVs at r
    obtain ⟨y, t, rfl, r1, r2⟩ := r
    cases x <;> first | (cases e; done) | skip
    unfold asBs at e
    obtain ⟨u, e1, rfl⟩ := map_some e
    rw [asBs_ok r2 e1, rv_bl r1]
    rfl
theorem all_ok (gd : Good Z lv X W) : CallOk Z X W (.builtin "all") allV := by
  refine CallOk.of (cr_all gd.calm) fun σ H m S ps xs Q sr rp hp => ?_
  unfold allV at hp
  split at hp
  · obtain ⟨x, rfl, r1⟩ := rvs1 rp
    split at hp
    · rename_i xs el
      obtain ⟨b, ys, rfl, hq, rr⟩ := asL_ok sr r1 el
      cases eb : asBs xs with
      | none => rw [eb] at hp; exact hp.elim
      | some bs =>
        rw [eb] at hp
        cases asBs_ok rr eb
        exact ⟨b, bs, rfl, SqL.of hq, hp H m _ Gr.refl sr to_bl⟩
    · exact hp.elim
  · exact hp.elim
theorem any_ok (gd : Good Z lv X W) : CallOk Z X W (.builtin "any") anyV := by
  refine CallOk.of (cr_any gd.calm) fun σ H m S ps xs Q sr rp hp => ?_
  unfold anyV at hp
  split at hp
  · obtain ⟨x, rfl, r1⟩ := rvs1 rp
    split at hp
    · rename_i xs el
      obtain ⟨b, ys, rfl, hq, rr⟩ := asL_ok sr r1 el
      cases eb : asBs xs with
      | none => rw [eb] at hp; exact hp.elim
      | some bs =>
        rw [eb] at hp
        cases asBs_ok rr eb
        exact ⟨b, bs, rfl, SqL.of hq, hp H m _ Gr.refl sr to_bl⟩
    · exact hp.elim
  · exact hp.elim
end
end MP
set_option maxRecDepth 100000
namespace MP
open PySem L2
/-! ### C.m(..), m a staticmethod of the class C -/
structure SMt (K : PySem.W.Frag) (C : Addr) (m : Str) (g : Addr) : Prop where
  rd : PySem.W.readsIn K C (.type "type") = true
  ga : PySem.W.specialIn K (.ref C) "__getattribute__" = some (some (.builtin "type.__getattribute__"))
  at_ : ∃ p rest, PySem.W.findCls K (.ref C) (.type "type") m = some (.get (.builtin "staticmethod.__get__") (.ref p) .none (.ref C)) ∧ PySem.W.recIn K p "staticmethod" = some (.ref g :: rest)
/-! ### o.f = e -/
def putN (f : Nat) (v : PV) : List Nat → List PV → List Nat × List PV
  | n :: ns, x :: xs => if n = f then (n :: ns, v :: xs) else let r := putN f v ns xs; (n :: r.1, x :: r.2)
  | _, _ => ([f], [v])
/-- the classes' names that are plain attributes -/
def isFld : FK → Bool
  | .fld => true
  | _ => false
def setfS (T : Tab) (f : Nat) (fo fe : Loc → Hs → RE) : Loc → Hs → RS := fun L S => (fe L S).bindS L fun v S1 => (fo L S1).bindS L fun o S2 => match o with
  | .loc i => match getR S2 i with
    | some (.ins k ns xs) => if isFld (T.mem k f) && decide (ns.length < 900) && decide (ns.length = xs.length) then .nx L (setR S2 i (.ins k (putN f v ns xs).1 (putN f v ns xs).2)) else .bad
    | _ => .bad
  | _ => .bad
section
variable {Z : Sta} {W : WX} {σ : L2.St} {H H1 : Hp} {m m1 m2 : Mp} {X : Cx} {S : Hs} {x y : V} {a : Addr} {lv g k f : Nat} {T : Tab} {fdO : Nat → FuncData} {psO : Nat → List Str} {pins : List (Addr × Obj)} {s : Shared} {Q : VK} {c : CmpT}
theorem ok_smeth {o : Expr} {nm : Str} {apos pos : Pos} {es : List Expr} {kws : List Keyword} {ks : List Str} {n : Nat} {iso : Bool} {arr : List PV → List PV → List PV} {ga gk : Loc → Hs → RA} {pl : Sem Bool} (TO : TabOk Z lv T fdO psO) (gd : Good Z lv X W)
    (hh : T.has g = true) (he : T.arr g n ks = some arr) (ho : PE X o (tC (.ref (Z.G k)))) (M : SMt Z.K (Z.G k) nm (Z.G g)) (ha : ArgsOk Z X W es ga) (hkw : KwsOk Z X W kws ks gk)
    (ht : eval (.Call (.Attribute o nm apos) es kws pos) X.env = (do
      let ov ← eval o X.env
      standAt apos.atName
      let (f, first) ← holding [ov] (getMethod ov nm pl)
      callWith pos f first (backTo pos (starEach es X.env)) (backToKw pos (keywordEach kws X.env)))) :
    PE X (.Call (.Attribute o nm apos) es kws pos) (tE Z W (callE n ks.length ga gk fun vs qs => useC iso (T.run g) (arr vs qs))) := by
  refine ⟨fun pins s σ H Q I ⟨m, L, S, sr, hl, hp⟩ => ?_⟩
  refine PySem.W.methodCall_KW (pl := pl) (thn (ho.run pins s σ H (fun x H1 => x = .ref (Z.G k) ∧ H1 = H) I ⟨rfl, rfl⟩) fun u s1 ⟨x, H1, I1, rx, e1, e2⟩ => ?_) ht
  subst e1 e2
  obtain rfl : u = Value.ref (Z.G k) := rx
  have F := TO.fn g hh
  have hb := TO.arr g n ks arr he
  obtain ⟨p, rest, h1, h2⟩ := M.at_
  have kI := I1.kIn
  rw [gd.K] at kI
  refine PySem.W.method_cls kI M.ga (PySem.W.cls_bind kI M.rd h1 (wpAny_call (PySem.W.sm_get (s := { s1 with toks := s1.toks + 1 }) kI h2 (PySem.W.handed_on rfl ?_))))
  refine callWith_all (s := { s1 with toks := s1.toks + 1 }) (by rw [gd.K]; exact F.kp) ha hkw (I1.tok _) sr hl hp fun us ws s2 xs zs H2 m2 S2 vs qs g2 I2 rx rz sr2 r1 r2 c1 c2 hp2 => ?_
  obtain ⟨ts, ys, b1, b2, b3, b4⟩ := hb s2 us ws xs zs (by rw [← gd.K]; exact I2.kIn) (by rw [← rx.length, ← r1.len]; exact c1) (by rw [← rz.length, ← r2.len]; exact c2) rx rz
  exact own_run gd F (gd.room.mono (Nat.le_succ _)) rfl I2 b1 b2 (use_sp sr2 (b4 H2 m2 vs qs r1 r2) b3 hp2 fun _ _ _ h => h) fun v H' u s' I' rv q => ⟨v, H', I', rv, q⟩
theorem putN_ok {v : PV} (rv : RV Z H m v x) : ∀ {ns : List Nat} {xs : List PV} {ys : List V}, ns.length = ys.length → RVs Z H m xs ys →
    ∃ zs, putF (Z.FN f) x (zipF Z ns ys) = zipF Z (putN f v ns xs).1 zs ∧ (putN f v ns xs).1.length = zs.length ∧ RVs Z H m (putN f v ns xs).2 zs
  | [], xs, ys, hl, r => by
    cases ys with
    | cons _ _ => cases hl
    | nil =>
      refine ⟨[x], ?_, rfl, ?_⟩
      · unfold putN zipF
        rfl
      · unfold putN
        exact RVs.cons rv RVs.nil
  | n :: ns, [], ys, hl, r => by
    unfold RVs at r
    subst r
    cases hl
  | n :: ns, w :: xs, ys, hl, r => by
    unfold RVs at r
    obtain ⟨y, t, rfl, r1, r2⟩ := r
    have ez : zipF Z (n :: ns) (y :: t) = (Z.FN n, y) :: zipF Z ns t := by rw [zipF]
    rw [ez]
    by_cases c : n = f
    · subst c
      refine ⟨x :: t, ?_, ?_, ?_⟩
      · unfold putN putF
        rw [if_pos rfl, if_pos rfl]
        show _ = zipF Z (n :: ns) (x :: t)
        rw [zipF]
      · unfold putN
        rw [if_pos rfl]
        exact hl
      · unfold putN
        rw [if_pos rfl]
        exact RVs.cons rv r2
    · obtain ⟨zs, h1, h2, h3⟩ := putN_ok rv (ns := ns) (ys := t) (by simpa using hl) r2
      have hne : ¬ Z.FN n = Z.FN f := fun q => c (Z.inj _ _ q)
      refine ⟨y :: zs, ?_, ?_, ?_⟩
      · unfold putN putF
        rw [if_neg hne, if_neg c, h1]
        show _ = zipF Z (n :: (putN f v ns xs).1) (y :: zs)
        rw [zipF]
      · unfold putN
        rw [if_neg c]
        simp [h2]
      · unfold putN
        rw [if_neg c]
        exact RVs.cons r1 h3
theorem ok_setf {o e : Expr} {nm : Str} {pos pos' : Pos} {fo fe : Loc → Hs → RE} (TO : TabOk Z lv T fdO psO) (gd : Good Z lv X W) (hf : Z.FN f = nm) (ho : PE X o (tE Z W fo)) (he : PE X e (tE Z W fe))
    (hs : swapsWith e (some (.Attribute o nm pos')) pos.line X.env = pure false) : PS X (.Assign [.Attribute o nm pos'] e pos) (tS Z W (setfS T f fo fe)) := by
  subst hf
  refine PS.imp (ps_fld ho he hs) ?_
  rintro D σ H ⟨m, L, S, sr, hl, hp⟩
  refine ⟨m, L, S, sr, hl, PostE.bindS hl hp fun v S1 H1 m1 y g1 s1 r1 hp1 => ⟨m1, L, S1, s1, hl.grow g1, PostE.bindS (hl.grow g1) hp1 fun ov S2 H2 m2 x g2 s2 r2 hp2 => ?_⟩⟩
  split at hp2
  · rename_i i
    split at hp2
    · rename_i k ns xs ec
      split at hp2
      · rename_i hc
        simp only [Bool.and_eq_true, decide_eq_true_eq] at hc
        have tk := TO.mem k f
        cases em : T.mem k f with
        | fld =>
          rw [em] at tk
          unfold RV at r2
          obtain ⟨a, ea, rfl⟩ := r2
          obtain ⟨b, eb, dx, ys, hA, hle, rr⟩ := s2.at_ ec
          rw [ea] at eb
          cases eb
          obtain ⟨zs, z1, z2, z3⟩ := putN_ok (f := f) (r1.grow g2) hle rr
          have ht : ∀ xs, ¬ Rd H2 a (.tup xs) := fun xs h => by
            rcases h with h | ⟨o, h⟩ <;> (rw [hA] at h; cases h)
          have g3 := Gr.upd (Z := Z) (m := m2) (o := .ins (Z.G k) dx (putF (Z.FN f) y (zipF Z ns ys))) (getR_mem ea) ht
          refine ⟨a, Z.G k, dx, zipF Z ns ys, rfl, hA, by rw [gd.K]; exact tk.1, by rw [gd.K]; exact tk.2, ?_, hp2 _ m2 σ g3 (s2.set ea ht ⟨dx, zs, ?_, z2, z3.grow g3⟩) (((hl.grow g1).grow g2).grow g3)⟩
          · have : ∀ (ns : List Nat) (ys : List V), (zipF Z ns ys).length ≤ ns.length := fun ns => by
              induction ns with
              | nil => intro ys; unfold zipF; exact Nat.zero_le _
              | cons n ns ih =>
                intro ys
                cases ys with
                | nil => unfold zipF; exact Nat.zero_le _
                | cons y ys => rw [zipF]; simp [ih ys]
            have := this ns ys
            omega
          · rw [upd_same, z1]
        | prop _ => rw [em] at hc; exact absurd hc.1.1 Bool.false_ne_true
        | meth _ => rw [em] at hc; exact absurd hc.1.1 Bool.false_ne_true
        | bad => rw [em] at hc; exact absurd hc.1.1 Bool.false_ne_true
      · exact hp2.elim
    · exact hp2.elim
  · exact hp2.elim
end
end MP
set_option maxRecDepth 100000
namespace MP
open PySem L2
/-! ### the names of a def, of a comprehension's block -/
def visB (N : List Str) (sc : Scope) (i : Nat) : Bool := match N[i]? with
  | some x => (match sc.names.lookup x with
    | some .local => true
    | some .cell => true
    | some .free => true
    | _ => false) && !(x == ("__debug__" : Str)) && !(x == ("__classdict__" : Str))
  | none => false
def locB (N : List Str) (sc : Scope) (i : Nat) : Bool := match N[i]? with
  | some x => (match sc.names.lookup x with
    | some .local => true
    | some .cell => true
    | _ => false)
  | none => false
def gloB (sc : Scope) (x : Str) : Bool := (match sc.names.lookup x with
    | some .globalImplicit => true
    | _ => false) && !(x == ("__debug__" : Str)) && !(x == ("__name__" : Str))
def chkD (N : List Str) (sc : Scope) (vs ls : List Nat) (gs : List Str) : Bool := vs.all (visB N sc) && ls.all (locB N sc) && gs.all (gloB sc)
structure DefX (X : Cx) (N : List Str) (sc : Scope) (vs ls : List Nat) (gs : List Str) : Prop where
  eN : X.N = N
  esc : X.env.scope = sc
  chk : chkD N sc vs ls gs = true
  fnc : ∀ i nm, ls.contains i = true → N[i]? = some nm → X.fn nm = true ∨ X.env.scope.names.lookup nm = some .local
section
variable {Z : Sta} {W : WX} {σ : L2.St} {H H1 : Hp} {m m1 m2 : Mp} {X : Cx} {S : Hs} {x y : V} {a : Addr} {lv g k f : Nat} {T : Tab} {fdO : Nat → FuncData} {psO : Nat → List Str} {pins : List (Addr × Obj)} {s : Shared} {Q : VK} {c : CmpT} {N : List Str} {sc : Scope} {vs ls : List Nat} {gs : List Str}
theorem DefX.c3 (D : DefX X N sc vs ls gs) : vs.all (visB N sc) = true ∧ ls.all (locB N sc) = true ∧ gs.all (gloB sc) = true := by
  have h := D.chk
  unfold chkD at h
  rw [Bool.and_eq_true, Bool.and_eq_true] at h
  exact ⟨h.1.1, h.1.2, h.2⟩
theorem D_var (D : DefX X N sc vs ls gs) {nm : Str} {pos : Pos} (i : Nat) (hv : vs.contains i = true) (hN : N[i]? = some nm) : PE X (.Name nm pos) (tE Z W (varE i)) := by
  have h := List.all_eq_true.mp D.c3.1 i (by simpa using hv)
  unfold visB at h
  rw [hN] at h
  simp only [Bool.and_eq_true, Bool.not_eq_true'] at h
  refine ok_var (by rw [D.eN]; exact hN) ?_ h.1.2 h.2
  rw [D.esc]
  unfold Vis
  have h1 := h.1.1
  split at h1 <;> first | (rename_i e; exact .inl e) | (rename_i e; exact .inr (.inl e)) | (rename_i e; exact .inr (.inr e)) | cases h1
theorem D_loc (D : DefX X N sc vs ls gs) {nm : Str} (i : Nat) (hv : ls.contains i = true) (hN : N[i]? = some nm) : X.N[i]? = some nm ∧ L2.Loc X.env.scope nm := by
  have h := List.all_eq_true.mp D.c3.2.1 i (by simpa using hv)
  unfold locB at h
  rw [hN] at h
  refine ⟨by rw [D.eN]; exact hN, ?_⟩
  rw [D.esc]
  unfold L2.Loc
  simp only at h
  split at h
  · rename_i e; exact .inl e
  · rename_i e; exact .inr e
  · cases h
theorem D_tgt (gd : Good Z lv X W) (D : DefX X N sc vs ls gs) {nm : Str} {pos : Pos} (i : Nat) (hv : ls.contains i = true) (hN : N[i]? = some nm) : PG X (.Name nm pos) (tG Z [i] (nameT i)) := by
  obtain ⟨h1, h2⟩ := D_loc D i hv hN
  exact ok_nameT gd.nd h1 h2 (D.fnc i nm hv hN)
theorem D_glo (D : DefX X N sc vs ls gs) {nm : Str} (i : Nat) (hN : gs[i]? = some nm) : Gl X nm ∧ (nm == ("__debug__" : Str)) = false ∧ nm ≠ "__name__" := by
  have h := List.all_eq_true.mp D.c3.2.2 nm (List.mem_of_getElem? hN)
  unfold gloB at h
  simp only [Bool.and_eq_true, Bool.not_eq_true'] at h
  refine ⟨?_, h.1.2, fun e => ?_⟩
  · show X.env.scope.names.lookup nm = _
    rw [D.esc]
    have h1 := h.1.1
    split at h1
    · assumption
    · cases h1
  · have h2 := h.2
    rw [e] at h2
    exact absurd h2 (by decide)
/-- a def, a class of the text as a value -/
theorem D_st (D : DefX X N sc vs ls gs) (gd : Good Z lv X W) {nm : Str} {pos : Pos} (i : Nat) (hN : gs[i]? = some nm) (hm : Z.mg nm = some (.ref (Z.G k))) : PE X (.Name nm pos) (tE Z W (conE (.st k))) := by
  obtain ⟨h1, h2, h3⟩ := D_glo D i hN
  exact ok_con (pe_glob (v := .ref (Z.G k)) h1 (by rw [gd.mg]; exact hm) rfl h2) fun H m => by unfold RV; rfl
/-- a value of the module -/
theorem D_con (D : DefX X N sc vs ls gs) (gd : Good Z lv X W) {nm : Str} {pos : Pos} {v : PV} (i : Nat) (hN : gs[i]? = some nm) (hm : ∃ u w, Z.mg nm = some u ∧ RelV w u ∧ ∀ H m, RV Z H m v w) : PE X (.Name nm pos) (tE Z W (conE v)) := by
  obtain ⟨h1, h2, h3⟩ := D_glo D i hN
  obtain ⟨u, w, e, r, q⟩ := hm
  exact ok_con (pe_glob (v := w) h1 (by rw [gd.mg]; exact e) r h2) q
/-- a built-in type as a value -/
theorem D_ty (D : DefX X N sc vs ls gs) (gd : Good Z lv X W) {nm : Str} {pos : Pos} {n : String} (i : Nat) (hN : gs[i]? = some nm) (hm : Z.mg nm = none) (hb : bootBuiltins nm = some (.type n)) : PE X (.Name nm pos) (tE Z W (conE (.ty n))) := by
  obtain ⟨h1, h2, h3⟩ := D_glo D i hN
  exact ok_con (pe_bltn (v := .ty n) h1 (by rw [gd.mg]; exact hm) hb rfl h3 h2) fun H m => by unfold RV; rfl
theorem c_int {i : Int} {j : Nat} {pos : Pos} : PE X (.Constant (.int i) j pos) (tE Z W (conE (.int i))) := ok_con pe_int fun H m => to_int
theorem c_bl {b : Bool} {j : Nat} {pos : Pos} : PE X (.Constant (.bool b) j pos) (tE Z W (conE (.bl b))) := ok_con pe_bl fun H m => to_bl
theorem c_non {j : Nat} {pos : Pos} : PE X (.Constant .none j pos) (tE Z W (conE .non)) := ok_con pe_non fun H m => to_non
theorem c_str {z : Str} {j : Nat} {pos : Pos} (l : List Nat) (h : z = ⟨l.toArray⟩) (ho : sOk l = true) : PE X (.Constant (.str z) j pos) (tE Z W (conE (.str l))) := by
  subst h
  exact ok_con pe_str fun H m => to_str ho
/-! ### comprehensions -/
def trueB : Loc → Hs → RB := fun _ S => .ok true S
theorem pts_none : PTs X [] (tB Z W trueB) := ⟨fun pins s σ H Q I ⟨m, L, S, sr, hl, hp⟩ => pts_nil.run pins s σ H Q I (hp H m Gr.refl sr)⟩
def ownB (N : List Str) (sc scope : Scope) (i : Nat) : Bool := match N[i]? with
  | some x => decide (scope.names.lookup x = some .cell) || decide ((relS scope sc).names.lookup x = some .local)
  | none => false
def blkAll (N : List Str) (sc scope : Scope) (own : List (Str × Nat)) (vs ls : List Nat) (gs : List Str) : Bool := blkC N sc scope own && (chkD N (relS scope sc) vs ls gs && ls.all (ownB N sc scope))
theorem Good.blk (gd : Good Z lv X W) {scope : Scope} {e : Env} {fp : List Addr} : Good Z lv (X.blk s H scope e fp) W0 :=
  ⟨gd.prog, gd.w, gd.K, gd.mg, gd.base, gd.room3, gd.calm, gd.nd, fun u s' ⟨_, _, _, _, _, _, _, _, _, _, _, _, _, _, _, _, z⟩ => z⟩
theorem blk_fnc {scope : Scope} {s : Shared} {C : Addr} {cl : List (Str × Addr)} {fp : List Addr} {ls' : List Nat} (h : ls'.all (ownB N sc scope) = true) (he : (X.blk s H scope (compEnvC scope cl C X.env) fp).env.scope = relS scope sc) (i : Nat) (nm : Str) (hi : ls'.contains i = true) (hN : N[i]? = some nm) :
    (X.blk s H scope (compEnvC scope cl C X.env) fp).fn nm = true ∨ (X.blk s H scope (compEnvC scope cl C X.env) fp).env.scope.names.lookup nm = some .local := by
  have q := List.all_eq_true.mp h i (by simpa using hi)
  unfold ownB at q
  rw [hN] at q
  simp only [Bool.or_eq_true, decide_eq_true_eq] at q
  rcases q with q | q
  · refine .inl ?_
    show (scope.names.lookup nm == some .cell) = true
    rw [q]
    rfl
  · exact .inr (by rw [he]; exact q)
theorem ok_lc {elt tg iter : Expr} {ifs : List Expr} {scope : Scope} {pos : Pos} {fz : Bool} {src : Loc → Hs → RI} {tgt : TgF} {cond : Loc → Hs → RB} {fe : Loc → Hs → RE} {T' : List Nat} {vs' ls' : List Nat} {gs' : List Str} (own : List (Str × Nat)) (gd : Good Z lv X W) (D : DefX X N sc vs ls gs)
    (hi : PI X tg iter (tI Z W src)) (hc : blkAll N sc scope own vs' ls' gs' = true) (hT : T'.all (fun i => (own.map (·.2)).contains i) = true)
    (hb : ∀ Xb, Good Z lv Xb W0 → DefX Xb N (relS scope sc) vs' ls' gs' → PG Xb tg (tG Z T' tgt) ∧ PTs Xb ifs (tB Z W0 cond) ∧ PE Xb elt (tE Z W0 fe)) (hs : ∀ x, foldedSetIterable iter X.env x = pure x) :
    PE X (.ListComp elt [⟨tg, iter, ifs, 0⟩] scope pos) (tE Z W (lcE fz (own.map (·.2)) src tgt cond fe)) := by
  unfold blkAll at hc
  rw [Bool.and_eq_true, Bool.and_eq_true] at hc
  have ok : BlkOk X.N X.env.scope scope own := by rw [D.eN, D.esc]; exact blkOk_by hc.1
  have DB : ∀ (s : Shared) (H : Hp) (C : Addr) (cl : List (Str × Addr)) (fp : List Addr), DefX (X.blk s H scope (compEnvC scope cl C X.env) fp) N (relS scope sc) vs' ls' gs' := fun s H C cl fp => ⟨D.eN, by rw [← D.esc]; rfl, hc.2.1, blk_fnc hc.2.2 (by rw [← D.esc]; rfl)⟩
  exact PE.imp (pe_lc gd.calm gd.nd hi ok (fun s H C cl fp => (hb _ gd.blk (DB s H C cl fp)).1) (fun s H C cl fp => (hb _ gd.blk (DB s H C cl fp)).2.1) (fun s H C cl fp => (hb _ gd.blk (DB s H C cl fp)).2.2) hs)
    fun σ H Q h => lc_read (fun i hi' => by simpa using List.all_eq_true.mp hT i hi') h
/-- name = [..] -/
theorem ok_setLc {i : Nat} {nm : Str} {py spos : Pos} {elt tg iter : Expr} {ifs : List Expr} {scope : Scope} {pos : Pos} {fz : Bool} {src : Loc → Hs → RI} {tgt : TgF} {cond : Loc → Hs → RB} {fe : Loc → Hs → RE} {T' : List Nat} {vs' ls' : List Nat} {gs' : List Str} (own : List (Str × Nat)) (gd : Good Z lv X W) (D : DefX X N sc vs ls gs)
    (hv : ls.contains i = true) (hN : N[i]? = some nm) (hloc : sc.names.lookup nm = some .local) (hk : sc.kind = .function) (hl : (py.line == pos.line) = true) (ha : (scope.names.any fun (n, k) => n == nm && (k == .local || k == .cell)) = false)
    (hi : PI X tg iter (tI Z W src)) (hc : blkAll N sc scope own vs' ls' gs' = true) (hT : T'.all (fun i => (own.map (·.2)).contains i) = true)
    (hb : ∀ Xb, Good Z lv Xb W0 → DefX Xb N (relS scope sc) vs' ls' gs' → PG Xb tg (tG Z T' tgt) ∧ PTs Xb ifs (tB Z W0 cond) ∧ PE Xb elt (tE Z W0 fe)) (hs : ∀ x, foldedSetIterable iter X.env x = pure x) :
    PS X (.Assign [.Name nm py] (.ListComp elt [⟨tg, iter, ifs, 0⟩] scope pos) spos) (tS Z W (asgS (lcE fz (own.map (·.2)) src tgt cond fe) (nameT i))) := by
  unfold blkAll at hc
  rw [Bool.and_eq_true, Bool.and_eq_true] at hc
  have ok : BlkOk X.N X.env.scope scope own := by rw [D.eN, D.esc]; exact blkOk_by hc.1
  have DB : ∀ (s : Shared) (H : Hp) (C : Addr) (cl : List (Str × Addr)) (fp : List Addr), DefX (X.blk s H scope (compEnvC scope cl C X.env) fp) N (relS scope sc) vs' ls' gs' := fun s H C cl fp => ⟨D.eN, by rw [← D.esc]; rfl, hc.2.1, blk_fnc hc.2.2 (by rw [← D.esc]; rfl)⟩
  have h1 := (D_loc D i hv hN).1
  have h2 : X.env.scope.names.lookup nm = some .local := by rw [D.esc]; exact hloc
  refine PS.imp (ps_setLc gd.calm gd.nd h1 h2 (sw_true (by rw [D.esc]; exact hk) h2 hl ha) hi ok (fun s H C cl fp => (hb _ gd.blk (DB s H C cl fp)).1) (fun s H C cl fp => (hb _ gd.blk (DB s H C cl fp)).2.1) (fun s H C cl fp => (hb _ gd.blk (DB s H C cl fp)).2.2) hs) ?_
  rintro D' σ H ⟨m, L, S, sr, hl', hp⟩
  refine lc_read (fun i hi' => by simpa using List.all_eq_true.mp hT i hi') ⟨m, L, S, sr, hl', PostE.bindS hl' hp fun v S1 H1 m1 x g1 s1 r1 hp1 => ?_⟩
  exact hp1 H1 m1 _ Gr.refl s1 ((hl'.grow g1).set r1)
/-! ### a def by its body -/
/-- what a def's own context gives -/
structure Hx (X : Cx) : Prop where
  po : PassesOwn (model X.prog X.w) X.A X.env X.xe
  st : X.stack = X.env :: X.outer
  fr : X.env.frame = some X.env.locals
/-- what a def's own context has besides -/
structure Bx (lv : Nat) (X : Cx) (fd : FuncData) (qual : Str) : Prop where
  room : Room (lv + 5) X.A
  code : X.env.code = fd.code
  qual : X.env.qual = qual ++ ".<locals>."
theorem fn_body {nm qual : Str} {params : Arguments} {body : List Stmt} {scope : Scope} {dvs : List V} {kws : List (Str × V)} {fd : FuncData} {ps : List Str} {b : Loc → Hs → RS} (F : FunD Z.K nm qual params body scope dvs kws (Z.G g) fd) (SC : FnScope N ps scope) (hc : chkD N scope vs ls gs = true)
    (hb : ∀ X W, Good Z lv X W → DefX X N scope vs ls gs → Hx X → Bx lv X fd qual → PSs X body (tS Z W b)) : FnOk Z.P Z.w Z.K Z.mg Z.base (CX Z.P Z.w) (lv + 6) (Z.G g) fd ps (spF Z ps.length (runB N.length b)) := by
  obtain ⟨oc, od, dV, kV, doc, pm, an, cdv, ct, osl, rfl, lk, hcd, _, _⟩ := F.ex
  refine fn_of (k := lv + 5) lk hcd SC (fun vs H Q E h => h.1) fun A outer s H vs Q E hr h => ?_
  obtain ⟨hlen, m, S, ps', sr, rr, hp⟩ := h
  exact ⟨_, hb _ (fun c d _ H' => E c d H') ⟨rfl, rfl, rfl, rfl, rfl, hr.mono (Nat.add_le_add_left (by decide) lv), rfl, SC.nd, takes_of rfl rfl rfl rfl⟩ ⟨rfl, rfl, hc, fun _ _ _ _ => .inl rfl⟩ ⟨passes_of rfl, rfl, rfl⟩ ⟨hr, rfl, rfl⟩, run_post sr rr hp⟩
end
end MP
set_option maxRecDepth 100000
namespace MP
open PySem L2
/-! ### facts of the written part, as Bools -/
abbrev Fr : Type := PySem.W.Frag
def eqB' (a b : Option (Option Value)) : Bool := decide (a = b)
def clsB (K : Fr) (C : Addr) : Bool := PySem.W.plainGet K C Str.empty && PySem.W.hasDictIn K C && PySem.W.plainOver K C && eqB' (PySem.W.findIn K (.ref C) "__setattr__") (some (some (.builtin "object.__setattr__")))
def noatB (K : Fr) (C : Addr) (f : Str) : Bool := eqB' (PySem.W.findIn K (.ref C) f) (some none)
def methB (K : Fr) (C : Addr) (m : Str) (g : Addr) : Bool := eqB' (PySem.W.findIn K (.ref C) m) (some (some (.ref g))) && PySem.W.isFn K (.ref g) && PySem.W.keepIn K (.ref g)
def recHd (K : Fr) (p : Addr) (T : String) (g : Addr) : Bool := match PySem.W.recIn K p T with
  | some (.ref g' :: _) => decide (g' = g)
  | _ => false
def propB (K : Fr) (C : Addr) (f : Str) (p g : Addr) : Bool := eqB' (PySem.W.findIn K (.ref C) f) (some (some (.ref p))) && eqB' (PySem.W.specialIn K (.ref p) "__get__") (some (some (.builtin "property.__get__"))) && decide (PySem.W.takesIn K (.ref p) = some true) && recHd K p "property" g
def mkB (K : Fr) (C g : Addr) : Bool := PySem.W.makesIn K C && eqB' (PySem.W.findIn K (.ref C) "__init__") (some (some (.ref g))) && PySem.W.isFn K (.ref g) && PySem.W.keepIn K (.ref C)
def ownTyB (K : Fr) (C : Addr) : Bool := clsB K C && eqB' (PySem.W.findIn K (.ref C) "__class__") (some (some (.builtin "object.__class__"))) && eqB' (PySem.W.specialIn K (.builtin "object.__class__") "__get__") (some (some (.builtin "getset_descriptor.__get__"))) &&
  decide (PySem.W.takesIn K (.builtin "object.__class__") = some true) && decide (PySem.W.mroIn K C (.type "object") = some true)
def ownEqB (K : Fr) (C : Addr) : Bool := ownTyB K C && eqB' (PySem.W.findIn K (.ref C) "__ne__") (some (some (.builtin "object.__ne__"))) && (List.range 7).all fun n => decide (PySem.W.subIn K (.type (tyS n)) (.ref C) = some false)
def someRef : Option (Option Value) → Bool
  | some none => true
  | some (some (.ref _)) => true
  | _ => false
def opTB (K : Fr) (C : Addr) (T : String) (op : Operator) : Bool := (PySem.W.findIn K (.type T) (dunder op.info.2)).isSome && (PySem.W.findIn K (.type T) (dunderR op.info.2)).isSome && decide (PySem.W.subIn K (.type T) (.ref C) = some false)
def ownOpB (K : Fr) (C : Addr) (op : Operator) : Bool := PySem.W.selfFirst K C && someRef (PySem.W.findIn K (.ref C) (dunderR op.info.2)) && opTB K C "str" op && opTB K C "int" op && noInp K C (PySem.dunderI op.info.2)
def ownRefB (K : Fr) (C : Addr) (op : Operator) : Bool := PySem.W.selfFirst K C && (match PySem.W.findIn K (.ref C) (dunder op.info.2) with
  | some (some v) => !ownNameWrapper v (dunder op.info.2)
  | _ => false) && eqB' (PySem.W.findIn K (.type "str") (dunder op.info.2)) (some none) && eqB' (PySem.W.findIn K (.type "str") (dunderR op.info.2)) (some none)
def ownRefIB (K : Fr) (C : Addr) (op : Operator) : Bool := PySem.W.selfFirst K C && (match PySem.W.findIn K (.ref C) (dunder op.info.2) with
  | some (some v) => !ownNameWrapper v (dunder op.info.2)
  | _ => false) && decide (PySem.W.subIn K (.ref C) (.type "int") = some false)
def smtB (K : Fr) (C : Addr) (m : Str) (p g : Addr) : Bool := PySem.W.readsIn K C (.type "type") && eqB' (PySem.W.specialIn K (.ref C) "__getattribute__") (some (some (.builtin "type.__getattribute__"))) && (match PySem.W.findCls K (.ref C) (.type "type") m with
  | some (.get (.builtin gid) (.ref p') .none (.ref D)) => decide (gid = "staticmethod.__get__") && decide (p' = p) && decide (D = C)
  | _ => false) && recHd K p "staticmethod" g
def kitB (K : Fr) (t c : Value) (b : Bool) : Bool := decide (PySem.W.kitOne K t c = some b)
def gloK (K : Fr) (x : Str) (a : Addr) : Bool := eqB' (PySem.W.nsIn K mainGlobals x) (some (some (.ref a)))
def freK (K : Fr) (x : Str) : Bool := eqB' (PySem.W.nsIn K mainGlobals x) (some none)
/-- a value of the text: flat ones, tuples of them -/
def pvB (K : Fr) : Nat → PV → Value → Bool
  | 0, _, _ => false
  | n + 1, v, u => match v, u with
    | .non, .none => true
    | .bl b, .bool c => b == c
    | .int i, .int j _ => decide (i = j)
    | .str s, .str y _ => decide (y = ⟨s.toArray⟩) && sOk s
    | .tup xs, .ref a => match K.lookup a with
      | some ⟨.type c, _, .seq its _, _⟩ => decide (c = "tuple") && decide (its.size ≤ sizeLine) && pvsB (pvB K n) xs its.toList
      | _ => false
    | _, _ => false
where pvsB (f : PV → Value → Bool) : List PV → List Value → Bool
  | [], [] => true
  | x :: xs, u :: us => f x u && pvsB f xs us
  | _, _ => false
def conK (K : Fr) (x : Str) (v : PV) : Bool := match PySem.W.nsIn K mainGlobals x with
  | some (some u) => pvB K 8 v u
  | _ => false
section
variable {K : Fr} {C g p : Addr} {m f x : Str} {Z : Sta} {k : Nat}
theorem ba2 {a b : Bool} (h : (a && b) = true) : a = true ∧ b = true := Bool.and_eq_true_iff.mp h
theorem eqB'_ok {a b : Option (Option Value)} (h : eqB' a b = true) : a = b := of_decide_eq_true h
theorem clsB_ok (h : clsB K C = true) : Cls K C := by
  obtain ⟨h, h4⟩ := ba2 h
  obtain ⟨h, h3⟩ := ba2 h
  obtain ⟨h1, h2⟩ := ba2 h
  exact ⟨h1, h2, h3, eqB'_ok h4⟩
theorem noatB_ok (h : noatB K C f = true) : NoAttr K C f := eqB'_ok h
theorem methB_ok (h : methB K C m g = true) : Meth K C m g := by
  obtain ⟨h, h3⟩ := ba2 h
  obtain ⟨h1, h2⟩ := ba2 h
  exact ⟨eqB'_ok h1, h2, h3⟩
theorem recHd_ok {T : String} (h : recHd K p T g = true) : ∃ rest, PySem.W.recIn K p T = some (.ref g :: rest) := by
  unfold recHd at h
  split at h
  · rename_i g' rest e
    cases of_decide_eq_true h
    exact ⟨rest, e⟩
  · cases h
theorem propB_ok (h : propB K C f p g = true) : PropOf K C f p g := by
  obtain ⟨h, h4⟩ := ba2 h
  obtain ⟨h, h3⟩ := ba2 h
  obtain ⟨h1, h2⟩ := ba2 h
  exact ⟨eqB'_ok h1, eqB'_ok h2, of_decide_eq_true h3, recHd_ok h4⟩
theorem mkB_ok (h : mkB K C g = true) : Mk K C g := by
  obtain ⟨h, h4⟩ := ba2 h
  obtain ⟨h, h3⟩ := ba2 h
  obtain ⟨h1, h2⟩ := ba2 h
  exact ⟨h1, eqB'_ok h2, h3, h4⟩
theorem ownTyB_ok (h : ownTyB Z.K (Z.G k) = true) : OwnTy Z k := by
  obtain ⟨h, h5⟩ := ba2 h
  obtain ⟨h, h4⟩ := ba2 h
  obtain ⟨h, h3⟩ := ba2 h
  obtain ⟨h1, h2⟩ := ba2 h
  exact ⟨clsB_ok h1, eqB'_ok h2, eqB'_ok h3, of_decide_eq_true h4, of_decide_eq_true h5⟩
theorem ownEqB_ok (h : ownEqB Z.K (Z.G k) = true) : OwnEq Z k := by
  obtain ⟨h, h3⟩ := ba2 h
  obtain ⟨h1, h2⟩ := ba2 h
  exact ⟨ownTyB_ok h1, eqB'_ok h2, fun n hn => of_decide_eq_true (List.all_eq_true.mp h3 n (List.mem_range.mpr hn))⟩
theorem opTB_ok {T : String} {op : Operator} (h : opTB K C T op = true) : (∃ fo, PySem.W.findIn K (.type T) (dunder op.info.2) = some fo) ∧ (∃ ro, PySem.W.findIn K (.type T) (dunderR op.info.2) = some ro) ∧ PySem.W.subIn K (.type T) (.ref C) = some false := by
  obtain ⟨h, h3⟩ := ba2 h
  obtain ⟨h1, h2⟩ := ba2 h
  exact ⟨Option.isSome_iff_exists.mp h1, Option.isSome_iff_exists.mp h2, of_decide_eq_true h3⟩
theorem ownOpB_ok {op : Operator} (h : ownOpB Z.K (Z.G k) op = true) : OwnOp Z op k := by
  obtain ⟨h, h5⟩ := ba2 h
  obtain ⟨h, h4⟩ := ba2 h
  obtain ⟨h, h3⟩ := ba2 h
  obtain ⟨h1, h2⟩ := ba2 h
  refine ⟨h1, ?_, opTB_ok h3, opTB_ok h4, h5⟩
  unfold someRef at h2
  split at h2
  · rename_i e; exact ⟨_, e, .inl rfl⟩
  · rename_i a e; exact ⟨_, e, .inr ⟨a, rfl⟩⟩
  · cases h2
theorem ownRefIB_ok {op : Operator} (h : ownRefIB Z.K (Z.G k) op = true) : OwnRefI Z op k := by
  obtain ⟨h, h3⟩ := ba2 h
  obtain ⟨h1, h2⟩ := ba2 h
  refine ⟨h1, ?_, of_decide_eq_true h3⟩
  split at h2
  · rename_i v e
    exact ⟨v, e, by rw [Bool.not_eq_true'] at h2; exact h2⟩
  · cases h2
theorem ownRefB_ok {op : Operator} (h : ownRefB Z.K (Z.G k) op = true) : OwnRef Z op k := by
  obtain ⟨h, h4⟩ := ba2 h
  obtain ⟨h, h3⟩ := ba2 h
  obtain ⟨h1, h2⟩ := ba2 h
  refine ⟨h1, ?_, eqB'_ok h3, eqB'_ok h4⟩
  split at h2
  · rename_i v e
    exact ⟨v, e, by rw [Bool.not_eq_true'] at h2; exact h2⟩
  · cases h2
theorem smtB_ok (h : smtB K C m p g = true) : SMt K C m g := by
  obtain ⟨h, h4⟩ := ba2 h
  obtain ⟨h, h3⟩ := ba2 h
  obtain ⟨h1, h2⟩ := ba2 h
  obtain ⟨rest, e⟩ := recHd_ok h4
  refine ⟨h1, eqB'_ok h2, p, rest, ?_, e⟩
  split at h3
  · rename_i gid p' D e'
    obtain ⟨h3, h5⟩ := ba2 h3
    obtain ⟨h6, h7⟩ := ba2 h3
    cases of_decide_eq_true h6
    cases of_decide_eq_true h7
    cases of_decide_eq_true h5
    exact e'
  · cases h3
theorem kitB_ok {t c : Value} {b : Bool} (h : kitB K t c b = true) : PySem.W.kitOne K t c = some b := of_decide_eq_true h
theorem gloK_ok {h : Heap} {mg : Str → Option Value} (X : K.In h) (G : h.Ns mainGlobals mg) {a : Addr} (e : gloK K x a = true) : mg x = some (.ref a) := PySem.W.mg_of X G (eqB'_ok e)
theorem freK_ok {h : Heap} {mg : Str → Option Value} (X : K.In h) (G : h.Ns mainGlobals mg) (e : freK K x = true) : mg x = none := PySem.W.mg_none_of X G (eqB'_ok e)
theorem pvB_ok : ∀ {n : Nat} {v : PV} {u : Value}, pvB Z.K n v u = true → ∃ w, RelV w u ∧ ∀ H m, RV Z H m v w
  | 0, _, _, h => by cases h
  | n + 1, v, u, h => by
    unfold pvB at h
    split at h
    · exact ⟨.non, rfl, fun H m => to_non⟩
    · rename_i b c
      cases eq_of_beq h
      exact ⟨.bl b, rfl, fun H m => to_bl⟩
    · rename_i i j t
      cases of_decide_eq_true h
      exact ⟨.int i, ⟨t, rfl⟩, fun H m => to_int⟩
    · rename_i z y t
      obtain ⟨h1, h2⟩ := ba2 h
      have := of_decide_eq_true h1
      subst this
      exact ⟨.str _, ⟨t, rfl⟩, fun H m => to_str h2⟩
    · rename_i xs a
      split at h
      · rename_i c od its nn sl e
        obtain ⟨h, h3⟩ := ba2 h
        obtain ⟨h1, h2⟩ := ba2 h
        cases of_decide_eq_true h1
        have go : ∀ (xs : List PV) (us : List Value), pvB.pvsB (pvB Z.K n) xs us = true → ∃ ys, Vals ys us ∧ ∀ H m, RVs Z H m xs ys := by
          intro xs
          induction xs with
          | nil =>
            intro us h
            cases us with
            | nil => exact ⟨[], .nil, fun H m => RVs.nil⟩
            | cons _ _ => cases h
          | cons x xs ih =>
            intro us h
            cases us with
            | nil => cases h
            | cons u us =>
              obtain ⟨q1, q2⟩ := ba2 (show (pvB Z.K n x u && pvB.pvsB (pvB Z.K n) xs us) = true from h)
              obtain ⟨w, r1, r2⟩ := pvB_ok q1
              obtain ⟨ys, r3, r4⟩ := ih us q2
              exact ⟨w :: ys, .cons r1 r3, fun H m => RVs.cons (r2 H m) (r4 H m)⟩
        obtain ⟨ys, r1, r2⟩ := go xs its.toList h3
        exact ⟨.ref a, rfl, fun H m => to_tup (.inr ⟨_, its, nn, e, rfl, rfl, of_decide_eq_true h2, r1⟩) (r2 H m)⟩
      · cases h
    · cases h
theorem conK_ok {h : Heap} (X : Z.K.In h) (G : h.Ns mainGlobals Z.mg) {v : PV} (e : conK Z.K x v = true) : ∃ u w, Z.mg x = some u ∧ RelV w u ∧ ∀ H m, RV Z H m v w := by
  unfold conK at e
  split at e
  · rename_i u eu
    obtain ⟨w, r1, r2⟩ := pvB_ok e
    exact ⟨u, w, PySem.W.mg_of X G eu, r1, r2⟩
  · cases e
end
/-! ### defs, found by paths -/
structure MDef where
  adr : Fr → Addr
  name : Str
  qual : Str
  params : Arguments
  body : List Stmt
  scope : Scope
  dfl : Fr → List V := fun _ => []
  kwd : Fr → List (Str × V) := fun _ => []
  clo : List Str := []
def fnM (K : Fr) (a : Addr) : He.FnW := match K.lookup a with
  | some ⟨_, _, .func fd, _⟩ => some (fd.name, fd.qualname, fd.params, fd.body, fd.scope, fd.globals, fd.closure.map fun p => (p.1, (0 : Addr)), fd.builtins)
  | _ => none
def MDef.val (d : MDef) : He.FnW := some (d.name, d.qual, d.params, .stmts d.body, d.scope, mainGlobals, d.clo.map fun x => (x, (0 : Addr)), builtinsNs)
def MDef.ok (K : Fr) (d : MDef) : Bool := PySem.W.keepIn K (.ref (d.adr K)) && PySem.W.isFn K (.ref (d.adr K)) && (match K.lookup (d.adr K) with
  | some ⟨_, _, .func fd, _⟩ => PySem.W.codeIn K fd.code d.qual && (He.dflB K fd.defaults (d.dfl K) && He.kwdB K fd.kwdefaults (d.kwd K))
  | _ => false)
structure MFun (K : Fr) (d : MDef) (fd : FuncData) : Prop where
  f : FunD K d.name d.qual d.params d.body d.scope (d.dfl K) (d.kwd K) (d.adr K) fd
  fn : PySem.W.isFn K (.ref (d.adr K)) = true
theorem MDef.funD {K : Fr} {d : MDef} (e : fnM K (d.adr K) = d.val) (c : d.ok K = true) (hc : d.clo = []) : ∃ fd, MFun K d fd := by
  obtain ⟨c, c2⟩ := ba2 c
  obtain ⟨kp, c1⟩ := ba2 c
  unfold fnM at e
  cases q : K.lookup (d.adr K) with
  | none =>
    rw [q] at c2
    cases c2
  | some o =>
    obtain ⟨oc, od, dt, osl⟩ := o
    rw [q] at c2 e
    cases dt with
    | func fd =>
      obtain ⟨n1, n2, n3, n4, n5, n6, n7, n8, n9, n10, n11, n12, n13, n14, n15⟩ := fd
      have e2 : (some (n1, n2, n3, n4, n5, n6, n7.map fun p => (p.1, (0 : Addr)), n15) : He.FnW) = some (d.name, d.qual, d.params, .stmts d.body, d.scope, mainGlobals, [], builtinsNs) := by
        have e3 : (some (n1, n2, n3, n4, n5, n6, n7.map fun p => (p.1, (0 : Addr)), n15) : He.FnW) = d.val := e
        rw [e3]
        unfold MDef.val
        rw [hc]
        rfl
      simp only [Option.some.injEq, Prod.mk.injEq] at e2
      obtain ⟨h1, h2, h3, h4, h5, h6, h7, h8⟩ := e2
      have h7 := List.map_eq_nil_iff.mp h7
      subst h1 h2 h3 h4 h5 h6 h7 h8
      obtain ⟨k1, k2⟩ := ba2 (show (PySem.W.codeIn K n13 d.qual && (He.dflB K n8 (d.dfl K) && He.kwdB K n9 (d.kwd K))) = true from c2)
      obtain ⟨k3, k4⟩ := ba2 k2
      exact ⟨_, ⟨⟨oc, od, n8, n9, n10, n11, n12, n13, n14, osl, rfl, q, k1, He.dflB_ok k3, He.kwdB_ok k4⟩, kp⟩, c1⟩
    | _ => cases c2
/-- what is known of a def -/
structure MOk (K : Fr) (d : MDef) : Prop where
  fd : d.clo = [] → ∃ fd, MFun K d fd
  val : fnM K (d.adr K) = d.val
  ok : d.ok K = true
/-- written dicts: where, their keys in order -/
abbrev DTab : Type := (Fr → Addr) × List Str
abbrev AlM : Type := Bool × List He.FnW × List (Option (List (Option (Str × Int))))
def obsM (ex : List (Fr → Bool)) (ds : List MDef) (tx : List DTab) (K : Fr) : AlM := ((ex.all fun f => f K) && ds.all fun d => d.ok K, ds.map fun d => fnM K (d.adr K), tx.map fun t => He.dicW K (t.1 K))
def valM (ds : List MDef) (tx : List DTab) (w : World) : AlM := (true, ds.map MDef.val, tx.map fun t => some (He.keysIn w.params t.2))
structure SaysM (ex : List (Fr → Bool)) (ds : List MDef) (tx : List DTab) (w : World) (K : Fr) : Prop where
  ex : ∀ f ∈ ex, f K = true
  ds : ∀ d ∈ ds, MOk K d
  tx : ∀ t ∈ tx, He.dicW K (t.1 K) = some (He.keysIn w.params t.2)
theorem saysM_of {ex : List (Fr → Bool)} {ds : List MDef} {tx : List DTab} {w : World} {K : Fr} (e : obsM ex ds tx K = valM ds tx w) : SaysM ex ds tx w K := by
  have e1 : ((ex.all fun f => f K) && ds.all fun d => d.ok K) = true := congrArg (fun z : AlM => z.1) e
  have e2 : ds.map (fun d => fnM K (d.adr K)) = ds.map MDef.val := congrArg (fun z : AlM => z.2.1) e
  have e4 : tx.map (fun t => He.dicW K (t.1 K)) = tx.map fun t => some (He.keysIn w.params t.2) := congrArg (fun z : AlM => z.2.2) e
  obtain ⟨h1, h2⟩ := ba2 e1
  refine ⟨fun f hf => List.all_eq_true.mp h1 f hf, fun d hd => ?_, fun t ht => List.map_inj_left.mp e4 t ht⟩
  obtain ⟨i, hi, ei⟩ := List.mem_iff_getElem.mp hd
  have e3 : (ds.map fun d => fnM K (d.adr K))[i]? = (ds.map MDef.val)[i]? := by rw [e2]
  rw [List.getElem?_map, List.getElem?_map, List.getElem?_eq_getElem hi, ei] at e3
  exact ⟨MDef.funD (Option.some.inj e3) (List.all_eq_true.mp h2 d hd), Option.some.inj e3, List.all_eq_true.mp h2 d hd⟩
/-- those of a list that are not yet marked, the last one ahead; the marks are the bits of m -/
def addN : List Addr → Nat → List Addr → Nat × List Addr
  | [], m, acc => (m, acc)
  | a :: r, m, acc => match Nat.beq (Nat.land (Nat.shiftRight m a) 1) 1 with
    | true => addN r m acc
    | false => HandSHeadRun.frNat (Nat.lor m (Nat.shiftLeft 1 a)) fun m' => addN r m' (a :: acc)
def refsM (g : Addr → Option Obj) : List Addr → List Addr
  | [] => []
  | a :: r => match g a with
    | some o => He.refsD o ++ refsM g r
    | none => refsM g r
def growM (g : Addr → Option Obj) : Nat → Nat → List Addr → List Addr → List Addr
  | 0, _, all, fr => all ++ fr
  | n + 1, m, all, fr => match addN (refsM g fr) m [] with
    | (m', new) => growM g n m' (all ++ fr) new.reverse
def asM (g : Addr → Option Obj) (n : Nat) : List Addr := match addN [mainGlobals, cStatics] 0 [] with
  | (m, new) => growM g n m [] new.reverse
def obsMG (n : Nat) (ex : List (Fr → Bool)) (ds : List MDef) (tx : List DTab) (g : Addr → Option Obj) : AlM := obsM ex ds tx (He.frG g (asM g n))
def hookM (n : Nat) (ex : List (Fr → Bool)) (ds : List MDef) (tx : List DTab) : PySem.W.Hook where
  α := AlM
  obs := fun s => obsMG n ex ds tx s.heap.get?
  val := fun w => valM ds tx w
  says := fun w h => ∃ K : Fr, K.In h ∧ SaysM ex ds tx w K
  of := fun _ _ e => ⟨_, He.frG_in, saysM_of e⟩
  keeps := fun _ _ _ ⟨K, hK, c⟩ k => ⟨K, PySem.W.Frag.In.keeps hK k, c⟩
theorem obsMG_eq {n : Nat} {ex : List (Fr → Bool)} {ds : List MDef} {tx : List DTab} {g : Addr → Option Obj} {s : Shared} (h : ∀ a, g a = s.heap.get? a) : obsMG n ex ds tx g = (hookM n ex ds tx).obs s := by
  have e : g = s.heap.get? := funext h
  rw [e] <;> rfl
/-! ### paths -/
def aG (x : Str) (K : Fr) : Addr := He.ga K x
def aM (x m : Str) (K : Fr) : Addr := He.ma K (He.ga K x) m
/-- the def behind a property, a staticmethod -/
def aR (T : String) (x m : Str) (K : Fr) : Addr := match PySem.W.recIn K (He.ma K (He.ga K x) m) T with
  | some (.ref g :: _) => g
  | _ => 0
/-- a class's body -/
def clsBody : Stmt → List Stmt
  | .ClassDef _ _ _ b _ _ _ _ _ _ _ => b
  | _ => []
end MP
set_option maxRecDepth 100000
namespace MP
open PySem L2
/-! ### the whole table, level by level -/
/-- a def as the evaluator takes it -/
structure DefI where
  ps : List Str
  nN : Nat
  body : Tab → Loc → Hs → RS
def runOf (tbl : List DefI) (T : Tab) (g : Nat) : List PV → Hs → RE := match tbl[g]? with
  | some d => runB d.nN (d.body T)
  | none => fun _ _ => .bad
def assocG {A : Type} (n : Nat) (ks : List Str) : List (Nat × List Str × A) → Option A
  | [] => none
  | (m, ls, a) :: r => if decide (m = n) && decide (ls = ks) then some a else assocG n ks r
def memOf (L : List (List (Nat × FK))) (k f : Nat) : FK := match L[k]? with
  | some l => (match l.lookup f with
    | some e => e
    | none => .bad)
  | none => .bad
abbrev Arr := List PV → List PV → List PV
def arrOf (L : List (List (Nat × List Str × Arr))) (g n : Nat) (ks : List Str) : Option Arr := match L[g]? with
  | some l => assocG n ks l
  | none => none
/-- classes stand at 500 and on -/
def tabOf (tbl : List DefI) (mems : List (List (Nat × FK))) (arrs : List (List (Nat × List Str × Arr))) : Nat → Tab
  | 0 => ⟨fun _ _ _ => .bad, fun g => decide (g < tbl.length), fun k f => if k < 500 then .bad else memOf mems (k - 500) f, arrOf arrs⟩
  | n + 1 => { tabOf tbl mems arrs n with run := runOf tbl (tabOf tbl mems arrs n) }
def AllN {A : Type} (P : Nat → A → Prop) : Nat → List A → Prop
  | _, [] => True
  | i, a :: r => P i a ∧ AllN P (i + 1) r
theorem AllN.at_ {A : Type} {P : Nat → A → Prop} : ∀ {l : List A} {i j : Nat} {a : A}, AllN P i l → l[j]? = some a → P (i + j) a
  | [], _, _, _, _, e => by simp at e
  | b :: r, i, 0, a, h, e => by
    simp at e
    subst e
    exact h.1
  | b :: r, i, j + 1, a, h, e => by
    have := AllN.at_ (i := i + 1) (j := j) h.2 (by simpa using e)
    rw [show i + (j + 1) = i + 1 + j by omega]
    exact this
def fdAt (K : Fr) (a : Addr) : FuncData := match K.lookup a with
  | some ⟨_, _, .func fd, _⟩ => fd
  | _ => PySem.W.fnOf Str.empty Str.empty { posonlyargs := [], args := [], vararg := none, kwonlyargs := [], kw_defaults := [], kwarg := none, defaults := [] } [] { kind := .function, names := [], isGenerator := false, isCoroutine := false } .none .none .none .none none .none .none
theorem MFun.fd {K : Fr} {d : MDef} {fd : FuncData} (F : MFun K d fd) : fd = fdAt K (d.adr K) := by
  obtain ⟨oc, od, dV, kV, doc, pm, an, cdv, ct, osl, e, lk, _⟩ := F.f.ex
  unfold fdAt
  rw [lk]
section
variable {Z : Sta} {tbl : List DefI} {mems : List (List (Nat × FK))} {arrs : List (List (Nat × List Str × Arr))}
def psOf (tbl : List DefI) (g : Nat) : List Str := match tbl[g]? with
  | some d => d.ps
  | none => []
def fdOf (Z : Sta) (g : Nat) : FuncData := fdAt Z.K (Z.G g)
/-- what is asked of each def -/
def DefOk (Z : Sta) (tbl : List DefI) (mems : List (List (Nat × FK))) (arrs : List (List (Nat × List Str × Arr))) (g : Nat) (d : DefI) : Prop :=
  PySem.W.keepIn Z.K (.ref (Z.G g)) = true ∧ PySem.W.isFn Z.K (.ref (Z.G g)) = true ∧
    ∀ n, TabOk Z (6 * n) (tabOf tbl mems arrs n) (fdOf Z) (psOf tbl) → FnOk Z.P Z.w Z.K Z.mg Z.base (CX Z.P Z.w) (6 * n + 6) (Z.G g) (fdOf Z g) d.ps (spF Z d.ps.length (runB d.nN (d.body (tabOf tbl mems arrs n))))
def MemOk (Z : Sta) (tbl : List DefI) (i : Nat) (l : List (Nat × FK)) : Prop := ∀ p ∈ l, FKOk Z (fun g => decide (g < tbl.length)) (500 + i) p.1 p.2
def ArrOk (Z : Sta) (tbl : List DefI) (g : Nat) (l : List (Nat × List Str × Arr)) : Prop := ∀ p ∈ l, BindOk Z (fdOf Z g) (psOf tbl g) p.1 p.2.1 p.2.2
theorem lookup_mem' {l : List (Nat × FK)} {f : Nat} {e : FK} (h : l.lookup f = some e) : (f, e) ∈ l := by
  induction l with
  | nil => cases h
  | cons p r ih =>
    obtain ⟨q, w⟩ := p
    rw [List.lookup_cons] at h
    split at h
    · rename_i c
      cases h
      rw [eq_of_beq c]
      exact List.mem_cons_self
    · exact List.mem_cons_of_mem _ (ih h)
theorem assocG_mem {A : Type} {n : Nat} {ks : List Str} : ∀ {l : List (Nat × List Str × A)} {a : A}, assocG n ks l = some a → (n, ks, a) ∈ l
  | [], _, h => by cases h
  | (m, ls, b) :: r, a, h => by
    unfold assocG at h
    split at h
    · rename_i c
      rw [Bool.and_eq_true] at c
      cases of_decide_eq_true c.1
      cases of_decide_eq_true c.2
      cases h
      exact List.mem_cons_self
    · exact List.mem_cons_of_mem _ (assocG_mem h)
theorem tabOf_has : ∀ n g, (tabOf tbl mems arrs n).has g = decide (g < tbl.length)
  | 0, _ => rfl
  | n + 1, g => tabOf_has n g
theorem tabOf_mem : ∀ n k f, (tabOf tbl mems arrs n).mem k f = if k < 500 then .bad else memOf mems (k - 500) f
  | 0, _, _ => rfl
  | n + 1, k, f => tabOf_mem n k f
theorem tabOf_arr : ∀ n, (tabOf tbl mems arrs n).arr = arrOf arrs
  | 0 => rfl
  | n + 1 => tabOf_arr n
theorem tab_ok (hd : AllN (DefOk Z tbl mems arrs) 0 tbl) (hm : AllN (MemOk Z tbl) 0 mems) (ha : AllN (ArrOk Z tbl) 0 arrs) : ∀ n, TabOk Z (6 * n) (tabOf tbl mems arrs n) (fdOf Z) (psOf tbl) := by
  have hmem : ∀ k f, 500 ≤ k → FKOk Z (fun g => decide (g < tbl.length)) k f (memOf mems (k - 500) f) := fun k f hk => by
    unfold memOf
    cases e : mems[k - 500]? with
    | none => exact True.intro
    | some l =>
      simp only
      cases e2 : l.lookup f with
      | none => exact True.intro
      | some q =>
        have := hm.at_ e (f, q) (lookup_mem' e2)
        rw [show 500 + (0 + (k - 500)) = k by omega] at this
        exact this
  have harr : ∀ g n ks a, arrOf arrs g n ks = some a → BindOk Z (fdOf Z g) (psOf tbl g) n ks a := fun g n ks a e => by
    unfold arrOf at e
    cases e2 : arrs[g]? with
    | none => rw [e2] at e; cases e
    | some l =>
      rw [e2] at e
      have := ha.at_ e2 (n, ks, a) (assocG_mem e)
      rw [Nat.zero_add] at this
      exact this
  have rest : ∀ n, (∀ g, (tabOf tbl mems arrs n).has g = true → Fn Z (6 * n) g (fdOf Z g) (psOf tbl g) ((tabOf tbl mems arrs n).run g)) → TabOk Z (6 * n) (tabOf tbl mems arrs n) (fdOf Z) (psOf tbl) := fun n hf => by
    refine ⟨hf, fun k f => ?_, fun g m ks a e => ?_⟩
    · rw [tabOf_mem]
      have : (tabOf tbl mems arrs n).has = fun g => decide (g < tbl.length) := funext (tabOf_has n)
      rw [this]
      split
      · exact True.intro
      · exact hmem k f (by omega)
    · rw [tabOf_arr] at e
      exact harr g m ks a e
  intro n
  induction n with
  | zero =>
    refine rest 0 fun g hg => ?_
    rw [tabOf_has, decide_eq_true_eq] at hg
    have hd' := hd.at_ (List.getElem?_eq_getElem hg)
    rw [Nat.zero_add] at hd'
    refine ⟨⟨fun vs H Q E h => h.1, fun A outer s H args us vs Q E hr he hb hv hs => ?_⟩, hd'.1, hd'.2.1⟩
    obtain ⟨_, m, S, ps, _, _, h⟩ := hs
    exact h.elim
  | succ n ih =>
    refine rest (n + 1) fun g hg => ?_
    rw [tabOf_has, decide_eq_true_eq] at hg
    have e := List.getElem?_eq_getElem hg
    have hd' := hd.at_ e
    rw [Nat.zero_add] at hd'
    have ep : psOf tbl g = (tbl[g]).ps := by unfold psOf; rw [e]
    have er : (tabOf tbl mems arrs (n + 1)).run g = runB (tbl[g]).nN ((tbl[g]).body (tabOf tbl mems arrs n)) := by
      show runOf tbl (tabOf tbl mems arrs n) g = _
      unfold runOf
      rw [e]
    rw [ep, er]
    exact ⟨hd'.2.2 n ih, hd'.1, hd'.2.1⟩
end
/-! ### binding -/
section
variable {Z : Sta} {nm qual : Str} {params : Arguments} {body : List Stmt} {scope : Scope} {dvs : List V} {kws : List (Str × V)} {fd : FuncData} {ps : List Str} {f : Addr}
theorem pairedV_len {xs : List V} {us : List Value} (r : Vals xs us) : us.length = xs.length := r.length.symm
/-- every parameter is written -/
theorem bind_all (F : FunD Z.K nm qual params body scope [] [] f fd) (h : ∀ (kV doc pm : Value) (an : Option Addr) (cdv ct : Value) (us : List Value), us.length = ps.length → bindArgs (PySem.W.fnOf nm qual params body scope .none kV doc pm an cdv ct) ⟨us, []⟩ = pure (ps.zip us)) :
    BindOk Z fd ps ps.length [] (fun vs _ => vs) := by
  intro s us ws xs zs X h1 h2 r1 r2
  have hw : ws = [] := List.length_eq_zero_iff.mp h2
  subst hw
  exact ⟨us, xs, FunD.bindsA F h s us h1, r1, by rw [r1.length]; exact h1, fun H m vs qs a b => a⟩
/-- n are written, the defaults behind the first j fill up -/
theorem bind_dfl (F : FunD Z.K nm qual params body scope dvs [] f fd) (n j : Nat) (pd : List PV) (hd : dvs ≠ []) (hn : n + (dvs.length - j) = ps.length) (hp : ∀ H m, RVs Z H m pd (dvs.drop j))
    (h : ∀ (T : Addr) (kV doc pm : Value) (an : Option Addr) (cdv ct : Value) (us its : List Value), us.length = n → its.length = dvs.length →
      ∃ k, bindArgs (PySem.W.fnOf nm qual params body scope (.ref T) kV doc pm an cdv ct) ⟨us, []⟩ = seqItems? (.ref T) >>= k ∧ k (some its.toArray) = pure (ps.zip (us ++ its.drop j))) : BindOk Z fd ps n [] (fun vs _ => vs ++ pd) := by
  obtain ⟨ds, rd, hb⟩ := FunD.binds1 F n j hd hn h
  intro s us ws xs zs X h1 h2 r1 r2
  have hw : ws = [] := List.length_eq_zero_iff.mp h2
  subst hw
  have hl : (us ++ ds).length = ps.length := by
    rw [List.length_append, h1, ← rd.length, List.length_drop, hn]
  exact ⟨us ++ ds, xs ++ dvs.drop j, hb s us X hl, r1.append rd, by rw [(r1.append rd).length]; exact hl, fun H m vs qs a b => a.append (hp H m)⟩
end
end MP
set_option maxRecDepth 100000
namespace MP
open PySem L2
section
variable {Z : Sta} {W : WX} {σ : L2.St} {H H1 : Hp} {m m1 m2 : Mp} {X : Cx} {S : Hs} {x y : V} {a : Addr} {lv g k f : Nat} {T : Tab} {fdO : Nat → FuncData} {psO : Nat → List Str} {pins : List (Addr × Obj)} {s : Shared} {Q : VK} {c : CmpT} {N : List Str} {sc : Scope} {vs ls : List Nat} {gs : List Str}
/-! ### statements with the names of a def -/
def parC (p q : Expr) (px py : Pos) (xn yn : Str) : Bool := (px.line == py.line) && ([xn, yn].eraseDups.length == 2) && (noStar1 p && noStar1 q) && !([p, q].all (foldedForSure 8)) && !([p, q].all (constantsAlone 8))
theorem sw_par {env : Env} {p q : Expr} {px py pt pt2 : Pos} {xn yn : Str} {kt k2 : Nat} (hk : env.scope.kind = .function) (hx : env.scope.names.lookup xn = some .local) (hy : env.scope.names.lookup yn = some .local) (hc : parC p q px py xn yn = true) :
    swappedStores [.Tuple [.Name xn px, .Name yn py] kt pt] (.Tuple [p, q] k2 pt2) env = pure (some [xn, yn]) := by
  unfold parC at hc
  simp only [Bool.and_eq_true, Bool.not_eq_true'] at hc
  obtain ⟨⟨⟨⟨c1, c2⟩, c3⟩, c4⟩, c5⟩ := hc
  have kx : env.kindOf xn = some .local := hx
  have ky : env.kindOf yn = some .local := hy
  have hb : env.blockKind = .function := by unfold Env.blockKind; rw [hk]; rfl
  have c1' : (py.line == px.line) = true := by rw [beq_iff_eq] at c1 ⊢; exact c1.symm
  unfold swappedStores
  simp only [hb, kx, ky, c4, c5, Expr.pos, List.filterMap_cons, List.filterMap_nil, List.head?_cons, Option.map_some, Option.getD_some, beq_self_eq_true, c1', Bool.and_true, Bool.and_self, if_true, List.length_cons, List.length_nil]
  simp only [beq_iff_eq] at c2
  rw [show ([xn, yn] : List Str).eraseDups.length = 2 from c2]
  obtain ⟨c6, c7⟩ := c3
  cases p <;> first | (cases c6; done) | (cases q <;> first | (cases c7; done) | rfl)
/-- a, b = x, y -/
theorem D_par {i j : Nat} {xn yn : Str} {p q : Expr} {px py pt : Pos} {kt k2 : Nat} {pt2 pos : Pos} {f : Loc → Hs → RA} (gd : Good Z lv X W) (D : DefX X N sc vs ls gs) (hi : N[i]? = some xn) (hj : N[j]? = some yn) (hij : i ≠ j) (hk : sc.kind = .function)
    (hx : sc.names.lookup xn = some .local) (hy : sc.names.lookup yn = some .local) (ha : PA X [p, q] (tA Z W f)) (hc : parC p q px py xn yn = true) :
    PS X (.Assign [.Tuple [.Name xn px, .Name yn py] kt pt] (.Tuple [p, q] k2 pt2) pos) (tS Z W (parS i j f)) := by
  have hx' : X.env.scope.names.lookup xn = some .local := by rw [D.esc]; exact hx
  have hy' : X.env.scope.names.lookup yn = some .local := by rw [D.esc]; exact hy
  exact ok_par gd.calm gd.nd (by rw [D.eN]; exact hi) (by rw [D.eN]; exact hj) hij hx' hy' ha (sw_par (by rw [D.esc]; exact hk) hx' hy' hc) rfl
/-- name op= e -/
theorem D_aug {nm : Str} {e : Expr} {op : Operator} {pos pos' : Pos} {f : Loc → Hs → RE} {o : PV → PV → Hs → RE} (gd : Good Z lv X W) (D : DefX X N sc vs ls gs) (i : Nat) (hv : ls.contains i = true) (hN : N[i]? = some nm) (he : PE X e (tE Z W f)) (ho : OpOk Z X W (inplaceOp op) o) :
    PS X (.AugAssign (.Name nm pos') op e pos) (tS Z W (augS i f o)) := by
  obtain ⟨h1, h2⟩ := D_loc D i hv hN
  exact ok_aug gd.nd h1 h2 he ho (D.fnc i nm hv hN)
theorem bad_op {F : Value → Value → Sem Value} : OpOk Z X W F (fun _ _ _ => .bad) := fun _ _ _ _ _ _ _ _ _ _ _ _ _ _ _ _ _ _ _ h => h.elim
/-! ### tests -/
theorem t_and1 {a : Expr} {pos : Pos} {f : Loc → Hs → RB} (h : PT X a (tB Z W f)) : PW X (.BoolOp .And [a] pos) (tB Z W f) := pw_and1 h
theorem t_or1 {a : Expr} {pos : Pos} {f : Loc → Hs → RB} (h : PT X a (tB Z W f)) : PW X (.BoolOp .Or [a] pos) (tB Z W f) := pw_or1 h
theorem e_one {op : BoolOp} {a : Expr} {pos : Pos} {f : Loc → Hs → RE} (h : PE X a (tE Z W f)) : PE X (.BoolOp op [a] pos) (tE Z W f) := pe_one h
/-- operations on built-in kinds, in place -/
def inpV (op : Operator) : PV → PV → Hs → RE := match op with
  | .Add => fun a b S => match a, b with
    | .int i, .int j => .ok (.int (i + j)) S
    | .str s, .str t => if fits (s ++ t) then .ok (.str (s ++ t)) S else .bad
    | _, _ => .bad
  | .Sub => intV fun i j => some (i - j)
  | .Mult => intV fun i j => if mulOk i j && (decide (i.natAbs < 18446744073709551616) || decide (j.natAbs < 18446744073709551616)) then some (i * j) else none
  | .LShift => intV fun i j => if powOk i j then some (i * 2 ^ j.toNat) else none
  | .RShift => intV fun i j => if decide (0 ≤ j) then some (i / 2 ^ j.toNat) else none
  | .BitAnd => intV fun i j => some (Builtin.bitAnd i j)
  | .BitOr => intV fun i j => some (Builtin.bitOr i j)
  | .BitXor => intV fun i j => some (Builtin.bitXor i j)
  | _ => fun _ _ _ => .bad
theorem inp_ok (op : Operator) : OpOk Z X W (inplaceOp op) (inpV op) := by
  cases op with
  | Add =>
    refine OpOk.of (iop_add.or iop_add_str) fun σ H m S p q x y Q sr rp rq hp => ?_
    unfold inpV at hp
    simp only at hp
    split at hp
    · cases rv_int rp; cases rv_int rq
      exact .inl ⟨_, _, rfl, rfl, hp H m _ Gr.refl sr to_int⟩
    · obtain ⟨rfl, o1⟩ := rv_str rp
      obtain ⟨rfl, o2⟩ := rv_str rq
      split at hp
      · rename_i hf
        refine .inr ⟨_, _, rfl, rfl, ?_, ?_⟩
        · have := fits_ok hf
          rw [List.length_append] at this
          rw [str_len, str_len]
          exact this
        · rw [str_app]
          exact hp H m _ Gr.refl sr (to_str (sOk_app o1 o2))
      · exact hp.elim
    · exact hp.elim
  | Sub => exact int_ok0 iop_sub fun i j k e => by cases e; rfl
  | Mult =>
    refine int_ok iop_mul fun i j k e => by
      split at e
      · rename_i c; cases e
        simp only [Bool.and_eq_true, Bool.or_eq_true, decide_eq_true_eq] at c
        refine ⟨?_, rfl⟩
        unfold CMul
        rcases c.2 with c | c
        · exact .inl (by omega)
        · exact .inr (by omega)
      · cases e
  | LShift =>
    refine int_ok iop_shl fun i j k e => by
      split at e
      · rename_i c; cases e
        unfold powOk at c
        simp only [Bool.and_eq_true, decide_eq_true_eq] at c
        exact ⟨⟨c.1.1, c.1.2, by have := c.2; omega⟩, rfl⟩
      · cases e
  | RShift =>
    refine int_ok iop_shr fun i j k e => by
      split at e
      · rename_i c; cases e; exact ⟨of_decide_eq_true c, rfl⟩
      · cases e
  | BitAnd => exact int_ok0 iop_and fun i j k e => by cases e; rfl
  | BitOr => exact int_ok0 iop_or fun i j k e => by cases e; rfl
  | BitXor => exact int_ok0 iop_xor fun i j k e => by cases e; rfl
  | _ => exact bad_op
end
end MP
set_option maxRecDepth 100000
namespace MP
open PySem L2
/-! ### names of fields by numbers -/
def FNof (names : List Str) (i : Nat) : Str := match names[i]? with
  | some x => x
  | none => ⟨Array.replicate (i + 100) 0⟩
theorem FNof_inj {names : List Str} (h1 : names.Nodup) (h2 : names.all (fun x => decide (x.cps.size < 100)) = true) (i j : Nat) (e : FNof names i = FNof names j) : i = j := by
  unfold FNof at e
  cases ei : names[i]? with
  | some x =>
    cases ej : names[j]? with
    | some y =>
      rw [ei, ej] at e
      simp only at e
      subst e
      obtain ⟨l1, e1⟩ := List.getElem?_eq_some_iff.mp ei
      obtain ⟨l2, e2⟩ := List.getElem?_eq_some_iff.mp ej
      exact (List.getElem_inj h1).mp (e1.trans e2.symm)
    | none =>
      rw [ei, ej] at e
      simp only at e
      have := of_decide_eq_true (List.all_eq_true.mp h2 x (List.mem_of_getElem? ei))
      rw [e] at this
      simp at this
      omega
  | none =>
    cases ej : names[j]? with
    | some y =>
      rw [ei, ej] at e
      simp only at e
      have := of_decide_eq_true (List.all_eq_true.mp h2 y (List.mem_of_getElem? ej))
      rw [← e] at this
      simp at this
      omega
    | none =>
      rw [ei, ej] at e
      simp only at e
      have := congrArg (fun z : Str => z.cps.size) e
      simp at this
      exact this
/-- defs below 500, classes from there -/
def GofK (da ca : List (Fr → Addr)) (K : Fr) (i : Nat) : Addr := bif Nat.ble 500 i then (match ca[i - 500]? with
  | some f => f K
  | none => 0) else match da[i]? with
  | some f => f K
  | none => 0
/-- a law's surroundings -/
structure Ctx (exL : List (Fr → Bool)) (dsL : List MDef) (txL : List DTab) (da ca : List (Fr → Addr)) (names : List Str) (Z : Sta) : Prop where
  K : ∃ h : Heap, Z.K.In h ∧ h.Ns mainGlobals Z.mg
  ex : ∀ f ∈ exL, f Z.K = true
  ds : ∀ d ∈ dsL, MOk Z.K d
  tx : ∀ t ∈ txL, He.dicW Z.K (t.1 Z.K) = some (He.keysIn Z.w.params t.2)
  G : Z.G = GofK da ca Z.K
  FN : Z.FN = FNof names
section
variable {exL : List (Fr → Bool)} {dsL : List MDef} {txL : List DTab} {da ca : List (Fr → Addr)} {names : List Str} {Z : Sta} {tbl : List DefI} {mems : List (List (Nat × FK))} {arrs : List (List (Nat × List Str × Arr))}
theorem Ctx.at_ (c : Ctx exL dsL txL da ca names Z) (i : Nat) {f : Fr → Bool} (h : exL[i]? = some f) : f Z.K = true := c.ex f (List.mem_of_getElem? h)
theorem Ctx.def_ (c : Ctx exL dsL txL da ca names Z) (i : Nat) {d : MDef} (h : dsL[i]? = some d) (hc : d.clo = [] := by rfl) : ∃ fd, MFun Z.K d fd := (c.ds d (List.mem_of_getElem? h)).fd hc
theorem Ctx.nm (c : Ctx exL dsL txL da ca names Z) (i : Nat) {x : Str} (h : names[i]? = some x) : Z.FN i = x := by
  rw [c.FN]
  unfold FNof
  rw [h]
theorem Ctx.glo (c : Ctx exL dsL txL da ca names Z) (i : Nat) {x : Str} {a : Fr → Addr} (h : exL[i]? = some fun K => gloK K x (a K)) : Z.mg x = some (.ref (a Z.K)) := by
  obtain ⟨hh, X, G⟩ := c.K
  exact gloK_ok X G (c.at_ i h)
theorem Ctx.gloG (c : Ctx exL dsL txL da ca names Z) (i k : Nat) {x : Str} {a : Fr → Addr} (h : exL[i]? = some fun K => gloK K x (a K)) (hk : GofK da ca Z.K k = a Z.K) : Z.mg x = some (.ref (Z.G k)) := by
  rw [c.G, hk]
  exact c.glo i h
theorem Ctx.fre (c : Ctx exL dsL txL da ca names Z) (i : Nat) {x : Str} (h : exL[i]? = some fun K => freK K x) : Z.mg x = none := by
  obtain ⟨hh, X, G⟩ := c.K
  exact freK_ok X G (c.at_ i h)
theorem Ctx.con (c : Ctx exL dsL txL da ca names Z) (i : Nat) {x : Str} {v : PV} (h : exL[i]? = some fun K => conK K x v) : ∃ u w, Z.mg x = some u ∧ RelV w u ∧ ∀ H m, RV Z H m v w := by
  obtain ⟨hh, X, G⟩ := c.K
  exact conK_ok X G (c.at_ i h)
theorem defOk_of {d : MDef} {g : Nat} {I : DefI} {N : List Str} {vs ls : List Nat} {gs : List Str} (hF : ∃ fd, MFun Z.K d fd) (hG : Z.G g = d.adr Z.K) (SC : FnScope N I.ps d.scope) (hn : I.nN = N.length) (hc : chkD N d.scope vs ls gs = true)
    (hb : ∀ n X W, TabOk Z (6 * n) (tabOf tbl mems arrs n) (fdOf Z) (psOf tbl) → Good Z (6 * n) X W → DefX X N d.scope vs ls gs → Hx X → Bx (6 * n) X (fdOf Z g) d.qual → PSs X d.body (tS Z W (I.body (tabOf tbl mems arrs n)))) : DefOk Z tbl mems arrs g I := by
  obtain ⟨fd, F⟩ := hF
  have e : fd = fdOf Z g := by
    rw [F.fd]
    unfold fdOf
    rw [hG]
  subst e
  have F' := F.f
  rw [← hG] at F'
  refine ⟨F'.kp, by rw [hG]; exact F.fn, fun n TO => ?_⟩
  rw [hn]
  exact fn_body F' SC hc fun X W gd D hp bx => hb n X W TO gd D hp bx
theorem arr_of {d : MDef} {g n : Nat} {ks : List Str} {a : Arr} {ps : List Str} (hF : ∃ fd, MFun Z.K d fd) (hG : Z.G g = d.adr Z.K) (h : ∀ fd, FunD Z.K d.name d.qual d.params d.body d.scope (d.dfl Z.K) (d.kwd Z.K) (d.adr Z.K) fd → BindOk Z fd ps n ks a) : BindOk Z (fdOf Z g) ps n ks a := by
  obtain ⟨fd, F⟩ := hF
  have e : fd = fdOf Z g := by
    rw [F.fd]
    unfold fdOf
    rw [hG]
  subst e
  exact h _ F.f
theorem arrOk_nil {g : Nat} : ArrOk Z tbl g [] := fun p hp => nomatch hp
theorem arrOk_cons {g n : Nat} {ks : List Str} {a : Arr} {l : List (Nat × List Str × Arr)} (h : BindOk Z (fdOf Z g) (psOf tbl g) n ks a) (r : ArrOk Z tbl g l) : ArrOk Z tbl g ((n, ks, a) :: l) := fun p hp => by
  rcases List.mem_cons.mp hp with e | hp
  · subst e; exact h
  · exact r p hp
theorem memOk_nil {i : Nat} : MemOk Z tbl i [] := fun p hp => nomatch hp
theorem memOk_fld {i f : Nat} {l : List (Nat × FK)} (h1 : Cls Z.K (Z.G (500 + i))) (h2 : NoAttr Z.K (Z.G (500 + i)) (Z.FN f)) (r : MemOk Z tbl i l) : MemOk Z tbl i ((f, .fld) :: l) := fun p hp => by
  rcases List.mem_cons.mp hp with e | hp
  · subst e; exact ⟨h1, h2⟩
  · exact r p hp
theorem memOk_prop {i f g : Nat} {l : List (Nat × FK)} {p : Addr} (h1 : Cls Z.K (Z.G (500 + i))) (h2 : PropOf Z.K (Z.G (500 + i)) (Z.FN f) p (Z.G g)) (h3 : decide (g < tbl.length) = true) (r : MemOk Z tbl i l) : MemOk Z tbl i ((f, .prop g) :: l) := fun p hp => by
  rcases List.mem_cons.mp hp with e | hp
  · subst e; exact ⟨h1, ⟨_, h2⟩, h3⟩
  · exact r p hp
theorem memOk_meth {i f g : Nat} {l : List (Nat × FK)} (h1 : Cls Z.K (Z.G (500 + i))) (h2 : Meth Z.K (Z.G (500 + i)) (Z.FN f) (Z.G g)) (h3 : decide (g < tbl.length) = true) (r : MemOk Z tbl i l) : MemOk Z tbl i ((f, .meth g) :: l) := fun p hp => by
  rcases List.mem_cons.mp hp with e | hp
  · subst e; exact ⟨h1, h2, h3⟩
  · exact r p hp
theorem has_ok {n g : Nat} (h : decide (g < tbl.length) = true) : (tabOf tbl mems arrs n).has g = true := by rw [tabOf_has]; exact h
theorem arr_ok {n g m : Nat} {ks : List Str} {a : Arr} (h : arrOf arrs g m ks = some a) : (tabOf tbl mems arrs n).arr g m ks = some a := by rw [tabOf_arr]; exact h
def tyW (G : Nat → Addr) (n : Nat) : Value := if n < 100 then .type (tyS n) else .ref (G (n - 100))
/-! ### the law -/
/-- what an exception leaves, whatever the world -/
def CXa : CXT := fun outer H s E e s' => ∃ P w, CX P w outer H s E e s'
theorem fnAny {P : Program} {w : World} {K : Fr} {mg : Str → Option Value} {base : Heap} {k : Nat} {f : Addr} {fd : FuncData} {ps : List Str} {sp : Sp} (F : FnOk P w K mg base (CX P w) k f fd ps sp) : FnOk P w K mg base CXa k f fd ps sp := by
  refine ⟨F.len, fun A outer s H args us vs Q E hr he hb hv hs => codeAny_mono (F.run A outer s H args us vs Q E hr he hb hv hs) fun r s' h => ?_⟩
  cases r with
  | error e => exact ⟨P, w, h⟩
  | ok fl => cases fl <;> exact h
theorem cxa_no (H : Hp) (s : Shared) (e : Value) (s' : Shared) (h : CXa [] H s (fun _ _ _ => False) e s') : False := by
  obtain ⟨_, _, _, _, _, _, _, _, _, _, _, _, _, _, z⟩ := h
  exact z
/-- what the law's def promises -/
def spLaw (K : Fr) : Sp := fun vs H Q _ => ∃ (a : Addr) (ns : List Int), vs = [.ref a] ∧ ns.length ≤ 63 ∧ SqL K H a (ns.map V.int) ∧ ∀ H', Q (.bl true) H'
theorem law_of {g n : Nat} {fd : FuncData} {ps : List Str} (hps : ps.length = 1) (TO : TabOk Z (6 * n) (tabOf tbl mems arrs n) (fdOf Z) (psOf tbl)) (hh : decide (g < tbl.length) = true) (ep : psOf tbl g = ps) (ef : fdOf Z g = fd)
    (hev : ∀ ns : List Int, ns.length ≤ 63 → ∃ S, (tabOf tbl mems arrs n).run g [.scr ns] [] = .ok (.bl true) S) : FnOk Z.P Z.w Z.K Z.mg Z.base CXa (6 * n) (Z.G g) fd ps (spLaw Z.K) := by
  have F := (TO.fn g (has_ok hh)).ok
  rw [ep, ef] at F
  refine fnAny (F.imp fun vs H Q E ⟨a, ns, e, hl, hS, hQ⟩ => ?_)
  subst e
  obtain ⟨S, es⟩ := hev ns hl
  refine ⟨by rw [hps]; rfl, ⟨[], []⟩, [], [.scr ns], ⟨.nil, List.nodup_nil, fun _ h => nomatch h⟩, RVs.cons ?_ RVs.nil, ?_⟩
  · unfold RV
    refine ⟨a, rfl, ?_⟩
    rcases hS with h | ⟨o, its, k, h1, h2, h3, h4, h5, h6⟩
    · exact .inl ⟨⟨List.not_mem_nil, List.not_mem_nil⟩, h⟩
    · exact .inr ⟨o, its, k, h1, h2, h3, h4, h5, h6⟩
  · rw [es]
    intro H' m' x _ _ r
    rw [rv_bl r]
    exact hQ H'
end
end MP
set_option maxRecDepth 100000
namespace MP
open PySem L2
/-! ### places, slices -/
def ixV (a b : PV) (S : Hs) : RE := match b with
  | .int i => match a with
    | .str s => if fits s then okO ((atI s i).map fun c => .str [c]) S else .bad
    | a => match asQ S a with
      | some xs => okO (atI xs i) S
      | none => .bad
  | _ => .bad
def cutP {A : Type} (xs : List A) (lo hi : Option Int) : List A := (xs.drop (HT.sIx xs.length 0 lo)).take (HT.sIx xs.length xs.length hi - HT.sIx xs.length 0 lo)
def asR (S : Hs) : PV → Option (List PV)
  | .scr ns => some (ns.map .int)
  | v => asL S v
def slV (fz : Bool) (a : PV) (lo hi : Option Int) (S : Hs) : RE := match a with
  | .str s => if fits s then .ok (.str (cutP s lo hi)) S else .bad
  | .tup xs => if decide (HT.sIx xs.length 0 lo = 0) && decide (HT.sIx xs.length xs.length hi = xs.length) then .ok (.tup xs) S else newT (cutP xs lo hi) S
  | a => match asR S a with
    | some xs => newL fz (cutP xs lo hi) S
    | none => .bad
abbrev RO := Option (Option Int × Hs)
def partO (f : Option (Loc → Hs → RE)) (L : Loc) (S : Hs) (k : Option Int → Hs → RE) : RE := match f with
  | none => k none S
  | some f => (f L S).bind fun v S1 => match v with
    | .int i => k (some i) S1
    | _ => .bad
def slE (fz : Bool) (f : Loc → Hs → RE) (lo hi : Option (Loc → Hs → RE)) : Loc → Hs → RE := fun L S => (f L S).bind fun v S1 => partO lo L S1 fun l S2 => partO hi L S2 fun u S3 => slV fz v l u S3
/-! ### chains -/
def chainE (fa fb fc : Loc → Hs → RE) (o o' : PV → PV → Hs → RE) : Loc → Hs → RE := fun L S => (fa L S).bind fun v S1 => (fb L S1).bind fun u S2 => (noX (o v u S2)).bind fun d S3 => match d with
  | .bl true => (fc L S3).bind fun w S4 => noX (o' u w S4)
  | .bl false => .ok (.bl false) S3
  | _ => .bad
section
variable {Z : Sta} {W : WX} {σ : L2.St} {H H1 : Hp} {m m1 m2 : Mp} {X : Cx} {S : Hs} {x y : V} {a : Addr} {lv g k f : Nat} {T : Tab} {fdO : Nat → FuncData} {psO : Nat → List Str} {pins : List (Addr × Obj)} {s : Shared} {Q : VK} {c : CmpT}
theorem RVs.atI {xs : List PV} {ys : List V} {i : Int} {p : PV} (r : RVs Z H m xs ys) (h : L2.atI xs i = some p) : ∃ y, L2.atI ys i = some y ∧ RV Z H m p y := by
  unfold L2.atI at h ⊢
  rw [← r.len]
  cases e : ixN xs.length i with
  | none => rw [e] at h; cases h
  | some j =>
    rw [e] at h
    exact r.get h
theorem RVs.take : ∀ {xs : List PV} {ys : List V} (n : Nat), RVs Z H m xs ys → RVs Z H m (xs.take n) (ys.take n)
  | [], _, _, h => by unfold RVs at h; subst h; rw [List.take_nil, List.take_nil]; exact RVs.nil
  | p :: ps, _, 0, h => RVs.nil
  | p :: ps, _, n + 1, h => by
    unfold RVs at h
    obtain ⟨y, r, rfl, h1, h2⟩ := h
    exact RVs.cons h1 (RVs.take n h2)
theorem RVs.drop : ∀ {xs : List PV} {ys : List V} (n : Nat), RVs Z H m xs ys → RVs Z H m (xs.drop n) (ys.drop n)
  | [], _, _, h => by unfold RVs at h; subst h; rw [List.drop_nil, List.drop_nil]; exact RVs.nil
  | p :: ps, _, 0, h => h
  | p :: ps, _, n + 1, h => by
    unfold RVs at h
    obtain ⟨y, r, rfl, h1, h2⟩ := h
    exact RVs.drop n h2
theorem RVs.cut {xs : List PV} {ys : List V} {lo hi : Option Int} (r : RVs Z H m xs ys) : RVs Z H m (cutP xs lo hi) (cutV ys lo hi) := by
  unfold cutP cutV
  rw [r.len]
  exact (r.drop _).take _
theorem ix_post {p q : PV} (hK : X.K = Z.K) (sr : SRel Z H m S) (rp : RV Z H m p x) (rq : RV Z H m q y) (hp : PostE Z W σ H m Q (ixV p q S)) : rIx X.K x y H Q := by
  unfold ixV at hp
  split at hp
  · rename_i i
    cases rv_int rq
    split at hp
    · rename_i st
      split at hp
      · rename_i hf
        obtain ⟨rfl, ho⟩ := rv_str rp
        cases e : L2.atI st i with
        | none => rw [e] at hp; exact hp.elim
        | some c =>
          rw [e] at hp
          refine .inr (.inr ⟨_, i, c, rfl, rfl, by rw [str_len]; exact fits_ok hf, by simpa using e, ?_⟩)
          refine hp H m _ Gr.refl sr ?_
          have hc : c ∈ st := by
            unfold L2.atI at e
            cases e2 : ixN st.length i with
            | none => rw [e2] at e; cases e
            | some j => rw [e2] at e; exact List.mem_of_getElem? e
          have : sOk [c] = true := by
            unfold sOk at ho ⊢
            rw [List.all_cons, List.all_eq_true.mp ho c hc]
            rfl
          exact to_str this
      · exact hp.elim
    · split at hp
      · rename_i xs ex
        obtain ⟨a, ys, rfl, hq, rr⟩ := asQ_ok sr rp ex
        cases e : L2.atI xs i with
        | none => rw [e] at hp; exact hp.elim
        | some w =>
          rw [e] at hp
          obtain ⟨z, ez, rz⟩ := rr.atI e
          rcases hq with hq | hq
          · exact .inl ⟨a, ys, i, z, rfl, rfl, by rw [hK]; exact hq, ez, hp H m _ Gr.refl sr rz⟩
          · exact .inr (.inl ⟨a, ys, i, z, rfl, rfl, by rw [hK]; exact hq, ez, hp H m _ Gr.refl sr rz⟩)
      · exact hp.elim
  · exact hp.elim
theorem ok_ix {a b : Expr} {pos : Pos} {f g : Loc → Hs → RE} (hK : X.K = Z.K) (ha : PE X a (tE Z W f)) (hb : PE X b (tE Z W g)) (hs : ∀ o i, subscripted b false o i = operate [o, i] (getItem o i)) : PE X (.Subscript a b pos) (tE Z W (binE f g ixV)) := by
  refine PE.imp (pe_ix ix_seq ha hb hs) ?_
  rintro σ H Q ⟨m, L, S, sr, hl, hp⟩
  exact ⟨m, L, S, sr, hl, PostE.bind hp fun v S1 H1 m1 x g1 s1 r1 hp1 => ⟨m1, L, S1, s1, hl.grow g1, PostE.bind hp1 fun w S2 H2 m2 y g2 s2 r2 hp2 => ix_post hK s2 (r1.grow g2) r2 hp2⟩⟩
inductive PartOk (Z : Sta) (X : Cx) (W : WX) : Option Expr → Option (Loc → Hs → RE) → Prop where
  | none : PartOk Z X W none none
  | some {e : Expr} {f : Loc → Hs → RE} : PE X e (tE Z W f) → PartOk Z X W (some e) (some f)
def tPt (Z : Sta) (W : WX) : Option (Loc → Hs → RE) → TO
  | none => tNoPart
  | some f => tPart (tE Z W f)
theorem PartOk.po {e : Option Expr} {f : Option (Loc → Hs → RE)} (h : PartOk Z X W e f) : PO X e (tPt Z W f) := by
  cases h with
  | none => exact po_none
  | some h => exact po_some h
theorem part_read {f : Option (Loc → Hs → RE)} {L : Loc} {kk : Option Int → Hs → RE} {R : Option Int → Hp → Prop} (sr : SRel Z H m S) (hl : LRel Z H m L σ) (hp : PostE Z W σ H m Q (partO f L S kk))
    (c : ∀ o S1 H1 m1, Gr Z H m H1 m1 → SRel Z H1 m1 S1 → PostE Z W σ H1 m1 Q (kk o S1) → R o H1) : tPt Z W f σ H R := by
  cases f with
  | none => exact c none S H m Gr.refl sr hp
  | some f =>
    refine ⟨m, L, S, sr, hl, PostE.bind hp fun v S1 H1 m1 x g1 s1 r1 hp1 => ?_⟩
    split at hp1
    · rename_i i
      cases rv_int r1
      exact ⟨i, rfl, c (some i) S1 H1 m1 g1 s1 hp1⟩
    · exact hp1.elim
theorem asR_ok (s : SRel Z H m S) {v : PV} {x : V} {xs : List PV} (r : RV Z H m v x) (h : asR S v = some xs) : ∃ a ys, x = .ref a ∧ SqL Z.K H a ys ∧ RVs Z H m xs ys := by
  unfold asR at h
  split at h
  · cases h
    unfold RV at r
    obtain ⟨a, e, h1⟩ := r
    exact ⟨a, _, e, h1.sq, RVs.ints⟩
  · obtain ⟨a, ys, e, h1, h2⟩ := asL_ok s r h
    exact ⟨a, ys, e, SqL.of h1, h2⟩
theorem sl_post {fz : Bool} {p : PV} {lo hi : Option Int} (hK : X.K = Z.K) (sr : SRel Z H m S) (rp : RV Z H m p x) (hp : PostE Z W σ H m Q (slV fz p lo hi S)) : rSlL X.K x lo hi H Q ∨ rSlA X.K x lo hi H Q ∨ rSlS x lo hi H Q := by
  unfold slV at hp
  split at hp
  · rename_i st
    split at hp
    · rename_i hf
      obtain ⟨rfl, ho⟩ := rv_str rp
      refine .inr (.inr ⟨_, rfl, by rw [str_len]; exact fits_ok hf, ?_⟩)
      have e : cutS ⟨st.toArray⟩ lo hi = ⟨(cutP st lo hi).toArray⟩ := by
        unfold cutS cutP
        rw [str_len]
      rw [e]
      refine hp H m _ Gr.refl sr (to_str ?_)
      unfold sOk cutP at *
      exact List.all_eq_true.mpr fun c hc => List.all_eq_true.mp ho c (List.mem_of_mem_drop (List.mem_of_mem_take hc))
    · exact hp.elim
  · rename_i xs
    obtain ⟨a, ys, rfl, hq, rr⟩ := rv_tup rp
    split at hp
    · rename_i hn
      rw [Bool.and_eq_true, decide_eq_true_eq, decide_eq_true_eq, rr.len] at hn
      exact .inr (.inl ⟨a, ys, rfl, by rw [hK]; exact hq, fun _ => hp H m _ Gr.refl sr rp, fun h => absurd hn h⟩)
    · rename_i hn
      refine .inr (.inl ⟨a, ys, rfl, by rw [hK]; exact hq, fun h => absurd h ?_, fun _ => (newT_post sr rr.cut hp).2⟩)
      rw [Bool.and_eq_true, decide_eq_true_eq, decide_eq_true_eq, rr.len] at hn
      exact hn
  · split at hp
    · rename_i xs ex
      obtain ⟨a, ys, rfl, hq, rr⟩ := asR_ok sr rp ex
      exact .inl ⟨a, ys, rfl, by rw [hK]; exact hq, (newL_post sr rr.cut hp).2⟩
    · exact hp.elim
theorem ok_sl {a : Expr} {lo hi : Option Expr} {p2 pos : Pos} {fz : Bool} {f : Loc → Hs → RE} {fl fh : Option (Loc → Hs → RE)} (hK : X.K = Z.K) (ha : PE X a (tE Z W f)) (hl : PartOk Z X W lo fl) (hh : PartOk Z X W hi fh) : PE X (.Subscript a (.Slice lo hi none p2) pos) (tE Z W (slE fz f fl fh)) := by
  refine PE.imp (pe_slice (sl_list.or (sl_tupA.or sl_str)) ha hl.po hh.po) ?_
  rintro σ H Q ⟨m, L, S, sr, hl, hp⟩
  refine ⟨m, L, S, sr, hl, PostE.bind hp fun v S1 H1 m1 x g1 s1 r1 hp1 => ?_⟩
  refine part_read s1 (hl.grow g1) hp1 fun o S2 H2 m2 g2 s2 hp2 => ?_
  refine part_read s2 ((hl.grow g1).grow g2) hp2 fun u S3 H3 m3 g3 s3 hp3 => ?_
  exact sl_post hK s3 ((r1.grow g2).grow g3) hp3
/-! ### chains -/
theorem noX_any {r : RE} (h : PostE Z W σ H m Q (noX r)) : PostE Z W0 [] H m Q (noX r) := by
  cases r with
  | ok v S => exact h
  | ex k v S => exact h.elim
  | bad => exact h.elim
theorem OpOk.r {f : Value → Value → Sem Value} {g : PV → PV → Hs → RE} (ho : OpOk Z X W f g) : OpR X f (fun x y H Q => ∃ m S p q, SRel Z H m S ∧ RV Z H m p x ∧ RV Z H m q y ∧ PostE Z W0 [] H m Q (noX (g p q S))) := by
  intro pins s σ H x y v u Q I rx ry ⟨m, S, p, q, sr, rp, rq, hp⟩
  refine ho pins s σ H x y v u m S p q Q I rx ry sr rp rq ?_
  cases e : g p q S with
  | ok v S1 => rw [e] at hp; exact hp
  | ex k v S1 => rw [e] at hp; exact hp.elim
  | bad => rw [e] at hp; exact hp.elim
theorem noX_bind {r : RE} {f : PV → Hs → RE} {R : VK} (h : PostE Z W σ H m Q ((noX r).bind f)) (c : ∀ v S H' m' x, Gr Z H m H' m' → SRel Z H' m' S → RV Z H' m' v x → PostE Z W σ H' m' Q (f v S) → R x H') : PostE Z W0 [] H m R (noX r) := by
  cases r with
  | ok v S => exact fun H' m' x g s rv => c v S H' m' x g s rv (PostE.grow g h)
  | ex k v S => exact h.elim
  | bad => exact h.elim
theorem chain_read {fa fb fc : Loc → Hs → RE} {o o' : PV → PV → Hs → RE} (h : tE Z W (chainE fa fb fc o o') σ H Q) :
    tChain (fun x y H Q => ∃ m S p q, SRel Z H m S ∧ RV Z H m p x ∧ RV Z H m q y ∧ PostE Z W0 [] H m Q (noX (o p q S))) (fun x y H Q => ∃ m S p q, SRel Z H m S ∧ RV Z H m p x ∧ RV Z H m q y ∧ PostE Z W0 [] H m Q (noX (o' p q S))) (tE Z W fa) (tE Z W fb) (tE Z W fc) σ H Q := by
  obtain ⟨m, L, S, sr, hl, hp⟩ := h
  refine ⟨m, L, S, sr, hl, PostE.bind hp fun v S1 H1 m1 x g1 s1 r1 hp1 => ⟨m1, L, S1, s1, hl.grow g1, PostE.bind hp1 fun u S2 H2 m2 y g2 s2 r2 hp2 => ⟨m2, S2, v, u, s2, r1.grow g2, r2, noX_bind hp2 fun d S3 H3 m3 z g3 s3 r3 hp3 => ?_⟩⟩⟩
  split at hp3
  · cases rv_bl r3
    refine ⟨true, rfl, ?_⟩
    rw [if_pos rfl]
    exact ⟨m3, L, S3, s3, ((hl.grow g1).grow g2).grow g3, PostE.bind hp3 fun w S4 H4 m4 z4 g4 s4 r4 hp4 => ⟨m4, S4, u, w, s4, (r2.grow g3).grow g4, r4, noX_any hp4⟩⟩
  · cases rv_bl r3
    refine ⟨false, rfl, ?_⟩
    rw [if_neg Bool.false_ne_true]
    exact hp3 H3 m3 _ Gr.refl s3 to_bl
  · exact hp3.elim
theorem ok_chain {a b cc : Expr} {op op' : CmpOp} {pos : Pos} {fa fb fc : Loc → Hs → RE} {o o' : PV → PV → Hs → RE} (ha : PE X a (tE Z W fa)) (hb : PE X b (tE Z W fb)) (hc : PE X cc (tE Z W fc)) (ho : OpOk Z X W (compareOp op) o) (ho' : OpOk Z X W (compareOp op') o')
    (hm : lastMarks [op, op'] [b, cc] = false) : PE X (.Compare a [op, op'] [b, cc] pos) (tE Z W (chainE fa fb fc o o')) :=
  PE.imp (pe_chain ho.r ho'.r ha hb hc hm) fun σ H Q h => chain_read h
theorem ok_chainB {a b cc : Expr} {op op' : CmpOp} {pos : Pos} {fa fb fc : Loc → Hs → RE} {o o' : PV → PV → Hs → RE} (ha : PE X a (tE Z W fa)) (hb : PE X b (tE Z W fb)) (hc : PE X cc (tE Z W fc)) (ho : OpOk Z X W (compareOp op) o) (ho' : OpOk Z X W (compareOp op') o')
    (hm : lastMarks [op, op'] [b, cc] = false) : PT X (.Compare a [op, op'] [b, cc] pos) (tB Z W (cmpB (chainE fa fb fc o o'))) := by
  refine PT.imp (pt_chain ho.r ho'.r ha hb hc hm) ?_
  rintro σ H Q ⟨m, L, S, sr, hl, hp⟩
  exact chain_read ⟨m, L, S, sr, hl, asB_post hp⟩
/-! ### ranges -/
def fit62 (i : Int) : Bool := decide (-(2 ^ 62) ≤ i) && decide (i < 2 ^ 62)
def rngI (ga : Loc → Hs → RA) : Loc → Hs → RI := fun L S => match ga L S with
  | .ok [.int j] S1 => if fit62 j then .ok (.rng 0 j.toNat) S1 else .bad
  | .ok [.int i, .int j] S1 => if fit62 i && fit62 j then .ok (.rng i (j - i).toNat) S1 else .bad
  | .ok _ _ => .bad
  | .ex k v S1 => .ex k v S1
  | .bad => .bad
theorem fit_ok {i : Int} (h : fit62 i = true) : -(2 ^ 62) ≤ i ∧ i < 2 ^ 62 := by
  unfold fit62 at h
  rw [Bool.and_eq_true, decide_eq_true_eq, decide_eq_true_eq] at h
  exact h
theorem rng_post {ga : Loc → Hs → RA} {R : It → Hp → Prop} {L : Loc} (hp : PostI Z W σ H m R (rngI ga L S)) : PostA Z W σ H m (fun xs H1 => (∃ j : Int, xs = [.int j] ∧ fit62 j = true ∧ R (Itr 0 j.toNat) H1) ∨ ∃ i j : Int, xs = [.int i, .int j] ∧ (fit62 i && fit62 j) = true ∧ R (Itr i (j - i).toNat) H1) (ga L S) := by
  unfold rngI at hp
  cases e : ga L S with
  | bad => rw [e] at hp; exact hp.elim
  | ex k v S1 => rw [e] at hp; exact hp
  | ok vs S1 =>
    rw [e] at hp
    intro H1 m1 xs g1 s1 r1
    split at hp
    · rename_i j S' e'
      cases e'
      obtain ⟨x, rfl, rx⟩ := rvs1 r1
      cases rv_int rx
      split at hp
      · rename_i hf
        exact .inl ⟨j, rfl, hf, hp H1 m1 _ g1 s1 drel_rng⟩
      · exact hp.elim
    · rename_i i j S' e'
      cases e'
      obtain ⟨x, y, rfl, rx, ry⟩ := rvs2 r1
      cases rv_int rx
      cases rv_int ry
      split at hp
      · rename_i hf
        exact .inr ⟨i, j, rfl, hf, hp H1 m1 _ g1 s1 drel_rng⟩
      · exact hp.elim
    · exact hp.elim
    · rename_i e'; cases e'
    · rename_i e'; cases e'
theorem ok_rng1 {tg e : Expr} {p pos : Pos} {nm : Str} {f : Loc → Hs → RE} (gd : Good Z lv X W) (hn : nm = "range") (hg : Gl X nm) (hm : Z.mg nm = none) (ha : PE X e (tE Z W f)) (hs : starEach [e] X.env = [(false, eval e X.env)]) : PI X tg (.Call (.Name nm p) [e] [] pos) (tI Z W (rngI (consA f nilA))) := by
  subst hn
  refine PI.imp (pi_range1 hg (by rw [gd.mg]; exact hm) (ok_cons ha ok_nil (by rw [hs]; rfl)) hs) ?_
  rintro σ H R ⟨m, L, S, sr, hl, hp⟩
  refine ⟨m, L, S, sr, hl, ?_⟩
  have h := rng_post hp
  have two : ∀ vs S', consA f nilA L S = .ok vs S' → ∃ v, vs = [v] := fun vs S' e => by
    unfold consA at e
    cases e1 : f L S with
    | ok v S1 => rw [e1] at e; cases e; exact ⟨v, rfl⟩
    | ex k v S1 => rw [e1] at e; cases e
    | bad => rw [e1] at e; cases e
  cases e : consA f nilA L S with
  | bad => rw [e] at h; exact h
  | ex k v S1 => rw [e] at h; exact h
  | ok vs S1 =>
    rw [e] at h
    obtain ⟨v, rfl⟩ := two vs S1 e
    intro H1 m1 xs g1 s1 r1
    obtain ⟨x0, rfl, _⟩ := rvs1 r1
    rcases h H1 m1 _ g1 s1 r1 with ⟨j, e2, hf, q⟩ | ⟨i, j, e2, _⟩
    · obtain ⟨q1, q2⟩ := fit_ok hf
      exact ⟨j, e2, q1, q2, q⟩
    · cases e2
theorem ok_rng2 {tg a b : Expr} {p pos : Pos} {nm : Str} {f g : Loc → Hs → RE} (gd : Good Z lv X W) (hn : nm = "range") (hg : Gl X nm) (hm : Z.mg nm = none) (ha : PE X a (tE Z W f)) (hb : PE X b (tE Z W g)) (hs : starEach [a, b] X.env = [(false, eval a X.env), (false, eval b X.env)]) (hs2 : starEach [b] X.env = [(false, eval b X.env)]) :
    PI X tg (.Call (.Name nm p) [a, b] [] pos) (tI Z W (rngI (consA f (consA g nilA)))) := by
  subst hn
  refine PI.imp (pi_range2 hg (by rw [gd.mg]; exact hm) (ok_cons ha (ok_cons hb ok_nil (by rw [hs2]; rfl)) (by rw [hs, hs2])) hs hs2) ?_
  rintro σ H R ⟨m, L, S, sr, hl, hp⟩
  refine ⟨m, L, S, sr, hl, ?_⟩
  have h := rng_post hp
  have two : ∀ vs S', consA f (consA g nilA) L S = .ok vs S' → ∃ v w, vs = [v, w] := fun vs S' e => by
    unfold consA at e
    cases e1 : f L S with
    | ok v S1 =>
      rw [e1] at e
      cases e2 : g L S1 with
      | ok w S2 =>
        simp only [RE.bindA, RA.bindA, e2, nilA] at e
        cases e
        exact ⟨v, w, rfl⟩
      | ex k v S1 => simp only [RE.bindA, RA.bindA, e2] at e; cases e
      | bad => simp only [RE.bindA, RA.bindA, e2] at e; cases e
    | ex k v S1 => rw [e1] at e; cases e
    | bad => rw [e1] at e; cases e
  cases e : consA f (consA g nilA) L S with
  | bad => rw [e] at h; exact h
  | ex k v S1 => rw [e] at h; exact h
  | ok vs S1 =>
    rw [e] at h
    obtain ⟨v, w, rfl⟩ := two vs S1 e
    intro H1 m1 xs g1 s1 r1
    obtain ⟨x0, y0, rfl, _, _⟩ := rvs2 r1
    rcases h H1 m1 _ g1 s1 r1 with ⟨j, e2, _⟩ | ⟨i, j, e2, hf, q⟩
    · cases e2
    · rw [Bool.and_eq_true] at hf
      obtain ⟨q1, q2⟩ := fit_ok hf.1
      obtain ⟨q3, q4⟩ := fit_ok hf.2
      exact ⟨i, j, e2, ⟨q1, q2, q3, q4⟩, q⟩
end
end MP
set_option maxRecDepth 100000
namespace MP
open PySem L2
/-! ### o[i] = v, o.append(v) -/
def setV (o i v : PV) (S : Hs) : Option Hs := match o, i with
  | .loc n, .int k => match getR S n with
    | some (.lst xs) => (ixN xs.length k).map fun j => setR S n (.lst (xs.set j v))
    | _ => none
  | _, _ => none
def subT (fo fi : Loc → Hs → RE) : TgF := fun v L S => match fo L S with
  | .ok o S1 => match fi L S1 with
    | .ok i S2 => match setV o i v S2 with
      | some S3 => .nx L S3
      | none => .bad
    | _ => .bad
  | _ => .bad
def appV (o v : PV) (S : Hs) : RE := match o with
  | .loc n => match getR S n with
    | some (.lst xs) => if decide (xs.length < 16777216) then .ok .non (setR S n (.lst (xs ++ [v]))) else .bad
    | _ => .bad
  | _ => .bad
/-- what a list may be appended to -/
def isLoc : PV → Bool
  | .loc _ => true
  | _ => false
def appE (fo : Loc → Hs → RE) (fe : Loc → Hs → RE) : Loc → Hs → RE := fun L S => (fo L S).bind fun o S1 => match asL S1 o with
  | some _ => if isLoc o then (fe L S1).bind fun v S2 => appV o v S2 else .bad
  | none => .bad
section
variable {Z : Sta} {W : WX} {σ : L2.St} {H H1 : Hp} {m m1 m2 : Mp} {X : Cx} {S : Hs} {x y : V} {a : Addr} {lv g k f : Nat} {T : Tab} {fdO : Nat → FuncData} {psO : Nat → List Str} {pins : List (Addr × Obj)} {s : Shared} {Q : VK} {c : CmpT}
theorem ok_subT {o i : Expr} {pos : Pos} {fo fi : Loc → Hs → RE} (ho : PE X o (tE Z W fo)) (hi : PE X i (tE Z W fi))
    (ha : ∀ v, assign (.Subscript o i pos) X.env v = (do
      let ov ← holding [v] (eval o X.env)
      let iv ← holding [v, ov] (eval i X.env)
      standAt pos
      holding [v, ov, iv] (setItem ov iv v)
      release [v, ov, iv] [])) : PG X (.Subscript o i pos) (tG Z [] (subT fo fi)) := by
  refine PG.imp (pg_sub ho hi set_list ha) ?_
  rintro x σ H Q ⟨m, L, S, v, sr, hl, rv, hp⟩
  unfold subT at hp
  refine ⟨m, L, S, sr, hl, ?_⟩
  cases eo : fo L S with
  | bad => rw [eo] at hp; exact hp.elim
  | ex k v S1 => rw [eo] at hp; exact hp.elim
  | ok ov S1 =>
    rw [eo] at hp
    simp only at hp
    intro H1 m1 xo g1 s1 r1
    refine ⟨m1, L, S1, s1, hl.grow g1, ?_⟩
    cases ei : fi L S1 with
    | bad => rw [ei] at hp; exact hp.elim
    | ex k v S2 => rw [ei] at hp; exact hp.elim
    | ok iv S2 =>
      rw [ei] at hp
      simp only at hp
      intro H2 m2 xi g2 s2 r2
      unfold setV at hp
      split at hp
      · rename_i S3 es
        split at es
        · rename_i n k
          split at es
          · rename_i xs ec
            obtain ⟨j, ej, rfl⟩ := map_some es
            have r1' := r1.grow g2
            unfold RV at r1'
            obtain ⟨a, ea, rfl⟩ := r1'
            cases rv_int r2
            obtain ⟨b, eb, ys, hA, rr⟩ := s2.at_ ec
            rw [ea] at eb
            cases eb
            have g3 := Gr.upd (Z := Z) (m := m2) (o := .lst (ys.set j x)) (getR_mem ea) (no_tup_lst hA)
            refine ⟨a, ys, k, j, rfl, rfl, hA, by rw [← rr.len]; exact ej, ?_⟩
            have rv2 := (rv.grow g1).grow g2
            exact hp _ m2 σ ((g1.trans g2).trans g3) (s2.set ea (no_tup_lst hA) ⟨_, upd_same, RVs.set (rv2.grow g3) j (rr.grow g3)⟩) (((hl.grow g1).grow g2).grow g3) Out.refl
          · cases es
        · cases es
      · exact hp.elim
theorem ok_app {o e : Expr} {apos pos : Pos} {fo fe : Loc → Hs → RE} (gd : Good Z lv X W) (ho : PE X o (tE Z W fo)) (he : PE X e (tE Z W fe)) (hbase : attributeBase o "append" X.env (eval o X.env) = eval o X.env)
    (hfew : ((backTo pos (starEach [e] X.env)).all (fun x => !x.1) && (backToKw pos (keywordEach [] X.env)).all (fun x => x.1.isSome)
      && decide ([e].length + ([] : List Keyword).length + (if ([] : List Keyword).isEmpty then 0 else 1) < 30)) = true)
    (hline : (apos.endLine == pos.line) = true) (hs : starEach [e] X.env = (false, eval e X.env) :: starEach [] X.env) :
    PE X (.Call (.Attribute o "append" apos) [e] [] pos) (tE Z W (appE fo fe)) := by
  refine PE.imp (pe_bm F.plainAttrs_list F.slot_list_append F.type_list_append mt_append ho (ok_cons he ok_nil hs) hbase hfew hline hs rfl) ?_
  rintro σ H Q ⟨m, L, S, sr, hl, hp⟩
  refine ⟨m, L, S, sr, hl, PostE.bind hp fun v S1 H1 m1 x g1 s1 r1 hp1 => ?_⟩
  split at hp1
  · rename_i xs ex
    split at hp1
    · obtain ⟨a, ys, rfl, hA, rr⟩ := asL_ok s1 r1 ex
      refine ⟨.inl ⟨rfl, ys, SqL.of hA⟩, m1, L, S1, s1, hl.grow g1, ?_⟩
      have hq : PostA Z W σ H1 m1 (fun xs H2 => rAppend (.ref a) xs H2 Q) (consA fe nilA L S1) := by
        have := PostE.bind (Q := Q) hp1 (R := fun y H2 => rAppend (.ref a) [y] H2 Q) fun w S2 H2 m2 y g2 s2 r2 hp2 => by
          unfold appV at hp2
          split at hp2
          · rename_i n
            split at hp2
            · rename_i zs ec
              split at hp2
              · rename_i hlen
                have r1' := r1.grow g2
                unfold RV at r1'
                obtain ⟨b, eb, e⟩ := r1'
                cases e
                obtain ⟨b', eb', ys', hA', rr'⟩ := s2.at_ ec
                rw [eb] at eb'
                cases eb'
                have g3 := Gr.upd (Z := Z) (m := m2) (o := .lst (ys' ++ [y])) (getR_mem eb) (no_tup_lst hA')
                refine ⟨a, ys', y, rfl, rfl, hA', by rw [← rr'.len, sizeLine_eq]; exact of_decide_eq_true hlen, ?_⟩
                exact hp2 _ m2 _ g3 (s2.set eb (no_tup_lst hA') ⟨_, upd_same, (rr'.grow g3).append (RVs.cons (r2.grow g3) RVs.nil)⟩) to_non
              · exact hp2.elim
            · exact hp2.elim
          · exact hp2.elim
        unfold consA
        cases e : fe L S1 with
        | bad => rw [e] at this; exact this
        | ex k v S2 => rw [e] at this; exact this
        | ok w S2 =>
          rw [e] at this
          intro H2 m2 vs g2 s2 r2
          obtain ⟨y, rfl, ry⟩ := rvs1 r2
          exact this H2 m2 y g2 s2 ry
      exact hq
    · exact hp1.elim
  · exact hp1.elim
/-! ### numbers -/
def min2V (ps : List PV) (S : Hs) : RE := match ps with
  | [.int i, .int j] => .ok (.int (if j < i then j else i)) S
  | _ => .bad
def max2V (ps : List PV) (S : Hs) : RE := match ps with
  | [.int i, .int j] => .ok (.int (if j > i then j else i)) S
  | _ => .bad
def absV (ps : List PV) (S : Hs) : RE := match ps with
  | [.int i] => .ok (.int (if i < 0 then -i else i)) S
  | _ => .bad
def intV1 (ps : List PV) (S : Hs) : RE := match ps with
  | [.int i] => .ok (.int i) S
  | [.bl k] => .ok (.int (if k then 1 else 0)) S
  | _ => .bad
def asIs : List PV → Option (List Int)
  | [] => some []
  | .int i :: r => (asIs r).map (i :: ·)
  | _ => none
def sumV (ps : List PV) (S : Hs) : RE := match ps with
  | [v] => match asL S v with
    | some xs => okO ((asIs xs).map fun ns => .int ns.sum) S
    | none => .bad
  | _ => .bad
theorem asIs_ok : ∀ {xs : List PV} {ys : List V} {ns : List Int}, RVs Z H m xs ys → asIs xs = some ns → ys = ns.map V.int
  | [], ys, bs, r, e => by
    cases e
    unfold RVs at r
    exact r
  | x :: xs, ys, bs, r, e => by
    unfold RVs at r
    obtain ⟨y, t, rfl, r1, r2⟩ := r
    cases x <;> first | (cases e; done) | skip
    unfold asIs at e
    obtain ⟨u, e1, rfl⟩ := map_some e
    rw [asIs_ok r2 e1, rv_int r1]
    rfl
theorem min2_ok (gd : Good Z lv X W) : CallOk Z X W (.builtin "min") min2V := by
  refine CallOk.of (call_min2 gd.calm) fun σ H m S ps xs Q sr rp hp => ?_
  unfold min2V at hp
  split at hp
  · obtain ⟨x, y, rfl, r1, r2⟩ := rvs2 rp
    cases rv_int r1; cases rv_int r2
    exact ⟨_, _, rfl, hp H m _ Gr.refl sr to_int⟩
  · exact hp.elim
theorem max2_ok (gd : Good Z lv X W) : CallOk Z X W (.builtin "max") max2V := by
  refine CallOk.of (call_max2 gd.calm) fun σ H m S ps xs Q sr rp hp => ?_
  unfold max2V at hp
  split at hp
  · obtain ⟨x, y, rfl, r1, r2⟩ := rvs2 rp
    cases rv_int r1; cases rv_int r2
    exact ⟨_, _, rfl, hp H m _ Gr.refl sr to_int⟩
  · exact hp.elim
theorem abs_ok : CallOk Z X W (.builtin "abs") absV := by
  refine CallOk.of call_abs fun σ H m S ps xs Q sr rp hp => ?_
  unfold absV at hp
  split at hp
  · obtain ⟨x, rfl, r1⟩ := rvs1 rp
    cases rv_int r1
    exact ⟨_, rfl, hp H m _ Gr.refl sr to_int⟩
  · exact hp.elim
theorem int1_ok : CallOk Z X W (.type "int") intV1 := by
  refine CallOk.of call_int1 fun σ H m S ps xs Q sr rp hp => ?_
  unfold intV1 at hp
  split at hp
  · obtain ⟨x, rfl, r1⟩ := rvs1 rp
    cases rv_int r1
    exact .inl ⟨_, rfl, hp H m _ Gr.refl sr to_int⟩
  · obtain ⟨x, rfl, r1⟩ := rvs1 rp
    cases rv_bl r1
    exact .inr ⟨_, rfl, hp H m _ Gr.refl sr to_int⟩
  · exact hp.elim
theorem sum_ok (gd : Good Z lv X W) : CallOk Z X W (.builtin "sum") sumV := by
  refine CallOk.of (cr_sum gd.calm) fun σ H m S ps xs Q sr rp hp => ?_
  unfold sumV at hp
  split at hp
  · obtain ⟨x, rfl, r1⟩ := rvs1 rp
    split at hp
    · rename_i xs el
      obtain ⟨b, ys, rfl, hq, rr⟩ := asL_ok sr r1 el
      cases eb : asIs xs with
      | none => rw [eb] at hp; exact hp.elim
      | some bs =>
        rw [eb] at hp
        cases asIs_ok rr eb
        exact ⟨b, bs, rfl, SqL.of hq, hp H m _ Gr.refl sr to_int⟩
    · exact hp.elim
  · exact hp.elim
theorem tuple_ok (gd : Good Z lv X W) : CallOk Z X W (.type "tuple") tupleV := by
  refine CallOk.of call_tuple_of fun σ H m S ps xs Q sr rp hp => ?_
  unfold tupleV at hp
  split at hp
  · obtain ⟨x, rfl, r1⟩ := rvs1 rp
    obtain ⟨a, ys, rfl, hq, rr⟩ := rv_tup r1
    exact ⟨a, ys, rfl, .inr ⟨by rw [gd.K]; exact hq, newT_same sr hq rr hp⟩⟩
  · obtain ⟨x, rfl, r1⟩ := rvs1 rp
    split at hp
    · rename_i xs el
      obtain ⟨b, ys, rfl, hq, rr⟩ := asL_ok sr r1 el
      exact ⟨b, ys, rfl, .inl ⟨SqL.of hq, (newT_post sr rr hp).2⟩⟩
    · exact hp.elim
  · exact hp.elim
/-- isinstance(x, (C, ..)): one after another -/
def clsNos : List PV → Option (List Nat)
  | [] => some []
  | c :: r => match clsNo c with
    | some k => (clsNos r).map (k :: ·)
    | none => none
def isiL (isa : IsaT) (t : Nat) : List Nat → Option Bool
  | [] => some false
  | k :: r => match isa t k with
    | some true => some true
    | some false => isiL isa t r
    | none => none
def isiW (isa : IsaT) (ps : List PV) (S : Hs) : RE := match ps with
  | [v, .tup cs] => match tyN S v, clsNos cs with
    | some t, some (k :: ks) => okO ((isiL isa t (k :: ks)).map .bl) S
    | _, _ => .bad
  | _ => .bad
def isiA (isa : IsaT) (ps : List PV) (S : Hs) : RE := match ps with
  | [_, .tup _] => isiW isa ps S
  | _ => isiV isa ps S
theorem cls_ok {cl : PV} {n : Nat} (ek : clsNo cl = some n) (r2 : RV Z H m cl y) : ClsV y (MP.tyV Z n) := by
  unfold clsNo at ek
  split at ek
  · cases ek
    unfold RV at r2
    subst r2
    unfold MP.tyV
    rw [if_neg (by omega), Nat.add_sub_cancel_left]
    exact .own _
  · split at ek
    · rename_i n c
      cases ek
      rw [Bool.and_eq_true, decide_eq_true_eq, decide_eq_true_eq] at c
      unfold RV at r2
      subst r2
      unfold MP.tyV
      rw [if_pos (by omega), ← c.2]
      exact .ty _
    · cases ek
  · cases ek
theorem clsNos_ok : ∀ {cs : List PV} {ys : List V} {ks : List Nat}, RVs Z H m cs ys → clsNos cs = some ks → Paired ClsV ys (ks.map (MP.tyV Z))
  | [], ys, ks, r, e => by
    cases e
    unfold RVs at r
    subst r
    exact .nil
  | c :: cs, ys, ks, r, e => by
    unfold RVs at r
    obtain ⟨y, t, rfl, r1, r2⟩ := r
    unfold clsNos at e
    cases ek : clsNo c with
    | none => rw [ek] at e; cases e
    | some k =>
      rw [ek] at e
      obtain ⟨ks', e1, rfl⟩ := map_some e
      exact .cons (cls_ok ek r1) (clsNos_ok r2 e1)
theorem isiL_ok {isa : IsaT} (O : IsaOk Z isa) {t : Nat} : ∀ {ks : List Nat} {b : Bool}, isiL isa t ks = some b → PySem.W.kitAny Z.K (MP.tyV Z t) (ks.map (MP.tyV Z)) = some b
  | [], b, e => e
  | k :: ks, b, e => by
    unfold isiL at e
    rw [List.map_cons]
    unfold PySem.W.kitAny
    cases ei : isa t k with
    | none => rw [ei] at e; cases e
    | some c =>
      rw [(O t k c ei).2]
      rw [ei] at e
      cases c with
      | true => exact e
      | false => exact isiL_ok O e
theorem isiL_own {isa : IsaT} (O : IsaOk Z isa) {t : Nat} : ∀ {ks : List Nat} {b : Bool}, ks ≠ [] → isiL isa t ks = some b → 100 ≤ t → OwnTy Z (t - 100)
  | [], b, h, e, _ => absurd rfl h
  | k :: ks, b, h, e, ht => by
    unfold isiL at e
    cases ei : isa t k with
    | none => rw [ei] at e; cases e
    | some c => exact (O t k c ei).1 ht
theorem isiW_ok {isa : IsaT} (gd : Good Z lv X W) (O : IsaOk Z isa) : CallOk Z X W (.builtin "isinstance") (isiW isa) := by
  intro pins s σ H xs us m S ps Q I rx sr rp hp
  unfold isiW at hp
  split at hp
  · rename_i v cs
    obtain ⟨x, y, rfl, r1, r2⟩ := rvs2 rp
    split at hp
    · rename_i t k ks et ek
      cases ei : isiL isa t (k :: ks) with
      | none => rw [ei] at hp; exact hp.elim
      | some b =>
        rw [ei] at hp
        obtain ⟨u1, u2, rfl, q1, q2⟩ := vals2 rx
        obtain ⟨a, ys, rfl, hq, rr⟩ := rv_tup r2
        obtain rfl : u2 = Value.ref a := q2
        · have ty := tyN_ok sr r1 et (isiL_own O (List.cons_ne_nil _ _) ei)
          rw [← gd.K] at ty hq
          obtain ⟨P, Z', p, hx⟩ := kitM_of I q1 ty
          obtain ⟨its, rv, ⟨o, ho, hc, n, hd⟩, _⟩ := I.tuple hq
          have e3 := ClsV.all (clsNos_ok rr ek) rv
          subst e3
          obtain ⟨oc, od, dt, sl⟩ := o
          simp only at hc hd
          subst hc hd
          have e := isiL_ok O ei
          rw [← gd.K] at e
          exact PySem.W.kia_tup Z' I.kIn p ho e hx fun tk => ⟨.bl b, H, I.tok tk, rfl, hp H m _ Gr.refl sr to_bl⟩
    · exact hp.elim
  · exact hp.elim
theorem isiA_ok {isa : IsaT} (gd : Good Z lv X W) (O : IsaOk Z isa) : CallOk Z X W (.builtin "isinstance") (isiA isa) := by
  intro pins s σ H xs us m S ps Q I rx sr rp hp
  unfold isiA at hp
  split at hp
  · exact isiW_ok gd O pins s σ H xs us m S _ Q I rx sr rp hp
  · exact isi_ok gd O pins s σ H xs us m S ps Q I rx sr rp hp
end
end MP
set_option maxRecDepth 100000
namespace MP
open PySem L2
/-! ### binding by keywords -/
/-- the values at these places -/
def permL {A : Type} (is : List Nat) (l : List A) : List A := is.filterMap fun i => l[i]?
section
variable {Z : Sta} {H : Hp} {m : Mp} {nm qual : Str} {params : Arguments} {body : List Stmt} {scope : Scope} {fd : FuncData} {ps : List Str} {f : Addr}
theorem RVs.perm {vs : List PV} {xs : List V} (r : RVs Z H m vs xs) : ∀ {is : List Nat}, RVs Z H m (permL is vs) (permL is xs)
  | [] => RVs.nil
  | i :: is => by
    have ih := RVs.perm r (is := is)
    unfold permL at ih ⊢
    rw [List.filterMap_cons, List.filterMap_cons]
    cases e : vs[i]? with
    | some p =>
      obtain ⟨y, ey, ry⟩ := r.get e
      rw [ey]
      exact RVs.cons ry ih
    | none =>
      have : xs[i]? = none := by
        rw [List.getElem?_eq_none_iff] at e ⊢
        rw [← r.len]
        exact e
      rw [this]
      exact ih
theorem valsPerm {vs : List V} {xs : List Value} (r : Vals vs xs) : ∀ {is : List Nat}, Vals (permL is vs) (permL is xs)
  | [] => .nil
  | i :: is => by
    have ih := valsPerm r (is := is)
    unfold permL at ih ⊢
    rw [List.filterMap_cons, List.filterMap_cons]
    cases e : vs[i]? with
    | some p =>
      obtain ⟨y, ey, ry⟩ := r.get e
      rw [ey]
      exact .cons ry ih
    | none =>
      rw [r.none_of e]
      exact ih
/-- no defaults: n by place, the others by the keywords ks; is: where each parameter's value stands -/
theorem bind_kw (F : FunD Z.K nm qual params body scope [] [] f fd) (n : Nat) (ks : List Str) (is : List Nat) (hl : is.length = ps.length) (hi : ∀ i ∈ is, i < n + ks.length)
    (h : ∀ (kV doc pm : Value) (an : Option Addr) (cdv ct : Value) (us ws : List Value), us.length = n → ws.length = ks.length → bindArgs (PySem.W.fnOf nm qual params body scope .none kV doc pm an cdv ct) ⟨us, ks.zip ws⟩ = pure (ps.zip (permL is (us ++ ws)))) :
    BindOk Z fd ps n ks (fun vs qs => permL is (vs ++ qs)) := by
  intro s us ws xs zs X h1 h2 r1 r2
  obtain ⟨oc, od, dV, kV, doc, pm, an, cdv, ct, osl, rfl, lk, hcd, hD, hK⟩ := F.ex
  rcases hD with ⟨_, rfl⟩ | ⟨e, _⟩
  · refine ⟨permL is (us ++ ws), permL is (xs ++ zs), .of_eq (h kV doc pm an cdv ct us ws h1 h2), valsPerm (r1.append r2), ?_, fun H m vs qs a b => (a.append b).perm⟩
    have hlen : (xs ++ zs).length = n + ks.length := by rw [List.length_append, r1.length, r2.length, h1, h2]
    have key : ∀ is : List Nat, (∀ i ∈ is, i < n + ks.length) → (permL is (xs ++ zs)).length = is.length := by
      intro is hi
      unfold permL
      induction is with
      | nil => rfl
      | cons i is ih =>
        rw [List.filterMap_cons, List.getElem?_eq_getElem (by rw [hlen]; exact hi i List.mem_cons_self)]
        simp only [List.length_cons]
        rw [ih fun j hj => hi j (List.mem_cons_of_mem _ hj)]
    rw [key is hi, hl]
  · exact absurd rfl e
end
end MP
set_option maxRecDepth 100000
namespace MP
open PySem L2
/-! ### the evaluator's steps as equations -/
section
variable {S : Hs} {L : Loc} {v : PV} {k : Nat} {n : Nat} {i j : Int} {b : Bool} {s : List Nat} {vs : List PV}
theorem v_re {f : PV → Hs → RE} : (RE.ok v S).bind f = f v S := rfl
theorem v_reA {f : PV → Hs → RA} : (RE.ok v S).bindA f = f v S := rfl
theorem v_reB {f : PV → Hs → RB} : (RE.ok v S).bindB f = f v S := rfl
theorem v_reS {f : PV → Hs → RS} : (RE.ok v S).bindS L f = f v S := rfl
theorem v_ra {f : List PV → Hs → RE} : (RA.ok vs S).bind f = f vs S := rfl
theorem v_raA {f : List PV → Hs → RA} : (RA.ok vs S).bindA f = f vs S := rfl
theorem v_rb {f : Bool → Hs → RE} : (RB.ok b S).bind f = f b S := rfl
theorem v_rbB {f : Bool → Hs → RB} : (RB.ok b S).bindB f = f b S := rfl
theorem v_rbS {f : Bool → Hs → RS} : (RB.ok b S).bindS L f = f b S := rfl
theorem v_rs {f : Loc → Hs → RS} : (RS.nx L S).bind f = f L S := rfl
theorem v_rt {f : Loc → Hs → RS} : (RS.rt v S).bind f = .rt v S := rfl
theorem v_seq {f g : Loc → Hs → RS} : seqS f g L S = (f L S).bind g := rfl
theorem v_nil : nilS L S = .nx L S := rfl
theorem v_ret {f : Loc → Hs → RE} : retS f L S = (f L S).bindS L fun v S1 => .rt v S1 := rfl
theorem v_exp {f : Loc → Hs → RE} : expS f L S = (f L S).bindS L fun _ S1 => .nx L S1 := rfl
theorem v_if {c : Loc → Hs → RB} {f g : Loc → Hs → RS} : ifS c f g L S = (c L S).bindS L fun b S1 => if b then f L S1 else g L S1 := rfl
theorem v_asg {f : Loc → Hs → RE} {g : TgF} : asgS f g L S = (f L S).bindS L fun v S1 => onlyN (g v L S1) := rfl
theorem v_only : onlyN (.nx L S) = .nx L S := rfl
theorem v_con : conE v L S = .ok v S := rfl
theorem v_var0 {x : PV} {r : Loc} : varE 0 (some x :: r) S = .ok x S := rfl
theorem v_varS {x : Option PV} {r : Loc} {m : Nat} : varE (m + 1) (x :: r) S = varE m r S := rfl
theorem v_nilA : nilA L S = .ok [] S := rfl
theorem v_consA {f : Loc → Hs → RE} {g : Loc → Hs → RA} : consA f g L S = (f L S).bindA fun v S1 => (g L S1).bindA fun vs S2 => .ok (v :: vs) S2 := rfl
theorem v_bin {f g : Loc → Hs → RE} {o : PV → PV → Hs → RE} : binE f g o L S = (f L S).bind fun v S1 => (g L S1).bind fun w S2 => o v w S2 := rfl
theorem v_call {m k : Nat} {ga gk : Loc → Hs → RA} {f : List PV → List PV → Hs → RE} : callE m k ga gk f L S = (ga L S).bind fun vs S1 => (gk L S1).bind fun qs S2 => if vs.length = m ∧ qs.length = k then f vs qs S2 else .bad := rfl
theorem v_blt {ga : Loc → Hs → RA} {f : List PV → Hs → RE} : bltE ga f L S = (ga L S).bind f := rfl
theorem v_and {f g : Loc → Hs → RE} : andE f g L S = (f L S).bind fun v S1 => okT (tru S1 v) fun b => if b then g L S1 else .ok v S1 := rfl
theorem v_or {f g : Loc → Hs → RE} : orE f g L S = (f L S).bind fun v S1 => okT (tru S1 v) fun b => if b then .ok v S1 else g L S1 := rfl
theorem v_not {f : Loc → Hs → RE} : notE f L S = (f L S).bind fun v S1 => okT (tru S1 v) fun b => .ok (.bl (!b)) S1 := rfl
theorem v_okT {f : Bool → RE} : okT (some b) f = f b := rfl
theorem v_okB : okB (some b) S = .ok b S := rfl
theorem v_okO : okO (some v) S = .ok v S := rfl
theorem v_truBl : tru S (.bl b) = some b := rfl
theorem v_truInt : tru S (.int i) = some (i != 0) := rfl
theorem v_truB {f : Loc → Hs → RE} : truB f L S = (f L S).bindB fun v S1 => okB (tru S1 v) S1 := rfl
theorem v_cmpB {f : Loc → Hs → RE} : cmpB f L S = asB (f L S) := rfl
theorem v_asB : asB (.ok (.bl b) S) = .ok b S := rfl
theorem v_andB {f g : Loc → Hs → RB} : andB f g L S = (f L S).bindB fun b S1 => if b then g L S1 else .ok false S1 := rfl
theorem v_orB {f g : Loc → Hs → RB} : orB f g L S = (f L S).bindB fun b S1 => if b then .ok true S1 else g L S1 := rfl
theorem v_notB {f : Loc → Hs → RB} : notB f L S = (f L S).bindB fun b S1 => .ok (!b) S1 := rfl
theorem v_ite {c : Loc → Hs → RB} {f g : Loc → Hs → RE} : iteE c f g L S = (c L S).bind fun b S1 => if b then f L S1 else g L S1 := rfl
theorem v_noX : noX (.ok v S) = .ok v S := rfl
theorem v_chain {fa fb fc : Loc → Hs → RE} {o o' : PV → PV → Hs → RE} : chainE fa fb fc o o' L S = (fa L S).bind fun v S1 => (fb L S1).bind fun u S2 => (noX (o v u S2)).bind fun d S3 => match d with
  | .bl true => (fc L S3).bind fun w S4 => noX (o' u w S4)
  | .bl false => .ok (.bl false) S3
  | _ => .bad := rfl
theorem v_useT {f : List PV → Hs → RE} : useC true f vs S = isoC f vs S := rfl
theorem v_useF {f : List PV → Hs → RE} : useC false f vs S = f vs S := rfl
theorem v_b_int {T : Tab} {o : OpT} {f : PV → PV → Hs → RE} : binD T o f (.int i) (.int j) S = f (.int i) (.int j) S := rfl
theorem v_i_int {T : Tab} {o : OpT} {f : PV → PV → Hs → RE} : inpD T o f (.int i) (.int j) S = f (.int i) (.int j) S := rfl
theorem v_b_str {T : Tab} {o : OpT} {f : PV → PV → Hs → RE} {t : List Nat} : binD T o f (.str s) (.str t) S = f (.str s) (.str t) S := rfl
theorem v_add {z : Bool} : binV .Add z (.int i) (.int j) S = .ok (.int (i + j)) S := rfl
theorem v_sub {z : Bool} : binV .Sub z (.int i) (.int j) S = .ok (.int (i - j)) S := rfl
theorem v_band {z : Bool} : binV .BitAnd z (.int i) (.int j) S = .ok (.int (Builtin.bitAnd i j)) S := rfl
theorem v_bor {z : Bool} : binV .BitOr z (.int i) (.int j) S = .ok (.int (Builtin.bitOr i j)) S := rfl
theorem v_bxor {z : Bool} : binV .BitXor z (.int i) (.int j) S = .ok (.int (Builtin.bitXor i j)) S := rfl
theorem v_mul {z : Bool} (h : mulOk i j = true) : binV .Mult z (.int i) (.int j) S = .ok (.int (i * j)) S := by
  show (if mulOk i j then _ else _) = _
  rw [if_pos h]
theorem v_mod {z : Bool} (h : 0 < j) : binV .Mod z (.int i) (.int j) S = .ok (.int (i % j)) S := by
  show okO ((modI i j).map .int) S = _
  unfold modI
  rw [if_pos (decide_eq_true h)]
  rfl
theorem v_fdiv {z : Bool} (h : 0 < j) (h2 : j.natAbs.log2 < 9000) : binV .FloorDiv z (.int i) (.int j) S = .ok (.int (i / j)) S := by
  show okO ((fdivI i j).map .int) S = _
  unfold fdivI
  rw [if_pos (by rw [decide_eq_true h, decide_eq_true h2]; rfl)]
  rfl
theorem v_shl {z : Bool} (h : powOk i j = true) : binV .LShift z (.int i) (.int j) S = .ok (.int (i * 2 ^ j.toNat)) S := by
  show okO (Option.map .int (if powOk i j then _ else _)) S = _
  rw [if_pos h]
  rfl
theorem v_shr {z : Bool} (h : 0 ≤ j) : binV .RShift z (.int i) (.int j) S = .ok (.int (i / 2 ^ j.toNat)) S := by
  show okO (Option.map .int (if decide (0 ≤ j) then _ else _)) S = _
  rw [if_pos (decide_eq_true h)]
  rfl
theorem v_le : ordV (fun i j => decide (i ≤ j)) (.int i) (.int j) S = .ok (.bl (decide (i ≤ j))) S := rfl
theorem v_lt : ordV (fun i j => decide (i < j)) (.int i) (.int j) S = .ok (.bl (decide (i < j))) S := rfl
theorem v_eqI {T : Tab} {c : CmpT} : eqD T c (.int i) (.int j) S = .ok (.bl (decide (i = j))) S := by
  show RE.ok (.bl (i == j)) S = _
  by_cases h : i = j <;> simp [h]
theorem v_neI {T : Tab} {c : CmpT} : neD T c (.int i) (.int j) S = .ok (.bl (!decide (i = j))) S := by
  show RE.ok (.bl (!(i == j))) S = _
  by_cases h : i = j <;> simp [h]
theorem v_eqB {T : Tab} {c : CmpT} {d : Bool} : eqD T c (.bl b) (.bl d) S = .ok (.bl (b == d)) S := rfl
theorem v_neB {T : Tab} {c : CmpT} {d : Bool} : neD T c (.bl b) (.bl d) S = .ok (.bl (!(b == d))) S := rfl
def setO (T : Tab) (f : Nat) (o v : PV) (L : Loc) (S2 : Hs) : RS := match o with
  | .loc i => match getR S2 i with
    | some (.ins k ns xs) => if isFld (T.mem k f) && decide (ns.length < 900) && decide (ns.length = xs.length) then .nx L (setR S2 i (.ins k (putN f v ns xs).1 (putN f v ns xs).2)) else .bad
    | _ => .bad
  | _ => .bad
theorem v_setf {T : Tab} {f : Nat} {fo fe : Loc → Hs → RE} : setfS T f fo fe L S = (fe L S).bindS L fun v S1 => (fo L S1).bindS L fun o S2 => setO T f o v L S2 := rfl
theorem v_lst {z : Bool} {f : Loc → Hs → RA} : lstE z f L S = (f L S).bind fun vs S1 => if fits vs then (if z then .ok (.lst vs) S1 else .ok (.loc S1.length) (.lst vs :: S1)) else .bad := rfl
def unaP (T : Tab) (u : UnT) (op : UnaryOp) (v : PV) (S1 : Hs) : RE := match clsOf S1 v with
  | some (k, _, _) => if k ∈ u.ks then ownC T k u.f [v] S1 else .bad
  | none => unaV op v S1
theorem v_una {T : Tab} {u : UnT} {op : UnaryOp} {f : Loc → Hs → RE} : unaO T u op f L S = (f L S).bind fun v S1 => unaP T u op v S1 := rfl
theorem v_attr {T : Tab} {f : Nat} {e : Loc → Hs → RE} : attrX T f e L S = (e L S).bind fun v S1 => noX (attrV T f v S1) := rfl
theorem v_aug {m : Nat} {f : Loc → Hs → RE} {o : PV → PV → Hs → RE} {x : PV} (h : L[m]? = some (some x)) : augS m f o L S = (f L S).bindS L fun w S1 => (o x w S1).bindS L fun z S2 => .nx (L.set m (some z)) S2 := by
  unfold augS
  rw [h]
theorem v_name {m : Nat} : nameT m v L S = .nx (L.set m (some v)) S := rfl
/-! freezing -/
theorem z_nil {f : PV → Option PV} : mapO f [] = some [] := rfl
theorem z_cons {f : PV → Option PV} {x y : PV} {r t : List PV} (h : f x = some y) (ht : mapO f r = some t) : mapO f (x :: r) = some (y :: t) := by
  unfold mapO
  rw [h, ht]
theorem z_int : freeze S (n + 1) (.int i) = some (.int i) := rfl
theorem z_bl : freeze S (n + 1) (.bl b) = some (.bl b) := rfl
theorem z_str : freeze S (n + 1) (.str s) = some (.str s) := rfl
theorem z_non : freeze S (n + 1) .non = some .non := rfl
theorem z_obj {ns : List Nat} {xs ys : List PV} (h : mapO (freeze S n) xs = some ys) : freeze S (n + 1) (.obj k ns xs) = some (.obj k ns ys) := by
  unfold freeze
  simp only [h, Option.map]
theorem z_lst {xs ys : List PV} (h : mapO (freeze S n) xs = some ys) : freeze S (n + 1) (.lst xs) = some (.lst ys) := by
  unfold freeze
  simp only [h, Option.map]
theorem z_tup {xs ys : List PV} (h : mapO (freeze S n) xs = some ys) : freeze S (n + 1) (.tup xs) = some (.tup ys) := by
  unfold freeze
  simp only [h, Option.map]
theorem z_dct {ks xs ys : List PV} (h : mapO (freeze S n) xs = some ys) : freeze S (n + 1) (.dct ks xs) = some (.dct ks ys) := by
  unfold freeze
  simp only [h, Option.map]
theorem z_dp {v : PV} : freeze S dpF v = freeze S (23 + 1) v := rfl
/-- a value that is its own frozen one -/
def solid : Nat → PV → Bool
  | 0, _ => false
  | n + 1, v => match v with
    | .loc _ => false
    | .tup xs => xs.all (solid n)
    | .lst xs => xs.all (solid n)
    | .dct _ vs => vs.all (solid n)
    | .obj _ _ xs => xs.all (solid n)
    | _ => true
theorem solid_all {n : Nat} (ih : ∀ v, solid n v = true → freeze S n v = some v) : ∀ {xs : List PV}, xs.all (solid n) = true → mapO (freeze S n) xs = some xs
  | [], _ => rfl
  | x :: xs, h => by
    rw [List.all_cons, Bool.and_eq_true] at h
    exact z_cons (ih x h.1) (solid_all ih h.2)
theorem solid_ok : ∀ {n : Nat} (v : PV), solid n v = true → freeze S n v = some v
  | 0, _, h => by cases h
  | n + 1, v, h => by
    unfold solid at h
    cases v with
    | loc _ => cases h
    | tup xs => exact z_tup (solid_all solid_ok h)
    | lst xs => exact z_lst (solid_all solid_ok h)
    | dct ks vs => exact z_dct (solid_all solid_ok h)
    | obj _ _ xs => exact z_obj (solid_all solid_ok h)
    | _ => rfl
/-- a call apart, of solid values -/
theorem iso_ok {f : List PV → Hs → RE} {S1 : Hs} (ha : vs.all (solid dpF) = true) (h : f vs [] = .ok v S1) (hv : solid dpF v = true) : isoC f vs S = .ok v S := by
  have e : ∀ S0 : Hs, endC S0 (.ok v S1) = .ok v S0 := fun S0 => by
    unfold endC
    split
    · rename_i h1; cases h1; rfl
    · rename_i h1; cases h1; rw [solid_ok v hv]
    · rename_i h1; cases h1
    · rename_i h1; cases h1
    · rename_i h1; cases h1
  unfold isoC
  rw [solid_all solid_ok ha]
  simp only [h, e]
  split <;> rfl
theorem make_ok {f : List PV → Hs → RE} {a : Arr} {qs : List PV} {S1 : Hs} {w : PV} (hv : vs.all (solid dpF) = true) (hq : qs.all (solid dpF) = true) (h : f (a (.loc 0 :: vs) qs) [.ins k [] []] = .ok .non S1) (e : freeze S1 dpF (.loc 0) = some w) : makeV true k f a vs qs S = .ok w S := by
  unfold makeV
  simp only [solid_all solid_ok hv, solid_all solid_ok hq, h, e]
end
end MP
set_option maxRecDepth 100000
namespace MP
open PySem L2
/-! ### loops as equations -/
theorem asQ_lst {S : Hs} {xs : List PV} : asQ S (.lst xs) = some xs := rfl
theorem fetch_lst {S : Hs} {xs : List PV} {i : Nat} : fetch S i (.seq (.lst xs)) = some xs[i]? := rfl
theorem fetch_rng {S : Hs} {lo : Int} {n i : Nat} : fetch S i (.rng lo n) = if i < n then some (some (.int (lo + (i : Int)))) else some none := rfl
theorem v_valI {f : Loc → Hs → RE} {L : Loc} {S S1 : Hs} {xs : List PV} (h : f L S = .ok (.lst xs) S1) : valI f L S = .ok (.seq (.lst xs)) S1 := by
  unfold valI
  rw [h]
  rfl
theorem lc_run {xs : List PV} {L0 : Loc} {S : Hs} {m : Nat} {cond : Loc → Hs → RB} {elt : Loc → Hs → RE} {g : PV → PV} {c : PV → Bool} (hc : ∀ x ∈ xs, cond (L0.set m (some x)) S = .ok (c x) S) (hx : ∀ x ∈ xs, c x = true → elt (L0.set m (some x)) S = .ok (g x) S) (hl : xs.length < 16777216) :
    ∀ (k fuel i : Nat) (acc : List PV), i + k = xs.length → k < fuel → lcLoop (.seq (.lst xs)) L0 (nameT m) cond elt fuel i acc S = some ((((xs.drop i).filter c).map g).reverse ++ acc, S)
  | 0, 0, _, _, _, h => absurd h (Nat.lt_irrefl _)
  | 0, fuel + 1, i, acc, hi, _ => by
    rw [lcLoop, fetch_lst, List.getElem?_eq_none (by omega)]
    simp only
    rw [List.drop_eq_nil_of_le (by omega)]
    rfl
  | k + 1, 0, _, _, _, h => by omega
  | k + 1, fuel + 1, i, acc, hi, hf => by
    have hlt : i < xs.length := by omega
    rw [lcLoop, fetch_lst, List.getElem?_eq_getElem hlt]
    have hm := List.getElem_mem hlt
    simp only [nameT, hc _ hm]
    rw [← List.getElem_cons_drop hlt]
    cases e : c xs[i] with
    | true =>
      simp only [hx _ hm e]
      rw [if_pos (by omega), lc_run hc hx hl k fuel (i + 1) _ (by omega) (by omega), List.filter_cons_of_pos e]
      simp
    | false =>
      simp only
      rw [lc_run hc hx hl k fuel (i + 1) _ (by omega) (by omega), List.filter_cons_of_neg (by rw [e]; exact Bool.false_ne_true)]
theorem lc_if {xs : List PV} {L : Loc} {S S1 : Hs} {m : Nat} {own : List Nat} {src : Loc → Hs → RI} {cond : Loc → Hs → RB} {elt : Loc → Hs → RE} (g : PV → PV) (c : PV → Bool) (hs : src L S = .ok (.seq (.lst xs)) S1) (hc : ∀ x ∈ xs, cond ((wipeL L own).set m (some x)) S1 = .ok (c x) S1)
    (hx : ∀ x ∈ xs, c x = true → elt ((wipeL L own).set m (some x)) S1 = .ok (g x) S1) (hl : xs.length < 16777216) : lcE true own src (nameT m) cond elt L S = .ok (.lst ((xs.filter c).map g)) S1 := by
  unfold lcE
  rw [hs]
  simp only
  rw [lc_run hc hx hl xs.length turns 0 [] (by omega) (by unfold turns; omega)]
  simp [lcEnd]
theorem lc_map {xs : List PV} {L : Loc} {S S1 : Hs} {m : Nat} {own : List Nat} {src : Loc → Hs → RI} {elt : Loc → Hs → RE} (g : PV → PV) (hs : src L S = .ok (.seq (.lst xs)) S1)
    (hx : ∀ x ∈ xs, elt ((wipeL L own).set m (some x)) S1 = .ok (g x) S1) (hl : xs.length < 16777216) : lcE true own src (nameT m) trueB elt L S = .ok (.lst (xs.map g)) S1 := by
  rw [lc_if g (fun _ => true) hs (fun _ _ => rfl) (fun x h _ => hx x h) hl, List.filter_eq_self.mpr fun _ _ => rfl]
/-- a loop with what holds at each turn's start -/
theorem for_run {d : Desc} {tgt : TgF} {body : Loc → Hs → RS} {n : Nat} (P : Nat → Loc → Hs → Prop) (step : ∀ i L S, i < n → P i L S → ∃ v L1 S1 L2 S2, fetch S i d = some (some v) ∧ tgt v L S = .nx L1 S1 ∧ body L1 S1 = .nx L2 S2 ∧ P (i + 1) L2 S2)
    (stop : ∀ L S, P n L S → fetch S n d = some none) : ∀ (k fuel i : Nat) (L : Loc) (S : Hs), i + k = n → k < fuel → P i L S → ∃ L' S', forLoop d tgt body fuel i L S = .nx L' S' ∧ P n L' S'
  | _, 0, _, _, _, _, h, _ => absurd h (Nat.not_lt_zero _)
  | 0, fuel + 1, i, L, S, hi, _, p => by
    have e : i = n := by omega
    subst e
    rw [forLoop, stop L S p]
    exact ⟨L, S, rfl, p⟩
  | k + 1, fuel + 1, i, L, S, hi, hf, p => by
    obtain ⟨v, L1, S1, L2, S2, e1, e2, e3, p'⟩ := step i L S (by omega) p
    rw [forLoop, e1]
    simp only [e2, e3]
    exact for_run P step stop k fuel (i + 1) L2 S2 (by omega) (by omega) p'
theorem for_ok {src : Loc → Hs → RI} {d : Desc} {tgt : TgF} {body : Loc → Hs → RS} {n : Nat} {L : Loc} {S S1 : Hs} (P : Nat → Loc → Hs → Prop) (hs : src L S = .ok d S1) (step : ∀ i L S, i < n → P i L S → ∃ v L1 S1 L2 S2, fetch S i d = some (some v) ∧ tgt v L S = .nx L1 S1 ∧ body L1 S1 = .nx L2 S2 ∧ P (i + 1) L2 S2)
    (stop : ∀ L S, P n L S → fetch S n d = some none) (hn : n < 1000000000) (p : P 0 L S1) : ∃ L' S', forS src tgt body L S = .nx L' S' ∧ P n L' S' := by
  obtain ⟨L', S', e, q⟩ := for_run P step stop n turns 0 L S1 (by omega) (by unfold turns; exact hn) p
  refine ⟨L', S', ?_, q⟩
  unfold forS
  rw [hs]
  exact e
/-! ### the newest cell -/
section
variable {S : Hs} {xs : List PV} {v : PV} {i j : Int}
theorem getR_cons {A : Type} {l : List A} {a : A} : getR (a :: l) l.length = some a := getR_top
theorem setR_cons {A : Type} {l : List A} {a b : A} : setR (a :: l) l.length b = b :: l := by
  unfold setR
  rw [List.reverse_cons, List.set_append_right _ _ (by simp)]
  simp
theorem asQ_top : asQ (.lst xs :: S) (.loc S.length) = some xs := by
  show (match getR (Cell.lst xs :: S) S.length with | some (.lst xs) => some xs | _ => none) = _
  rw [getR_cons]
theorem ix_top : ixV (.loc S.length) (.int i) (.lst xs :: S) = okO (atI xs i) (.lst xs :: S) := by
  show (match asQ (Cell.lst xs :: S) (.loc S.length) with | some ys => okO (atI ys i) (.lst xs :: S) | none => RE.bad) = _
  rw [asQ_top]
theorem sub_top {fo fi : Loc → Hs → RE} {L : Loc} {S1 : Hs} {n : Nat} (h1 : fo L S1 = .ok (.loc S.length) S1) (h2 : fi L S1 = .ok (.int i) S1) (h3 : S1 = .lst xs :: S) (h4 : ixN xs.length i = some n) : subT fo fi v L S1 = .nx L (.lst (xs.set n v) :: S) := by
  unfold subT
  rw [h1]
  simp only
  rw [h2]
  simp only
  subst h3
  unfold setV
  simp only [getR_cons, h4, Option.map, setR_cons]
theorem v_gt : ordV (fun i j => decide (j < i)) (.int i) (.int j) S = .ok (.bl (decide (j < i))) S := rfl
theorem v_ge : ordV (fun i j => decide (j ≤ i)) (.int i) (.int j) S = .ok (.bl (decide (j ≤ i))) S := rfl
theorem v_int1 : intV1 [.int i] S = .ok (.int i) S := rfl
theorem v_intB {b : Bool} : intV1 [.bl b] S = .ok (.int (if b then 1 else 0)) S := rfl
theorem v_lenS {T : Tab} {c : CmpT} {ns : List Int} : lenD T c [.scr ns] S = .ok (.int ns.length) S := by
  show RE.ok (.int ((ns.map PV.int).length : Nat)) S = _
  rw [List.length_map]
theorem mulOk_of {i j : Int} {a b : Nat} (hi : i.natAbs < 2 ^ a) (hj : j.natAbs < 2 ^ b) (ha : 0 < a) (hb : 0 < b) (h : a + b < 1000000) : mulOk i j = true := by
  unfold mulOk
  rw [decide_eq_true_eq]
  have key : ∀ n k : Nat, n < 2 ^ k → 0 < k → n.log2 < k := fun n k hn hk => by
    by_cases e : n = 0
    · subst e; simpa using hk
    · exact (Nat.log2_lt e).mpr hn
  have := key _ _ hi ha
  have := key _ _ hj hb
  omega
theorem log2_of {n k : Nat} (hn : n < 2 ^ k) (hk : 0 < k) : n.log2 < k := by
  by_cases e : n = 0
  · subst e; simpa using hk
  · exact (Nat.log2_lt e).mpr hn
end
end MP
set_option maxRecDepth 100000
namespace MP
open PySem L2
/-! ### digits -/
theorem toDig_len : ∀ (fuel k n : Nat) (ds : List Char), n < 10 ^ (k + 1) → (Nat.toDigitsCore 10 fuel n ds).length ≤ k + 1 + ds.length
  | 0, k, n, ds, _ => by unfold Nat.toDigitsCore; omega
  | fuel + 1, k, n, ds, h => by
    unfold Nat.toDigitsCore
    simp only
    split
    · simp only [List.length_cons]; omega
    · rename_i hn
      cases k with
      | zero => omega
      | succ k =>
        have := toDig_len fuel k (n / 10) (Nat.digitChar (n % 10) :: ds) (by
          rw [Nat.pow_succ] at h
          omega)
        simp only [List.length_cons] at this
        omega
theorem digI_nat {n : Nat} : digI (n : Int) = (Nat.toDigits 10 n).map Char.toNat := PySem.W.KIN.signs_num n
theorem sOk_digI {i : Int} : sOk (digI i) = true := by
  unfold digI sOk
  rw [Str.ofString_eq_toList]
  simp only [List.all_map, List.all_eq_true, Function.comp]
  intro c _
  have := c.valid
  rw [decide_eq_true_eq]
  show c.val.toNat < 1114112
  rcases this with h | h
  · have : c.val.toNat < 55296 := h
    omega
  · exact h.2
theorem digI_len {i : Int} (h0 : 0 ≤ i) (h1 : i < 10 ^ 40) : (digI i).length ≤ 40 := by
  obtain ⟨n, rfl⟩ := Int.eq_ofNat_of_zero_le h0
  show (digI (n : Int)).length ≤ 40
  rw [digI_nat, List.length_map]
  have := toDig_len (n + 1) 39 n [] (by omega)
  unfold Nat.toDigits
  simpa using this
theorem smallI_of {i : Int} (h : i.natAbs < 2 ^ 200) : smallI i = true := by
  unfold smallI
  rw [decide_eq_true_eq]
  have := log2_of h (by decide)
  omega
section
variable {S : Hs} {T : Tab} {c : CmpT} {i : Int}
theorem v_strI (h : i.natAbs < 2 ^ 200) : strD T c [.int i] S = .ok (.str (digI i)) S := by
  show (if smallI i && sOk (digI i) then RE.ok (.str (digI i)) S else .bad) = _
  rw [smallI_of h, sOk_digI]
  rfl
theorem fits_app {s t : List Nat} {k : Nat} (h1 : s.length ≤ k) (h2 : t.length ≤ 100) (h : k ≤ 1000) : fits (s ++ t) = true := by
  unfold fits
  rw [List.length_append]
  exact decide_eq_true (by omega)
theorem v_addS {z : Bool} {s t : List Nat} (h : fits (s ++ t) = true) : binV .Add z (.str s) (.str t) S = .ok (.str (s ++ t)) S := by
  show (if fits (s ++ t) then RE.ok (.str (s ++ t)) S else .bad) = _
  rw [if_pos h]
theorem v_jsN : jsE [] s = fun _ S => .ok (.str s) S := rfl
theorem v_jsC {f : Loc → Hs → RE} {fs : List (Loc → Hs → RE)} {acc t : List Nat} {L : Loc} {S1 : Hs} (h : f L S = .ok (.str t) S1) (hf : fits (acc ++ t) = true) : jsE (f :: fs) acc L S = jsE fs (acc ++ t) L S1 := by
  show (f L S).bind (fun v S1 => match v with | .str s => if fits (acc ++ s) then jsE fs (acc ++ s) L S1 else .bad | _ => .bad) = _
  rw [h]
  show (if fits (acc ++ t) then jsE fs (acc ++ t) L S1 else .bad) = _
  rw [if_pos hf]
/-- equal lists of ints -/
theorem eqAll_ints {n : Nat} : ∀ {xs : List Int}, eqAll (eqB S (n + 1)) (xs.map PV.int) (xs.map PV.int) = true
  | [] => rfl
  | x :: xs => by
    show (eqB S (n + 1) (.int x) (.int x) && eqAll (eqB S (n + 1)) (xs.map PV.int) (xs.map PV.int)) = true
    rw [eqAll_ints]
    show ((x == x) && true) = true
    simp
theorem v_neL {xs : List Int} : neD T c (.lst (xs.map .int)) (.lst (xs.map .int)) S = .ok (.bl false) S := by
  show (if isD S deep (.lst (xs.map .int)) && isD S deep (.lst (xs.map .int)) then RE.ok (.bl (!eqB S deep (.lst (xs.map .int)) (.lst (xs.map .int)))) S else .bad) = _
  have h1 : isD S deep (.lst (xs.map .int)) = true := by
    show (xs.map PV.int).all (isD S 11) = true
    rw [List.all_map, List.all_eq_true]
    intro x _
    rfl
  have h2 : eqB S deep (.lst (xs.map .int)) (.lst (xs.map .int)) = true := by
    show ((isTup (.lst (xs.map .int)) == isTup (.lst (xs.map .int))) && eqAll (eqB S (10 + 1)) (xs.map PV.int) (xs.map PV.int)) = true
    rw [eqAll_ints, Bool.and_true]
    rfl
  rw [h1, h2]
  rfl
theorem v_eqS {s : List Nat} : eqD T c (.str s) (.str s) S = .ok (.bl true) S := by
  show RE.ok (.bl (eqF (.str s) (.str s))) S = _
  show RE.ok (.bl (s == s)) S = _
  rw [beq_self_eq_true]
end
end MP
set_option maxRecDepth 100000
namespace MP
open PySem L2 PyProof.Rows
/-! ### bits of remainders -/
theorem and_split : ∀ (k X t : Nat), X < 2 ^ k → t < 2 ^ k → (X &&& t) + (X &&& (2 ^ k - 1 - t)) = X
  | 0, X, t, hX, ht => by
    have : X = 0 := by simpa using hX
    subst this
    simp
  | k + 1, X, t, hX, ht => by
    have e : (2 : Nat) ^ (k + 1) = 2 * 2 ^ k := by rw [Nat.pow_succ, Nat.mul_comm]
    rw [e] at hX ht ⊢
    have ih := and_split k (X / 2) (t / 2) (by omega) (by omega)
    have d1 : (X &&& t) / 2 = X / 2 &&& t / 2 := Nat.and_div_two
    have d2 : (X &&& (2 * 2 ^ k - 1 - t)) / 2 = X / 2 &&& (2 ^ k - 1 - t / 2) := by
      rw [Nat.and_div_two]
      congr 1
      omega
    have m1 : (X &&& t) % 2 = X % 2 &&& t % 2 := Nat.and_mod_two_pow (n := 1)
    have m2 : (X &&& (2 * 2 ^ k - 1 - t)) % 2 = X % 2 &&& (2 * 2 ^ k - 1 - t) % 2 := Nat.and_mod_two_pow (n := 1)
    have m3 : (2 * 2 ^ k - 1 - t) % 2 = 1 - t % 2 := by omega
    have key : (X &&& t) % 2 + (X &&& (2 * 2 ^ k - 1 - t)) % 2 = X % 2 := by
      rw [m1, m2, m3]
      have hx : X % 2 = 0 ∨ X % 2 = 1 := by omega
      have ht2 : t % 2 = 0 ∨ t % 2 = 1 := by omega
      rcases hx with hx | hx <;> rcases ht2 with h2 | h2 <;> rw [hx, h2] <;> rfl
    omega
theorem and_mod {k X n : Nat} : (X &&& n) % 2 ^ k = (X &&& (n % 2 ^ k)) % 2 ^ k := by
  rw [Nat.and_mod_two_pow, Nat.and_mod_two_pow (a := X) (b := n % 2 ^ k), Nat.mod_mod]
theorem bitAnd_nn {n m : Nat} : Builtin.bitAnd (n : Int) (m : Int) = ((n &&& m : Nat) : Int) := by
  unfold Builtin.bitAnd
  rw [decide_eq_true (show (0 : Int) ≤ n by omega), decide_eq_true (show (0 : Int) ≤ m by omega)]
  rfl
theorem bitAnd_nm {n m : Nat} : Builtin.bitAnd (n : Int) (Int.negSucc m) = (n : Int) - ((n &&& m : Nat) : Int) := by
  unfold Builtin.bitAnd
  rw [decide_eq_true (show (0 : Int) ≤ n by omega), decide_eq_false (show ¬ (0 : Int) ≤ Int.negSucc m by omega)]
  have : (Builtin.bitNot (Int.negSucc m)).toNat = m := by unfold Builtin.bitNot; omega
  simp only [this, Int.toNat_natCast]
theorem pow_cast (k : Nat) : ((2 ^ k : Nat) : Int) = 2 ^ k := by simp
/-- the right operand may be reduced -/
theorem and_modI {X : Int} {k : Nat} (h0 : 0 ≤ X) (h1 : X < 2 ^ k) (y : Int) : Builtin.bitAnd X y % 2 ^ k = Builtin.bitAnd X (y % 2 ^ k) % 2 ^ k := by
  obtain ⟨n, rfl⟩ := Int.eq_ofNat_of_zero_le h0
  rw [← pow_cast] at h1 ⊢
  have hn : n < 2 ^ k := by omega
  have hp : 0 < 2 ^ k := Nat.two_pow_pos k
  cases y with
  | ofNat m =>
    show Builtin.bitAnd (n : Int) (m : Int) % _ = Builtin.bitAnd (n : Int) ((m : Int) % _) % _
    rw [← Int.natCast_emod, bitAnd_nn, bitAnd_nn, ← Int.natCast_emod, ← Int.natCast_emod, and_mod]
  | negSucc m =>
    have ht : m % 2 ^ k < 2 ^ k := Nat.mod_lt _ hp
    have e : Int.negSucc m % ((2 ^ k : Nat) : Int) = ((2 ^ k - 1 - m % 2 ^ k : Nat) : Int) := by
      rw [Int.negSucc_emod _ (by omega)]
      omega
    rw [e, bitAnd_nm, bitAnd_nn]
    have s := and_split k n (m % 2 ^ k) hn ht
    have e2 : (n &&& m) = (n &&& (m % 2 ^ k)) := by
      have a1 : (n &&& m) < 2 ^ k := Nat.lt_of_le_of_lt Nat.and_le_left hn
      have a2 : (n &&& (m % 2 ^ k)) < 2 ^ k := Nat.lt_of_le_of_lt Nat.and_le_left hn
      have := and_mod (k := k) (X := n) (n := m)
      rw [Nat.mod_eq_of_lt a1, Nat.mod_eq_of_lt a2] at this
      exact this
    rw [e2]
    congr 1
    omega
theorem bitOr_and (x y : Int) : Builtin.bitOr x y = x + y - Builtin.bitAnd x y := by
  have h := bitXor_and x y
  have : Builtin.bitXor x y = Builtin.bitOr x y - Builtin.bitAnd x y := rfl
  omega
section
variable {x y x' y' S : Int}
theorem m_add (h1 : x % S = x' % S) (h2 : y % S = y' % S) : (x + y) % S = (x' + y') % S := by rw [Int.add_emod, h1, h2, ← Int.add_emod]
theorem m_sub (h1 : x % S = x' % S) (h2 : y % S = y' % S) : (x - y) % S = (x' - y') % S := by rw [Int.sub_emod, h1, h2, ← Int.sub_emod]
theorem m_mul (h1 : x % S = x' % S) (h2 : y % S = y' % S) : (x * y) % S = (x' * y') % S := by rw [Int.mul_emod, h1, h2, ← Int.mul_emod]
end
theorem or_modI {X : Int} {k : Nat} (h0 : 0 ≤ X) (h1 : X < 2 ^ k) (y : Int) : Builtin.bitOr X y % 2 ^ k = Builtin.bitOr X (y % 2 ^ k) % 2 ^ k := by
  rw [bitOr_and, bitOr_and]
  exact m_sub (m_add rfl (Int.emod_emod_of_dvd y (Int.dvd_refl _)).symm) (and_modI h0 h1 y)
theorem xor_modI {X : Int} {k : Nat} (h0 : 0 ≤ X) (h1 : X < 2 ^ k) (y : Int) : Builtin.bitXor X y % 2 ^ k = Builtin.bitXor X (y % 2 ^ k) % 2 ^ k := by
  rw [bitXor_and, bitXor_and]
  exact m_sub (m_add rfl (Int.emod_emod_of_dvd y (Int.dvd_refl _)).symm) (m_mul rfl (and_modI h0 h1 y))
theorem bitOr_comm' (x y : Int) : Builtin.bitOr x y = Builtin.bitOr y x := by rw [bitOr_and, bitOr_and, bitAnd_comm, Int.add_comm]
theorem bitXor_comm' (x y : Int) : Builtin.bitXor x y = Builtin.bitXor y x := by rw [bitXor_and, bitXor_and, bitAnd_comm, Int.add_comm]
end MP
set_option maxRecDepth 100000
namespace MP
open PySem L2
/-! ### keys -/
def keyL : PV → Key
  | .int i => .inl i
  | .str s => .inr ⟨s.toArray⟩
  | _ => .inl 0
def findK : List PV → List PV → PV → Option PV
  | k :: ks, v :: vs, j => if keyEq kd k j then some v else findK ks vs j
  | _, _, _ => none
theorem str_eq (s t : List Nat) : (s == t) = decide ((⟨s.toArray⟩ : Str) = ⟨t.toArray⟩) := by
  by_cases h : s = t
  · subst h; simp
  · have : ¬ ((⟨s.toArray⟩ : Str) = ⟨t.toArray⟩) := fun e => h (by have := congrArg (fun z : Str => z.cps.toList) e; simpa using this)
    rw [decide_eq_false this]
    exact beq_eq_false_iff_ne.mpr h
theorem flat_eq {a b : PV} (ha : isFlat a = true) (hb : isFlat b = true) : eqF a b = NestedKey.beq (flatK a) (flatK b) := by
  cases a <;> first | (cases ha; done) | skip
  all_goals cases b <;> first | (cases hb; done) | skip
  all_goals first
    | rfl
    | (simp only [eqF, flatK, NestedKey.beq]; exact Bool.beq_eq_decide_eq _ _)
    | (simp only [eqF, flatK, NestedKey.beq]; exact str_eq _ _)
    | skip
  rename_i x y
  cases x <;> cases y <;> rfl
theorem keyEq_flat {a b : PV} {n : Nat} (ha : isFlat a = true) : keyEq n a b = eqF a b := by
  cases n with
  | zero => rfl
  | succ n => cases a <;> first | (cases ha; done) | rfl
theorem toKey_flat {a : PV} {n : Nat} (ha : isFlat a = true) : toKey n a = flatK a := by
  cases n with
  | zero => rfl
  | succ n => cases a <;> first | (cases ha; done) | rfl
theorem isKey_cases {n : Nat} {a : PV} (h : isKey n a = true) : isFlat a = true ∨ ∃ k xs, n = k + 1 ∧ a = .tup xs ∧ xs.all (isKey k) = true := by
  cases n with
  | zero => exact .inl h
  | succ n =>
    unfold isKey at h
    split at h
    · exact .inr ⟨n, _, rfl, rfl, h⟩
    · exact .inl h
theorem eqAll_keys {n : Nat} (ih : ∀ {a b : PV}, isKey n a = true → isKey n b = true → keyEq n a b = NestedKey.beq (toKey n a) (toKey n b)) :
    ∀ {xs ys : List PV}, xs.all (isKey n) = true → ys.all (isKey n) = true → eqAll (keyEq n) xs ys = NestedKey.beqAll (xs.map (toKey n)) (ys.map (toKey n))
  | [], [], _, _ => rfl
  | [], _ :: _, _, _ => rfl
  | _ :: _, [], _, _ => rfl
  | x :: xs, y :: ys, hx, hy => by
    rw [List.all_cons, Bool.and_eq_true] at hx hy
    rw [List.map_cons, List.map_cons, NestedKey.beqAll, eqAll, ih hx.1 hy.1, eqAll_keys ih hx.2 hy.2]
theorem flat_tup {a : PV} {xs : List PV} (ha : isFlat a = true) : eqF a (.tup xs) = false ∧ (∀ ks, NestedKey.beq (flatK a) (.tup ks) = false) ∧ ∀ ks, NestedKey.beq (.tup ks) (flatK a) = false := by
  cases a <;> first | (cases ha; done) | exact ⟨rfl, fun _ => rfl, fun _ => rfl⟩
theorem key_eq : ∀ {n : Nat} {a b : PV}, isKey n a = true → isKey n b = true → keyEq n a b = NestedKey.beq (toKey n a) (toKey n b)
  | n, a, b, ha, hb => by
    rcases isKey_cases ha with fa | ⟨k, xs, rfl, rfl, hx⟩
    · rcases isKey_cases hb with fb | ⟨k, ys, rfl, rfl, hy⟩
      · rw [keyEq_flat fa, toKey_flat fa, toKey_flat fb, flat_eq fa fb]
      · rw [keyEq_flat fa, toKey_flat fa, (flat_tup (xs := ys) fa).1]
        exact ((flat_tup (xs := ys) fa).2.1 _).symm
    · rcases isKey_cases hb with fb | ⟨k2, ys, e, rfl, hy⟩
      · rw [toKey_flat fb]
        have : keyEq (k + 1) (.tup xs) b = false := by cases b <;> first | (cases fb; done) | rfl
        rw [this]
        exact ((flat_tup (xs := xs) fb).2.2 _).symm
      · cases e
        show eqAll (keyEq k) xs ys = NestedKey.beqAll _ _
        exact eqAll_keys (fun ha hb => key_eq ha hb) hx hy
theorem key_eqD {n : Nat} {a b : PV} (ha : isKey n a = true) (hb : isKey n b = true) : keyEq n a b = decide (toKey n a = toKey n b) := by
  rw [key_eq ha hb, NestedKey.decide_eq]
theorem k1_flat {a : PV} (h : isK1 a = true) : isFlat a = true := by cases a <;> first | (cases h; done) | rfl
theorem k1_eq {a b : PV} (ha : isK1 a = true) (hb : isK1 b = true) : keyEq kd a b = decide (keyL a = keyL b) := by
  rw [keyEq_flat (k1_flat ha)]
  cases a <;> first | (cases ha; done) | skip
  all_goals cases b <;> first | (cases hb; done) | skip
  · exact (key_ll _ _).symm
  · exact (key_lr _ _).symm
  · exact (key_rl _ _).symm
  · exact (str_eq _ _).trans (key_rr _ _).symm
theorem depth_all {n : Nat} : ∀ {xs : List PV}, (∀ x ∈ xs, (toKey n x).depth ≤ n) → NestedKey.depthAll (xs.map (toKey n)) ≤ n
  | [], _ => by simp [NestedKey.depthAll]
  | x :: xs, h => by
    have h1 := h x List.mem_cons_self
    have h2 := depth_all (n := n) fun y hy => h y (List.mem_cons_of_mem _ hy)
    rw [List.map_cons]
    simp only [NestedKey.depthAll]
    omega
theorem key_depth : ∀ {n : Nat} {a : PV}, (toKey n a).depth ≤ n
  | 0, a => by cases a <;> simp [toKey, flatK, NestedKey.depth]
  | n + 1, a => by
    cases a with
    | tup xs =>
      have := depth_all (n := n) (xs := xs) fun x _ => key_depth
      show (NestedKey.tup _).depth ≤ n + 1
      simp only [NestedKey.depth]
      omega
    | _ => simp [toKey, flatK, NestedKey.depth]
section
variable {Z : Sta} {W : WX} {σ : L2.St} {H H1 : Hp} {m m1 m2 : Mp} {X : Cx} {S : Hs} {x y : V} {a : Addr} {lv g k f : Nat} {T : Tab} {pins : List (Addr × Obj)} {s : Shared} {Q : VK} {c : CmpT} {es : List (Int × V × V)} {ks vs : List PV}
theorem k1_V {p : PV} (h : isK1 p = true) (r : RV Z H m p x) : x = kV (keyL p) := by
  cases p <;> first | (cases h; done) | skip
  · exact rv_int r
  · exact (rv_str r).1
theorem k1_hash {p : PV} (h : isK1 p = true) : hashK Z p = keyH Z.w (keyL p) := by
  unfold hashK
  rw [toKey_flat (k1_flat h)]
  cases p <;> first | (cases h; done) | rfl
theorem kV_is' {k : Key} {u : Value} (r : RelV (kV k) u) : keyIs k u = true := by
  cases k with
  | inl i => obtain ⟨t, rfl⟩ := (show ∃ t, u = Value.int i t from r); exact keyIs_int i t
  | inr z => obtain ⟨t, rfl⟩ := (show ∃ t, u = Value.str z t from r); exact keyIs_str z t
theorem kV_of {k : Key} {u : Value} (h : keyIs k u = true) : RelV (kV k) u := by
  rcases keyIs_shape h with ⟨i, t, rfl, rfl⟩ | ⟨z, t, rfl, rfl⟩
  · exact ⟨t, rfl⟩
  · exact ⟨t, rfl⟩
theorem flat_is {p : PV} {u : Value} {h : Heap} (hf : isFlat p = true) (r : RV Z H m p x) (ru : RelV x u) : NestedIs h (flatK p) u := by
  cases p <;> first | (cases hf; done) | skip
  · unfold RV at r; subst r; cases ru; exact .none
  · unfold RV at r; subst r; cases ru; exact .bool rfl
  · cases rv_int r; obtain ⟨t, rfl⟩ := ru; exact .int _ t
  · obtain ⟨rfl, _⟩ := rv_str r; obtain ⟨t, rfl⟩ := ru; exact .text _ t
theorem keys_is (I : Inv X pins σ H s) (hK : X.K = Z.K) {n : Nat} (ih : ∀ {p : PV} {x : V} {u : Value}, isKey n p = true → RV Z H m p x → RelV x u → NestedIs s.heap (toKey n p) u) :
    ∀ {ps : List PV} {xs : List V} {us : List Value}, ps.all (isKey n) = true → RVs Z H m ps xs → Vals xs us → NestedAll s.heap (ps.map (toKey n)) us
  | [], _, _, _, r, v => by unfold RVs at r; subst r; cases v; exact .nil
  | p :: ps, _, _, h, r, v => by
    unfold RVs at r
    obtain ⟨y, t, rfl, r1, r2⟩ := r
    rw [List.all_cons, Bool.and_eq_true] at h
    cases v with
    | cons v1 v2 => exact .cons (ih h.1 r1 v1) (keys_is I hK ih h.2 r2 v2)
theorem key_is (I : Inv X pins σ H s) (hK : X.K = Z.K) : ∀ {n : Nat} {p : PV} {x : V} {u : Value}, isKey n p = true → RV Z H m p x → RelV x u → NestedIs s.heap (toKey n p) u
  | n, p, x, u, h, r, ru => by
    rcases isKey_cases h with fp | ⟨k, xs, rfl, rfl, hx⟩
    · rw [toKey_flat fp]
      exact flat_is fp r ru
    · obtain ⟨a, ys, rfl, hq, rr⟩ := rv_tup r
      cases (show u = Value.ref a from ru)
      obtain ⟨its, vi, ⟨o, h1, h2, n, h3⟩, _⟩ := I.tuple (by rw [hK]; exact hq)
      exact .tup h1 h2 h3 (by simpa using keys_is I hK (fun h r ru => key_is I hK h r ru) hx rr vi)
/-! ### a dict as the library tells it -/
def DRd (Z : Sta) (H : Hp) (a : Addr) (es : List (Int × V × V)) : Prop := H a = some (dO a es) ∨
  ((a == sysModules) = false ∧ ∃ (o : Obj) (ds : Array DictEntry) (ep : Nat), Z.K.lookup a = some o ∧ o.ExactDict ∧ o.data = .dict ds ep ∧ Paired EntR es ds.toList)
theorem DAt.rd (d : DAt Z H m a es) : DRd Z H a es := d.elim (fun h => .inl h.2) .inr
theorem DRd.raw (I : Inv X pins σ H s) (hK : X.K = Z.K) (d : DRd Z H a es) : (a == sysModules) = false ∧ ∃ (o : Obj) (ds : Array DictEntry) (ep : Nat), s.heap.get? a = some o ∧ o.ExactDict ∧ o.data = .dict ds ep ∧ Paired EntR es ds.toList := by
  rcases d with d | ⟨h, o, ds, ep, h1, h2⟩
  · exact dO_at I.hok d
  · exact ⟨h, o, ds, ep, I.kIn a o (by rw [hK]; exact h1), h2⟩
/-- what is known of a dict -/
structure DcR (Z : Sta) (H : Hp) (m : Mp) (a : Addr) (es : List (Int × V × V)) (ks vs : List PV) : Prop where
  rd : DRd Z H a es
  kb : keysB ks = true
  hs : es.map (·.1) = ks.map (hashK Z)
  ks : RVs Z H m ks (es.map (·.2.1))
  vs : RVs Z H m vs (es.map (·.2.2))
theorem dctOf_ok (sr : SRel Z H m S) {v : PV} (r : RV Z H m v x) (h : dctOf S v = some (ks, vs)) : ∃ a es, x = .ref a ∧ DcR Z H m a es ks vs := by
  unfold dctOf at h
  split at h
  · cases h
    unfold RV at r
    obtain ⟨a, es, rfl, hq, h1, h2, h3, h4⟩ := r
    exact ⟨a, es, rfl, hq.rd, h1, h2, h3, h4⟩
  · split at h
    · rename_i n _ _ e
      cases h
      unfold RV at r
      obtain ⟨a, ea, rfl⟩ := r
      obtain ⟨b, eb, es, hq, h1, h2, h3, h4⟩ := sr.at_ e
      rw [ea] at eb
      cases eb
      exact ⟨a, es, rfl, .inl hq, h1, h2, h3, h4⟩
    · cases h
  · cases h
theorem raw_flat (hw : X.w = Z.w) : ∀ {es : List (Int × V × V)} {ds : List DictEntry} {ks : List PV}, Paired EntR es ds → es.map (·.1) = ks.map (hashK Z) → RVs Z H m ks (es.map (·.2.1)) → ks.all isK1 = true →
    ∃ ws : List Value, Vals (es.map (·.2.2)) ws ∧ Pairs (mixKind X.prog X.w) ds ((ks.map keyL).zip ws) ∧ (∀ e ∈ ds, ∃ k, (mixKind X.prog X.w).is k e.key = true ∧ e.hash = (mixKind X.prog X.w).hash k) ∧ ws.length = ks.length
  | [], _, ks, .nil, hh, r, _ => by
    cases ks with
    | nil => exact ⟨[], .nil, .nil, fun _ h => (nomatch h), rfl⟩
    | cons _ _ => cases hh
  | e :: es, d :: ds, ks, .cons ⟨e1, e2, e3⟩ pr, hh, r, hk => by
    cases ks with
    | nil => cases hh
    | cons k ks =>
      rw [List.map_cons, List.map_cons] at hh
      injection hh with h1 h2
      rw [List.map_cons] at r
      unfold RVs at r
      obtain ⟨y, t, ey, r1, r2⟩ := r
      injection ey with ey1 ey2
      subst ey1 ey2
      rw [List.all_cons, Bool.and_eq_true] at hk
      obtain ⟨ws, w1, w2, w3, w4⟩ := raw_flat hw pr h2 r2 hk.2
      have q : keyIs (keyL k) d.key = true := kV_is' (by rw [← k1_V hk.1 r1]; exact e2)
      refine ⟨d.val :: ws, .cons e3 w1, .cons q rfl w2, fun e he => ?_, by simp [w4]⟩
      rcases List.mem_cons.mp he with rfl | he
      · exact ⟨keyL k, q, by rw [e1, h1, k1_hash hk.1, ← hw]; rfl⟩
      · exact w3 e he
theorem raw_tup (I : Inv X pins σ H s) (hK : X.K = Z.K) (hw : X.w = Z.w) : ∀ {es : List (Int × V × V)} {ds : List DictEntry} {ks : List PV}, Paired EntR es ds → es.map (·.1) = ks.map (hashK Z) → RVs Z H m ks (es.map (·.2.1)) → ks.all isTup = true → ks.all (isKey kd) = true →
    ∃ (ws : List Value) (xs : List (NestedKey × Addr × Value)), Vals (es.map (·.2.2)) ws ∧ ds = xs.map (entryOfKey (nestedKind X.prog X.w)) ∧ (∀ x ∈ xs, (nestedKind X.prog X.w).is s.heap x.1 x.2.1) ∧ xs.map (·.1) = ks.map (toKey kd) ∧ xs.map (·.2.2) = ws ∧ es.map (·.2.1) = xs.map (fun x => V.ref x.2.1)
  | [], _, ks, .nil, hh, r, _, _ => by
    cases ks with
    | nil => exact ⟨[], [], .nil, rfl, fun _ h => (nomatch h), rfl, rfl, rfl⟩
    | cons _ _ => cases hh
  | e :: es, d :: ds, ks, .cons ⟨e1, e2, e3⟩ pr, hh, r, ht, hk => by
    cases ks with
    | nil => cases hh
    | cons k ks =>
      rw [List.map_cons, List.map_cons] at hh
      injection hh with h1 h2
      rw [List.map_cons] at r
      unfold RVs at r
      obtain ⟨y, t, ey, r1, r2⟩ := r
      injection ey with ey1 ey2
      subst ey1 ey2
      rw [List.all_cons, Bool.and_eq_true] at ht hk
      obtain ⟨ws, xs, w1, w2, w3, w4, w5, w6⟩ := raw_tup I hK hw pr h2 r2 ht.2 hk.2
      have q := key_is I hK hk.1 r1 e2
      cases k with
      | tup ls =>
        obtain ⟨b, zs, eb, hq, rr⟩ := rv_tup r1
        rw [eb] at e2
        have ek : d.key = Value.ref b := e2
        rw [ek] at q
        refine ⟨d.val :: ws, (toKey kd (.tup ls), b, d.val) :: xs, .cons e3 w1, ?_, fun x hx => ?_, by rw [List.map_cons, List.map_cons, w4], by rw [List.map_cons, w5], by rw [List.map_cons, List.map_cons, w6, eb]⟩
        · rw [List.map_cons, ← w2]
          obtain ⟨dh, dk, dv⟩ := d
          simp only at e1 ek
          subst ek
          rw [e1, h1]
          unfold hashK
          rw [← hw]
          rfl
        · rcases List.mem_cons.mp hx with rfl | hx
          · exact ⟨q, key_depth⟩
          · exact w3 x hx
      | _ => cases ht.1
theorem dist_nodup {κ : Type} {f : PV → κ} [DecidableEq κ] : ∀ {ks : List PV}, (∀ a ∈ ks, ∀ b ∈ ks, keyEq kd a b = decide (f a = f b)) → dist ks = true → (ks.map f).Nodup
  | [], _, _ => List.nodup_nil
  | k :: ks, h, hd => by
    unfold dist at hd
    rw [Bool.and_eq_true] at hd
    rw [List.map_cons, List.nodup_cons]
    refine ⟨fun hm => ?_, dist_nodup (fun a ha b hb => h a (List.mem_cons_of_mem _ ha) b (List.mem_cons_of_mem _ hb)) hd.2⟩
    obtain ⟨j, hj, e⟩ := List.mem_map.mp hm
    have := List.all_eq_true.mp hd.1 j hj
    rw [h k List.mem_cons_self j (List.mem_cons_of_mem _ hj), decide_eq_true e.symm] at this
    cases this
theorem keysB_parts (h : keysB ks = true) : ks.all (isKey kd) = true ∧ dist ks = true ∧ (ks.all isK1 = true ∨ ks.all isTup = true) := by
  unfold keysB at h
  rw [Bool.and_eq_true, Bool.and_eq_true, Bool.or_eq_true] at h
  exact ⟨h.1.1, h.1.2, h.2⟩
theorem DcR.flat (d : DcR Z H m a es ks vs) (I : Inv X pins σ H s) (hK : X.K = Z.K) (hw : X.w = Z.w) (hk : ks.all isK1 = true) :
    (a == sysModules) = false ∧ ∃ ws : List Value, Vals (es.map (·.2.2)) ws ∧ ws.length = ks.length ∧ s.heap.DictOf (mixKind X.prog X.w) a ((ks.map keyL).zip ws) := by
  obtain ⟨h0, o, ds, ep, h1, h2, h3, h4⟩ := d.rd.raw I hK
  obtain ⟨ws, w1, w2, w3, w4⟩ := raw_flat (X := X) hw h4 d.hs d.ks hk
  refine ⟨h0, ws, w1, w4, o, ds, ep, h1, h2, h3, fun e he => w3 e (by simpa using he), w2, ?_⟩
  rw [List.map_fst_zip (by rw [List.length_map, w4]; exact Nat.le_refl _)]
  have ha := List.all_eq_true.mp hk
  exact dist_nodup (fun a h b h' => k1_eq (ha a h) (ha b h')) (keysB_parts d.kb).2.1
theorem DcR.tup (d : DcR Z H m a es ks vs) (I : Inv X pins σ H s) (hK : X.K = Z.K) (hw : X.w = Z.w) (hk : ks.all isTup = true) :
    (a == sysModules) = false ∧ ∃ (ws : List Value) (xs : List (NestedKey × Addr × Value)), Vals (es.map (·.2.2)) ws ∧ s.heap.DictOfH (nestedKind X.prog X.w) a xs ∧ xs.map (·.1) = ks.map (toKey kd) ∧ xs.map (·.2.2) = ws ∧ es.map (·.2.1) = xs.map (fun x => V.ref x.2.1) := by
  obtain ⟨h0, o, ds, ep, h1, h2, h3, h4⟩ := d.rd.raw I hK
  obtain ⟨p1, p2, p3⟩ := keysB_parts d.kb
  obtain ⟨ws, xs, w1, w2, w3, w4, w5, w6⟩ := raw_tup I hK hw h4 d.hs d.ks hk p1
  refine ⟨h0, ws, xs, w1, ⟨o, ds, ep, h1, h2, h3, w2, w3, ?_⟩, w4, w5, w6⟩
  rw [w4]
  have ha := List.all_eq_true.mp p1
  exact dist_nodup (fun a h b h' => key_eqD (ha a h) (ha b h')) p2
/-- what is found -/
def Fnd (Z : Sta) (H : Hp) (m : Mp) (r : Option PV) (o : Option Value) : Prop := match r with
  | none => o = none
  | some v => ∃ x w, o = some w ∧ RV Z H m v x ∧ RelV x w
theorem find_zip {κ : Type} [DecidableEq κ] {f : PV → κ} {j : PV} : ∀ {ks vs : List PV} {xs : List V} {ws : List Value}, (∀ a ∈ ks, keyEq kd a j = decide (f a = f j)) → RVs Z H m vs xs → Vals xs ws → ws.length = ks.length →
    Fnd Z H m (findK ks vs j) (valueAt ((ks.map f).zip ws) (f j))
  | [], _, _, _, _, _, _, _ => rfl
  | k :: ks, vs, xs, ws, h, r, v, hl => by
    cases ws with
    | nil => cases hl
    | cons w ws =>
      cases v with
      | @cons x _ xs _ v1 v2 =>
        cases vs with
        | nil => unfold RVs at r; cases r
        | cons p vs =>
          unfold RVs at r
          obtain ⟨y, t, e, r1, r2⟩ := r
          cases e
          unfold findK
          rw [h k List.mem_cons_self]
          by_cases e : f k = f j
          · rw [if_pos (decide_eq_true e)]
            exact ⟨_, _, by simp [valueAt, e], r1, v1⟩
          · rw [decide_eq_false e, if_neg Bool.false_ne_true]
            have := find_zip (f := f) (j := j) (fun a ha => h a (List.mem_cons_of_mem _ ha)) r2 v2 (by simpa using hl)
            have e2 : valueAt (((k :: ks).map f).zip (w :: ws)) (f j) = valueAt ((ks.map f).zip ws) (f j) := by simp [valueAt, e]
            rw [e2]
            exact this
def kindOk (ks : List PV) (k : PV) : Bool := match ks with
  | [] => isK1 k || (isTup k && isKey kd k)
  | j :: _ => (isK1 j && isK1 k) || (isTup j && (isTup k && isKey kd k))
theorem kind_cases {k : PV} (kb : keysB ks = true) (h : kindOk ks k = true) : (ks.all isK1 = true ∧ isK1 k = true) ∨ (ks.all isTup = true ∧ isTup k = true ∧ isKey kd k = true) := by
  obtain ⟨p1, p2, p3⟩ := keysB_parts kb
  cases ks with
  | nil =>
    unfold kindOk at h
    rw [Bool.or_eq_true, Bool.and_eq_true] at h
    rcases h with h | h
    · exact .inl ⟨rfl, h⟩
    · exact .inr ⟨rfl, h⟩
  | cons j ks =>
    unfold kindOk at h
    rw [Bool.or_eq_true, Bool.and_eq_true, Bool.and_eq_true, Bool.and_eq_true] at h
    rcases h with h | h
    · refine .inl ⟨?_, h.2⟩
      rcases p3 with p | p
      · exact p
      · rw [List.all_cons, Bool.and_eq_true] at p
        cases j <;> first | (cases h.1; done) | (cases p.1; done)
    · refine .inr ⟨?_, h.2⟩
      rcases p3 with p | p
      · rw [List.all_cons, Bool.and_eq_true] at p
        cases j <;> first | (cases h.1; done) | (cases p.1; done)
      · exact p
theorem valueAt_atKey {xs : List (NestedKey × Addr × Value)} {k : NestedKey} {ls : List NestedKey} {ws : List Value} (e1 : xs.map (·.1) = ls) (e2 : xs.map (·.2.2) = ws) : (atKey xs k).map (·.2) = valueAt (ls.zip ws) k := by
  rw [← valueAt_pairsH]
  subst e1 e2
  congr 1
  unfold pairsH
  induction xs with
  | nil => rfl
  | cons x xs ih => simp [ih]
/-- a key that is looked for: what the library finds -/
theorem DcR.find (d : DcR Z H m a es ks vs) (I : Inv X pins σ H s) (hK : X.K = Z.K) (hw : X.w = Z.w) {j : PV} {y : V} {u : Value} (hj : kindOk ks j = true) (rj : RV Z H m j y) (ru : RelV y u) :
    (a == sysModules) = false ∧ ((ks.all isK1 = true ∧ isK1 j = true ∧ ∃ kvs, s.heap.DictOf (mixKind X.prog X.w) a kvs ∧ keyIs (keyL j) u = true ∧ kvs.length = ks.length ∧ Fnd Z H m (findK ks vs j) (valueAt kvs (keyL j))) ∨
      (ks.all isTup = true ∧ isTup j = true ∧ ∃ xs b, s.heap.DictOfH (nestedKind X.prog X.w) a xs ∧ u = .ref b ∧ (nestedKind X.prog X.w).is s.heap (toKey kd j) b ∧ xs.length = ks.length ∧ Fnd Z H m (findK ks vs j) ((atKey xs (toKey kd j)).map (·.2)))) := by
  rcases kind_cases d.kb hj with ⟨hk, h1⟩ | ⟨hk, h1, h2⟩
  · obtain ⟨h0, ws, w1, w2, w3⟩ := d.flat I hK hw hk
    have ha := List.all_eq_true.mp hk
    refine ⟨h0, .inl ⟨hk, h1, _, w3, kV_is' (by rw [← k1_V h1 rj]; exact ru), by rw [List.length_zip, List.length_map, w2, Nat.min_self], ?_⟩⟩
    exact find_zip (fun a h => k1_eq (ha a h) h1) d.vs w1 w2
  · obtain ⟨h0, ws, xs, w1, w2, w3, w4, w5⟩ := d.tup I hK hw hk
    have ha := List.all_eq_true.mp (keysB_parts d.kb).1
    cases j with
    | tup ls =>
      obtain ⟨b, zs, eb, hq, rr⟩ := rv_tup rj
      subst eb
      cases (show u = Value.ref b from ru)
      have hl : xs.length = ks.length := by have := congrArg List.length w3; simpa using this
      refine ⟨h0, .inr ⟨hk, h1, xs, b, w2, rfl, ⟨key_is I hK h2 rj ru, key_depth⟩, hl, ?_⟩⟩
      rw [valueAt_atKey w3 w4]
      exact find_zip (fun a h => key_eqD (ha a h) h2) d.vs w1 (by rw [← w4, List.length_map, hl])
    | _ => cases h1
end
end MP
set_option maxRecDepth 100000
namespace MP
open PySem L2
/-! ### storing -/
def ixK : List PV → PV → Option Nat
  | [], _ => none
  | k :: ks, j => if keyEq kd k j then some 0 else (ixK ks j).map (· + 1)
def putKs (ks : List PV) (j : PV) : List PV := match ixK ks j with
  | some _ => ks
  | none => ks ++ [j]
def putVs {A : Type} (ks : List PV) (j : PV) (vs : List A) (v : A) : List A := match ixK ks j with
  | some i => vs.set i v
  | none => vs ++ [v]
theorem ixK_none {j : PV} : ∀ {ks : List PV}, ixK ks j = none → ∀ k ∈ ks, keyEq kd k j = false
  | [], _ => fun _ h => nomatch h
  | k :: ks, h => by
    unfold ixK at h
    split at h
    · cases h
    · rename_i hk
      intro a ha
      rcases List.mem_cons.mp ha with rfl | ha
      · simpa using hk
      · refine ixK_none (ks := ks) ?_ a ha
        cases e : ixK ks j with
        | none => rfl
        | some i => rw [e] at h; cases h
theorem ixK_some {j : PV} : ∀ {ks : List PV} {i : Nat}, ixK ks j = some i → ∃ k, ks[i]? = some k ∧ keyEq kd k j = true
  | [], i, h => by cases h
  | k :: ks, i, h => by
    unfold ixK at h
    split at h
    · rename_i hk
      cases h
      exact ⟨k, rfl, hk⟩
    · cases e : ixK ks j with
      | none => rw [e] at h; cases h
      | some i' =>
        rw [e] at h
        cases h
        obtain ⟨k2, h1, h2⟩ := ixK_some e
        exact ⟨k2, by simpa using h1, h2⟩
theorem map_at {κ : Type} [DecidableEq κ] {β : Type} {k : κ} {w : β} : ∀ {ls : List κ} {ws : List β} {i : Nat}, ls.Nodup → ls[i]? = some k → (ls.zip ws).map (fun kv => if kv.1 = k then (kv.1, w) else kv) = ls.zip (ws.set i w)
  | [], _, _, _, h => by simp at h
  | l :: ls, [], _, _, _ => by simp
  | l :: ls, v :: ws, 0, hn, h => by
    simp only [List.getElem?_cons_zero, Option.some.injEq] at h
    subst h
    rw [List.nodup_cons] at hn
    rw [List.zip_cons_cons, List.map_cons, if_pos rfl, List.set_cons_zero, List.zip_cons_cons]
    congr 1
    rw [List.map_congr_left (g := id)]
    · simp
    · intro a ha
      rw [if_neg]
      · rfl
      · rintro rfl
        obtain ⟨a1, a2⟩ := a
        exact hn.1 (List.of_mem_zip ha).1
  | l :: ls, v :: ws, i + 1, hn, h => by
    rw [List.nodup_cons] at hn
    rw [List.getElem?_cons_succ] at h
    have hne : ¬ l = k := fun e => hn.1 (e ▸ List.mem_of_getElem? h)
    rw [List.zip_cons_cons, List.map_cons, if_neg hne, List.set_cons_succ, List.zip_cons_cons, map_at hn.2 h]
theorem any_zip {κ : Type} [DecidableEq κ] {β : Type} {k : κ} {ls : List κ} {ws : List β} (hl : ws.length = ls.length) : ((ls.zip ws).any fun kv => decide (kv.1 = k)) = decide (k ∈ ls) := by
  have e : (ls.zip ws).map (·.1) = ls := List.map_fst_zip (by rw [hl]; exact Nat.le_refl _)
  have : ((ls.zip ws).any fun kv => decide (kv.1 = k)) = (((ls.zip ws).map (·.1)).any fun a => decide (a = k)) := by rw [List.any_map]; rfl
  rw [this, e]
  rw [Bool.eq_iff_iff, List.any_eq_true, decide_eq_true_eq]
  constructor
  · rintro ⟨a, ha, h⟩; rw [← of_decide_eq_true h]; exact ha
  · intro h; exact ⟨k, h, decide_eq_true rfl⟩
/-- the library's own storing, by keys -/
theorem stored_zip {κ : Type} [DecidableEq κ] {f : PV → κ} {j : PV} {w : Value} {ks : List PV} {ws : List Value} (hn : (ks.map f).Nodup) (he : ∀ a ∈ ks, keyEq kd a j = decide (f a = f j)) (hl : ws.length = ks.length) :
    stored ((ks.map f).zip ws) (f j) w = ((putKs ks j).map f).zip (putVs ks j ws w) := by
  unfold stored putKs putVs
  rw [any_zip (by rw [hl, List.length_map])]
  cases e : ixK ks j with
  | none =>
    have : f j ∉ ks.map f := fun h => by
      obtain ⟨a, ha, h2⟩ := List.mem_map.mp h
      have := ixK_none e a ha
      rw [he a ha, decide_eq_true h2] at this
      cases this
    rw [decide_eq_false this, if_neg Bool.false_ne_true]
    simp only [List.map_append, List.map_cons, List.map_nil]
    rw [List.zip_append (by rw [hl, List.length_map])]
    rfl
  | some i =>
    obtain ⟨k, h1, h2⟩ := ixK_some e
    rw [he k (List.mem_of_getElem? h1)] at h2
    have h3 : (ks.map f)[i]? = some (f j) := by rw [List.getElem?_map, h1]; simp [of_decide_eq_true h2]
    rw [decide_eq_true (List.mem_of_getElem? h3), if_pos rfl]
    exact map_at hn h3
theorem put_keysB {ks : List PV} {j : PV} (kb : keysB ks = true) (hj : kindOk ks j = true) : keysB (putKs ks j) = true := by
  unfold putKs
  cases e : ixK ks j with
  | some i => exact kb
  | none =>
    obtain ⟨p1, p2, p3⟩ := keysB_parts kb
    have hd : ∀ {ls : List PV}, (∀ k ∈ ls, keyEq kd k j = false) → dist ls = true → dist (ls ++ [j]) = true := by
      intro ls
      induction ls with
      | nil => intro _ _; rfl
      | cons l ls ih =>
        intro h hd
        unfold dist at hd
        rw [Bool.and_eq_true] at hd
        show dist (l :: (ls ++ [j])) = true
        unfold dist
        rw [Bool.and_eq_true, List.all_append, Bool.and_eq_true]
        refine ⟨⟨hd.1, ?_⟩, ih (fun k hk => h k (List.mem_cons_of_mem _ hk)) hd.2⟩
        simp [h l List.mem_cons_self]
    unfold keysB
    rw [Bool.and_eq_true, Bool.and_eq_true, Bool.or_eq_true]
    rcases kind_cases kb hj with ⟨h1, h2⟩ | ⟨h1, h2, h3⟩
    · refine ⟨⟨?_, hd (ixK_none e) p2⟩, .inl ?_⟩
      · simp only
        rw [List.all_append, p1]
        simp only [List.all_cons, List.all_nil, Bool.and_true, Bool.true_and]
        cases j <;> first | (cases h2; done) | rfl
      · simp only
        rw [List.all_append, h1]
        simp [h2]
    · refine ⟨⟨?_, hd (ixK_none e) p2⟩, .inr ?_⟩
      · simp only
        rw [List.all_append, p1]
        simp [h3]
      · simp only
        rw [List.all_append, h1]
        simp [h2]
section
variable {Z : Sta} {W : WX} {σ : L2.St} {H H1 : Hp} {m m1 m2 : Mp} {X : Cx} {S : Hs} {x y : V} {a : Addr} {lv g k f : Nat} {T : Tab} {pins : List (Addr × Obj)} {s : Shared} {Q : VK} {c : CmpT} {es : List (Int × V × V)} {ks vs : List PV}
theorem RVs.putVs {v : PV} {j : PV} {xs : List V} (r : RVs Z H m vs xs) (rv : RV Z H m v x) : RVs Z H m (MP.putVs ks j vs v) (MP.putVs ks j xs x) := by
  unfold MP.putVs
  split
  · exact RVs.set rv _ r
  · exact r.append (RVs.cons rv RVs.nil)
theorem vals_put {j : PV} {xs : List V} {ws : List Value} {w : Value} (v : Vals xs ws) (rw' : RelV x w) : Vals (putVs ks j xs x) (putVs ks j ws w) := by
  unfold putVs
  split
  · exact v.set rw' _
  · exact v.append (.cons rw' .nil)
theorem putVs_len {A : Type} {j : PV} {xs : List A} {v : A} (h : xs.length = ks.length) : (putVs ks j xs v).length = (putKs ks j).length := by
  unfold putVs putKs
  cases ixK ks j with
  | some i => simp [h]
  | none => simp [h]
theorem putKs_le {j : PV} : (putKs ks j).length ≤ ks.length + 1 := by
  unfold putKs
  cases ixK ks j with
  | some i => simp
  | none => simp
/-- three lists together -/
def zip3 (hs : List Int) (ys xs : List V) : List (Int × V × V) := hs.zip (ys.zip xs)
theorem zip3_1 {hs : List Int} {ys xs : List V} (h1 : ys.length = hs.length) (h2 : xs.length = hs.length) : (zip3 hs ys xs).map (·.1) = hs := by
  unfold zip3
  exact List.map_fst_zip (by rw [List.length_zip]; omega)
theorem zip3_2 {hs : List Int} {ys xs : List V} (h1 : ys.length = hs.length) (h2 : xs.length = hs.length) : (zip3 hs ys xs).map (·.2.1) = ys := by
  unfold zip3
  have e : (hs.zip (ys.zip xs)).map (fun e => e.2.1) = ((hs.zip (ys.zip xs)).map (·.2)).map (·.1) := by rw [List.map_map]; rfl
  rw [e, List.map_snd_zip (by rw [List.length_zip]; omega), List.map_fst_zip (by omega)]
theorem zip3_3 {hs : List Int} {ys xs : List V} (h1 : ys.length = hs.length) (h2 : xs.length = hs.length) : (zip3 hs ys xs).map (·.2.2) = xs := by
  unfold zip3
  have e : (hs.zip (ys.zip xs)).map (fun e => e.2.2) = ((hs.zip (ys.zip xs)).map (·.2)).map (·.2) := by rw [List.map_map]; rfl
  rw [e, List.map_snd_zip (by rw [List.length_zip]; omega), List.map_snd_zip (by omega)]
theorem dO_ok {P : Program} {w : World} {H : Hp} {h : Heap} {o : Obj} {ds : Array DictEntry} {ep : Nat} (h0 : (a == sysModules) = false) (h1 : h.get? a = some o) (h2 : o.ExactDict) (h3 : o.data = .dict ds ep) (h4 : Paired EntR es ds.toList) : ObjOk P w H h a (dO a es) :=
  ⟨⟨h0, o, ds, ep, h1, h2, h3, h4⟩, ⟨o, h1⟩, fun h1 h2 ⟨q0, o, ds, ep, q1, q2⟩ k => ⟨q0, o, ds, ep, k _ q1, q2⟩⟩
/-- entries by value -/
theorem of_flat {P : Program} {w : World} : ∀ {ds : List DictEntry} {ls : List Key} {ws : List Value} {xs : List V}, Pairs (mixKind P w) ds (ls.zip ws) → (∀ e ∈ ds, ∃ k, (mixKind P w).is k e.key = true ∧ e.hash = (mixKind P w).hash k) → Vals xs ws → ws.length = ls.length →
    Paired EntR (zip3 (ls.map (keyH w)) (ls.map kV) xs) ds
  | ds, [], ws, xs, hp, _, hv, hl => by
    cases ws with
    | nil => cases hv; cases hp; exact .nil
    | cons _ _ => cases hl
  | ds, l :: ls, ws, xs, hp, hk, hv, hl => by
    cases ws with
    | nil => cases hl
    | cons w' ws =>
      cases hv with
      | cons v1 v2 =>
        cases hp with
        | @cons e kv es kvs p1 p2 p3 =>
          refine .cons ⟨?_, kV_of p1, by rw [p2]; exact v1⟩ (of_flat p3 (fun e he => hk e (List.mem_cons_of_mem _ he)) v2 (by simpa using hl))
          obtain ⟨k, k1, k2⟩ := hk e List.mem_cons_self
          rw [k2, (mixKind P w).inj _ _ _ k1 p1]
          rfl
theorem of_tup {P : Program} {w : World} : ∀ {ds : List DictEntry} {xs : List (NestedKey × Addr × Value)} {zs : List V}, ds = xs.map (entryOfKey (nestedKind P w)) → Vals zs (xs.map (·.2.2)) →
    Paired EntR (zip3 (xs.map fun q => q.1.hash w) (xs.map fun q => V.ref q.2.1) zs) ds
  | _, [], zs, rfl, hv => by cases hv; exact .nil
  | _, q :: xs, zs, rfl, hv => by
    cases hv with
    | cons v1 v2 => exact .cons ⟨rfl, rfl, v1⟩ (of_tup rfl v2)
/-- what the library's storing leaves -/
def PutK (X : Cx) (pins : List (Addr × Obj)) (σ : L2.St) (H : Hp) (s : Shared) (a : Addr) (j : PV) (u w : Value) (H' : Hp) (nk : Nat) : Prop :=
  (isK1 j = true ∧ ∃ kvs, s.heap.DictOf (mixKind X.prog X.w) a kvs ∧ keyIs (keyL j) u = true ∧ kvs.length = nk ∧
    ∀ h' t, h'.DictOf (mixKind X.prog X.w) a (stored kvs (keyL j) w) → Heap.SameBut a s.heap h' → L2.Inv X pins σ H' { s with heap := h', toks := t }) ∨
  (isTup j = true ∧ ∃ xs b, s.heap.DictOfH (nestedKind X.prog X.w) a xs ∧ u = .ref b ∧ (nestedKind X.prog X.w).is s.heap (toKey kd j) b ∧ xs.length = nk ∧
    ∀ h' t, h'.DictOfH (nestedKind X.prog X.w) a (storedH xs (toKey kd j) b w) → Heap.SameBut a s.heap h' → L2.Inv X pins σ H' { s with heap := h', toks := t })
theorem vals_len {xs : List V} {ws : List Value} (v : Vals xs ws) : xs.length = ws.length := v.length
theorem key_V {p : PV} (hk : isKey kd p = true) (ht : isTup p = true) (r : RV Z H m p x) : ∃ b, x = .ref b := by
  cases p with
  | tup ls => obtain ⟨b, _, e, _⟩ := rv_tup r; exact ⟨b, e⟩
  | _ => cases ht
theorem storedH_ix {j : PV} {xs : List (NestedKey × Addr × Value)} {b : Addr} {w : Value} (e1 : xs.map (·.1) = ks.map (toKey kd)) (he : ∀ k ∈ ks, keyEq kd k j = decide (toKey kd k = toKey kd j)) (hn : (ks.map (toKey kd)).Nodup) :
    (storedH xs (toKey kd j) b w).map (·.1) = (putKs ks j).map (toKey kd) ∧ (storedH xs (toKey kd j) b w).map (·.2.2) = putVs ks j (xs.map (·.2.2)) w ∧ (storedH xs (toKey kd j) b w).map (·.2.1) = (match ixK ks j with | some _ => xs.map (·.2.1) | none => xs.map (·.2.1) ++ [b]) := by
  have hl : xs.length = ks.length := by have := congrArg List.length e1; simpa using this
  have hp : pairsH xs = (ks.map (toKey kd)).zip (xs.map (·.2.2)) := by
    rw [← e1]
    unfold pairsH
    clear hl e1 he hn
    induction xs with
    | nil => rfl
    | cons q xs ih => simp [ih]
  have hs := stored_zip (f := toKey kd) (j := j) (w := w) hn he (ws := xs.map (·.2.2)) (by simpa using hl)
  rw [← hp, ← pairsH_storedH xs (toKey kd j) b w] at hs
  have g1 : (pairsH (storedH xs (toKey kd j) b w)).map (·.1) = (storedH xs (toKey kd j) b w).map (·.1) := by unfold pairsH; rw [List.map_map]; rfl
  have g2 : (pairsH (storedH xs (toKey kd j) b w)).map (·.2) = (storedH xs (toKey kd j) b w).map (·.2.2) := by unfold pairsH; rw [List.map_map]; rfl
  have hl2 : (putVs ks j (xs.map (·.2.2)) w).length = (putKs ks j).length := putVs_len (by simpa using hl)
  refine ⟨?_, ?_, ?_⟩
  · rw [← g1, hs, List.map_fst_zip (by rw [List.length_map, hl2]; exact Nat.le_refl _)]
  · rw [← g2, hs, List.map_snd_zip (by rw [List.length_map, hl2]; exact Nat.le_refl _)]
  · have q : (atKey xs (toKey kd j)).isSome = (ixK ks j).isSome := by
      rw [← any_pairsH, hp, any_zip (by simp [hl])]
      cases e : ixK ks j with
      | none =>
        refine decide_eq_false fun h => ?_
        obtain ⟨k, hk, h2⟩ := List.mem_map.mp h
        have := ixK_none e k hk
        rw [he k hk, decide_eq_true h2] at this
        cases this
      | some i =>
        obtain ⟨k, h1, h2⟩ := ixK_some e
        have hm := List.mem_of_getElem? h1
        rw [he k hm] at h2
        refine decide_eq_true ?_
        rw [← of_decide_eq_true h2]
        exact List.mem_map_of_mem hm
    unfold storedH
    rw [q]
    cases e : ixK ks j with
    | none => simp
    | some i =>
      simp only [Option.isSome_some, if_true, List.map_map]
      refine List.map_congr_left fun z _ => ?_
      show (putAt (toKey kd j) w z).2.1 = z.2.1
      unfold putAt
      split <;> rfl
theorem DcR.put (d : DcR Z H m a es ks vs) (hH : H a = some (dO a es)) (I : L2.Inv X pins σ H s) (hK : X.K = Z.K) (hw : X.w = Z.w) {j v : PV} {u w : Value} (hj : kindOk ks j = true) (rj : RV Z H m j y) (ru : RelV y u) (rv : RV Z H m v x) (rw' : RelV x w) :
    ∃ es', es'.map (·.1) = (putKs ks j).map (hashK Z) ∧ RVs Z H m (putKs ks j) (es'.map (·.2.1)) ∧ RVs Z H m (putVs ks j vs v) (es'.map (·.2.2)) ∧ keysB (putKs ks j) = true ∧ PutK X pins σ H s a j u w (upd H a (dO a es')) ks.length := by
  have hmut : Mut (H a) := by rw [hH]; exact trivial
  have hlv : vs.length = ks.length := by rw [d.vs.len, d.ks.len, List.length_map, List.length_map]
  have nodup1 : ∀ {κ : Type} [DecidableEq κ] {f : PV → κ}, (∀ p ∈ ks, ∀ q ∈ ks, keyEq kd p q = decide (f p = f q)) → (ks.map f).Nodup := fun h => dist_nodup h (keysB_parts d.kb).2.1
  rcases kind_cases d.kb hj with ⟨hk, h1⟩ | ⟨hk, h1, h2⟩
  · obtain ⟨h0, ws, w1, w2, w3⟩ := d.flat I hK hw hk
    have ha := List.all_eq_true.mp hk
    have e0 := stored_zip (f := keyL) (j := j) (w := w) (ws := ws) (nodup1 fun p hp q hq => k1_eq (ha p hp) (ha q hq)) (fun p hp => k1_eq (ha p hp) h1) w2
    have pall : ∀ p ∈ putKs ks j, isK1 p = true := fun p hp => by
      unfold putKs at hp
      split at hp
      · exact ha p hp
      · rcases List.mem_append.mp hp with hp | hp
        · exact ha p hp
        · rw [List.mem_singleton.mp hp]; exact h1
    have rks : RVs Z H m (putKs ks j) (((putKs ks j).map keyL).map kV) := by
      have base : RVs Z H m ks ((ks.map keyL).map kV) := by
        have := d.ks
        have key : ∀ {ps : List PV} {zs : List V}, (∀ p ∈ ps, isK1 p = true) → RVs Z H m ps zs → zs = (ps.map keyL).map kV := by
          intro ps
          induction ps with
          | nil => intro zs _ r; unfold RVs at r; exact r
          | cons p ps ih =>
            intro zs hp r
            unfold RVs at r
            obtain ⟨z, t, rfl, r1, r2⟩ := r
            rw [k1_V (hp p List.mem_cons_self) r1, ih (fun q hq => hp q (List.mem_cons_of_mem _ hq)) r2]
            rfl
        rw [← key ha this]
        exact this
      unfold putKs
      split
      · exact base
      · rw [List.map_append, List.map_append]
        refine base.append (RVs.cons ?_ RVs.nil)
        rw [← k1_V h1 rj]
        exact rj
    have hl1 : (((putKs ks j).map keyL).map kV).length = (((putKs ks j).map keyL).map (keyH X.w)).length := by simp
    have hl2 : (putVs ks j (es.map (·.2.2)) x).length = (((putKs ks j).map keyL).map (keyH X.w)).length := by
      rw [putVs_len (by rw [← d.vs.len, hlv])]; simp
    refine ⟨zip3 (((putKs ks j).map keyL).map (keyH X.w)) (((putKs ks j).map keyL).map kV) (putVs ks j (es.map (·.2.2)) x), ?_, ?_, ?_, put_keysB d.kb hj, .inl ⟨h1, _, w3, kV_is' (by rw [← k1_V h1 rj]; exact ru), by rw [List.length_zip, List.length_map, w2, Nat.min_self], fun h' t dd hs => ?_⟩⟩
    · rw [zip3_1 hl1 hl2, List.map_map]
      refine List.map_congr_left fun p hp => ?_
      show keyH X.w (keyL p) = hashK Z p
      rw [k1_hash (pall p hp), hw]
    · rw [zip3_2 hl1 hl2]
      exact rks
    · rw [zip3_3 hl1 hl2]
      exact d.vs.putVs rv
    · rw [e0] at dd
      obtain ⟨o, ds, ep, g1, g2, g3, g4, g5, g6⟩ := dd
      refine I.write (x := a) (e := a) hmut (.inl rfl) (fun b q hb z => (hs.2 b hb).trans z) ⟨o, g1⟩ (dO_ok h0 g1 g2 g3 ?_)
      exact of_flat g5 (fun e he => g4 e (by simpa using he)) (vals_put w1 rw') (by rw [putVs_len w2]; simp)
  · obtain ⟨h0, ws, xs, w1, w2, w3, w4, w5⟩ := d.tup I hK hw hk
    have ha := List.all_eq_true.mp (keysB_parts d.kb).1
    have he : ∀ k ∈ ks, keyEq kd k j = decide (toKey kd k = toKey kd j) := fun k hk => key_eqD (ha k hk) h2
    have hn := nodup1 (f := toKey kd) fun p hp q hq => key_eqD (ha p hp) (ha q hq)
    obtain ⟨b, eb⟩ := key_V h2 h1 rj
    subst eb
    cases (show u = Value.ref b from ru)
    have hl : xs.length = ks.length := by have := congrArg List.length w3; simpa using this
    obtain ⟨s1, s2, s3⟩ := storedH_ix (ks := ks) (j := j) (b := b) (w := w) w3 he hn
    have hl0 : (storedH xs (toKey kd j) b w).length = (putKs ks j).length := by have := congrArg List.length s1; simpa using this
    have hl1 : ((storedH xs (toKey kd j) b w).map fun q => V.ref q.2.1).length = ((storedH xs (toKey kd j) b w).map fun q => q.1.hash X.w).length := by simp
    have hl2 : (putVs ks j (es.map (·.2.2)) x).length = ((storedH xs (toKey kd j) b w).map fun q => q.1.hash X.w).length := by
      rw [putVs_len (by rw [← d.vs.len, hlv]), List.length_map, hl0]
    refine ⟨zip3 ((storedH xs (toKey kd j) b w).map fun q => q.1.hash X.w) ((storedH xs (toKey kd j) b w).map fun q => V.ref q.2.1) (putVs ks j (es.map (·.2.2)) x), ?_, ?_, ?_, put_keysB d.kb hj, .inr ⟨h1, xs, b, w2, rfl, ⟨key_is I hK h2 rj ru, key_depth⟩, hl, fun h' t dd hs => ?_⟩⟩
    · rw [zip3_1 hl1 hl2]
      have e : ((storedH xs (toKey kd j) b w).map fun q => q.1.hash X.w) = ((storedH xs (toKey kd j) b w).map (·.1)).map fun q => q.hash X.w := by rw [List.map_map]; rfl
      rw [e, s1, List.map_map, hw]
      rfl
    · rw [zip3_2 hl1 hl2]
      have e : ((storedH xs (toKey kd j) b w).map fun q => V.ref q.2.1) = ((storedH xs (toKey kd j) b w).map (·.2.1)).map V.ref := by rw [List.map_map]; rfl
      rw [e, s3]
      have base : RVs Z H m ks ((xs.map (·.2.1)).map V.ref) := by
        have h := d.ks
        rw [w5] at h
        rw [List.map_map]
        exact h
      unfold putKs
      split
      · exact base
      · rw [List.map_append]
        exact base.append (RVs.cons rj RVs.nil)
    · rw [zip3_3 hl1 hl2]
      exact d.vs.putVs rv
    · obtain ⟨o, ds, ep, g1, g2, g3, g4, g5, g6⟩ := dd
      refine I.write (x := a) (e := a) hmut (.inl rfl) (fun b q hb z => (hs.2 b hb).trans z) ⟨o, g1⟩ (dO_ok h0 g1 g2 g3 ?_)
      refine of_tup g4 ?_
      rw [s2, w4]
      exact vals_put w1 rw'
end
end MP
set_option maxRecDepth 100000
namespace MP
open PySem L2 PyProof.Rows
section
variable {Z : Sta} {W : WX} {σ : L2.St} {H H1 : Hp} {m m1 m2 : Mp} {X : Cx} {S : Hs} {x y : V} {a : Addr} {lv g k f : Nat} {T : Tab} {fdO : Nat → FuncData} {psO : Nat → List Str} {pins : List (Addr × Obj)} {s : Shared} {Q : VK} {c : CmpT} {es : List (Int × V × V)} {ks vs : List PV}
theorem Good.hu (gd : Good Z lv X W) : X.A.units + 128 < cLine := by have := gd.room3.un; omega
theorem Good.room8 (gd : Good Z lv X W) : (nestedKind X.prog X.w).room X.A.in1 := by
  have := gd.hu
  show X.A.units + 1 + 8 < cLine
  omega
/-! ### k in d -/
def inV2 (a b : PV) (S : Hs) : RE := match dctOf S b with
  | some (ks, vs) => if kindOk ks a then .ok (.bl (findK ks vs a).isSome) S else .bad
  | none => match inB S a b with
    | some k => .ok (.bl k) S
    | none => match asL S b with
      | some xs => if isD S deep.pred a && isD S deep b then .ok (.bl (xs.any fun y => eqB S deep.pred y a)) S else .bad
      | none => .bad
def ninV2 (a b : PV) (S : Hs) : RE := match inV2 a b S with
  | .ok (.bl k) S => .ok (.bl !k) S
  | _ => .bad
def inD2 (T : Tab) (c : CmpT) (p q : PV) (S : Hs) : RE := match clsOf S q with
  | some _ => inD T c p q S
  | none => inV2 p q S
def ninD2 (T : Tab) (c : CmpT) (p q : PV) (S : Hs) : RE := match clsOf S q with
  | some _ => ninD T c p q S
  | none => ninV2 p q S
theorem any_eqv {d : PyData} {g : PV → PyData} {e : PV → Bool} : ∀ {xs : List PV}, (∀ x ∈ xs, e x = PyData.eqv (g x) d) → (xs.any e) = (xs.map g).any fun z => PyData.eqv z d
  | [], _ => rfl
  | x :: xs, h => by
    rw [List.map_cons, List.any_cons, List.any_cons, h x List.mem_cons_self, any_eqv fun y hy => h y (List.mem_cons_of_mem _ hy)]
theorem toD_mono {S : Hs} : ∀ {n k : Nat} {v : PV}, isD S n v = true → n ≤ k → isD S k v = true ∧ toD S k v = toD S n v
  | 0, k, v, h, _ => by
    have hf : isFlat v = true := h
    rw [flat_data hf, flat_data hf]
    refine ⟨?_, rfl⟩
    cases k with
    | zero => exact h
    | succ k => unfold isD; rw [if_pos hf]
  | n + 1, 0, v, h, hk => absurd hk (by omega)
  | n + 1, k + 1, v, h, hk => by
    cases hf : isFlat v with
    | true =>
      rw [flat_data hf, flat_data hf]
      exact ⟨by unfold isD; rw [if_pos hf], rfl⟩
    | false =>
      obtain ⟨xs, ex, hx⟩ := asQ_of_isD hf h
      have hh : ∀ x ∈ xs, isD S k x = true ∧ toD S k x = toD S n x := fun x hxm => toD_mono (hx x hxm) (by omega)
      rw [toD_seq hf ex, toD_seq hf ex, List.map_congr_left fun x hxm => (hh x hxm).2]
      refine ⟨?_, rfl⟩
      unfold isD
      rw [if_neg (by rw [hf]; exact Bool.false_ne_true), ex]
      exact List.all_eq_true.mpr fun x hxm => (hh x hxm).1
theorem asL_asQ {b : PV} {xs : List PV} (h : asL S b = some xs) : asQ S b = some xs ∧ isFlat b = false ∧ isTup b = false := by
  cases b <;> first | (cases h; done) | exact ⟨h, rfl, rfl⟩
theorem in_run {p q : PV} {v u : Value} (gd : Good Z lv X W) (I : L2.Inv X pins σ H s) (rx : RelV x v) (ry : RelV y u) (sr : SRel Z H m S) (rp : RV Z H m p x) (rq : RV Z H m q y) {b : Bool} (he : inV2 p q S = .ok (.bl b) S)
    {Q1 Q2 : VK} (h1 : Q1 (.bl b) H) (h2 : Q2 (.bl !b) H) : wpAny (model X.prog X.w) X.A (compareOp .In v u) (EP X pins σ Q1) X.xe s ∧ wpAny (model X.prog X.w) X.A (compareOp .NotIn v u) (EP X pins σ Q2) X.xe s := by
  unfold inV2 at he
  split at he
  · rename_i ks vs ed
    split at he
    · rename_i hk
      injection he with he _
      injection he with he
      subst he
      obtain ⟨a, es, rfl, d⟩ := dctOf_ok sr rq ed
      cases (show u = Value.ref a from ry)
      obtain ⟨h0, hh⟩ := d.find I gd.K gd.w hk rp rx
      rcases hh with ⟨_, _, kvs, g1, g2, g3, g4⟩ | ⟨_, _, xs, b, g1, rfl, g2, g3, g4⟩
      · have e : (valueAt kvs (keyL p)).isSome = (findK ks vs p).isSome := by
          unfold Fnd at g4
          split at g4
          · rename_i ef; rw [ef, g4]; rfl
          · rename_i v' ef; obtain ⟨x', w', q1, _⟩ := g4; rw [ef, q1]; rfl
        exact ⟨wpAny_in_of (knd := mixKind X.prog X.w) g2 h0 g1.mapOf ⟨.bl _, H, I.tok _, rfl, by rw [e]; exact h1⟩, wpAny_notIn_of (knd := mixKind X.prog X.w) g2 h0 g1.mapOf ⟨.bl _, H, I.tok _, rfl, by rw [e]; exact h2⟩⟩
      · have e : (atKey xs (toKey kd p)).isSome = (findK ks vs p).isSome := by
          unfold Fnd at g4
          rw [← Option.isSome_map (f := (·.2))]
          split at g4
          · rename_i ef; rw [ef, g4]; rfl
          · rename_i v' ef; obtain ⟨x', w', q1, _⟩ := g4; rw [ef, q1]; rfl
        exact ⟨wpAny_in_heap gd.room8 g2 h0 g1 ⟨.bl _, H, I.tok _, rfl, by rw [e]; exact h1⟩, wpAny_notIn_heap gd.room8 g2 h0 g1 ⟨.bl _, H, I.tok _, rfl, by rw [e]; exact h2⟩⟩
    · cases he
  · split at he
    · rename_i k ek
      injection he with he _
      injection he with he
      subst he
      rcases inB_ok (X := X) gd.K sr rp rq ek with ⟨c, z, h3, h4, h5⟩ | ⟨a, xs, h3, h4, h5, h6, h7⟩
      · exact ⟨op_in_sign pins s σ H x y v u Q1 I rx ry ⟨c, z, h3, h4, by rw [← h5]; exact h1⟩, op_notIn_sign pins s σ H x y v u Q2 I rx ry ⟨c, z, h3, h4, by rw [← h5]; exact h2⟩⟩
      · exact ⟨op_in_seq pins s σ H x y v u Q1 I rx ry ⟨a, xs, h3, h4, h5, h6, by rw [← h7]; exact h1⟩, op_notIn_seq pins s σ H x y v u Q2 I rx ry ⟨a, xs, h3, h4, h5, h6, by rw [← h7]; exact h2⟩⟩
    · split at he
      · rename_i xs el
        split at he
        · rename_i hd
          injection he with he _
          injection he with he
          subst he
          rw [Bool.and_eq_true] at hd
          obtain ⟨a1, a2, a3⟩ := data_ok sr rp hd.1
          obtain ⟨b1, b2, b3⟩ := data_ok sr rq hd.2
          obtain ⟨eq, ef, et⟩ := asL_asQ el
          have hb : toD S deep q = .list (xs.map (toD S deep.pred)) := by
            rw [show toD S deep q = toD S (deep.pred + 1) q from rfl, toD_seq ef eq, if_neg (by rw [et]; exact Bool.false_ne_true)]
          obtain ⟨ys, ey, hx⟩ := asQ_of_isD (n := deep.pred) ef hd.2
          rw [eq] at ey
          cases ey
          have hany : (xs.any fun y => eqB S deep.pred y p) = (xs.map (toD S deep.pred)).any fun z => PyData.eqv z (toD S deep.pred p) := any_eqv fun y hy => eqB_eq (hx y hy) hd.1
          rw [hb] at b1 b2 b3
          rw [hany] at h1 h2
          rw [← gd.K] at a1 b1
          exact ⟨op_inD (by have := gd.hu; omega) pins s σ H x y v u Q1 I rx ry ⟨_, _, a1, b1, shaped_of a2 (Nat.le_trans a3 (Nat.pred_le _)), shaped_of b2 b3, h1⟩, op_notInD (by have := gd.hu; omega) pins s σ H x y v u Q2 I rx ry ⟨_, _, a1, b1, shaped_of a2 (Nat.le_trans a3 (Nat.pred_le _)), shaped_of b2 b3, h2⟩⟩
        · cases he
      · cases he
end
end MP
set_option maxRecDepth 100000
namespace MP
open PySem L2 PyProof.Rows
section
variable {Z : Sta} {W : WX} {σ : L2.St} {H H1 : Hp} {m m1 m2 : Mp} {X : Cx} {S : Hs} {x y : V} {a : Addr} {lv g k f : Nat} {T : Tab} {fdO : Nat → FuncData} {psO : Nat → List Str} {pins : List (Addr × Obj)} {s : Shared} {Q : VK} {c : CmpT} {es : List (Int × V × V)} {ks vs : List PV}
theorem clsOf_none_dct {q : PV} {r : Nat × List Nat × List PV} (h : clsOf S q = some r) : dctOf S q = none := by
  cases q <;> first | (cases h; done) | rfl | skip
  unfold clsOf at h
  unfold dctOf
  simp only at h ⊢
  split at h
  · rename_i e; rw [e]
  · cases h
theorem inV2_st {p q : PV} {r : RE} (h : inV2 p q S = r) : r = .bad ∨ ∃ b, r = .ok (.bl b) S := by
  subst h
  unfold inV2
  split
  · split
    · exact .inr ⟨_, rfl⟩
    · exact .inl rfl
  · split
    · exact .inr ⟨_, rfl⟩
    · split
      · split
        · exact .inr ⟨_, rfl⟩
        · exact .inl rfl
      · exact .inl rfl
theorem inD2_ok (TO : TabOk Z lv T fdO psO) (gd : Good Z lv X W) (C : CmpTOk Z c) : OpOk Z X W (compareOp .In) (inD2 T c) := by
  intro pins s σ H x y v u m S p q Q I rx ry sr rp rq hp
  unfold inD2 at hp
  split at hp
  · exact inD_ok TO gd C pins s σ H x y v u m S p q Q I rx ry sr rp rq hp
  · rcases inV2_st (S := S) (p := p) (q := q) rfl with e | ⟨b, e⟩
    · rw [e] at hp; exact hp.elim
    · rw [e] at hp
      exact (in_run (Q2 := fun _ _ => True) gd I rx ry sr rp rq e (hp H m _ Gr.refl sr to_bl) trivial).1
theorem ninD2_ok (TO : TabOk Z lv T fdO psO) (gd : Good Z lv X W) (C : CmpTOk Z c) : OpOk Z X W (compareOp .NotIn) (ninD2 T c) := by
  intro pins s σ H x y v u m S p q Q I rx ry sr rp rq hp
  unfold ninD2 at hp
  split at hp
  · exact ninD_ok TO gd C pins s σ H x y v u m S p q Q I rx ry sr rp rq hp
  · unfold ninV2 at hp
    rcases inV2_st (S := S) (p := p) (q := q) rfl with e | ⟨b, e⟩
    · rw [e] at hp; exact hp.elim
    · rw [e] at hp
      exact (in_run (Q1 := fun _ _ => True) gd I rx ry sr rp rq e trivial (hp H m _ Gr.refl sr to_bl)).2
def cmpD2 (T : Tab) (c : CmpT) (op : CmpOp) : PV → PV → Hs → RE := match op with
  | .In => inD2 T c
  | .NotIn => ninD2 T c
  | op => cmpD T c op
theorem cmpD2_ok (op : CmpOp) (TO : TabOk Z lv T fdO psO) (gd : Good Z lv X W) (C : CmpTOk Z c) : OpOk Z X W (compareOp op) (cmpD2 T c op) := by
  cases op with
  | In => exact inD2_ok TO gd C
  | NotIn => exact ninD2_ok TO gd C
  | Eq => exact cmpD_ok .Eq TO gd C
  | NotEq => exact cmpD_ok .NotEq TO gd C
  | Lt => exact cmpD_ok .Lt TO gd C
  | LtE => exact cmpD_ok .LtE TO gd C
  | Gt => exact cmpD_ok .Gt TO gd C
  | GtE => exact cmpD_ok .GtE TO gd C
  | Is => exact cmpD_ok .Is TO gd C
  | IsNot => exact cmpD_ok .IsNot TO gd C
/-! ### d[k] -/
def ixV2 (a b : PV) (S : Hs) : RE := match dctOf S a with
  | some (ks, vs) => if kindOk ks b then okO (findK ks vs b) S else .bad
  | none => ixV a b S
def rIxDct (Z : Sta) : R2 := fun x y H Q => ∃ m S p q ks vs v, SRel Z H m S ∧ RV Z H m p x ∧ RV Z H m q y ∧ dctOf S p = some (ks, vs) ∧ kindOk ks q = true ∧ findK ks vs q = some v ∧ ∀ z, RV Z H m v z → Q z H
theorem ix_dct (gd : Good Z lv X W) : IxR X (rIxDct Z) := by
  intro value slice pins s σ H x y v u Q I rx ry h hs
  obtain ⟨m, S, p, q, ks, vs, r, sr, rp, rq, ed, hk, ef, hq⟩ := h
  obtain ⟨a, es, rfl, d⟩ := dctOf_ok sr rp ed
  cases (show v = Value.ref a from rx)
  obtain ⟨h0, hh⟩ := d.find I gd.K gd.w hk rq ry
  rcases hh with ⟨_, _, kvs, g1, g2, g3, g4⟩ | ⟨_, _, xs, b, g1, rfl, g2, g3, g4⟩
  · rw [ef] at g4
    obtain ⟨z, w', e, rz, rw'⟩ := g4
    exact tail_any g1.typeIs PySem.F.slot_dict_getitem.lookup (wpAny_getItem_of (knd := mixKind X.prog X.w) g2 g1.mapOf e ⟨z, H, I.tok _, rw', hq z rz⟩) hs
  · rw [ef] at g4
    obtain ⟨z, w', e, rz, rw'⟩ := g4
    obtain ⟨pp, e1, e2⟩ := map_some e
    exact tail_any g1.typeIs PySem.F.slot_dict_getitem.lookup (wpAny_getItem_heap gd.room8 g2 g1 e1 (by rw [e2]; exact ⟨z, H, I.tok _, rw', hq z rz⟩)) hs
theorem ok_ix2 {a b : Expr} {pos : Pos} {f g : Loc → Hs → RE} (gd : Good Z lv X W) (ha : PE X a (tE Z W f)) (hb : PE X b (tE Z W g)) (hs : ∀ o i, subscripted b false o i = operate [o, i] (getItem o i)) : PE X (.Subscript a b pos) (tE Z W (binE f g ixV2)) := by
  refine PE.imp (pe_ix (ix_seq.or (ix_dct gd)) ha hb hs) ?_
  rintro σ H Q ⟨m, L, S, sr, hl, hp⟩
  refine ⟨m, L, S, sr, hl, PostE.bind hp fun v S1 H1 m1 x g1 s1 r1 hp1 => ⟨m1, L, S1, s1, hl.grow g1, PostE.bind hp1 fun w S2 H2 m2 y g2 s2 r2 hp2 => ?_⟩⟩
  unfold ixV2 at hp2
  split at hp2
  · rename_i ks vs ed
    split at hp2
    · rename_i hk
      obtain ⟨z, ez, hp2⟩ := okO_post hp2
      exact .inr ⟨m2, S2, v, w, ks, vs, z, s2, r1.grow g2, r2, ed, hk, ez, fun q rq => hp2 H2 m2 q Gr.refl s2 rq⟩
    · exact hp2.elim
  · exact .inl (ix_post gd.K s2 (r1.grow g2) r2 hp2)
/-! ### o[i] = v -/
def setV2 (o i v : PV) (S : Hs) : Option Hs := match o with
  | .loc n => match getR S n with
    | some (.dct ks vs) => if kindOk ks i && decide (ks.length < 16777216) then some (setR S n (.dct (putKs ks i) (putVs ks i vs v))) else none
    | _ => setV o i v S
  | _ => none
def subT2 (fo fi : Loc → Hs → RE) : TgF := fun v L S => match fo L S with
  | .ok o S1 => match fi L S1 with
    | .ok i S2 => match setV2 o i v S2 with
      | some S3 => .nx L S3
      | none => .bad
    | _ => .bad
  | _ => .bad
theorem no_tup_dO (h : H a = some (dO a es)) : ∀ xs, ¬ Rd H a (.tup xs) := no_tup h (fun _ e => by have e' : HO.ext _ = HO.tup _ := e; cases e') fun _ _ e => by have e' : HO.ext _ = HO.frz _ _ := e; cases e'
/-- what a store into a dict asks -/
def rSetDct (Z : Sta) : V → V → V → Hp → (Hp → Prop) → Prop := fun o i v H Q => ∃ m S n q r ks vs, SRel Z H m S ∧ RV Z H m (.loc n) o ∧ RV Z H m q i ∧ RV Z H m r v ∧ getR S n = some (.dct ks vs) ∧ kindOk ks q = true ∧ ks.length < 16777216 ∧
  ∀ H' m', Gr Z H m H' m' → SRel Z H' m' (setR S n (.dct (putKs ks q) (putVs ks q vs r))) → Q H'
theorem cell_put {n : Nat} {i r : PV} (sr : SRel Z H m S) (ea : getR m.l n = some a) (ec : getR S n = some (.dct ks vs)) {es es' : List (Int × V × V)} (hH : H a = some (dO a es))
    (h1 : es'.map (·.1) = (putKs ks i).map (hashK Z)) (h2 : RVs Z H m (putKs ks i) (es'.map (·.2.1))) (h3 : RVs Z H m (putVs ks i vs r) (es'.map (·.2.2))) (h4 : keysB (putKs ks i) = true) :
    Gr Z H m (upd H a (dO a es')) m ∧ SRel Z (upd H a (dO a es')) m (setR S n (.dct (putKs ks i) (putVs ks i vs r))) := by
  have g := Gr.upd (Z := Z) (m := m) (o := dO a es') (getR_mem ea) (no_tup_dO hH)
  exact ⟨g, sr.set ea (no_tup_dO hH) ⟨es', upd_same, h4, h1, h2.grow g, h3.grow g⟩⟩
theorem loc_dct {n : Nat} (sr : SRel Z H m S) (r : RV Z H m (.loc n) x) (ec : getR S n = some (.dct ks vs)) : ∃ a es, x = .ref a ∧ getR m.l n = some a ∧ H a = some (dO a es) ∧ DcR Z H m a es ks vs := by
  unfold RV at r
  obtain ⟨a, ea, rfl⟩ := r
  obtain ⟨b, eb, es, hq, h1, h2, h3, h4⟩ := sr.at_ ec
  rw [ea] at eb
  cases eb
  exact ⟨a, es, rfl, ea, hq, .inl hq, h1, h2, h3, h4⟩
theorem set_dct (gd : Good Z lv X W) : PSet X (rSetDct Z) := by
  intro pins s σ H o i v ov iv u Q I ro ri rv h
  obtain ⟨m, S, n, q, r, ks, vs, sr, rl, rq, rr, ec, hk, hl, hq⟩ := h
  obtain ⟨a, es, rfl, ea, hH, d⟩ := loc_dct sr rl ec
  cases (show ov = Value.ref a from ro)
  obtain ⟨es', h1, h2, h3, h4, hp⟩ := d.put hH I gd.K gd.w hk rq ri rr rv
  obtain ⟨g, s'⟩ := cell_put sr ea ec hH h1 h2 h3 h4
  rcases hp with ⟨_, kvs, p1, p2, p3, p4⟩ | ⟨_, xs, b, p1, rfl, p2, p3, p4⟩
  · refine wpAny_setItem_pairs (knd := mixKind X.prog X.w) (hsz := by rw [p3, sizeLine_eq]; omega) p2 p1 fun h' dd hs => ?_
    exact ⟨_, p4 h' _ dd hs, hq _ m g s'⟩
  · refine wpAny_setItem_heap (hsz := by rw [p3, sizeLine_eq]; omega) gd.room8 p2 p1 fun h' dd hs => ?_
    exact ⟨_, p4 h' _ dd hs, hq _ m g s'⟩
end
end MP
set_option maxRecDepth 100000
namespace MP
open PySem L2 PyProof.Rows
section
variable {Z : Sta} {W : WX} {σ : L2.St} {H H1 H2 : Hp} {m m1 m2 : Mp} {X : Cx} {S : Hs} {x y : V} {a D : Addr} {lv g k f : Nat} {T : Tab} {pins : List (Addr × Obj)} {s : Shared} {Q : VK} {c : CmpT} {es : List (Int × V × V)} {ks vs : List PV}
/-! ### a thing that is being made, out of reach -/
structure MkI (Z : Sta) (H1 : Hp) (m1 : Mp) (D : Addr) (H : Hp) (m : Mp) (S : Hs) : Prop where
  g0 : Gr0 Z H1 m1 H m
  ks : ∀ b o, b ∉ m1.l → H1 b = some o → H b = some o
  eh : m.h = D :: m1.h
  dl : D ∉ m.l
  sr : SRel Z H m S
theorem MkI.start {o : HO} (hD : H1 D = none) (s1 : SRel Z H1 m1 S) : MkI Z H1 m1 D (upd H1 D o) ⟨m1.l, D :: m1.h⟩ S := by
  have g := Gr.new (Z := Z) (m := m1) (o := o) hD
  have gv : GrV Z H1 m1 (upd H1 D o) ⟨m1.l, D :: m1.h⟩ := by
    refine ⟨⟨[], rfl⟩, fun a u hn e => ⟨⟨hn.1, fun h => ?_⟩, g.keep a u hn.1 e⟩, g.g0.tup⟩
    rcases List.mem_cons.mp h with z | z
    · rw [z, hD] at e; cases e
    · exact hn.2 z
  refine ⟨⟨⟨[], rfl, fun _ h => nomatch h⟩, fun b h => ?_, fun b u hb _ e => g.keep b u hb e, g.g0.there, g.g0.tup⟩, fun b u hb e => g.keep b u hb e, rfl, (s1.notin hD).1, ?_⟩
  · rcases List.mem_cons.mp h with z | z
    · exact .inr (by rw [z]; exact hD)
    · exact .inl z
  · refine ⟨paired_map s1.cells fun c' b _ q => q.growV gv fun u e => by rw [upd_ne (ne_of_none e hD)]; exact e, s1.nd, fun b hb => ?_⟩
    rcases List.mem_cons.mp hb with z | z
    · rw [z]; exact ⟨_, upd_same⟩
    · obtain ⟨u, e⟩ := s1.hid b z
      exact ⟨u, by rw [upd_ne (ne_of_none e hD)]; exact e⟩
theorem MkI.grow {S' : Hs} {o : HO} (c : MkI Z H1 m1 D H m S) (hD : H D = some o) (g : Gr Z H m H2 m2) (s' : SRel Z H2 m2 S') : MkI Z H1 m1 D H2 m2 S' ∧ H2 D = some o :=
  ⟨⟨c.g0.trans g.g0, fun b u hb e => g.keep b u (c.g0.memL hb e) (c.ks b u hb e), g.eqh.trans c.eh, g.g0.memL c.dl hD, s'⟩, g.keep D o c.dl hD⟩
theorem MkI.set {o u : HO} (c : MkI Z H1 m1 D H m S) (hD1 : H1 D = none) (hD : H D = some o) (h1 : ∀ xs, ¬ Rd H D (.tup xs)) : MkI Z H1 m1 D (upd H D u) m S ∧ Gr0 Z H m (upd H D u) m := by
  have hm : D ∈ m.h := by rw [c.eh]; exact List.mem_cons_self
  have g := Gr0.updH (Z := Z) (o := u) hm h1
  exact ⟨⟨c.g0.trans g, fun b w hb e => by rw [upd_ne (ne_of_none e hD1)]; exact c.ks b w hb e, c.eh, c.dl, c.sr.updH hm c.dl h1⟩, g⟩
/-- no longer being made: left as it is, for good -/
theorem MkI.done (c : MkI Z H1 m1 D H m S) : Gr Z H1 m1 H ⟨m.l, m1.h⟩ ∧ SRel Z H ⟨m.l, m1.h⟩ S ∧ Gr0 Z H m H ⟨m.l, m1.h⟩ := by
  have gb : Gr0 Z H m H ⟨m.l, m1.h⟩ := ⟨⟨[], rfl, fun _ h => nomatch h⟩, fun a ha => .inl (by rw [c.eh]; exact List.mem_cons_of_mem _ ha), fun _ _ _ _ e => e, fun _ o e => ⟨o, e⟩, fun _ _ q => q⟩
  exact ⟨⟨⟨c.g0.suf, fun _ h => .inl h, fun b o hb _ e => c.ks b o hb e, c.g0.there, c.g0.tup⟩, c.ks, rfl⟩, ⟨paired_map c.sr.cells fun c' b _ q => q.grow0 gb fun _ e => e, c.sr.nd, fun b hb => c.sr.hid b (by rw [c.eh]; exact List.mem_cons_of_mem _ hb)⟩, gb⟩
/-- .. into the store -/
theorem MkI.cell {cl : Cell} (c : MkI Z H1 m1 D H m S) (hD1 : H1 D = none) (r : CRel Z H m cl D) : Gr Z H1 m1 H ⟨D :: m.l, m1.h⟩ ∧ SRel Z H ⟨D :: m.l, m1.h⟩ (cl :: S) := by
  have gp : GrV Z H m H ⟨D :: m.l, m1.h⟩ := by
    refine ⟨⟨[D], rfl⟩, fun a o hn e => ⟨⟨fun h => ?_, fun h => hn.2 (by rw [c.eh]; exact List.mem_cons_of_mem _ h)⟩, e⟩, fun _ _ q => q⟩
    rcases List.mem_cons.mp h with z | z
    · exact hn.2 (by rw [c.eh, z]; exact List.mem_cons_self)
    · exact hn.1 z
  obtain ⟨_, sb, _⟩ := c.done
  refine ⟨⟨⟨?_, fun _ h => .inl h, fun b o hb _ e => c.ks b o hb e, c.g0.there, c.g0.tup⟩, c.ks, rfl⟩, ⟨.cons (r.growV gp fun _ e => e) (paired_map c.sr.cells fun c' b _ q => q.growV gp fun _ e => e), List.nodup_cons.mpr ⟨c.dl, c.sr.nd⟩, sb.hid⟩⟩
  obtain ⟨ms, em, hms⟩ := c.g0.suf
  refine ⟨D :: ms, by rw [em]; rfl, fun a ha => ?_⟩
  rcases List.mem_cons.mp ha with z | z
  · rw [z]; exact hD1
  · exact hms a z
/-! ### dicts that are made -/
def newD (fz : Bool) (ks vs : List PV) (S : Hs) : RE := if fz then .ok (.dct ks vs) S else .ok (.loc S.length) (.dct ks vs :: S)
theorem MkI.dict {fz : Bool} (c : MkI Z H1 m1 D H m S) (hD1 : H1 D = none) (hn : D ∉ m1.h) (hD : H D = some (dO D es)) (h1 : keysB ks = true) (h2 : es.map (·.1) = ks.map (hashK Z)) (h3 : RVs Z H m ks (es.map (·.2.1))) (h4 : RVs Z H m vs (es.map (·.2.2)))
    (hp : PostE Z W σ H1 m1 Q (newD fz ks vs S)) : Q (.ref D) H := by
  cases fz with
  | true =>
    obtain ⟨g, s', gb⟩ := c.done
    refine hp H _ (.ref D) g s' ?_
    unfold RV
    exact ⟨D, es, rfl, .inl ⟨⟨c.dl, hn⟩, hD⟩, h1, h2, h3.grow0 gb, h4.grow0 gb⟩
  | false =>
    obtain ⟨g, s'⟩ := c.cell (cl := .dct ks vs) hD1 ⟨es, hD, h1, h2, h3, h4⟩
    refine hp H _ (.ref D) g s' ?_
    unfold RV
    exact ⟨D, by rw [c.sr.len]; exact getR_top, rfl⟩
theorem dO_nil {P : Program} {w : World} (h : Heap) (hb : sysModules < h.objs.size) : ObjOk P w H (h.push { cls := .type "dict", data := .dict #[] }) h.objs.size (dO h.objs.size []) :=
  dO_ok (beq_eq_false_iff_ne.mpr (Ne.symm (Nat.ne_of_lt hb))) (Heap.get?_push_size _ rfl) ⟨rfl, rfl, rfl⟩ rfl .nil
theorem new_dict (I : L2.Inv X pins σ H s) : L2.Inv X pins σ (upd H s.heap.objs.size (dO s.heap.objs.size [])) { s with heap := s.heap.push { cls := .type "dict", data := .dict #[] } } :=
  I.laid (t' := s.toks) (fun _ _ q => Heap.get?_push_of_some _ q) (Nat.le_refl _) (dO_nil s.heap I.big)
/-- {} -/
def dct0E (fz : Bool) : Loc → Hs → RE := fun _ S => newD fz [] [] S
theorem ok_dct0 {pos : Pos} (fz : Bool) : PE X (.Dict [] [] pos) (tE Z W (dct0E fz)) := by
  refine ⟨fun pins s σ H Q I ⟨m, L, S, sr, hl, hp⟩ => wpAny_Dict_empty ?_⟩
  have hn := I.hok.fresh (Nat.le_refl s.heap.objs.size)
  have c := MkI.start (Z := Z) (o := dO s.heap.objs.size []) hn sr
  exact ⟨.ref s.heap.objs.size, _, new_dict I, rfl, c.dict hn (sr.notin hn).2 upd_same rfl rfl RVs.nil RVs.nil hp⟩
/-- a dict that is being made -/
structure MkD (Z : Sta) (H1 : Hp) (m1 : Mp) (D : Addr) (H : Hp) (m : Mp) (S : Hs) (ks vs : List PV) : Prop where
  mi : MkI Z H1 m1 D H m S
  at_ : ∃ es, H D = some (dO D es) ∧ DcR Z H m D es ks vs
theorem MkD.start (hD : H1 D = none) (s1 : SRel Z H1 m1 S) : MkD Z H1 m1 D (upd H1 D (dO D [])) ⟨m1.l, D :: m1.h⟩ S [] [] :=
  ⟨MkI.start hD s1, [], upd_same, .inl upd_same, rfl, rfl, RVs.nil, RVs.nil⟩
theorem MkD.grow {S' : Hs} (c : MkD Z H1 m1 D H m S ks vs) (g : Gr Z H m H2 m2) (s' : SRel Z H2 m2 S') : MkD Z H1 m1 D H2 m2 S' ks vs := by
  obtain ⟨es, e, d⟩ := c.at_
  obtain ⟨c', e'⟩ := c.mi.grow e g s'
  exact ⟨c', es, e', .inl e', d.kb, d.hs, d.ks.grow g, d.vs.grow g⟩
theorem MkD.end_ {fz : Bool} (c : MkD Z H1 m1 D H m S ks vs) (hD1 : H1 D = none) (hn : D ∉ m1.h) (hp : PostE Z W σ H1 m1 Q (newD fz ks vs S)) : Q (.ref D) H := by
  obtain ⟨es, e, d⟩ := c.at_
  exact c.mi.dict hD1 hn e d.kb d.hs d.ks d.vs hp
/-- D[k] = v while it is being made -/
theorem MkD.put (gd : Good Z lv X W) (c : MkD Z H1 m1 D H m S ks vs) (hD1 : H1 D = none) (I : L2.Inv X pins σ H s) {j v : PV} {u w : Value} (hj : kindOk ks j = true) (hl : ks.length < 16777216) (rj : RV Z H m j y) (ru : RelV y u) (rv : RV Z H m v x) (rw' : RelV x w)
    {R : Unit → Shared → Prop} {E : Value → Shared → Prop} (hR : ∀ H' s', L2.Inv X pins σ H' s' → Gr0 Z H m H' m → MkD Z H1 m1 D H' m S (putKs ks j) (putVs ks j vs v) → R () s') : wpAny (model X.prog X.w) X.A (dictSet D u w) R E s := by
  obtain ⟨es, e, d⟩ := c.at_
  obtain ⟨es', h1, h2, h3, h4, hp⟩ := d.put e I gd.K gd.w hj rj ru rv rw'
  obtain ⟨c', g0⟩ := c.mi.set (u := dO D es') hD1 e (no_tup_dO e)
  have fin : MkD Z H1 m1 D (upd H D (dO D es')) m S (putKs ks j) (putVs ks j vs v) := ⟨c', es', upd_same, .inl upd_same, h4, h1, h2.grow0 g0, h3.grow0 g0⟩
  have room : (nestedKind X.prog X.w).room X.A := by
    have := gd.hu
    show X.A.units + 8 < cLine
    omega
  rcases hp with ⟨_, kvs, p1, p2, p3, p4⟩ | ⟨_, xs, b, p1, rfl, p2, p3, p4⟩
  · exact wpAny_dictSet_pairs (knd := mixKind X.prog X.w) (hsz := by rw [p3, sizeLine_eq]; omega) p2 p1 fun h' dd hs => hR _ _ (p4 h' _ dd hs) g0 fin
  · exact wpAny_dictSet_heap (hsz := by rw [p3, sizeLine_eq]; omega) room p2 p1 fun h' dd hs => hR _ _ (p4 h' _ dd hs) g0 fin
/-! ### displays -/
def putAll : List PV → List PV → List PV → Option (List PV × List PV)
  | k :: v :: r, ks, vs => if kindOk ks k && decide (ks.length < 16777216) then putAll r (putKs ks k) (putVs ks k vs v) else none
  | [], ks, vs => some (ks, vs)
  | _, _, _ => none
def dspE (fz : Bool) (ga : Loc → Hs → RA) : Loc → Hs → RE := fun L S => match ga L S with
  | .ok xs S1 => (match putAll xs [] [] with
    | some (ks, vs) => newD fz ks vs S1
    | none => .bad)
  | _ => .bad
/-- keys and values by turns -/
inductive DspOk (Z : Sta) (X : Cx) (W : WX) : List (Option Expr) → List Expr → (Loc → Hs → RA) → Prop where
  | nil : DspOk Z X W [] [] nilA
  | cons {e v : Expr} {es : List (Option Expr)} {vs : List Expr} {f g : Loc → Hs → RE} {ga : Loc → Hs → RA} : PE X e (tE Z W f) → PE X v (tE Z W g) → DspOk Z X W es vs ga → DspOk Z X W (some e :: es) (v :: vs) (consA f (consA g ga))
def flatV2 : List (Value × Value) → List Value
  | [] => []
  | (a, b) :: r => a :: b :: flatV2 r
theorem consA_ok {f : Loc → Hs → RE} {ga : Loc → Hs → RA} {L : Loc} {zs : List PV} {S Sz : Hs} (e : consA f ga L S = .ok zs Sz) : ∃ v S1 r, f L S = .ok v S1 ∧ ga L S1 = .ok r Sz ∧ zs = v :: r := by
  unfold consA at e
  cases ef : f L S with
  | ok v S1 =>
    rw [ef] at e
    simp only [RE.bindA] at e
    cases eg : ga L S1 with
    | ok r S2 =>
      rw [eg] at e
      simp only [RA.bindA] at e
      cases e
      exact ⟨v, S1, r, rfl, eg, rfl⟩
    | ex _ _ _ => rw [eg] at e; cases e
    | bad => rw [eg] at e; cases e
  | ex _ _ _ => rw [ef] at e; cases e
  | bad => rw [ef] at e; cases e
def DspAt (Z : Sta) (X : Cx) (pins : List (Addr × Obj)) (σ : L2.St) (H : Hp) (m : Mp) (Sz : Hs) (zs : List PV) (vs : List (Value × Value)) (s' : Shared) : Prop :=
  ∃ (H' : Hp) (m' : Mp) (xs : List V), L2.Inv X pins σ H' s' ∧ Gr Z H m H' m' ∧ SRel Z H' m' Sz ∧ RVs Z H' m' zs xs ∧ Vals xs (flatV2 vs)
/-- an expression whose value is known to come -/
theorem run_val {e : Expr} {f : Loc → Hs → RE} {L : Loc} {v : PV} {S1 : Hs} (h : PE X e (tE Z W f)) (I : L2.Inv X pins σ H s) (sr : SRel Z H m S) (hl : LRel Z H m L σ) (ef : f L S = .ok v S1) {R : Value → Shared → Prop}
    (c : ∀ u s' x H' m', L2.Inv X pins σ H' s' → RelV x u → Gr Z H m H' m' → SRel Z H' m' S1 → RV Z H' m' v x → R u s') : wpAny (model X.prog X.w) X.A (eval e X.env) R X.xe s := by
  refine thn (h.run pins s σ H (fun x H' => ∃ m', Gr Z H m H' m' ∧ SRel Z H' m' S1 ∧ RV Z H' m' v x) I ⟨m, L, S, sr, hl, ?_⟩) fun u s' ⟨x, H', I', ru, m', g, s1, r⟩ => c u s' x H' m' I' ru g s1 r
  rw [ef]
  exact fun H' m' x g s1 r => ⟨m', g, s1, r⟩
theorem dsp_run {pos : Pos} {keys : List (Option Expr)} {vals : List Expr} {ga : Loc → Hs → RA} (h : DspOk Z X W keys vals ga) : ∀ {L : Loc} {H : Hp} {m : Mp} {S Sz : Hs} {zs : List PV} {s : Shared}, L2.Inv X pins σ H s → SRel Z H m S → LRel Z H m L σ → ga L S = .ok zs Sz →
    wpAny (model X.prog X.w) X.A (evalPairs (pairTrees keys vals X.env pos)) (DspAt Z X pins σ H m Sz zs) X.xe s := by
  induction h with
  | nil =>
    intro L H m S Sz zs s I sr hl e
    cases e
    exact pairTrees_nil_walk ⟨H, m, [], I, Gr.refl, sr, RVs.nil, .nil⟩
  | @cons e v es vs f g ga h1 h2 h3 ih =>
    intro L H m S Sz zs s I sr hl e
    obtain ⟨v1, S1, r1, e1, e', rfl⟩ := consA_ok e
    obtain ⟨v2, S2, r2, e2, e'', rfl⟩ := consA_ok e'
    refine pairTrees_cons_walk (run_val h1 I sr hl e1 fun u1 s1 x1 H1 m1 I1 q1 g1 sr1 w1 => run_val h2 I1 sr1 (hl.grow g1) e2 fun u2 s2 x2 H2 m2 I2 q2 g2 sr2 w2 => ?_)
    refine thn (ih I2 sr2 ((hl.grow g1).grow g2) e'') fun ws s3 ⟨H3, m3, xs, I3, g3, sr3, r3, v3⟩ => ?_
    exact ⟨H3, m3, x1 :: x2 :: xs, I3, (g1.trans g2).trans g3, sr3, RVs.cons ((w1.grow g2).grow g3) (RVs.cons (w2.grow g3) r3), .cons q1 (.cons q2 v3)⟩
theorem store_all (gd : Good Z lv X W) (hD1 : H1 D = none) {R : PUnit → Shared → Prop} {ks' vs' : List PV} : ∀ {ws : List (Value × Value)} {ps : List PV} {xs : List V} {ks vs : List PV} {H : Hp} {s : Shared}, MkD Z H1 m1 D H m S ks vs → L2.Inv X pins σ H s → RVs Z H m ps xs → Vals xs (flatV2 ws) → putAll ps ks vs = some (ks', vs') →
    (∀ H' s', L2.Inv X pins σ H' s' → MkD Z H1 m1 D H' m S ks' vs' → R PUnit.unit s') → wpAny (model X.prog X.w) X.A (storeAll D ws) R X.xe s
  | [], ps, xs, ks, vs, H, s, c, I, r, v, e, hR => by
    cases v
    cases ps with
    | nil =>
      unfold putAll at e
      cases e
      unfold storeAll
      rw [List.forIn_nil]
      exact wpAny_pure (hR H s I c)
    | cons _ _ => unfold RVs at r; obtain ⟨_, _, e, _⟩ := r; cases e
  | (u1, u2) :: ws, ps, xs, ks, vs, H, s, c, I, r, v, e, hR => by
    cases v with
    | cons v1 v =>
      cases v with
      | cons v2 v =>
        cases ps with
        | nil => unfold RVs at r; cases r
        | cons p1 ps =>
          unfold RVs at r
          obtain ⟨_, _, e1, r1, r⟩ := r
          cases e1
          cases ps with
          | nil => unfold RVs at r; cases r
          | cons p2 ps =>
            unfold RVs at r
            obtain ⟨_, _, e1, r2, r⟩ := r
            cases e1
            unfold putAll at e
            split at e
            · rename_i hk
              rw [Bool.and_eq_true, decide_eq_true_eq] at hk
              unfold storeAll
              rw [List.forIn_cons]
              refine wpAny_bind (wpAny_bind (c.put gd hD1 I hk.1 hk.2 r1 v1 r2 v2 fun H' s' I' g0 c' => wpAny_pure ?_))
              exact store_all gd hD1 c' I' (r.grow0 g0) v e hR
            · cases e
theorem ok_dsp {keys : List (Option Expr)} {vals : List Expr} {ga : Loc → Hs → RA} {pos : Pos} (fz : Bool) (gd : Good Z lv X W) (h : DspOk Z X W keys vals ga) (hall : keys.all (·.isSome) = true) (hl : keys.length = vals.length) (h0 : keys ≠ []) (h15 : keys.length ≤ 15) : PE X (.Dict keys vals pos) (tE Z W (dspE fz ga)) := by
  refine ⟨fun pins s σ H Q I ⟨m, L, S, sr, hlr, hp⟩ => wpAny_Dict_any hall hl h0 h15 ?_⟩
  have hn := I.hok.fresh (Nat.le_refl s.heap.objs.size)
  have I1 := new_dict I
  have c1 := MkD.start (Z := Z) hn sr
  have lr1 : LRel Z (upd H s.heap.objs.size (dO s.heap.objs.size [])) ⟨m.l, s.heap.objs.size :: m.h⟩ L σ := by
    refine ⟨hlr.1, fun i v e => ?_⟩
    obtain ⟨x, ex, r⟩ := hlr.2 i v e
    exact ⟨x, ex, r.grow0 c1.mi.g0⟩
  unfold dspE at hp
  cases eg : ga L S with
  | bad => rw [eg] at hp; exact hp.elim
  | ex _ _ _ => rw [eg] at hp; exact hp.elim
  | ok zs Sz =>
    rw [eg] at hp
    simp only at hp
    cases ep : putAll zs [] [] with
    | none => rw [ep] at hp; exact hp.elim
    | some kv =>
      obtain ⟨ks', vs'⟩ := kv
      rw [ep] at hp
      refine thn (dsp_run h I1 c1.mi.sr lr1 eg) fun ws s2 ⟨H2, m2, xs, I2, g2, sr2, r2, v2⟩ => ?_
      refine store_all gd hn (c1.grow g2 sr2) I2 r2 v2 ep fun H3 s3 I3 c3 => ?_
      exact ⟨.ref s.heap.objs.size, H3, I3, rfl, c3.end_ hn (sr.notin hn).2 hp⟩
end
end MP
set_option maxRecDepth 100000
namespace MP
open PySem L2 PyProof.Rows RZ
section
variable {Z : Sta} {W : WX} {σ : L2.St} {H H1 H2 : Hp} {m m1 m2 : Mp} {X : Cx} {S : Hs} {x y : V} {a b D : Addr} {lv g k f : Nat} {T : Tab} {pins : List (Addr × Obj)} {s : Shared} {Q : VK} {c : CmpT} {p q : PV}
/-! ### what is walked: zip, enumerate -/
theorem seqL_ok {xs : List PV} (sr : SRel Z H m S) (r : RV Z H m p x) (ht : isTup p = false) (h : asQ S p = some xs) : ∃ a ys, x = .ref a ∧ SqL Z.K H a ys ∧ RVs Z H m xs ys := by
  unfold asQ at h
  split at h
  · cases ht
  · cases h
    unfold RV at r
    obtain ⟨a, rfl, hs⟩ := r
    exact ⟨a, _, rfl, hs.sq, RVs.ints⟩
  · obtain ⟨a, ys, rfl, h1, h2⟩ := asL_ok sr r h
    exact ⟨a, ys, rfl, SqL.of h1, h2⟩
theorem seqT_ok {xs : List PV} (r : RV Z H m p x) (ht : isTup p = true) (h : asQ S p = some xs) : ∃ a ys, x = .ref a ∧ SqT Z.K H a ys ∧ RVs Z H m xs ys := by
  cases p <;> first | (cases ht; done) | skip
  cases h
  exact rv_tup r
/-! ### zip of lists and tuples, mixed -/
/-- a list (false) or a tuple (true) -/
def SX (t : Bool) (K : PySem.W.Frag) (H : Hp) (a : Addr) (xs : List V) : Prop := match t with
  | true => SqT K H a xs
  | false => SqL K H a xs
def It1 (t : Bool) (h : Heap) (it l : Addr) (i : Nat) : Prop := match t with
  | true => h.IsTupleIter it l i
  | false => h.IsListIter it l i
def Ls1 (t : Bool) (h : Heap) (l : Addr) (items : Array Value) : Prop := match t with
  | true => h.IsTuple l items
  | false => h.IsList l items
def itO (t : Bool) (l : Addr) : Obj := match t with
  | true => { cls := .type "tuple_iterator", data := .fields #[.ref l, .int 0 0] }
  | false => { cls := .type "list_iterator", data := .fields #[.ref l, .int 0 0] }
theorem It1.new {t : Bool} {h : Heap} {it l : Addr} (e : h.get? it = some (itO t l)) : It1 t h it l 0 := by
  cases t <;> exact ⟨_, e, rfl, rfl⟩
theorem It1.at {t : Bool} {h h' : Heap} {it l : Addr} {i : Nat} (x : It1 t h it l i) (k : ∀ o, h.get? it = some o → h'.get? it = some o) : It1 t h' it l i := by
  cases t <;> exact Exists.elim x fun o z => ⟨o, k o z.1, z.2⟩
theorem It1.obj {t : Bool} {h : Heap} {it l : Addr} {i : Nat} (x : It1 t h it l i) : ∃ o, h.get? it = some o ∧ ∀ v, o.data ≠ .cell v := by
  cases t <;> exact Exists.elim x fun o z => ⟨o, z.1, fun v q => by rw [z.2.2] at q; cases q⟩
theorem begins1 (t : Bool) (l : Addr) (items : Array Value) : Begins (.ref l) (itO t l) fun h => Ls1 t h l items := by
  cases t
  · exact begins_list l items
  · exact begins_tuple l items
theorem draws1 {prog : Program} {w : World} {A : Around} (t : Bool) (hh : A.handled = none) (it l : Addr) (hne : l ≠ it) (items : Array Value) :
    Draws prog w A it [it, l] items.size (fun i v => items[i]? = some v) (fun i h => It1 t h it l i ∧ Ls1 t h l items) := by
  cases t
  · exact Draws.list hh it l hne items
  · exact Draws.tuple hh it l hne items
/-- as it stands, wherever it stands -/
theorem drawsO {prog : Program} {w : World} {A : Around} {h : Heap} {i : Nat} (t : Bool) (hh : A.handled = none) (it l : Addr) (hne : l ≠ it) (items : Array Value) (h1 : It1 t h it l i) (h2 : Ls1 t h l items) :
    ∃ (n : Nat) (P : Nat → Value → Prop) (St : Nat → Heap → Prop), Draws prog w A it [it, l] n P St ∧ St i h ∧ i ≤ n ∧ (items.size ≤ i → i = n) := by
  by_cases hi : items.size ≤ i
  · refine ⟨i, fun _ _ => True, fun j h => j = i ∧ It1 t h it l i ∧ Ls1 t h l items, ⟨fun j h st => ?_, fun j h h' st k => ?_, fun j s Q E hj st => ?_, fun s Q E st hE => ?_⟩, ⟨rfl, h1, h2⟩, Nat.le_refl _, fun _ => rfl⟩
    · obtain ⟨o, ho, _⟩ := st.2.1.obj
      exact ⟨o, ho⟩
    · exact ⟨st.1, st.2.1.at fun o e => k it (by simp) o e, by
        have := st.2.2
        cases t
        · exact (show h.IsList l items from this).at fun o e => k l (by simp) o e
        · exact (show h.IsTuple l items from this).at fun o e => k l (by simp) o e⟩
    · exact absurd st.1 (Nat.ne_of_lt hj)
    · obtain ⟨_, a1, a2⟩ := st
      have hx : items[i]? = none := by simp; omega
      cases t
      · exact wpAny_nextOf_list_end hh a1 a2 hx hE
      · exact wpAny_nextOf_tuple_end hh a1 a2 hx hE
  · exact ⟨_, _, _, draws1 t hh it l hne items, ⟨h1, h2⟩, by omega, fun q => absurd q hi⟩
theorem SX.got {t : Bool} {xs : List V} {E1 : Prop} (I : L2.Inv X pins σ H s) (q : SX t X.K H a xs) : ∃ its : List Value, List.length xs = its.length ∧ (∀ (i : Nat) (x : V), xs[i]? = some x → ∃ u : Value, its[i]? = some u ∧ RelV x u) ∧ Ls1 t s.heap a its.toArray ∧ a < s.heap.objs.size := by
  cases t
  · obtain ⟨its, rv, p, _⟩ := I.list q
    exact ⟨its, rv.length, fun i x h => rv.get h, p.isList, p.lt⟩
  · obtain ⟨its, rv, p, _⟩ := I.tuple q
    obtain ⟨o, ho, _⟩ := id p
    exact ⟨its, rv.length, fun i x h => rv.get h, p, Heap.lt_size ho⟩
theorem SX.inj {t : Bool} {xs ys : List V} (I : L2.Inv X pins σ H s) (p : SX t X.K H a xs) (q : SX t X.K H a ys) : xs = ys := by
  cases t
  · exact I.list_inj p q
  · exact I.tuple_inj p q
def ItzX (K : PySem.W.Frag) (ta tb : Bool) (a b : Addr) : It :=
  ⟨fun i H => ∃ (xs ys : List V) (x y : V), SX ta K H a xs ∧ SX tb K H b ys ∧ xs[i]? = some x ∧ ys[i]? = some y,
    fun i H v H' => ∃ T x y, v = .ref T ∧ H T = none ∧ H' = upd H T (.tup [x, y]) ∧ (∀ xs, SX ta K H a xs → xs[i]? = some x) ∧ ∀ ys, SX tb K H b ys → ys[i]? = some y,
    fun i H => ∃ xs ys : List V, SX ta K H a xs ∧ SX tb K H b ys ∧ (xs.length ≤ i ∨ ys.length ≤ i)⟩
theorem turn_zipX {P : Program} {w : World} {K : PySem.W.Frag} {elts : List Expr} {kk : Nat} {tpos : Pos} {ta tb : Bool} {a b z TI TO i1 i2 : Addr} (D : ZipSep2 z TI TO i1 i2 [i1, a] [i2, b]) (n1 : a ≠ i1) (n2 : b ≠ i2) :
    Turn P w K (.Tuple elts kk tpos) (ItzX K ta tb a b) [z, TI, TO, i1, i2] z (fun i h => IsZip h z TI TO .none ∧ IsTupOf2 h TI (.ref i1) (.ref i2) ∧ (∃ x y, IsTupOf2 h TO x y) ∧ It1 ta h i1 a i ∧ It1 tb h i2 b i) where
  mem := List.mem_cons_self ..
  obj := fun i h ⟨hz, hTI, ⟨x, y, hTO⟩, h1, h2⟩ c hc => by
    have e' : c = z ∨ c = TI ∨ c = TO ∨ c = i1 ∨ c = i2 := by simpa using hc
    rcases e' with rfl | rfl | rfl | rfl | rfl
    · exact ⟨_, hz, fun v q => nomatch q⟩
    · exact ⟨_, hTI, fun v q => nomatch q⟩
    · exact ⟨_, hTO, fun v q => nomatch q⟩
    · exact h1.obj
    · exact h2.obj
  keep := fun i h h' ⟨hz, hTI, ⟨x, y, hTO⟩, h1, h2⟩ k =>
    ⟨k z (by simp) _ hz, k TI (by simp) _ hTI, ⟨x, y, k TO (by simp) _ hTO⟩, h1.at fun o q => k i1 (by simp) o q, h2.at fun o q => k i2 (by simp) o q⟩
  item := fun X hP hw hK hc i pins s σ H E I hf ⟨hz, hTI, ⟨x0, y0, hTO⟩, h1, h2⟩ ⟨xs, ys, x, y, hqx, hqy, hx, hy⟩ => by
    subst hP hw hK
    obtain ⟨its, ln, gt, p, _⟩ := SX.got (E1 := True) I hqx
    obtain ⟨its2, ln2, gt2, p2, _⟩ := SX.got (E1 := True) I hqy
    obtain ⟨u, hu, ru⟩ := gt i x hx
    obtain ⟨u2, hu2, ru2⟩ := gt2 i y hy
    have lt1 : i < its.toArray.size := by rw [List.size_toArray]; exact (List.getElem?_eq_some_iff.mp hu).1
    have lt2 : i < its2.toArray.size := by rw [List.size_toArray]; exact (List.getElem?_eq_some_iff.mp hu2).1
    have hzl : z < s.heap.objs.size := Heap.lt_size hz
    refine wpAny_pyNext_zipD2_item D (draws1 (prog := X.prog) (w := X.w) (A := X.A.in1) ta (I.ok.hd hc) i1 a n1 its.toArray) (draws1 (prog := X.prog) (w := X.w) (A := X.A.in1) tb (I.ok.hd hc) i2 b n2 its2.toArray) hz hTI hTO ⟨h1, p⟩ ⟨h2, p2⟩ lt1 lt2 fun v1 v2 h' tk e1 e2 z' TO' h1' h2' hT hsz hk => ?_
    have e1' : u = v1 := by rw [List.getElem?_toArray, hu] at e1; exact Option.some.inj e1
    have e2' : u2 = v2 := by rw [List.getElem?_toArray, hu2] at e2; exact Option.some.inj e2
    subst e1' e2'
    refine ⟨_, rfl, wpAny_letOwnedTupleGo_zip (s := { s with heap := h', toks := tk }) z' fun h'' z'' sb => ?_⟩
    have hT2 : h''.get? s.heap.objs.size = some { cls := .type "tuple", data := .seq #[u, u2] } := (sb.2 _ (Nat.ne_of_gt hzl)).trans hT
    have nw : ObjOk X.prog X.w (upd H s.heap.objs.size (.tup [x, y])) h'' s.heap.objs.size (.tup [x, y]) :=
      ⟨by show 2 ≤ sizeLine; decide, [u, u2], .cons ru (.cons ru2 .nil), ⟨_, hT2, rfl, _, rfl⟩⟩
    have I1 : L2.Inv X pins σ (upd H s.heap.objs.size (.tup [x, y])) { s with heap := h'', toks := tk } :=
      I.turnedNew (t' := tk) (ch := [z, TI, TO, i1, i2]) (fun c o hb q => by
        simp only [List.mem_cons, List.not_mem_nil, or_false, not_or] at hb
        exact (sb.2 c hb.1).trans (hk c o hb.1 hb.2.2.1 hb.2.2.2.1 hb.2.2.2.2 q)) hf (Nat.le_refl _) nw
    refine ⟨.ref s.heap.objs.size, _, I1, rfl, ⟨_, x, y, rfl, I.hok.fresh (Nat.le_refl _), rfl, fun l hl => by rw [SX.inj I hl hqx]; exact hx, fun l hl => by rw [SX.inj I hl hqy]; exact hy⟩, ⟨z'', (sb.2 _ D.TIz).trans (hk _ _ D.TIz D.TITO D.TIi1 D.TIi2 hTI), ⟨u, u2, (sb.2 _ D.TOz).trans TO'⟩, h1'.1.at fun o q => (sb.2 _ D.zi1.symm).trans q, h2'.1.at fun o q => (sb.2 _ D.zi2.symm).trans q⟩, fun c hcm => ?_⟩
    have hlt : c < s.heap.objs.size := by
      have e' : c = z ∨ c = TI ∨ c = TO ∨ c = i1 ∨ c = i2 := by simpa using hcm
      rcases e' with rfl | rfl | rfl | rfl | rfl
      · exact hzl
      · exact Heap.lt_size hTI
      · exact Heap.lt_size hTO
      · obtain ⟨_, q, _⟩ := h1.obj; exact Heap.lt_size q
      · obtain ⟨_, q, _⟩ := h2.obj; exact Heap.lt_size q
    rw [upd_ne (Nat.ne_of_lt hlt)]
    exact (hf c hcm).1
  done := fun X hP hw hK hc i pins s σ H E I hf ⟨hz, hTI, ⟨x0, y0, hTO⟩, h1, h2⟩ ⟨xs, ys, hqx, hqy, hend⟩ => by
    subst hP hw hK
    obtain ⟨its, ln, gt, p, _⟩ := SX.got (E1 := True) I hqx
    obtain ⟨its2, ln2, gt2, p2, _⟩ := SX.got (E1 := True) I hqy
    obtain ⟨m1, P1, St1, D1, s1, l1, c1⟩ := drawsO (prog := X.prog) (w := X.w) (A := X.A.in1) ta (I.ok.hd hc) i1 a n1 its.toArray h1 p
    obtain ⟨m2, P2, St2, D2, s2, l2, c2⟩ := drawsO (prog := X.prog) (w := X.w) (A := X.A.in1) tb (I.ok.hd hc) i2 b n2 its2.toArray h2 p2
    refine wpAny_pyNext_zipD2_end D D1 D2 hz hTI hTO s1 s2 l1 l2 ?_ fun h' tk hk => ⟨rfl, I.turnedL (t' := tk) (ch := [z, TI, TO, i1, i2]) (fun c o hb q => ?_) hf⟩
    · rcases hend with q | q
      · exact .inl (c1 (by rw [List.size_toArray, ← ln]; exact q))
      · exact .inr (c2 (by rw [List.size_toArray, ← ln2]; exact q))
    · simp only [List.mem_cons, List.not_mem_nil, or_false, not_or] at hb
      exact hk c o hb.1 hb.2.2.1 hb.2.2.2.1 hb.2.2.2.2 q
  self := fun A i s Q E st h => wpAny_pyIter_zip st.1 h
def iZipX (K : PySem.W.Frag) (wa : TA) : TI := fun σ H R => wa σ H fun vs H1 => ∃ ta tb a b xs ys, vs = [.ref a, .ref b] ∧ SX ta K H1 a xs ∧ SX tb K H1 b ys ∧ R (ItzX K ta tb a b) H1
theorem pi_zipX {e e2 : Expr} {wa : TA} {p pos tpos : Pos} {elts : List Expr} {kk : Nat} (hg : Gl X "zip") (hm : X.mg "zip" = none) (ha : PA X [e, e2] wa)
    (hs : starEach [e, e2] X.env = (false, eval e X.env) :: starEach [e2] X.env) (hpl : (backTo pos (starEach [e2] X.env)).any (·.1) = false) :
    PI X (.Tuple elts kk tpos) (.Call (.Name "zip" p) [e, e2] [] pos) (iZipX X.K wa) := by
  refine ⟨fun pins s σ H R I h => ?_⟩
  refine Call_ (ld_blt I hg hm PyProof.Rows.boot_zip (PyProof.Rows.callWith_type1 (thn (ha.run pos pins s σ H _ I h) fun us s1 ⟨vs, H1, I1, r1, q1⟩ => ?_) hs hpl))
  obtain ⟨ta, tb, a, b, xs, ys, rfl, hqx, hqy, q⟩ := q1
  cases r1 with
  | cons r rr =>
    cases rr with
    | cons r' rr =>
      cases rr
      cases r
      cases r'
      obtain ⟨its, _, _, p1, la⟩ := SX.got (E1 := True) I1 hqx
      obtain ⟨its2, _, _, p2, lb⟩ := SX.got (E1 := True) I1 hqy
      refine zip_begins2 (begins1 ta a its.toArray) (begins1 tb b its2.toArray) p1 p2 fun h' hz hTI hTO g1 g2 hsz hk => wpAny_pyIter_zip hz ?_
      have I2 : L2.Inv X pins σ H1 { s1 with heap := h' } := I1.kept (t' := s1.toks) hk
      refine ⟨s1.heap.objs.size + 4, [s1.heap.objs.size + 4, s1.heap.objs.size + 2, s1.heap.objs.size + 3, s1.heap.objs.size, s1.heap.objs.size + 1], _, _, H1, rfl, I2, turn_zipX (zip_sep2 (fun c hc => ?_) (fun c hc => ?_)) (Nat.ne_of_lt la) (Nat.ne_of_lt (Nat.lt_succ_of_lt lb)), ⟨hz, hTI, ⟨_, _, hTO⟩, It1.new g1, It1.new g2⟩, fun c hcm => ?_, q⟩
      · rw [List.mem_singleton.mp hc]; exact la
      · rw [List.mem_singleton.mp hc]; exact lb
      · have hle : s1.heap.objs.size ≤ c := by
          have e' : c = s1.heap.objs.size + 4 ∨ c = s1.heap.objs.size + 2 ∨ c = s1.heap.objs.size + 3 ∨ c = s1.heap.objs.size ∨ c = s1.heap.objs.size + 1 := by simpa using hcm
          rcases e' with rfl | rfl | rfl | rfl | rfl
          · exact Nat.le_add_right _ _
          · exact Nat.le_add_right _ _
          · exact Nat.le_add_right _ _
          · exact Nat.le_refl _
          · exact Nat.le_add_right _ _
        exact I1.fpOk hle (I1.hok.fresh hle)
theorem fetch_zip {i : Nat} {r : Option PV} (h : fetch S i (.zip p q) = some r) : ∃ xs ys, asQ S p = some xs ∧ asQ S q = some ys ∧ ((∃ u w, xs[i]? = some u ∧ ys[i]? = some w ∧ r = some (.tup [u, w])) ∨ ((xs.length ≤ i ∨ ys.length ≤ i) ∧ r = none)) := by
  simp only [fetch] at h
  split at h
  · rename_i xs ex
    split at h
    · rename_i ys ey
      refine ⟨xs, ys, ex, ey, ?_⟩
      split at h
      · rename_i u w e1 e2
        cases h
        exact .inl ⟨u, w, e1, e2, rfl⟩
      · rename_i hne
        cases h
        refine .inr ⟨?_, rfl⟩
        cases e1 : xs[i]? with
        | none => exact .inl (List.getElem?_eq_none_iff.mp e1)
        | some u =>
          cases e2 : ys[i]? with
          | none => exact .inr (List.getElem?_eq_none_iff.mp e2)
          | some w => exact (hne u w e1 e2).elim
    · cases h
  · cases h
theorem pair_new {u w : PV} (sr : SRel Z H m S) (ru : RV Z H m u x) (rw' : RV Z H m w y) {T : Addr} (hn : H T = none) : ∃ m2, Gr Z H m (upd H T (.tup [x, y])) m2 ∧ SRel Z (upd H T (.tup [x, y])) m2 S ∧ RV Z (upd H T (.tup [x, y])) m2 (.tup [u, w]) (.ref T) :=
  ⟨m, Gr.new hn, sr.new hn, to_tup (SqT.of upd_same) (RVs.cons (ru.grow (Gr.new hn)) (RVs.cons (rw'.grow (Gr.new hn)) RVs.nil))⟩
theorem seqX_ok {xs : List PV} (sr : SRel Z H m S) (r : RV Z H m p x) (h : asQ S p = some xs) : ∃ a ys, x = .ref a ∧ SX (isTup p) Z.K H a ys ∧ RVs Z H m xs ys := by
  cases ht : isTup p
  · exact seqL_ok sr r ht h
  · exact seqT_ok r ht h
theorem drel_zipX (rp : RV Z H m p (.ref a)) (rq : RV Z H m q (.ref b)) : DRel Z (.zip p q) (ItzX Z.K (isTup p) (isTup q) a b) H m := by
  intro H1 m1 S1 i g sr
  have rp1 := rp.grow0 g
  have rq1 := rq.grow0 g
  refine ⟨fun v hf => ?_, fun hf => ?_⟩
  · obtain ⟨xs, ys, ex, ey, h | ⟨_, h⟩⟩ := fetch_zip hf
    · obtain ⟨u, w, e1, e2, e⟩ := h
      cases e
      obtain ⟨_, us, ea, h1, r1⟩ := seqX_ok sr rp1 ex
      cases ea
      obtain ⟨_, ws, eb, h2, r2⟩ := seqX_ok sr rq1 ey
      cases eb
      obtain ⟨x', ex', rx'⟩ := r1.get e1
      obtain ⟨y', ey', ry'⟩ := r2.get e2
      refine ⟨⟨us, ws, x', y', h1, h2, ex', ey'⟩, ?_⟩
      rintro x H2 ⟨T, xx, yy, rfl, hT, rfl, k1, k2⟩
      have := k1 us h1
      rw [ex'] at this
      cases this
      have := k2 ws h2
      rw [ey'] at this
      cases this
      exact pair_new sr rx' ry' hT
    · cases h
  · obtain ⟨xs, ys, ex, ey, h | ⟨hl, _⟩⟩ := fetch_zip hf
    · obtain ⟨u, w, e1, e2, e⟩ := h
      cases e
    · obtain ⟨_, us, ea, h1, r1⟩ := seqX_ok sr rp1 ex
      cases ea
      obtain ⟨_, ws, eb, h2, r2⟩ := seqX_ok sr rq1 ey
      cases eb
      exact ⟨us, ws, h1, h2, by rw [← r1.len, ← r2.len]; exact hl⟩
theorem PostI.bindA {R : It → Hp → Prop} {r : RA} {f : List PV → Hs → RI} (h : PostI Z W σ H m R (match r with
    | .ok xs S => f xs S
    | .ex k v S => .ex k v S
    | .bad => .bad)) {R' : List V → Hp → Prop} (c : ∀ xs S H' m' ys, Gr Z H m H' m' → SRel Z H' m' S → RVs Z H' m' xs ys → PostI Z W σ H' m' R (f xs S) → R' ys H') : PostA Z W σ H m R' r := by
  cases r with
  | bad => exact h.elim
  | ex k v S => exact h
  | ok xs S =>
    intro H' m' ys g sr r
    refine c xs S H' m' ys g sr r ?_
    revert h
    simp only
    cases f xs S with
    | ok d S2 => exact fun h H2 m2 J g2 s2 d2 => h H2 m2 J (g.trans g2) s2 d2
    | ex k v S2 => exact fun h => PostX.grow g h
    | bad => exact fun h => h
def zip2I (xs : List PV) (S : Hs) : RI := match xs with
  | [p, q] => if (asQ S p).isSome && (asQ S q).isSome then .ok (.zip p q) S else .bad
  | _ => .bad
def zipI (ga : Loc → Hs → RA) : Loc → Hs → RI := fun L S => match ga L S with
  | .ok xs S1 => zip2I xs S1
  | .ex k v S1 => .ex k v S1
  | .bad => .bad
theorem ok_zip {elts : List Expr} {kk : Nat} {tpos p pos : Pos} {e e2 : Expr} {nm : Str} {ga : Loc → Hs → RA} (gd : Good Z lv X W) (hn : nm = "zip") (hg : Gl X nm) (hm : Z.mg nm = none) (ha : PA X [e, e2] (tA Z W ga))
    (hs : starEach [e, e2] X.env = (false, eval e X.env) :: starEach [e2] X.env) (hpl : (backTo pos (starEach [e2] X.env)).any (·.1) = false) : PI X (.Tuple elts kk tpos) (.Call (.Name nm p) [e, e2] [] pos) (tI Z W (zipI ga)) := by
  subst hn
  refine PI.imp (pi_zipX hg (by rw [gd.mg]; exact hm) ha hs hpl) ?_
  rintro σ H R ⟨m, L, S, sr, hl, hp⟩
  refine ⟨m, L, S, sr, hl, PostI.bindA hp fun xs S1 H1 m1 ys g1 s1 r1 hp1 => ?_⟩
  unfold zip2I at hp1
  split at hp1
  · rename_i u w
    split at hp1
    · rename_i hc
      rw [Bool.and_eq_true] at hc
      obtain ⟨x, y, rfl, ru, rw'⟩ := rvs2 r1
      obtain ⟨xs, ex⟩ := Option.isSome_iff_exists.mp hc.1
      obtain ⟨ys, ey⟩ := Option.isSome_iff_exists.mp hc.2
      obtain ⟨a, us, rfl, h1, _⟩ := seqX_ok s1 ru ex
      obtain ⟨b, ws, rfl, h2, _⟩ := seqX_ok s1 rw' ey
      exact ⟨isTup u, isTup w, a, b, us, ws, rfl, by rw [gd.K]; exact h1, by rw [gd.K]; exact h2, hp1 H1 m1 _ Gr.refl s1 (by rw [gd.K]; exact drel_zipX ru rw')⟩
    · exact hp1.elim
  · exact hp1.elim
theorem fetch_enm {i : Nat} {r : Option PV} (h : fetch S i (.enm p) = some r) : ∃ xs, asQ S p = some xs ∧ ((∃ u, xs[i]? = some u ∧ r = some (.tup [.int i, u])) ∨ (xs.length ≤ i ∧ r = none)) := by
  simp only [fetch] at h
  split at h
  · rename_i xs ex
    refine ⟨xs, ex, ?_⟩
    split at h
    · rename_i u e1
      cases h
      exact .inl ⟨u, e1, rfl⟩
    · rename_i e1
      cases h
      exact .inr ⟨List.getElem?_eq_none_iff.mp e1, rfl⟩
  · cases h
theorem drel_enm (rp : RV Z H m p (.ref a)) (hp : isTup p = false) : DRel Z (.enm p) (Ite Z.K a) H m := by
  intro H1 m1 S1 i g sr
  have rp1 := rp.grow0 g
  refine ⟨fun v hf => ?_, fun hf => ?_⟩
  · obtain ⟨xs, ex, h | ⟨_, h⟩⟩ := fetch_enm hf
    · obtain ⟨u, e1, e⟩ := h
      cases e
      obtain ⟨_, us, ea, h1, r1⟩ := seqL_ok sr rp1 hp ex
      cases ea
      obtain ⟨x', ex', rx'⟩ := r1.get e1
      refine ⟨⟨us, x', h1, ex'⟩, ?_⟩
      rintro x H2 ⟨T, xx, rfl, hT, rfl, k1⟩
      have := k1 us h1
      rw [ex'] at this
      cases this
      exact pair_new sr to_int rx' hT
    · cases h
  · obtain ⟨xs, ex, h | ⟨hl, _⟩⟩ := fetch_enm hf
    · obtain ⟨u, e1, e⟩ := h
      cases e
    · obtain ⟨_, us, ea, h1, r1⟩ := seqL_ok sr rp1 hp ex
      cases ea
      exact ⟨us, h1, by rw [← r1.len]; exact hl⟩
def enm1I (xs : List PV) (S : Hs) : RI := match xs with
  | [p] => if !isTup p && (asQ S p).isSome then .ok (.enm p) S else .bad
  | _ => .bad
def enmI (ga : Loc → Hs → RA) : Loc → Hs → RI := fun L S => match ga L S with
  | .ok xs S1 => enm1I xs S1
  | .ex k v S1 => .ex k v S1
  | .bad => .bad
theorem ok_enm {elts : List Expr} {kk : Nat} {tpos p pos : Pos} {e : Expr} {nm : Str} {ga : Loc → Hs → RA} (gd : Good Z lv X W) (hn : nm = "enumerate") (hg : Gl X nm) (hm : Z.mg nm = none) (ha : PA X [e] (tA Z W ga))
    (hs : starEach [e] X.env = [(false, eval e X.env)]) : PI X (.Tuple elts kk tpos) (.Call (.Name nm p) [e] [] pos) (tI Z W (enmI ga)) := by
  subst hn
  refine PI.imp (pi_enum hg (by rw [gd.mg]; exact hm) ha hs) ?_
  rintro σ H R ⟨m, L, S, sr, hl, hp⟩
  refine ⟨m, L, S, sr, hl, PostI.bindA hp fun xs S1 H1 m1 ys g1 s1 r1 hp1 => ?_⟩
  unfold enm1I at hp1
  split at hp1
  · rename_i u
    split at hp1
    · rename_i hc
      rw [Bool.and_eq_true, Bool.not_eq_true'] at hc
      obtain ⟨x, rfl, ru⟩ := rvs1 r1
      obtain ⟨xs, ex⟩ := Option.isSome_iff_exists.mp hc.2
      obtain ⟨a, us, rfl, h1, _⟩ := seqL_ok s1 ru hc.1 ex
      exact ⟨a, us, rfl, by rw [gd.K]; exact h1, hp1 H1 m1 _ Gr.refl s1 (by rw [gd.K]; exact drel_enm ru hc.1)⟩
    · exact hp1.elim
  · exact hp1.elim
end
end MP
set_option maxRecDepth 100000
namespace MP
open PySem L2 PyProof.Rows
section
variable {Z : Sta} {W : WX} {σ : L2.St} {H H1 H2 : Hp} {m m1 m2 : Mp} {X : Cx} {S : Hs} {x y : V} {a b : Addr} {lv g k f : Nat} {T : Tab} {pins : List (Addr × Obj)} {s : Shared} {Q : VK} {c : CmpT} {p q : PV}
/-! ### match -/
def caseS (v c : PV) (b g : Loc → Hs → RS) : Loc → Hs → RS := fun L S => match eqV v c S with
  | .ok (.bl true) _ => b L S
  | .ok (.bl false) _ => g L S
  | _ => .bad
def matS (f : Loc → Hs → RE) (cs : PV → Loc → Hs → RS) : Loc → Hs → RS := fun L S => (f L S).bindS L fun v S1 => cs v L S1
inductive CasesOk (Z : Sta) (X : Cx) (W : WX) : List MatchCase → (PV → Loc → Hs → RS) → Prop where
  | nil : CasesOk Z X W [] (fun _ => nilS)
  | dflt {p : Pos} {body : List Stmt} {b : Loc → Hs → RS} {rest : List MatchCase} : PSs X body (tS Z W b) → CasesOk Z X W (⟨.MatchAs none none p, none, body⟩ :: rest) (fun _ => b)
  | cons {e : Expr} {p : Pos} {body : List Stmt} {c : PV} {b : Loc → Hs → RS} {g : PV → Loc → Hs → RS} {rest : List MatchCase} : PE X e (tE Z W (conE c)) → PSs X body (tS Z W b) → CasesOk Z X W rest g →
      CasesOk Z X W (⟨.MatchValue e p, none, body⟩ :: rest) (fun v => caseS v c b (g v))
theorem eqV_st {v c : PV} {r : RE} (h : eqV v c S = r) : r = .bad ∨ ∃ b, r = .ok (.bl b) S := by
  subst h
  unfold eqV
  split
  · exact .inr ⟨_, rfl⟩
  · exact .inl rfl
theorem cases_run (gd : Good Z lv X W) {cs : List MatchCase} {g : PV → Loc → Hs → RS} (h : CasesOk Z X W cs g) : ∀ {s : Shared} {H : Hp} {m : Mp} {L : Loc} {S : Hs} {v : Value} {D : Ends} {first : Bool}, L2.Inv X pins σ H s → SRel Z H m S → LRel Z H m L σ → RV Z H m p x → RelV x v → PostS Z W D H m (g p L S) →
    wpAny (model X.prog X.w) X.A (matchCases cs X.env v first) (SP X pins D) X.xe s := by
  induction h with
  | nil =>
    intro s H m L S v D first I sr hl rp rv hp
    exact wpAny_matchCases_nil ⟨σ, H, I, hp H m σ Gr.refl sr hl⟩
  | dflt hb =>
    intro s H m L S v D first I sr hl rp rv hp
    refine wpAny_matchCases_cons (wpAny_matchPattern_Capture ?_)
    refine wpAny_assignInOrder_none ?_
    exact hb.run pins s σ H D I ⟨m, L, S, sr, hl, hp⟩
  | @cons e pp body c b g rest he hb hr ih =>
    intro s H m L S v D first I sr hl rp rv hp
    refine wpAny_matchCases_cons (wpAny_matchPattern_Value ?_)
    refine run_val he I sr hl rfl fun u s1 y H1 m1 I1 ru g1 sr1 rc => ?_
    have hp1 := PostS.grow g1 hp
    have rp1 := rp.grow g1
    have hl1 := hl.grow g1
    replace hp1 : PostS Z W D H1 m1 (caseS p c b (g p) L S) := hp1
    unfold caseS at hp1
    rcases eqV_st (S := S) (v := p) (c := c) rfl with e | ⟨k, e⟩
    · rw [e] at hp1; exact hp1.elim
    · rw [e] at hp1
      refine thn ((eq_ok (W := W) gd.K (by have := gd.hu; omega)) pins s1 σ H1 x y v u m1 S p c (fun z H' => z = .bl k ∧ ∃ m', Gr Z H1 m1 H' m' ∧ SRel Z H' m' S) I1 rv ru sr1 rp1 rc ?_) fun w s2 ⟨z, H', I2, rz, ez, m', g2, sr2⟩ => ?_
      · rw [e]
        exact fun H2 m2 z g2 s2 r2 => ⟨rv_bl r2, m2, g2, s2⟩
      · subst ez
        cases rz
        refine wpAny_truthy_bool ?_
        cases k with
        | true =>
          refine wpAny_assignInOrder_none ?_
          exact hb.run pins s2 σ _ D I2 ⟨m', L, S, sr2, hl1.grow g2, PostS.grow g2 hp1⟩
        | false => exact ih I2 sr2 (hl1.grow g2) (rp1.grow g2) rv (PostS.grow g2 hp1)
theorem ok_match {e : Expr} {cs : List MatchCase} {pos : Pos} {f : Loc → Hs → RE} {g : PV → Loc → Hs → RS} (gd : Good Z lv X W) (he : PE X e (tE Z W f)) (hc : CasesOk Z X W cs g) : PS X (.Match e cs pos) (tS Z W (matS f g)) := by
  refine ⟨fun pins s σ H D I ⟨m, L, S, sr, hl, hp⟩ => wpAny_Match ?_⟩
  refine thn (he.run pins s σ H (fun x H' => ∃ m' S' v, Gr Z H m H' m' ∧ SRel Z H' m' S' ∧ RV Z H' m' v x ∧ PostS Z W D H' m' (g v L S')) I ⟨m, L, S, sr, hl, ?_⟩) fun u s1 ⟨x, H1, I1, ru, m1, S1, v, g1, sr1, r1, hp1⟩ => ?_
  · exact PostE.bindS hl hp fun v S1 H1 m1 x g1 s1 r1 hp1 => ⟨m1, S1, v, g1, s1, r1, hp1⟩
  · exact cases_run gd hc I1 sr1 (hl.grow g1) r1 ru hp1
end
end MP
set_option maxRecDepth 100000
namespace MP
open PySem L2 PyProof.Rows
/-! ### comprehensions of two clauses -/
def lcIn (d : Desc) (L0 : Loc) (tgt : TgF) (cond : Loc → Hs → RB) (elt : Loc → Hs → RE) : Nat → Nat → Nat → List PV → Hs → Option (Nat × List PV × Hs)
  | 0, _, _, _, _ => none
  | fuel + 1, j, n, acc, S => match fetch S j d with
    | none => none
    | some none => some (n, acc, S)
    | some (some v) => match tgt v L0 S with
      | .nx L2 S2 => match cond L2 S2 with
        | .ok true S3 => match elt L2 S3 with
          | .ok y S4 => if n < 16777216 then lcIn d L0 tgt cond elt fuel (j + 1) (n + 1) (y :: acc) S4 else none
          | _ => none
        | .ok false S3 => lcIn d L0 tgt cond elt fuel (j + 1) n acc S3
        | _ => none
      | _ => none
def lcOut (d : Desc) (L0 : Loc) (own1 : List Nat) (tgt : TgF) (cond : Loc → Hs → RB) (src1 : Loc → Hs → RI) (tgt1 : TgF) (cond1 : Loc → Hs → RB) (elt : Loc → Hs → RE) : Nat → Nat → Nat → List PV → Hs → Option (List PV × Hs)
  | 0, _, _, _, _ => none
  | fuel + 1, i, n, acc, S => match fetch S i d with
    | none => none
    | some none => some (acc, S)
    | some (some v) => match tgt v L0 S with
      | .nx L2 S2 => match cond L2 S2 with
        | .ok true S3 => match src1 L2 S3 with
          | .ok d1 S4 => match lcIn d1 (wipeL L2 own1) tgt1 cond1 elt turns 0 n acc S4 with
            | some (n', acc', S5) => lcOut d L0 own1 tgt cond src1 tgt1 cond1 elt fuel (i + 1) n' acc' S5
            | none => none
          | _ => none
        | .ok false S3 => lcOut d L0 own1 tgt cond src1 tgt1 cond1 elt fuel (i + 1) n acc S3
        | _ => none
      | _ => none
def lc2E (fz : Bool) (own own1 : List Nat) (src : Loc → Hs → RI) (tgt : TgF) (cond : Loc → Hs → RB) (src1 : Loc → Hs → RI) (tgt1 : TgF) (cond1 : Loc → Hs → RB) (elt : Loc → Hs → RE) : Loc → Hs → RE := fun L S => match src L S with
  | .ok d S1 => lcEnd fz (lcOut d (wipeL L own) own1 tgt cond src1 tgt1 cond1 elt turns 0 0 [] S1)
  | .ex k v S1 => .ex k v S1
  | .bad => .bad
section
variable {Z : Sta} {W : WX} {σ : L2.St} {H H1 H2 : Hp} {m m1 m2 : Mp} {X : Cx} {S : Hs} {x y : V} {a D : Addr} {lv : Nat} {pins : List (Addr × Obj)} {s : Shared} {Q : VK}
theorem LRel.grow0 {L : Loc} (g : Gr0 Z H m H1 m1) (h : LRel Z H m L σ) : LRel Z H1 m1 L σ := ⟨h.1, fun i v e => let ⟨x, ex, r⟩ := h.2 i v e; ⟨x, ex, r.grow0 g⟩⟩
/-- one clause, read while D is made: K is what is asked behind it -/
theorem in_read {own T : List Nat} {tgt : TgF} {cond : Loc → Hs → RB} {elt : Loc → Hs → RE} {d : Desc} {J : It} {Nx : Hp → Prop} {L : Loc} {n : Nat} {acc : List PV} (hT : ∀ i ∈ T, i ∈ own) (hD : H1 D = none)
    (c : LcI Z H1 m1 D H m S n acc) (hl : LRel Z H m L σ) (dr : DRel Z d J H m) {r : Nat × List PV × Hs} (hr : lcIn d (wipeL L own) tgt cond elt turns 0 n acc S = some r)
    (hN : ∀ H' m', LcI Z H1 m1 D H' m' r.2.2 r.1 r.2.1 → Nx H') :
    ∃ W1 : Nat → Nat → Hp → Prop, (∃ m, W1 0 m H) ∧ ∀ j k H, W1 j k H →
      (J.stop j H ∧ Nx H) ∨ (J.go j H ∧ ∃ Nx1 : Hp → Prop, (∀ H', Nx1 H' → ∃ k', k' < k ∧ W1 (j + 1) k' H') ∧ ∀ x H', J.yld j H x H' → tG Z T tgt x (L2.wipe σ own) H' fun σ3 H5 => L2.wipe σ3 own = L2.wipe σ own ∧ tB Z W0 cond σ3 H5 fun b H6 =>
        if b = true then tE Z W0 elt σ3 H6 fun y H7 => ∃ acc, H7 D = some (.lst acc) ∧ acc.length < sizeLine ∧ Nx1 (upd H7 D (.lst (acc ++ [y]))) else Nx1 H6) := by
  have hl1 := hl.wipe own
  refine ⟨fun j k H' => ∃ m' S' n' acc', LcI Z H1 m1 D H' m' S' n' acc' ∧ Gr0 Z H m H' m' ∧ lcIn d (wipeL L own) tgt cond elt k j n' acc' S' = some r, ⟨turns, m, S, n, acc, c, Gr0.refl, hr⟩, ?_⟩
  rintro j k H' ⟨m', S', n', acc', c', g', hk⟩
  cases k with
  | zero => cases hk
  | succ k =>
    rw [lcIn] at hk
    have dr' := dr H' m' S' j g' c'.sr
    cases ef : fetch S' j d with
    | none => rw [ef] at hk; cases hk
    | some q =>
      cases q with
      | none =>
        rw [ef] at hk
        cases hk
        exact .inl ⟨dr'.2 ef, hN H' m' c'⟩
      | some v =>
        rw [ef] at hk
        obtain ⟨hgo, hy⟩ := dr'.1 v ef
        refine .inr ⟨hgo, fun H2 => ∃ m2 S2 n2 acc2, LcI Z H1 m1 D H2 m2 S2 n2 acc2 ∧ Gr0 Z H m H2 m2 ∧ lcIn d (wipeL L own) tgt cond elt k (j + 1) n2 acc2 S2 = some r, fun H2 h2 => ⟨k, Nat.lt_succ_self _, h2⟩, fun x H2 hyx => ?_⟩
        obtain ⟨m2, g2, s2, r2⟩ := hy x H2 hyx
        have c2 := c'.grow g2 s2
        refine ⟨m2, wipeL L own, S', v, s2, hl1.grow0 (g'.trans g2.g0), r2, ?_⟩
        simp only at hk
        cases et : tgt v (wipeL L own) S' with
        | nx L3 S3 =>
          rw [et] at hk
          simp only at hk
          intro H3 m3 σ3 g3 s3 l3 o3
          refine ⟨wipe_out o3 hT, m3, L3, S3, s3, l3, ?_⟩
          have c3 := c2.grow g3 s3
          cases ec : cond L3 S3 with
          | ok b S4 =>
            rw [ec] at hk
            intro H4 m4 g4 s4
            have c4 := c3.grow g4 s4
            have gg := ((g'.trans g2.g0).trans g3.g0).trans g4.g0
            cases b with
            | true =>
              rw [if_pos rfl]
              simp only at hk
              refine ⟨m4, L3, S4, s4, l3.grow g4, ?_⟩
              cases ee : elt L3 S4 with
              | ok y S5 =>
                rw [ee] at hk
                simp only at hk
                intro H5 m5 yv g5 s5 r5
                have c5 := c4.grow g5 s5
                split at hk
                · rename_i hi
                  obtain ⟨ys, hD5, hlen, c6⟩ := c5.more hD r5
                  have hm : D ∈ m5.h := by rw [c5.eh]; exact List.mem_cons_self
                  exact ⟨ys, hD5, by rw [hlen, sizeLine_eq]; exact Nat.lt_of_le_of_lt c5.le hi, m5, S5, n' + 1, y :: acc', c6, (gg.trans g5.g0).trans (Gr0.updH hm (no_tup_lst hD5)), hk⟩
                · cases hk
              | ex k' v' S' => rw [ee] at hk; cases hk
              | bad => rw [ee] at hk; cases hk
            | false =>
              rw [if_neg Bool.false_ne_true]
              simp only at hk
              exact ⟨m4, S4, n', acc', c4, gg, hk⟩
          | ex k' v' S' => rw [ec] at hk; cases hk
          | bad => rw [ec] at hk; cases hk
        | rt _ _ => rw [et] at hk; cases hk
        | bk _ _ => rw [et] at hk; cases hk
        | ct _ _ => rw [et] at hk; cases hk
        | ex _ _ _ _ => rw [et] at hk; cases hk
        | bad => rw [et] at hk; cases hk
theorem lc2_read {fz : Bool} {own own1 T T1 : List Nat} {tgt tgt1 : TgF} {cond cond1 : Loc → Hs → RB} {elt : Loc → Hs → RE} {src src1 : Loc → Hs → RI} (hT : ∀ i ∈ T, i ∈ own) (hT1 : ∀ i ∈ T1, i ∈ own1)
    (h : tE Z W (lc2E fz own own1 src tgt cond src1 tgt1 cond1 elt) σ H Q) : tLc2 (tI Z W src) (tG Z T tgt) (tB Z W0 cond) (tI Z W0 src1) (tG Z T1 tgt1) (tB Z W0 cond1) (tE Z W0 elt) own own1 σ H Q := by
  obtain ⟨m, L, S, sr, hl, hp⟩ := h
  refine ⟨m, L, S, sr, hl, PostI.bind hp fun d S1 H1 m1 J g1 s1 dr hp1 => ?_⟩
  intro D hD
  have hl1 : LRel Z H1 m1 (wipeL L own) (L2.wipe σ own) := (hl.grow g1).wipe own
  refine ⟨fun i k H' => ∃ m' S' n acc, LcI Z H1 m1 D H' m' S' n acc ∧ PostE Z W σ H1 m1 Q (lcEnd fz (lcOut d (wipeL L own) own1 tgt cond src1 tgt1 cond1 elt k i n acc S')), ⟨turns, ⟨m1.l, D :: m1.h⟩, S1, 0, [], ?_, hp1⟩, ?_⟩
  · have c := MkI.start (Z := Z) (o := .lst []) hD s1
    exact ⟨c.g0, c.ks, c.eh, c.dl, c.sr, ⟨[], upd_same, RVs.nil⟩, Nat.le_refl _⟩
  · rintro i k H' ⟨m', S', n, acc, c, hk⟩
    cases k with
    | zero => exact hk.elim
    | succ k =>
      rw [lcOut] at hk
      have dr' := dr H' m' S' i c.g0 c.sr
      cases ef : fetch S' i d with
      | none => rw [ef] at hk; exact hk.elim
      | some r =>
        cases r with
        | none =>
          rw [ef] at hk
          exact .inl ⟨dr'.2 ef, c.done hD (s1.notin hD).2 hk⟩
        | some v =>
          rw [ef] at hk
          obtain ⟨hgo, hy⟩ := dr'.1 v ef
          refine .inr ⟨hgo, fun H2 => ∃ m' S' n acc, LcI Z H1 m1 D H2 m' S' n acc ∧ PostE Z W σ H1 m1 Q (lcEnd fz (lcOut d (wipeL L own) own1 tgt cond src1 tgt1 cond1 elt k (i + 1) n acc S')), fun H2 h2 => ⟨k, Nat.lt_succ_self _, h2⟩, fun x H2 hyx => ?_⟩
          obtain ⟨m2, g2, s2, r2⟩ := hy x H2 hyx
          have c2 := c.grow g2 s2
          refine ⟨m2, wipeL L own, S', v, s2, hl1.grow0 c2.g0, r2, ?_⟩
          simp only at hk
          cases et : tgt v (wipeL L own) S' with
          | nx L3 S3 =>
            rw [et] at hk
            simp only at hk
            intro H3 m3 σ3 g3 s3 l3 o3
            refine ⟨wipe_out o3 hT, m3, L3, S3, s3, l3, ?_⟩
            have c3 := c2.grow g3 s3
            cases ec : cond L3 S3 with
            | ok b S4 =>
              rw [ec] at hk
              intro H4 m4 g4 s4
              have c4 := c3.grow g4 s4
              cases b with
              | true =>
                rw [if_pos rfl]
                simp only at hk
                refine ⟨m4, L3, S4, s4, l3.grow g4, ?_⟩
                cases es : src1 L3 S4 with
                | ok d1 S5 =>
                  rw [es] at hk
                  simp only at hk
                  intro H5 m5 J1 g5 s5 dr5
                  have c5 := c4.grow g5 s5
                  cases er : lcIn d1 (wipeL L3 own1) tgt1 cond1 elt turns 0 n acc S5 with
                  | none => rw [er] at hk; exact hk.elim
                  | some r =>
                    obtain ⟨n', acc', S6⟩ := r
                    rw [er] at hk
                    exact in_read hT1 hD c5 ((l3.grow g4).grow g5) dr5 er fun H6 m6 c6 => ⟨m6, S6, n', acc', c6, hk⟩
                | ex k' v' S' => rw [es] at hk; exact hk.elim
                | bad => rw [es] at hk; exact hk.elim
              | false =>
                rw [if_neg Bool.false_ne_true]
                simp only at hk
                exact ⟨m4, S4, n, acc, c4, hk⟩
            | ex k' v' S' => rw [ec] at hk; exact hk.elim
            | bad => rw [ec] at hk; exact hk.elim
          | rt _ _ => rw [et] at hk; exact hk.elim
          | bk _ _ => rw [et] at hk; exact hk.elim
          | ct _ _ => rw [et] at hk; exact hk.elim
          | ex _ _ _ _ => rw [et] at hk; exact hk.elim
          | bad => rw [et] at hk; exact hk.elim
variable {N : List Str} {sc : Scope} {vs ls : List Nat} {gs : List Str}
theorem ok_lc2 {elt tg iter tg1 iter1 : Expr} {ifs ifs1 : List Expr} {scope : Scope} {pos : Pos} {fz : Bool} {src src1 : Loc → Hs → RI} {tgt tgt1 : TgF} {cond cond1 : Loc → Hs → RB} {fe : Loc → Hs → RE} {T' T1 : List Nat} {vs' ls' : List Nat} {gs' : List Str} (own : List (Str × Nat)) (own1 : List Nat) (gd : Good Z lv X W) (D : DefX X N sc vs ls gs)
    (hi : PI X tg iter (tI Z W src)) (hc : blkAll N sc scope own vs' ls' gs' = true) (hT : T'.all (fun i => (own.map (·.2)).contains i) = true) (hT1 : T1.all (fun i => own1.contains i) = true) (ho : own1.all (fun i => (own.map (·.2)).contains i) = true)
    (hb : ∀ Xb, Good Z lv Xb W0 → DefX Xb N (relS scope sc) vs' ls' gs' → PG Xb tg (tG Z T' tgt) ∧ PTs Xb ifs (tB Z W0 cond) ∧ PI Xb tg1 iter1 (tI Z W0 src1) ∧ PG Xb tg1 (tG Z T1 tgt1) ∧ PTs Xb ifs1 (tB Z W0 cond1) ∧ PE Xb elt (tE Z W0 fe))
    (hs : ∀ x, foldedSetIterable iter X.env x = pure x) (hs1 : ∀ env x, foldedSetIterable iter1 env x = pure x) :
    PE X (.ListComp elt [⟨tg, iter, ifs, 0⟩, ⟨tg1, iter1, ifs1, 0⟩] scope pos) (tE Z W (lc2E fz (own.map (·.2)) own1 src tgt cond src1 tgt1 cond1 fe)) := by
  unfold blkAll at hc
  rw [Bool.and_eq_true, Bool.and_eq_true] at hc
  have ok : BlkOk X.N X.env.scope scope own := by rw [D.eN, D.esc]; exact blkOk_by hc.1
  have DB : ∀ (s : Shared) (H : Hp) (C : Addr) (cl : List (Str × Addr)) (fp : List Addr), DefX (X.blk s H scope (compEnvC scope cl C X.env) fp) N (relS scope sc) vs' ls' gs' := fun s H C cl fp => ⟨D.eN, by rw [← D.esc]; rfl, hc.2.1, blk_fnc hc.2.2 (by rw [← D.esc]; rfl)⟩
  have B := fun s H C cl fp => hb _ gd.blk (DB s H C cl fp)
  exact PE.imp (pe_lc2 gd.calm gd.nd hi ok (fun i hi' => by simpa using List.all_eq_true.mp ho i hi') (fun s H C cl fp => (B s H C cl fp).1) (fun s H C cl fp => (B s H C cl fp).2.1) (fun s H C cl fp => (B s H C cl fp).2.2.1) (fun s H C cl fp => (B s H C cl fp).2.2.2.1)
    (fun s H C cl fp => (B s H C cl fp).2.2.2.2.1) (fun s H C cl fp => (B s H C cl fp).2.2.2.2.2) hs hs1)
    fun σ H Q h => lc2_read (fun i hi' => by simpa using List.all_eq_true.mp hT i hi') (fun i hi' => by simpa using List.all_eq_true.mp hT1 i hi') h
theorem ok_setLc2 {i : Nat} {nm : Str} {py spos : Pos} {elt tg iter tg1 iter1 : Expr} {ifs ifs1 : List Expr} {scope : Scope} {pos : Pos} {fz : Bool} {src src1 : Loc → Hs → RI} {tgt tgt1 : TgF} {cond cond1 : Loc → Hs → RB} {fe : Loc → Hs → RE} {T' T1 : List Nat} {vs' ls' : List Nat} {gs' : List Str} (own : List (Str × Nat)) (own1 : List Nat) (gd : Good Z lv X W) (D : DefX X N sc vs ls gs)
    (hv : ls.contains i = true) (hN : N[i]? = some nm) (hloc : sc.names.lookup nm = some .local) (hk : sc.kind = .function) (hl : (py.line == pos.line) = true) (ha : (scope.names.any fun (n, k) => n == nm && (k == .local || k == .cell)) = false)
    (hi : PI X tg iter (tI Z W src)) (hc : blkAll N sc scope own vs' ls' gs' = true) (hT : T'.all (fun i => (own.map (·.2)).contains i) = true) (hT1 : T1.all (fun i => own1.contains i) = true) (ho : own1.all (fun i => (own.map (·.2)).contains i) = true)
    (hb : ∀ Xb, Good Z lv Xb W0 → DefX Xb N (relS scope sc) vs' ls' gs' → PG Xb tg (tG Z T' tgt) ∧ PTs Xb ifs (tB Z W0 cond) ∧ PI Xb tg1 iter1 (tI Z W0 src1) ∧ PG Xb tg1 (tG Z T1 tgt1) ∧ PTs Xb ifs1 (tB Z W0 cond1) ∧ PE Xb elt (tE Z W0 fe))
    (hs : ∀ x, foldedSetIterable iter X.env x = pure x) (hs1 : ∀ env x, foldedSetIterable iter1 env x = pure x) :
    PS X (.Assign [.Name nm py] (.ListComp elt [⟨tg, iter, ifs, 0⟩, ⟨tg1, iter1, ifs1, 0⟩] scope pos) spos) (tS Z W (asgS (lc2E fz (own.map (·.2)) own1 src tgt cond src1 tgt1 cond1 fe) (nameT i))) := by
  unfold blkAll at hc
  rw [Bool.and_eq_true, Bool.and_eq_true] at hc
  have ok : BlkOk X.N X.env.scope scope own := by rw [D.eN, D.esc]; exact blkOk_by hc.1
  have DB : ∀ (s : Shared) (H : Hp) (C : Addr) (cl : List (Str × Addr)) (fp : List Addr), DefX (X.blk s H scope (compEnvC scope cl C X.env) fp) N (relS scope sc) vs' ls' gs' := fun s H C cl fp => ⟨D.eN, by rw [← D.esc]; rfl, hc.2.1, blk_fnc hc.2.2 (by rw [← D.esc]; rfl)⟩
  have h1 := (D_loc D i hv hN).1
  have h2 : X.env.scope.names.lookup nm = some .local := by rw [D.esc]; exact hloc
  have B := fun s H C cl fp => hb _ gd.blk (DB s H C cl fp)
  refine PS.imp (ps_setLc2 gd.calm gd.nd h1 h2 (sw_true (by rw [D.esc]; exact hk) h2 hl ha) hi ok (fun i hi' => by simpa using List.all_eq_true.mp ho i hi') (fun s H C cl fp => (B s H C cl fp).1) (fun s H C cl fp => (B s H C cl fp).2.1) (fun s H C cl fp => (B s H C cl fp).2.2.1) (fun s H C cl fp => (B s H C cl fp).2.2.2.1)
    (fun s H C cl fp => (B s H C cl fp).2.2.2.2.1) (fun s H C cl fp => (B s H C cl fp).2.2.2.2.2) hs hs1) ?_
  rintro D' σ H ⟨m, L, S, sr, hl', hp⟩
  refine lc2_read (fun i hi' => by simpa using List.all_eq_true.mp hT i hi') (fun i hi' => by simpa using List.all_eq_true.mp hT1 i hi') ⟨m, L, S, sr, hl', PostE.bindS hl' hp fun v S1 H1 m1 x g1 s1 r1 hp1 => ?_⟩
  exact hp1 H1 m1 _ Gr.refl s1 ((hl'.grow g1).set r1)
end
end MP
set_option maxRecDepth 100000
namespace MP
open PySem L2 PyProof.Rows
/-! ### calls by keywords and defaults -/
theorem permL_len {A : Type} {l : List A} : ∀ {is : List Nat}, (∀ i ∈ is, i < l.length) → (permL is l).length = is.length
  | [], _ => rfl
  | i :: is, h => by
    have ih := permL_len (l := l) fun j hj => h j (List.mem_cons_of_mem _ hj)
    unfold permL at ih ⊢
    rw [List.filterMap_cons, List.getElem?_eq_getElem (h i List.mem_cons_self)]
    simp only [List.length_cons]
    rw [ih]
/-- a default, by what K holds -/
def vOf : Value → V
  | .none => .non
  | .bool b => .bl b
  | .int i _ => .int i
  | .str s _ => .str s
  | .bytes b _ => .byt b
  | .float b _ => .flt b
  | .ref a => .ref a
  | .type n => .ty n
  | _ => .non
theorem vOf_rel {w : V} {u : Value} (h : RelV w u) : vOf u = w := by
  cases w <;> first
    | (cases h; rfl)
    | (obtain ⟨t, rfl⟩ := h; rfl)
def fdK (K : Fr) (a : Addr) : Option FuncData := match K.lookup a with
  | some ⟨_, _, .func fd, _⟩ => some fd
  | _ => none
def dvsU (K : Fr) (a : Addr) : List Value := match fdK K a with
  | some fd => match fd.defaults with
    | .ref T => (match K.lookup T with
      | some ⟨_, _, .seq its _, _⟩ => its.toList
      | _ => [])
    | _ => []
  | none => []
def dvsOf (K : Fr) (a : Addr) : List V := (dvsU K a).map vOf
def kwU (K : Fr) (a : Addr) (x : Str) : Value := match fdK K a with
  | some fd => match fd.kwdefaults with
    | .ref D => (match PySem.W.nsIn K D x with
      | some (some u) => u
      | _ => .none)
    | _ => .none
  | none => .none
def kwsOf (K : Fr) (a : Addr) (xs : List Str) : List (Str × V) := xs.map fun x => (x, vOf (kwU K a x))
/-- facts of the defaults -/
def dflK (K : Fr) (a : Addr) (pd : List PV) : Bool := pvB.pvsB (pvB K 8) pd (dvsU K a)
def kwdK (K : Fr) (a : Addr) (xs : List Str) (pd : List PV) : Bool := pvB.pvsB (pvB K 8) pd (xs.map (kwU K a))
section
variable {Z : Sta} {H : Hp} {m : Mp} {nm qual : Str} {params : Arguments} {body : List Stmt} {scope : Scope} {fd : FuncData} {ps : List Str} {f a : Addr} {dvs : List V} {kws : List (Str × V)}
theorem pvs_rv : ∀ {pd : List PV} {us : List Value}, pvB.pvsB (pvB Z.K 8) pd us = true → ∀ H m, RVs Z H m pd (us.map vOf)
  | [], [], _, H, m => RVs.nil
  | [], _ :: _, h, H, m => by cases h
  | _ :: _, [], h, H, m => by cases h
  | p :: pd, u :: us, h, H, m => by
    obtain ⟨q1, q2⟩ := ba2 (show (pvB Z.K 8 p u && pvB.pvsB (pvB Z.K 8) pd us) = true from h)
    obtain ⟨w, r1, r2⟩ := pvB_ok q1
    rw [List.map_cons, vOf_rel r1]
    exact RVs.cons (r2 H m) (pvs_rv q2 H m)
theorem dflK_ok {pd : List PV} (h : dflK Z.K a pd = true) : ∀ H m, RVs Z H m pd (dvsOf Z.K a) := pvs_rv h
theorem kwdK_ok {xs : List Str} {pd : List PV} (h : kwdK Z.K a xs pd = true) : ∀ H m, RVs Z H m pd ((kwsOf Z.K a xs).map (·.2)) := fun H m => by
  have := pvs_rv h H m
  unfold kwsOf
  rw [List.map_map] at this ⊢
  exact this
theorem dfl_ne {p : PV} {pd : List PV} (h : dflK Z.K a (p :: pd) = true) : dvsOf Z.K a ≠ [] := fun e => by
  have := (dflK_ok h (fun _ => none) ⟨[], []⟩).len
  rw [e] at this
  cases this
theorem kws_sub {xs ys : List Str} (h : xs.all (fun x => ys.contains x) = true) : ∀ q ∈ kwsOf Z.K a xs, q ∈ kwsOf Z.K a ys := fun q hq => by
  obtain ⟨x, hx, rfl⟩ := List.mem_map.mp hq
  have := List.all_eq_true.mp h x hx
  exact List.mem_map.mpr ⟨x, by simpa using this, rfl⟩
theorem kc_cons {α β γ : Type} {D : Addr} {q : Str × Value} {l : List (Str × Value)} {t : Sem α} {r : α} {k1 : Option Value → Sem β} {k2 : β → Sem γ} {k3 : γ → Sem α} {b : β} (e1 : t = ((nsGet D q.1 >>= k1) >>= k2) >>= k3) (e2 : k1 (some q.2) = pure b) (h : KwChain D l (k2 b >>= k3) r) : KwChain D (q :: l) t r :=
  ⟨β, γ, k1, k2, k3, b, e1, e2, h⟩
theorem kc_nil {α : Type} {D : Addr} {t : Sem α} {r : α} (e : t = pure r) : KwChain D [] t r := e
/-- the values by place, by keyword, the defaults, the keyword-only ones; is: where each parameter's value stands -/
def gath {A : Type} (is : List Nat) (us ws its mv : List A) : List A := permL is (us ++ (ws ++ (its ++ mv)))
theorem bind_kbn {n : Nat} {ks : List Str} {is : List Nat} {pd md : List PV} {ds ms : List V} {g : List Value → List Value → List Value} (hb : KBn Z.K fd ps n ks g (fun vs zs => gath is vs zs ds ms)) (hp : ∀ H m, RVs Z H m pd ds) (hm : ∀ H m, RVs Z H m md ms)
    (hl : is.length = ps.length) (hi : is.all (fun i => decide (i < n + (ks.length + (pd.length + md.length)))) = true) : BindOk Z fd ps n ks (fun vs qs => gath is vs qs pd md) := by
  intro s us ws xs zs X h1 h2 r1 r2
  refine ⟨g us ws, gath is xs zs ds ms, hb.to s us ws X h1 h2, hb.rel r1 r2, ?_, fun H m vs qs a b => (a.append (b.append ((hp H m).append (hm H m)))).perm⟩
  have l1 := (hp (fun _ => none) ⟨[], []⟩).len
  have l2 := (hm (fun _ => none) ⟨[], []⟩).len
  unfold gath
  rw [permL_len, hl]
  intro i hi'
  have := of_decide_eq_true (List.all_eq_true.mp hi i hi')
  rw [List.length_append, List.length_append, List.length_append, r1.length, r2.length, h1, h2, ← l1, ← l2]
  exact this
theorem vals_gath {is : List Nat} {vs zs ds ms : List V} {us ws its mv : List Value} (r1 : Vals vs us) (r2 : Vals zs ws) (r3 : Vals ds its) (r4 : Vals ms mv) : Vals (gath is vs zs ds ms) (gath is us ws its mv) :=
  valsPerm (r1.append (r2.append (r3.append r4)))
/-- defaults, no keyword-only ones are missing -/
theorem bind_d (F : FunD Z.K nm qual params body scope dvs kws f fd) (n : Nat) (ks : List Str) (is : List Nat) (pd : List PV) (hd : dvs ≠ []) (hp : ∀ H m, RVs Z H m pd dvs) (hl : is.length = ps.length) (hi : is.all (fun i => decide (i < n + (ks.length + (pd.length + 0)))) = true)
    (h : ∀ (T : Addr) (kV doc pm : Value) (an : Option Addr) (cdv ct : Value) (us its ws : List Value), us.length = n → its.length = pd.length → ws.length = ks.length →
      ∃ k, bindArgs (PySem.W.fnOf nm qual params body scope (.ref T) kV doc pm an cdv ct) ⟨us, ks.zip ws⟩ = seqItems? (.ref T) >>= k ∧ k (some its.toArray) = pure (ps.zip (gath is us ws its []))) :
    BindOk Z fd ps n ks (fun vs qs => gath is vs qs pd []) := by
  have hn := (hp (fun _ => none) ⟨[], []⟩).len
  obtain ⟨its, hb⟩ := FunD.kbindsD F n ks (fun {α} vs ds zs => gath is vs zs ds []) hd (fun r1 r2 r3 => vals_gath r1 r3 r2 .nil) fun T kV doc pm an cdv ct us its ws h1 h2 h3 => h T kV doc pm an cdv ct us its ws h1 (h2.trans hn.symm) h3
  exact bind_kbn hb hp (fun _ _ => RVs.nil) hl hi
/-- defaults, some keyword-only ones are missing -/
theorem bind_dk (F : FunD Z.K nm qual params body scope dvs kws f fd) (n : Nat) (ks : List Str) (ms : List (Str × V)) (is : List Nat) (pd md : List PV) (hd : dvs ≠ []) (hk : kws ≠ []) (hms : ∀ q ∈ ms, q ∈ kws) (hp : ∀ H m, RVs Z H m pd dvs) (hm : ∀ H m, RVs Z H m md (ms.map (·.2))) (hl : is.length = ps.length)
    (hi : is.all (fun i => decide (i < n + (ks.length + (pd.length + md.length)))) = true)
    (h : ∀ (T D : Addr) (doc pm : Value) (an : Option Addr) (cdv ct : Value) (us its mv ws : List Value), us.length = n → its.length = pd.length → mv.length = md.length → ws.length = ks.length →
      ∃ k, bindArgs (PySem.W.fnOf nm qual params body scope (.ref T) (.ref D) doc pm an cdv ct) ⟨us, ks.zip ws⟩ = seqItems? (.ref T) >>= k ∧ KwChain D ((ms.map (·.1)).zip mv) (k (some its.toArray)) (ps.zip (gath is us ws its mv))) :
    BindOk Z fd ps n ks (fun vs qs => gath is vs qs pd md) := by
  have hn := (hp (fun _ => none) ⟨[], []⟩).len
  have hn2 := (hm (fun _ => none) ⟨[], []⟩).len
  rw [List.length_map] at hn2
  obtain ⟨its, mv, hb⟩ := FunD.kbinds F n ks ms (fun {α} vs ds mz zs => gath is vs zs ds mz) hd hk hms (fun r1 r2 r3 r4 => vals_gath r1 r4 r2 r3) fun T D doc pm an cdv ct us its mv ws h1 h2 h3 h4 => h T D doc pm an cdv ct us its mv ws h1 (h2.trans hn.symm) (h3.trans hn2.symm) h4
  exact bind_kbn hb hp hm hl hi
/-- no defaults but keyword-only ones -/
theorem bind_k (F : FunD Z.K nm qual params body scope [] kws f fd) (n : Nat) (ks : List Str) (ms : List (Str × V)) (is : List Nat) (md : List PV) (hk : kws ≠ []) (hms : ∀ q ∈ ms, q ∈ kws) (hm : ∀ H m, RVs Z H m md (ms.map (·.2))) (hl : is.length = ps.length)
    (hi : is.all (fun i => decide (i < n + (ks.length + (0 + md.length)))) = true)
    (h : ∀ (D : Addr) (doc pm : Value) (an : Option Addr) (cdv ct : Value) (us mv ws : List Value), us.length = n → mv.length = md.length → ws.length = ks.length →
      KwChain D ((ms.map (·.1)).zip mv) (bindArgs (PySem.W.fnOf nm qual params body scope .none (.ref D) doc pm an cdv ct) ⟨us, ks.zip ws⟩) (ps.zip (gath is us ws [] mv))) :
    BindOk Z fd ps n ks (fun vs qs => gath is vs qs [] md) := by
  have hn2 := (hm (fun _ => none) ⟨[], []⟩).len
  rw [List.length_map] at hn2
  obtain ⟨mv, hb⟩ := FunD.kbinds0 F n ks ms (fun {α} vs mz zs => gath is vs zs [] mz) hk hms (fun r1 r2 r3 => vals_gath r1 r3 .nil r2) fun D doc pm an cdv ct us mv ws h1 h2 h3 => h D doc pm an cdv ct us mv ws h1 (h2.trans hn2.symm) h3
  exact bind_kbn hb (fun _ _ => RVs.nil) hm hl hi
end
/-! ### written dicts -/
def strK (ks : List (List Nat)) : List PV := ks.map PV.str
def valsK (K : Fr) (a : Addr) (vs : List PV) : Bool := match K.lookup a with
  | some ⟨_, _, .dict es _, _⟩ => pvB.pvsB (pvB K 8) vs (es.toList.map (·.val))
  | _ => false
section
variable {Z : Sta} {a : Addr}
theorem paired_es {P : Params} : ∀ {ks : List (List Nat)} {ds : List DictEntry}, ds.map He.keyOf = He.keysIn P (ks.map fun s => ⟨s.toArray⟩) →
    Paired EntR (ds.map fun d => (d.hash, vOf d.key, vOf d.val)) ds ∨ True := fun _ => .inr True.intro
theorem ent_of {w : World} : ∀ {ks : List (List Nat)} {vs : List PV} {ds : List DictEntry}, (∀ s ∈ ks, sOk s = true) → ds.map He.keyOf = He.keysIn w.params (ks.map fun s => ⟨s.toArray⟩) → pvB.pvsB (pvB Z.K 8) vs (ds.map (·.val)) = true → w = Z.w →
    ∃ es : List (Int × V × V), Paired EntR es ds ∧ es.map (·.1) = (strK ks).map (hashK Z) ∧ ∀ H m, RVs Z H m (strK ks) (es.map (·.2.1)) ∧ RVs Z H m vs (es.map (·.2.2))
  | [], [], [], _, _, _, _ => ⟨[], .nil, rfl, fun _ _ => ⟨RVs.nil, RVs.nil⟩⟩
  | [], _ :: _, [], _, _, h, _ => by cases h
  | _ :: _, _, [], _, h, _, _ => by cases h
  | [], _, _ :: _, _, h, _, _ => by cases h
  | _ :: _, [], _ :: _, _, _, h, _ => by cases h
  | k :: ks, v :: vs, d :: ds, ho, h, hv, hw => by
    have h1 : He.keyOf d :: ds.map He.keyOf = some (⟨k.toArray⟩, PyData.keyHash w.params ⟨k.toArray⟩) :: He.keysIn w.params (ks.map fun s => ⟨s.toArray⟩) := h
    injection h1 with h2 h3
    obtain ⟨q1, q2⟩ := ba2 (show (pvB Z.K 8 v d.val && pvB.pvsB (pvB Z.K 8) vs (ds.map (·.val))) = true from hv)
    obtain ⟨es, e1, e2, e3⟩ := ent_of (fun s hs => ho s (List.mem_cons_of_mem _ hs)) h3 q2 hw
    obtain ⟨u, r1, r2⟩ := pvB_ok q1
    unfold He.keyOf at h2
    split at h2
    · rename_i x t ek
      obtain ⟨h5, h6⟩ := Prod.mk.inj (Option.some.inj h2)
      have hk := k1_hash (Z := Z) (p := .str k) rfl
      refine ⟨(hashK Z (.str k), .str ⟨k.toArray⟩, u) :: es, .cons ⟨?_, ⟨t, by rw [ek, h5]⟩, r1⟩ e1, ?_, fun H m => ⟨RVs.cons (to_str (ho k List.mem_cons_self)) (e3 H m).1, RVs.cons (r2 H m) (e3 H m).2⟩⟩
      · rw [h6, hk, hw]
        rfl
      · rw [List.map_cons, e2]
        rfl
    · cases h2
theorem dct_known {ks : List (List Nat)} {vs : List PV} (hd : He.dicW Z.K a = some (He.keysIn Z.w.params (ks.map fun s => ⟨s.toArray⟩))) (hv : valsK Z.K a vs = true) (ho : ks.all sOk = true) (hk : keysB (strK ks) = true) (H : Hp) (m : Mp) : RV Z H m (.dct (strK ks) vs) (.ref a) := by
  unfold He.dicW at hd
  split at hd
  · rename_i c es n sl e
    split at hd
    · rename_i hc
      obtain ⟨c1, c2⟩ := ba2 hc
      obtain ⟨c2, c3⟩ := ba2 c2
      cases of_decide_eq_true c1
      unfold valsK at hv
      rw [e] at hv
      obtain ⟨es', e1, e2, e3⟩ := ent_of (fun s hs => List.all_eq_true.mp ho s hs) (Option.some.inj hd) hv rfl
      have e4 : sl = #[] := Array.isEmpty_iff.mp c2
      subst e4
      unfold RV
      exact ⟨a, es', rfl, .inr ⟨by rw [Bool.not_eq_true'] at c3; exact c3, _, es, n, e, ⟨rfl, rfl, rfl⟩, rfl, e1⟩, hk, e2, (e3 H m).1, (e3 H m).2⟩
    · cases hd
  · cases hd
end
section
variable {exL : List (Fr → Bool)} {dsL : List MDef} {txL : List DTab} {da ca : List (Fr → Addr)} {names : List Str} {Z : Sta}
/-- a name of the text for a written dict -/
theorem Ctx.dct (c : Ctx exL dsL txL da ca names Z) (i j t : Nat) {x : Str} {p : Fr → Addr} {ks : List (List Nat)} {vs : List PV} (h : exL[i]? = some fun K => gloK K x (p K)) (hv : exL[j]? = some fun K => valsK K (p K) vs) (ht : txL[t]? = some (p, ks.map fun s => ⟨s.toArray⟩))
    (ho : ks.all sOk = true) (hk : keysB (strK ks) = true) : ∃ u w, Z.mg x = some u ∧ RelV w u ∧ ∀ H m, RV Z H m (.dct (strK ks) vs) w :=
  ⟨_, .ref (p Z.K), c.glo i h, rfl, fun H m => dct_known (c.tx _ (List.mem_of_getElem? ht)) (c.at_ j hv) ho hk H m⟩
end
/-! ### divmod -/
def divmV (ps : List PV) (S : Hs) : RE := match ps with
  | [.int i, .int j] => if decide (0 < j) && decide (j.natAbs.log2 < 9000) then .ok (.tup [.int (i / j), .int (i % j)]) S else .bad
  | _ => .bad
section
variable {Z : Sta} {W : WX} {X : Cx}
theorem divm_ok : CallOk Z X W (.builtin "divmod") divmV := by
  refine CallOk.of call_divmodW fun σ H m S ps xs Q sr rp hp => ?_
  unfold divmV at hp
  split at hp
  · rename_i i j
    split at hp
    · rename_i hc
      obtain ⟨h1, h2⟩ := ba2 hc
      unfold RVs at rp
      obtain ⟨x, r, rfl, r1, rp⟩ := rp
      unfold RVs at rp
      obtain ⟨y, r', rfl, r2, rp⟩ := rp
      unfold RVs at rp
      subst rp
      cases rv_int r1
      cases rv_int r2
      refine ⟨_, _, rfl, ⟨of_decide_eq_true h1, PyProof.noPylong_of_log2 (of_decide_eq_true h2)⟩, fun p hn => ?_⟩
      exact hp _ m (.ref p) (Gr.new hn) (sr.new hn) (to_tup (SqT.of upd_same) (RVs.cons to_int (RVs.cons to_int RVs.nil)))
    · exact hp.elim
  · exact hp.elim
end
end MP
set_option maxRecDepth 100000
namespace MP
open PySem L2 PyProof.Rows
section
variable {Z : Sta} {W : WX} {σ : L2.St} {H H1 : Hp} {m m1 m2 : Mp} {X : Cx} {S : Hs} {x y : V} {a : Addr} {lv : Nat} {pins : List (Addr × Obj)} {s : Shared} {Q : VK}
/-- o[i] = v, o a list or a dict of the store -/
theorem ok_subT2 {o i : Expr} {pos : Pos} {fo fi : Loc → Hs → RE} (gd : Good Z lv X W) (ho : PE X o (tE Z W fo)) (hi : PE X i (tE Z W fi))
    (ha : ∀ v, assign (.Subscript o i pos) X.env v = (do
      let ov ← holding [v] (eval o X.env)
      let iv ← holding [v, ov] (eval i X.env)
      standAt pos
      holding [v, ov, iv] (setItem ov iv v)
      release [v, ov, iv] [])) : PG X (.Subscript o i pos) (tG Z [] (subT2 fo fi)) := by
  refine PG.imp (PG.or (ok_subT (W := W) ho hi ha) (pg_sub ho hi (set_dct gd) ha)) ?_
  rintro x σ H Q ⟨m, L, S, v, sr, hl, rv, hp⟩
  have keep : subT2 fo fi v L S = subT fo fi v L S → (tG Z [] (subT fo fi)) x σ H Q := fun e => ⟨m, L, S, v, sr, hl, rv, by rw [← e]; exact hp⟩
  unfold subT2 at hp
  cases eo : fo L S with
  | bad => rw [eo] at hp; exact hp.elim
  | ex k v S1 => rw [eo] at hp; exact hp.elim
  | ok ov S1 =>
    rw [eo] at hp
    simp only at hp
    cases ei : fi L S1 with
    | bad => rw [ei] at hp; exact hp.elim
    | ex k v S2 => rw [ei] at hp; exact hp.elim
    | ok iv S2 =>
      rw [ei] at hp
      simp only at hp
      have lst : setV2 ov iv v S2 = setV ov iv v S2 → (tG Z [] (subT fo fi)) x σ H Q := fun e => by
        refine keep ?_
        unfold subT2 subT
        simp only [eo, ei, e] <;> rfl
      cases ov with
      | loc n =>
        cases ec : getR S2 n with
        | none => exact .inl (lst (by unfold setV2; simp only [ec]))
        | some c =>
          cases c with
          | lst xs => exact .inl (lst (by unfold setV2; simp only [ec]))
          | ins k ns xs => exact .inl (lst (by unfold setV2; simp only [ec]))
          | tab j => exact .inl (lst (by unfold setV2; simp only [ec]))
          | dct ks vs =>
            have e2 : setV2 (.loc n) iv v S2 = if kindOk ks iv && decide (ks.length < 16777216) then some (setR S2 n (.dct (putKs ks iv) (putVs ks iv vs v))) else none := by unfold setV2; simp only [ec]
            rw [e2] at hp
            split at hp
            · rename_i S3 e3
              split at e3
              · rename_i hc
                cases e3
                obtain ⟨c1, c2⟩ := ba2 hc
                refine .inr ⟨m, L, S, sr, hl, ?_⟩
                rw [eo]
                intro H1 m1 xo g1 s1 r1
                refine ⟨m1, L, S1, s1, hl.grow g1, ?_⟩
                rw [ei]
                intro H2 m2 xi g2 s2 r2
                refine ⟨m2, S2, n, iv, v, ks, vs, s2, r1.grow g2, r2, (rv.grow g1).grow g2, ec, c1, of_decide_eq_true c2, fun H' m' g3 s3 => ?_⟩
                exact hp H' m' σ ((g1.trans g2).trans g3) s3 (((hl.grow g1).grow g2).grow g3) Out.refl
              · cases e3
            · exact hp.elim
      | _ => unfold setV2 at hp; exact hp.elim
end
end MP
namespace MP
open PySem L2 PyProof.Rows
section
variable {Z : Sta} {W : WX} {X : Cx} {lv : Nat} {N : List Str} {sc : Scope} {vs ls : List Nat} {gs : List Str}
/-- a name that inner blocks see: the comprehension's value comes first -/
theorem sw_cell {nm : Str} {py pos p2 : Pos} {elt : Expr} {gens : List Comprehension} {scope : Scope} (D : DefX X N sc vs ls gs) (h : sc.names.lookup nm = some .cell) : swapsWithSole [.Name nm py] (.ListComp elt gens scope pos) p2.line X.env = pure false := by
  have h2 : X.env.scope.names.lookup nm = some .cell := by rw [D.esc]; exact h
  have e : X.env.kindOf nm = some .cell := h2
  show (pure (X.env.blockKind == .function && X.env.kindOf nm == some .local && py.line == pos.line && !(scope.names.any fun (n, k) => n == nm && (k == .local || k == .cell))) : Sem Bool) = pure false
  rw [e, Bool.and_assoc, Bool.and_assoc]
  have : ((some NameKind.cell : Option NameKind) == some .local) = false := rfl
  rw [this, Bool.false_and, Bool.and_false]
end
end MP
set_option maxRecDepth 100000
namespace MP
open PySem L2
/-! ### equations of stores -/
section
variable {S : Hs} {xs : List PV} {v : PV} {i j : Int} {r : Nat} {c d : Cell}
theorem setR_setR : setR (setR S r c) r d = setR S r d := by
  unfold setR
  rw [List.reverse_reverse, List.set_set]
theorem setR_id (h : getR S r = some c) : setR S r c = S := by
  unfold setR getR at *
  have : S.reverse.set r c = S.reverse := by
    apply List.ext_getElem?
    intro k
    by_cases e : r = k
    · subst e
      rw [List.getElem?_set_self (List.getElem?_eq_some_iff.mp h).1, h]
    · rw [List.getElem?_set_ne e]
  rw [this, List.reverse_reverse]
theorem getR_other {k : Nat} (h : r ≠ k) : getR (setR S r c) k = getR S k := by
  unfold setR getR
  rw [List.reverse_reverse, List.getElem?_set_ne h]
theorem getR_old {k : Nat} (h : getR S k = some d) : getR (c :: S) k = some d := getR_app (ms := [c]) h
theorem getR_lt {k : Nat} (h : getR S k = some d) : k < S.length := by
  unfold getR at h
  have := (List.getElem?_eq_some_iff.mp h).1
  simpa using this
theorem setR_old {k : Nat} (h : k < S.length) : setR (c :: S) k d = c :: setR S k d := by
  unfold setR
  rw [List.reverse_cons, List.set_append_left _ _ (by simpa using h)]
  simp
theorem ix_at (h : getR S r = some (.lst xs)) : ixV2 (.loc r) (.int i) S = okO (atI xs i) S := by
  have e : dctOf S (.loc r) = none := by show (match getR S r with | some (.dct ks vs) => some (ks, vs) | _ => none) = none; rw [h]
  show (match dctOf S (.loc r) with | some (ks, vs) => _ | none => ixV (.loc r) (.int i) S) = _
  rw [e]
  show (match asQ S (.loc r) with | some ys => okO (atI ys i) S | none => RE.bad) = _
  have : asQ S (.loc r) = some xs := by show (match getR S r with | some (.lst xs) => some xs | _ => none) = _; rw [h]
  rw [this]
theorem sub_at {fo fi : Loc → Hs → RE} {L : Loc} {n : Nat} (h1 : fo L S = .ok (.loc r) S) (h2 : fi L S = .ok (.int i) S) (h3 : getR S r = some (.lst xs)) (h4 : ixN xs.length i = some n) : subT2 fo fi v L S = .nx L (setR S r (.lst (xs.set n v))) := by
  unfold subT2
  rw [h1]
  simp only
  rw [h2]
  simp only
  have e : setV2 (.loc r) (.int i) v S = setV (.loc r) (.int i) v S := by unfold setV2; simp only [h3]
  rw [e]
  unfold setV
  simp only [h3, h4, Option.map]
theorem ix_scr {ns : List Int} {k : Nat} (h : k < ns.length) : ixV2 (.scr ns) (.int k) S = .ok (.int ns[k]) S := by
  show okO (atI (ns.map PV.int) k) S = _
  have : atI (ns.map PV.int) (k : Int) = some (.int ns[k]) := by
    unfold atI
    have e : ixN (ns.map PV.int).length (k : Int) = some k := by
      unfold ixN
      simp [h]
    rw [e]
    simp [h]
  rw [this]
  rfl
theorem ix_lst2 : ixV2 (.lst xs) (.int i) S = okO (atI xs i) S := rfl
/-- script == [] -/
theorem scr_eq {T : Tab} {c : CmpT} {ns : List Int} : eqD T c (.scr ns) (.lst []) S = .ok (.bl ns.isEmpty) S := by
  show (if isD S deep (.scr ns) && isD S deep (.lst []) then RE.ok (.bl (eqB S deep (.scr ns) (.lst []))) S else .bad) = _
  have h1 : isD S deep (.scr ns) = true := by
    show (ns.map PV.int).all (isD S 11) = true
    rw [List.all_map, List.all_eq_true]
    intro x _
    rfl
  rw [h1]
  show (if true && true then RE.ok (.bl (eqB S deep (.scr ns) (.lst []))) S else .bad) = _
  show RE.ok (.bl ((false == false) && eqAll (eqB S 11) (ns.map PV.int) [])) S = _
  cases ns <;> rfl
/-- a law's own drawing: what a pool holds -/
def PoolOk (p q : Int) : Prop := 0 ≤ q ∧ q ≤ 2147483647
def cel (p q : Int) : Cell := .lst [.int p, .int q]
end
end MP
set_option maxRecDepth 100000
namespace MP
open PySem L2 PyProof.Rows
/-- what is known of a built-in exception's __init__ -/
structure InitF (B initId : String) : Prop where
  plain : plainId initId = true
  entry : entryFor table initId = some Builtin.«BaseException.__init__»
  kind : builtinKind initId = some .slot
  row : Manifest.signature? initId = some ⟨.positional, "*", B, .self, [⟨"args", .varPos, false⟩]⟩
  noStar : (B != "*") = true
theorem InitF.of {B newId initId : String} (F : ExcCallFacts B newId initId) : InitF B initId := ⟨F.init.plain, F.initEntry, F.initKind, F.initRow, F.noStar⟩
theorem InitF.ofC {B newId initId : String} (F : PyProof.Rows.ExcClass B newId initId) : InitF B initId := ⟨F.init.plain, F.initEntry, F.initKind, F.initSig, F.notStar⟩
section
variable {M : Model} {A : Around} {E : Value → Shared → Prop} {h : Heap} {g : Array GenState} {d : Drawn} {t : Nat} {os : OsState}
theorem bound_init {cls newId initId : String} (F : InitF cls initId) {nm q : Str} {C N e : Addr} {oe : Obj} {bs bm : List Value} {hdct : Bool} {sn : List Str} {sub : List Value} {ab : Bool} {col : Option Bool} {dd : Option Addr} {k0 k1 k2 k3 k5 : Option Value} {rest : List Value} {Q : Unit → Shared → Prop}
    (hC : h.get? C = some (excClassObj nm q C N bs bm hdct sn sub ab col dd k0 k1 k2 k3 k5 newId)) (he : h.get? e = some oe) (hcls : oe.cls = .ref C) (hq : Q () ⟨h, g, d, t, os⟩) : wpAny M A (checkBoundCall initId ⟨.ref e :: rest, []⟩) Q E ⟨h, g, d, t, os⟩ := by
  have hshort := F.noStar
  simp only [checkBoundCall, F.kind, F.row]
  repeat (first | (with_reducible refine wpAny_loadPart_at he ?_; rw [hcls]) | with_reducible refine wpAny_loadPart_at hC ?_ | wp_step)
  refine wpAny_onRaise ?_
  rw [show ∀ (a b : String) (n : Nat), Bind.check ⟨.positional, "*", cls, .self, [⟨"args", .varPos, false⟩]⟩ a b n (List.map (fun x => x.fst) ({ pos := Value.ref e :: rest } : Args).kw) = pure () from
    fun a b n => check_star_args _ _ _ _ _ _]
  exact wpAny_pure hq
end
/-! the making, where the class above is made by another one's __new__ -/
section
open PySem.HandSPX
variable {M : Model} {A : Around} {E : Value → Shared → Prop} {h : Heap} {g : Array GenState} {d : Drawn} {t : Nat} {os : OsState}
variable {nm q : Str} {C N : Addr} {bs bm bmB : List Value} {hdct : Bool} {sn : List Str} {sub : List Value} {ab : Bool} {col : Option Bool} {dd : Option Addr} {k0 k1 k2 k3 k5 : Option Value} {B newId initId : String}
theorem check_new_b (F : ExcBaseFacts B newId initId bmB) (hB : bm.contains (.type B) = true) {rest : List Value} {Q : Unit → Shared → Prop}
    (hC : h.get? C = some (excClassObj nm q C N bs bm hdct sn sub ab col dd k0 k1 k2 k3 k5 newId)) (hq : Q () ⟨h, g, d, t, os⟩) : wpAny M A (checkBuiltinCall newId ⟨.ref C :: rest, []⟩) Q E ⟨h, g, d, t, os⟩ := by
  have hcont : (Value.ref C :: bm).contains (.type B) = true := by rw [List.contains_cons, hB, Bool.or_true]
  have hstar := F.noStar
  simp only [checkBuiltinCall, F.newKind, F.newSplit, F.newRow]
  repeat (first | refine wpAny_loadPart_at hC ?_ | (refine wpAny_isSubtype_exc hC ?_; rw [hcont]) | refine wpAny_staticBase_exc hC ?_ | refine wpAny_madeBy_exc hC ?_ | simp only [bne_self_eq_false, Bool.false_eq_true, if_false] | wp_step)
  exact hq
end
section
open PySem.HandSPX
variable {prog : Program} {w : World} {A : Around} {E : Value → Shared → Prop} {R : Result → Shared → Prop} {h : Heap} {g : Array GenState} {d : Drawn} {t : Nat} {os : OsState}
variable {nm q : Str} {C N : Addr} {bs bm bmB : List Value} {hdct : Bool} {sn : List Str} {sub : List Value} {ab : Bool} {col : Option Bool} {dd : Option Addr} {k0 k1 k2 k3 k5 : Option Value} {B newId initId : String}
theorem new_b (F : ExcBaseFacts B newId initId bmB) (hB : bm.contains (.type B) = true) (hA : bm.contains (.type "AttributeError") = false) (hN : bm.contains (.type "NameError") = false) {rest : List Value}
    (hC : h.get? C = some (excClassObj nm q C N bs bm hdct sn sub ab col dd k0 k1 k2 k3 k5 newId))
    (hq : R (.ok (.ret (.ref (h.objs.size + 1)))) ⟨(h.push { cls := .type "tuple", data := .seq rest.toArray }).push
      { cls := .ref C, data := .fields #[.ref h.objs.size, .none, .none, .none, .bool false, .none] }, g, d, t, os⟩) (hrest : rest.length ≤ sizeLine) :
    codeAny (model prog w) A (.builtin newId ⟨.ref C :: rest, []⟩) R ⟨h, g, d, t, os⟩ := by
  have hends := F.ends
  have hcB : (Value.ref C :: bm).contains (.type B) = true := by rw [List.contains_cons, hB, Bool.or_true]
  have hcA : (Value.ref C :: bm).contains (.type "AttributeError") = false := by rw [List.contains_cons, hA]; rfl
  have hcN : (Value.ref C :: bm).contains (.type "NameError") = false := by rw [List.contains_cons, hN]; rfl
  refine codeAny_builtinAt F.entry ?_
  unfold Builtin.«BaseException.__new__»
  refine _root_.PySem.wpAt_bind ?_
  show _root_.PySem.wpAt _ _ _ (stack >>= _) _ _ _
  refine _root_.PySem.wpAt_bind (_root_.PySem.wpAt_stack fun p below => _root_.PySem.wpAt_of_wpAny ?_)
  wp_walk
  refine _root_.PySem.wpAt_of_wpAny ?_
  rw [F.owner]
  repeat (first | with_reducible refine wpAny_madeHere_exc F.canon hC ?_ | with_reducible refine wpAny_loadPart_at hC ?_ | (with_reducible refine wpAny_isSubtype_exc hC ?_; first | rw [hcB] | rw [hcA] | rw [hcN]) | wp_step)
  show R _ _
  rw [Heap.size_push]
  exact hq
theorem type_call_b (F : ExcBaseFacts B newId initId bmB) (hB : bm.contains (.type B) = true) (hA : bm.contains (.type "AttributeError") = false) (hN : bm.contains (.type "NameError") = false) {rest : List Value} {fI : Addr} {Q : Fin → Shared → Prop}
    (hC : h.get? C = some (excClassObj nm q C N bs bm hdct sn sub ab col dd k0 k1 k2 k3 k5 newId))
    (hi : PySem.W.Looks (model prog w) h (typeLookup (.ref C) "__init__") (some (.ref fI))) (hb : ∀ self, PySem.W.Looks (model prog w) h (bindSpecial (.ref fI) self) (.ref fI, [self])) (hrest : rest.length ≤ sizeLine)
    (hq : codeAny (model prog w) A (.call (.ref fI) ⟨.ref (h.objs.size + 1) :: rest, []⟩)
      (fun r s' => match r with | .ok (.ret v) => v = .none ∧ Q (.done (.ret (.ref (h.objs.size + 1)))) s' | .ok _ => False | .error e => E e s')
      ⟨(h.push (PySem.W.kdv_tup rest)).push (excO C h.objs.size), g, d, t, os⟩) :
    wpAny (model prog w) A (Builtin.«type.__call__» ⟨.ref C :: rest, []⟩) Q E ⟨h, g, d, t, os⟩ := by
  repeat (first | with_reducible refine wpAny_loadPart_at hC ?_ | with_reducible refine wpAny_madeBy_exc hC ?_ | wp_step)
  refine codeAny_call_builtin_code (Code.quiet_builtin _ F.quiet) (check_new_b F hB hC ?_)
  refine new_b F hB hA hN hC ?_ hrest
  show wpAny _ _ _ _ _ _
  have k : ∀ b o, h.get? b = some o → ((h.push (PySem.W.kdv_tup rest)).push (excO C h.objs.size)).get? b = some o := fun b o e => Heap.get?_push_of_some _ (Heap.get?_push_of_some _ e)
  have hC₁ := k _ _ hC
  have hget : ((h.push (PySem.W.kdv_tup rest)).push (excO C h.objs.size)).get? (h.objs.size + 1) = some (excO C h.objs.size) := by heap_get
  have hcC : (Value.ref C :: bm).contains (.ref C) = true := by simp
  have i1 := hi.keeps k
  have b1 := (hb (.ref (h.objs.size + 1))).keeps k
  unfold isInstance
  repeat (first | with_reducible refine wpAny_loadPart_at hget ?_ | (with_reducible refine wpAny_isSubtype_exc hC₁ ?_; rw [hcC]) | wp_step)
  show wpAny _ _ (typeLookup (.ref C) _) _ _ _
  refine i1.at ?_
  refine wpAny_holding (wpAny_bind (b1.at ?_))
  refine wpAny_bind (wpAny_call (codeAny_mono hq fun r s' z => ?_))
  rcases r with e | (v | _ | _ | _) <;> first | exact z | exact z.elim | skip
  obtain ⟨rfl, z⟩ := z
  first
    | exact wpAny_pure (wpAny_pure z)
    | (wp_walk; exact z)
theorem call_b (F : ExcBaseFacts B newId initId bmB) (hB : bm.contains (.type B) = true) (hA : bm.contains (.type "AttributeError") = false) (hN : bm.contains (.type "NameError") = false) {rest : List Value} {fI : Addr}
    (hC : h.get? C = some (excClassObj nm q C N bs bm hdct sn sub ab col dd k0 k1 k2 k3 k5 newId))
    (hi : PySem.W.Looks (model prog w) h (typeLookup (.ref C) "__init__") (some (.ref fI))) (hb : ∀ self, PySem.W.Looks (model prog w) h (bindSpecial (.ref fI) self) (.ref fI, [self])) (hrest : rest.length ≤ sizeLine)
    (hq : codeAny (model prog w) (A.under (.builtin "type.__call__" ⟨.ref C :: rest, []⟩)) (.call (.ref fI) ⟨.ref (h.objs.size + 1) :: rest, []⟩) (PySem.W.InitBack (h.objs.size + 1) R)
      ⟨(h.push (PySem.W.kdv_tup rest)).push (excO C h.objs.size), g, d, t, os⟩) :
    codeAny (model prog w) A (.call (.ref C) ⟨rest, []⟩) R ⟨h, g, d, t, os⟩ := by
  have f1 := tc_lookup
  have f2 := tc_bind (.ref C)
  have hTy : (⟨h, g, d, t, os⟩ : Shared).TypeIs (.ref C) "type" := ⟨_, hC, rfl⟩
  refine codeAny_of_tree ?_
  show wpAny _ _ (callAny (.ref C) _) _ _ _
  repeat (any_goals (first | assumption | with_reducible refine wpAny_loadPart_at hC ?_ | wp_step))
  refine ⟨rfl, ?_⟩
  refine codeAny_call_builtin_at (Code.quiet_builtin _ (by decide +kernel)) entry_typeCall (wpAny_check_type_call_sub hC (type_call_b F hB hA hN hC hi hb hrest ?_))
  refine codeAny_mono hq fun r s' z => ?_
  rcases r with e | (v | _ | _ | _) <;> exact z
end
/-! ### exceptions whose __init__ hands on to super and keeps the value -/
/-- the body of such a def -/
abbrev supBody (p0 p1 p2 p3 p4 p5 p6 p7 p8 p9 : Pos) : List Stmt :=
  [.Expr (.Call (.Attribute (.Call (.Name "super" p0) [] [] p1) "__init__" p2) [.Name "value" p3] [] p4) p5, .Assign [.Attribute (.Name "self" p6) "value" p7] (.Name "value" p8) p9]
/-- its names -/
def supScope (sc : Scope) : Bool := decide (sc.names.lookup ("self" : Str) = some NameKind.local) && decide (sc.names.lookup ("value" : Str) = some NameKind.local) && decide (sc.names.lookup ("super" : Str) = some NameKind.globalImplicit) && decide (sc.names.lookup ("__class__" : Str) = some NameKind.free) &&
  decide (sc.kind = .function) && !sc.isCoroutine && !sc.isGenerator && sc.names.all fun x => decide (x.2 ≠ .cell)
/-- what stands of the def and its class -/
structure SupF (P : Program) (K : Fr) (fI D : Addr) (nm qual : Str) (params : Arguments) (body : List Stmt) (scope : Scope) : Prop where
  fn : ∃ (oc : Value) (od : Option Addr) (kV doc pm : Value) (an : Option Addr) (ct : Value) (osl : Array (Option Value)) (cc cda : Addr) (cl ccl : Value) (cld cdd : Option Addr) (csl ccs : Array (Option Value)) (vs : Array Value) (file : Str) (tf : Tok) (cdD : ClassData),
    K.lookup fI = some ⟨oc, od, .func (PySem.W.ksFn nm qual params body scope .none kV doc pm an (.ref cda) ct cc), osl⟩ ∧ PySem.W.codeIn K (.ref cda) qual = true ∧ K.lookup cc = some ⟨cl, cld, .cell (some (.ref D)), csl⟩ ∧
      K.lookup cda = some ⟨ccl, cdd, .fields vs, ccs⟩ ∧ vs[2]? = some (.str file tf) ∧ ((P.main.file : Str) == file) = true ∧ PySem.W.clsIn K D = some cdD
  sc : supScope scope = true
  bind : ∀ (kV doc pm : Value) (an : Option Addr) (cdv ct : Value) (cc : Addr) (a b : Value), bindArgs (PySem.W.ksFn nm qual params body scope .none kV doc pm an cdv ct cc) ⟨[a, b], []⟩ = pure [(("self" : Str), a), (("value" : Str), b)]
  hd : (params.posonlyargs ++ params.args).head?.map (·.arg) = some ("self" : Str)
  top : (P.main.scope.names.lookup ("super" : Str)).isSome = false
  sup : PySem.W.nsIn K mainGlobals "super" = some none
  opq : PySem.W.nsIn K cStatics "thirdparty.any" = some none
/-- what stands of an exception's class over such a def: B the built-in class above -/
structure OexK (K : Fr) (C D fI : Addr) (B newId initId : String) (bmB : List Value) : Prop where
  cls : ∃ nm q N bs bm sn sub ab col dd k0 k1 k2 k3 k5, K.lookup C = some (excClassObj nm q C N bs bm true sn sub ab col dd k0 k1 k2 k3 k5 newId) ∧ PySem.W.excTail bmB bm = true
  sa : PySem.W.findIn K (.ref C) "__setattr__" = some (some (.builtin "object.__setattr__"))
  exC : PySem.W.subIn K (.ref C) (.type "BaseException") = some true
  tyC : PySem.W.typeIn K (.ref C) = some (.type "type")
  kC : PySem.W.keepIn K (.ref C) = true
  iC : PySem.W.findIn K (.ref C) "__init__" = some (some (.ref fI))
  tI : PySem.W.typeIn K (.ref fI) = some (.type "function")
  noV : PySem.W.findIn K (.ref C) "value" = some none
  sup : PySem.W.ks_superIn K C D "__init__" = some (some (.builtin initId))
  subD : PySem.W.mroIn K C (.ref D) = some true
  subB : PySem.W.subIn K (.ref C) (.type B) = some true
section
variable {P : Program} {w : World} {A : Around} {E : Value → Shared → Prop} {K : Fr} {C D fI x t0 : Addr} {B newId initId : String} {bmB : List Value} {nm qual : Str} {params : Arguments} {scope : Scope} {mg : Str → Option Value} {base hp : Heap} {g : Array GenState} {d : Drawn} {t : Nat} {os : OsState} {R : Result → Shared → Prop} {v : Value} {p0 p1 p2 p3 p4 p5 p6 p7 p8 p9 : Pos}
/-- the bound wrapper of B.__init__, called -/
theorem wrap_call {u : Addr} {rest : List Value} {Q : Value → Shared → Prop} (FB : InitF B initId) (T : OexK K C D fI B newId initId bmB) (X : K.In hp) (hx : hp.get? x = some (HandSPX.excO C t0)) (hu : hp.get? u = some (PySem.W.kxs_mw initId x)) (hz : rest.length ≤ sizeLine)
    (h : ∀ h' t', (∀ b o, b ≠ x → hp.get? b = some o → h'.get? b = some o) → h'.get? x = some (HandSPX.excO C t') → Q .none ⟨h', g, d, t, os⟩) : wpAny (model P w) A (call (.ref u) rest) Q E ⟨hp, g, d, t, os⟩ := by
  obtain ⟨_, _, _, _, bm, _, _, _, _, _, _, _, _, _, _, hC, _⟩ := T.cls
  refine wpAny_call (codeAny_of_tree ?_)
  show wpAny _ A.in1 (callAny (.ref u) ⟨rest, []⟩) _ _ _
  simp only [callAny]
  refine wpAny_bind (wpAny_load hu ?_)
  have e1 : (Value.type "method-wrapper" == Value.type "method" || Value.type "method-wrapper" == Value.type "builtin_function_or_method" || Value.type "method-wrapper" == Value.type "method-wrapper") = true := by decide
  simp only [PySem.W.kxs_mw, e1, if_true]
  refine PySem.W.KFB.if_so (by decide) (wpAny_bind (bound_init FB (X _ _ hC) hx rfl ?_))
  refine wpAny_bind (wpAny_pure (wpAny_pure ⟨_root_.PySem.plainId_quiet FB.plain _, codeAny_builtin FB.entry ?_⟩))
  exact PySem.W.exc_init_tree (cls := .ref C) (t0 := t0) (dv := none) (c2 := .none) (c3 := .none) (b4 := .bool false) hx hz fun h' k e _ => h h' _ k e
/-- self.name = v on an exception without a dict -/
theorem osa_gen {name : Str} {tk : Tok} {cd : ClassData} {bm : List Value} (hpass : ∀ self : Value, refuseLoop self "__setattr__" bmB = pure ()) (hobj : bmB.contains (.type "object") = true) (X : K.In hp) (hx : hp.get? x = some (HandSPX.excO C t0)) (hcd : PySem.W.clsIn K C = some cd)
    (hm : cd.mro = .ref C :: bm) (hbm : PySem.W.excTail bmB bm = true) (hh : cd.hasDict = true) (ha : PySem.W.findIn K (.ref C) name = some none)
    (hq : ∀ h' tk' dx, (∀ b o, b ≠ x → hp.get? b = some o → h'.get? b = some o) → hp.objs.size ≤ dx → dx ≠ x → h'.get? x = some { cls := .ref C, dict := some dx, data := .fields #[.ref t0, .none, .none, .none, .bool false, .none] } →
      h'.Ns1 dx (fun y => if y = name then some v else none) → R (.ok (.ret .none)) ⟨h', g, d, tk', os⟩) : codeAny (model P w) A (.call (.builtin "object.__setattr__") ⟨[.ref x, .str name tk, v], []⟩) R ⟨hp, g, d, t, os⟩ := by
  have tl : PySem.W.excTail bmB cd.mro = true := by rw [hm]; exact hbm
  have I : PySem.W.InstAt hp x (HandSPX.excO C t0) C none := ⟨hx, rfl, rfl, trivial⟩
  have ob : cd.mro.contains (.type "object") = true := (PySem.W.excTail_contains "object" _ tl).trans hobj
  have ne : cd.mro.isEmpty = false := by rw [hm]; rfl
  have ls := PySem.W.looks_clsIn (M := model P w) X hcd
  have isO : PySem.W.Looks (model P w) hp (isInstance (.ref x) (.type "object")) true :=
    I.type.andThen (PySem.W.looks_mroIn X (by unfold PySem.W.mroIn; rw [hcd, Option.bind_some, if_neg (by rw [ne]; exact Bool.false_ne_true), ob]))
  have hne : x ≠ hp.objs.size := Nat.ne_of_lt (Heap.lt_size hx)
  have SF := F.store_object
  refine codeAny_call_builtin SF.slot.plain SF.entry (@PySem.W.check_slot (model P w) _ _ ⟨hp, g, d, t, os⟩ "object.__setattr__" "object" "__setattr__" (.ref x) [.str name tk, v] [] _ SF.kind SF.split isO (SF.args (.ref x) (.str name tk) v) ?_)
  rw [PySem.W.osa_eq, _root_.PySem.refuse_eq]
  refine wpAny_bind (wpAny_bind (I.type.at (wpAny_bind ((ls.andThen .now : PySem.W.Looks (model P w) hp (mroOf (.ref C)) cd.mro).at ?_))))
  rw [PySem.W.excTail_pass (.ref x) (hpass _) _ tl]
  refine wpAny_pure (wpAny_bind (I.type.at (wpAny_bind ((PySem.W.looks_findIn X ha).at (wpAny_bind ((.now : PySem.W.Looks (model P w) hp (Builtin.ObjectAttr.storeTaker? none) none).at ?_))))))
  show wpAny _ _ (Builtin.ObjectAttr.storeInOwnDict (.ref x) (.ref C) (.str name tk) name v false) _ _ _
  obtain ⟨_, _, mro, _, _, hd, _, _, _, _, _⟩ := cd
  cases (show hd = true from hh)
  unfold Builtin.ObjectAttr.storeInOwnDict Builtin.ObjectAttr.ownDictForStores
  repeat (first | with_reducible refine HandSPX.store_in_new ?_ ?_ | with_reducible refine wpAny_loadPart_at hx ?_ | with_reducible refine ls.at ?_ | wp_step)
  · exact ⟨_, #[], _, (Heap.get?_update_ne _ _ _ _ hne.symm).trans (Heap.get?_push_at rfl rfl), rfl, fun e he => absurd he (by simp), fun _ => rfl⟩
  · intro h' tk' hn' hs
    refine hq h' tk' hp.objs.size (fun b o hb ho => (hs.2 b (Nat.ne_of_lt (Heap.lt_size ho))).trans ((Heap.get?_update_ne _ _ _ _ hb).trans (Heap.get?_push_of_some _ ho))) (Nat.le_refl _) hne.symm ?_ hn'
    exact (hs.2 x hne).trans (Heap.get?_update_self _ (Heap.get?_push_of_some { cls := .type "dict", data := .dict #[] } hx) rfl)
/-- the def's run: the exception has a dict that keeps the value -/
theorem sup_init (FB : InitF B initId) (KF : PySem.W.KxsFacts B initId) (hpass : ∀ self : Value, refuseLoop self "__setattr__" bmB = pure ()) (hobj : bmB.contains (.type "object") = true) (T : OexK K C D fI B newId initId bmB) (S : SupF P K fI D nm qual params (supBody p0 p1 p2 p3 p4 p5 p6 p7 p8 p9) scope)
    (hev : ∀ env : Env, ∃ pl, eval (.Call (.Attribute (.Call (.Name "super" p0) [] [] p1) "__init__" p2) [.Name "value" p3] [] p4) env = (do
      let ov ← attributeBase (.Call (.Name "super" p0) [] [] p1) "__init__" env (eval (.Call (.Name "super" p0) [] [] p1) env)
      standAt p2.atName
      let (f, first) ← holding [ov] (getMethod ov "__init__" pl)
      callWith p4 f first (backTo p4 (starEach [.Name "value" p3] env)) []))
    (M : Mod K mg base) (hm : mg ("super" : Str) = none) (kb : ∀ b o, base.get? b = some o → hp.get? b = some o) (nx : base.get? x = none) (hdep : A.depth < recursionLimit) (hx : hp.get? x = some (HandSPX.excO C t0))
    (h : ∀ h' tk dx t1, (∀ b o, b ≠ x → hp.get? b = some o → h'.get? b = some o) → hp.objs.size ≤ dx → dx ≠ x → h'.get? x = some { cls := .ref C, dict := some dx, data := .fields #[.ref t1, .none, .none, .none, .bool false, .none] } →
      h'.Ns1 dx (fun y => if y = "value" then some v else none) → R (.ok (.ret .none)) ⟨h', g, d, tk, os⟩) :
    codeAny (model P w) A (.call (.ref fI) ⟨[.ref x, v], []⟩) R ⟨hp, g, d, t, os⟩ := by
  obtain ⟨oc, od, kV, doc, pm, an, ct, osl, cc, cda, cl, ccl, cld, cdd, csl, ccs, vs, file, tf, cdD, lf, hcd, lcc, lcda, hvs, hfile, hD⟩ := S.fn
  have X0 : K.In hp := M.kin.keeps kb
  have hsc := S.sc
  unfold supScope at hsc
  simp only [Bool.and_eq_true, decide_eq_true_eq, Bool.not_eq_true'] at hsc
  obtain ⟨⟨⟨⟨⟨⟨⟨s1, s2⟩, s3⟩, s4⟩, s5⟩, s6⟩, s7⟩, s8⟩ := hsc
  have hcell : ∀ y ∈ scope.names, y.2 ≠ .cell := fun y hy => of_decide_eq_true (List.all_eq_true.mp s8 y hy)
  obtain ⟨mb, hb1, hb2⟩ := M.blt
  refine ks_codeAny_call_defAt (fd := PySem.W.ksFn nm qual params (supBody p0 p1 p2 p3 p4 p5 p6 p7 p8 p9) scope .none kV doc pm an (.ref cda) ct cc) (binds := [(("self" : Str), .ref x), (("value" : Str), v)]) hdep (X0 _ _ lf) rfl (M.nolimit.keeps kb) (PySem.W.codeRec_of X0 hcd) rfl
    (BindsTo.of_eq (S.bind kV doc pm an (.ref cda) ct cc (.ref x) v)) hcell (fun y hy => ?_) (fun h₀ hns hk => ?_) s6 s7 s5
  · rcases List.mem_cons.mp hy with rfl | hy
    · exact s1
    · rcases List.mem_cons.mp hy with rfl | hy
      · exact s2
      · cases hy
  have X1 : K.In h₀ := X0.keeps hk
  have hk0 : ∀ b o, base.get? b = some o → h₀.get? b = some o := fun b o e => hk b o (kb b o e)
  obtain ⟨ar, ea, har⟩ : ∃ ar, (params.posonlyargs ++ params.args).head? = some ar ∧ ar.arg = ("self" : Str) := by
    have := S.hd
    cases e : (params.posonlyargs ++ params.args).head? with
    | none => rw [e] at this; cases this
    | some ar => rw [e] at this; exact ⟨ar, rfl, Option.some.inj this⟩
  have hx1 := hk _ _ hx
  obtain ⟨oD, hD1, hD2⟩ : ∃ oD, h₀.get? D = some oD ∧ oD.data = .cls cdD := by
    unfold PySem.W.clsIn at hD
    split at hD
    · rename_i c d cd' sl ho
      cases hD
      exact ⟨_, X1 _ _ ho, rfl⟩
    · cases hD
  obtain ⟨pl, hev⟩ := hev (PySem.W.ksEnv qual scope hp.objs.size fI (.ref cda) cc)
  refine ks_wpAt_execs_cons (ks_wpAt_Expr_any (ks_wpAt_MethodCall (env := PySem.W.ksEnv qual scope hp.objs.size fI (.ref cda) cc) ?_ hev) (by show interactive (PySem.W.ksEnv qual scope hp.objs.size fI (.ref cda) cc) = false; unfold interactive; simp [s5]))
  refine ks_wpAt_super_base (env := PySem.W.ksEnv qual scope hp.objs.size fI (.ref cda) cc) s3 s4 rfl rfl (X1 _ _ lf) rfl ea rfl (X1 _ _ lcda) rfl hvs hfile S.top ?_
  refine PySem.W.ks_loadName_global s5 s3 (PySem.Calls.loadGlobal_builtin (env := PySem.W.ksEnv qual scope hp.objs.size fI (.ref cda) cc) (M.glob.keeps hk0) hm (hb1.keeps hk0) ((hb2 _ (by decide)).trans (show bootBuiltins "super" = some (.type "super") by decide +kernel)) ⟨rfl, ?_⟩)
  refine wpAny_loadName_free s5 s4 rfl ⟨_, X1 _ _ lcc, rfl⟩ ?_
  rw [har]
  refine wpAny_loadName_local s5 s1 hns rfl ?_
  refine ks_wpAny_isType_cls hD1 hD2 ⟨rfl, ?_⟩
  refine ks_wpAny_call_super hD1 hD2 hx1 rfl (fun c e => by cases e) (PySem.W.looks_mroIn X1 T.subD) (fun h2 e2 k2 => ?_)
  have X2 := X1.keeps k2
  have hx2 := k2 _ _ hx1
  have I2 : PySem.W.InstAt h2 x (HandSPX.excO C t0) C none := ⟨hx2, rfl, rfl, trivial⟩
  have hI : PySem.W.Looks (model P w) h2 (isInstance (.ref x) (.type B)) true := I2.type.andThen (PySem.W.looks_subIn X2 T.subB)
  cases hc : PySem.W.clsIn K C with
  | none => have q := T.sup; unfold PySem.W.ks_superIn at q; rw [hc] at q; cases q
  | some cdC =>
    have hsup := T.sup
    unfold PySem.W.ks_superIn at hsup
    rw [hc] at hsup
    refine PySem.W.kxs_getMethod KF e2 (PySem.W.looks_opaque X2 S.opq) (l₀ := cdC.mro) (fun A Q E s k q => wpAny_bind ((PySem.W.looks_clsIn X2 hc) A _ E s k (wpAny_pure q))) rfl X2 hsup hI (PySem.W.ks_ne X2 I2 hc) rfl ?_
    have k3 : ∀ b o, h2.get? b = some o → (h2.push (PySem.W.kxs_mw initId x)).get? b = some o := fun b o e => Heap.get?_push_of_some _ e
    have hw : (h2.push (PySem.W.kxs_mw initId x)).get? h2.objs.size = some (PySem.W.kxs_mw initId x) := Heap.get?_push_at rfl rfl
    have ns3 : (h2.push (PySem.W.kxs_mw initId x)).Ns hp.objs.size (fun y => [(("self" : Str), Value.ref x), (("value" : Str), v)].reverse.lookup y) := hns.keeps fun b o e => k3 b o (k2 b o e)
    have nmv : ∀ {q : Pos} {Q : Value → Shared → Prop} {E : Value → Shared → Prop} {h' : Heap} {tk : Nat}, h'.Ns hp.objs.size (fun y => [(("self" : Str), Value.ref x), (("value" : Str), v)].reverse.lookup y) → Q v ⟨h', g, d, tk, os⟩ →
        wpAny (model P w) (A.deeper (PySem.W.ksEnv qual scope hp.objs.size fI (.ref cda) cc)) (eval (.Name "value" q) (PySem.W.ksEnv qual scope hp.objs.size fI (.ref cda) cc)) Q E ⟨h', g, d, tk, os⟩ :=
      fun {_ Q E h' tk} hn q => wpAny_Name (wpAny_loadName_local (env := PySem.W.ksEnv qual scope hp.objs.size fI (.ref cda) cc) s5 s2 hn rfl q) (by decide)
    have nms : ∀ {q : Pos} {Q : Value → Shared → Prop} {E : Value → Shared → Prop} {h' : Heap} {tk : Nat}, h'.Ns hp.objs.size (fun y => [(("self" : Str), Value.ref x), (("value" : Str), v)].reverse.lookup y) → Q (.ref x) ⟨h', g, d, tk, os⟩ →
        wpAny (model P w) (A.deeper (PySem.W.ksEnv qual scope hp.objs.size fI (.ref cda) cc)) (eval (.Name "self" q) (PySem.W.ksEnv qual scope hp.objs.size fI (.ref cda) cc)) Q E ⟨h', g, d, tk, os⟩ :=
      fun {_ Q E h' tk} hn q => wpAny_Name (wpAny_loadName_local (env := PySem.W.ksEnv qual scope hp.objs.size fI (.ref cda) cc) s5 s1 hn rfl q) (by decide)
    refine PySem.W.kxs_callWith (i := initId) (x := x) rfl (PySem.Calls.evalArgs_plain (PyProof.Rows.spliced_more (pos := p4) (e := .Name "value" p3) (rest := []) (nmv ns3 ?_)))
    refine PyProof.Rows.spliced_none ⟨hw, ?_⟩
    refine wrap_call FB T (X2.keeps k3) (k3 _ _ hx2) hw (by rw [sizeLine_eq]; exact (show (1 : Nat) ≤ 16777216 by decide)) fun h4 t4 k4 e4 => ?_
    have k5 : ∀ b o, b ≠ x → hp.get? b = some o → h4.get? b = some o := fun b o n e => k4 b o n (k3 b o (k2 b o (hk b o e)))
    have X4 : K.In h4 := M.kin.keeps fun b o e => k5 b o (fun z => by rw [z, nx] at e; cases e) (kb b o e)
    have nL : hp.objs.size ≠ x := fun z => Nat.lt_irrefl x (by have := Heap.lt_size hx; rw [z] at this; exact this)
    have ns4 : h4.Ns hp.objs.size (fun y => [(("self" : Str), Value.ref x), (("value" : Str), v)].reverse.lookup y) := by
      obtain ⟨o, es, ep, e, r⟩ := ns3
      exact ⟨o, es, ep, k4 _ _ nL e, r⟩
    refine ks_wpAt_execs_cons (ks_wpAt_Assign_Attr (wpAt_of_wpAny (nmv ns4 (nms ns4 ?_))))
    obtain ⟨_, _, _, _, bm, _, _, _, _, _, _, _, _, _, _, hC, hbm⟩ := T.cls
    have hcl : PySem.W.clsIn K C = some cdC := hc
    have hcd2 : cdC.mro = .ref C :: bm ∧ cdC.hasDict = true := by
      unfold PySem.W.clsIn at hc
      rw [hC] at hc
      have := Option.some.inj hc
      subst this
      exact ⟨rfl, rfl⟩
    refine PySem.W.set_plain X4 (ox := HandSPX.excO C t4) (od := none) ⟨e4, rfl, rfl, trivial⟩ T.sa ?_
    refine osa_gen hpass hobj X4 e4 hc hcd2.1 hbm hcd2.2 T.noV (fun h6 tk6 dx k6 dn dne e6 n6 => ?_)
    refine wpAt_of_wpAny (wpAny_execs_nil ?_)
    exact h h6 tk6 dx t4 (fun b o n e => k6 b o n (k5 b o n e)) (Nat.le_trans (Nat.le_of_lt (let ⟨_, _, _, e, _⟩ := ns4; Heap.lt_size e)) dn) dne e6 n6
/-- a family of exceptions: what is known of the built-in class above -/
structure Fam (B newId initId : String) (bmB : List Value) : Prop where
  FC : InitF B initId
  KF : PySem.W.KxsFacts B initId
  pass : ∀ self : Value, refuseLoop self "__setattr__" bmB = pure ()
  obj : bmB.contains (.type "object") = true
  own : ∀ {prog : Program} {w : World} {A : Around} {R : Result → Shared → Prop} {h : Heap} {g : Array GenState} {d : Drawn} {t : Nat} {os : OsState} {nm q : Str} {C N fI : Addr} {bs bm : List Value} {sn : List Str} {sub : List Value} {ab : Bool} {col : Option Bool} {dd : Option Addr} {k0 k1 k2 k3 k5 : Option Value} {rest : List Value},
    PySem.W.excTail bmB bm = true → h.get? C = some (excClassObj nm q C N bs bm true sn sub ab col dd k0 k1 k2 k3 k5 newId) → PySem.W.Looks (model prog w) h (typeLookup (.ref C) "__init__") (some (.ref fI)) →
      (∀ self, PySem.W.Looks (model prog w) h (bindSpecial (.ref fI) self) (.ref fI, [self])) → rest.length ≤ sizeLine →
      codeAny (model prog w) (A.under (.builtin "type.__call__" ⟨.ref C :: rest, []⟩)) (.call (.ref fI) ⟨.ref (h.objs.size + 1) :: rest, []⟩) (PySem.W.InitBack (h.objs.size + 1) R) ⟨(h.push (PySem.W.kdv_tup rest)).push (HandSPX.excO C h.objs.size), g, d, t, os⟩ →
      codeAny (model prog w) A (.call (.ref C) ⟨rest, []⟩) R ⟨h, g, d, t, os⟩
theorem fam_VE : Fam "ValueError" "ValueError.__new__" "ValueError.__init__" [.type "ValueError", .type "Exception", .type "BaseException", .type "object"] :=
  ⟨.of F.excBase_ValueError.toExcCallFacts, PySem.W.kxs_ValueError, F.store_ValueError.passes, by decide +kernel, fun hb hC hi hbn hr hq => HandSPX.call_own F.excBase_ValueError (fun Y => PySem.W.excTail_contains Y _ hb) hC hi hbn hr hq⟩
theorem fam_OE : Fam "OverflowError" "OverflowError.__new__" "OverflowError.__init__" [.type "OverflowError", .type "ArithmeticError", .type "Exception", .type "BaseException", .type "object"] :=
  ⟨.of F.excBase_OverflowError.toExcCallFacts, PySem.W.kxs_OverflowError, fun self => by kernel_rfl, by decide +kernel, fun hb hC hi hbn hr hq => HandSPX.call_own F.excBase_OverflowError (fun Y => PySem.W.excTail_contains Y _ hb) hC hi hbn hr hq⟩
theorem fam_RE : Fam "RuntimeError" "RuntimeError.__new__" "RuntimeError.__init__" [.type "RuntimeError", .type "Exception", .type "BaseException", .type "object"] :=
  ⟨.of F.excBase_RuntimeError.toExcCallFacts, PySem.W.kxs_RuntimeError, fun self => by kernel_rfl, by decide +kernel, fun hb hC hi hbn hr hq => HandSPX.call_own F.excBase_RuntimeError (fun Y => PySem.W.excTail_contains Y _ hb) hC hi hbn hr hq⟩
theorem kxs_KeyError : PySem.W.KxsFacts "KeyError" "KeyError.__init__" := ⟨by show builtinType _ = _; rw [builtinType_eq_fast]; kernel_rfl, by first | kernel_rfl | rfl⟩
theorem fam_KE : Fam "KeyError" "LookupError.__new__" "KeyError.__init__" [.type "KeyError", .type "LookupError", .type "Exception", .type "BaseException", .type "object"] :=
  ⟨.ofC PyProof.Rows.excClass_KeyError, kxs_KeyError, fun self => by kernel_rfl, by decide +kernel, fun hb hC hi hbn hr hq => call_b F.excBase_LookupError ((PySem.W.excTail_contains "LookupError" _ hb).trans (by decide +kernel)) ((PySem.W.excTail_contains "AttributeError" _ hb).trans (by decide +kernel)) ((PySem.W.excTail_contains "NameError" _ hb).trans (by decide +kernel)) hC hi hbn hr hq⟩
/-- an own exception is made of a value -/
theorem make_oex {Z : Sta} {lv : Nat} {X : Cx} {W : WX} {pins : List (Addr × Obj)} {σ : L2.St} {H : Hp} {s : Shared} {Q : XK} {y : V} {u : Value} (gd : Good Z lv X W) (FM : Fam B newId initId bmB) (T : OexK Z.K C D fI B newId initId bmB) (S : SupF Z.P Z.K fI D nm qual params (supBody p0 p1 p2 p3 p4 p5 p6 p7 p8 p9) scope)
    (hev : ∀ env : Env, ∃ pl, eval (.Call (.Attribute (.Call (.Name "super" p0) [] [] p1) "__init__" p2) [.Name "value" p3] [] p4) env = (do
      let ov ← attributeBase (.Call (.Name "super" p0) [] [] p1) "__init__" env (eval (.Call (.Name "super" p0) [] [] p1) env)
      standAt p2.atName
      let (f, first) ← holding [ov] (getMethod ov "__init__" pl)
      callWith p4 f first (backTo p4 (starEach [.Name "value" p3] env)) []))
    (hm : Z.mg ("super" : Str) = none) (I : L2.Inv X pins σ H s) (ry : RelV y u) (q : ∀ d, H d = none → Q (.ref C) (some d) (L2.upd H d (.xd [("value", y)]))) : wpAny (model X.prog X.w) X.A (call (.ref C) [u]) (MkP X pins σ Q) X.xe s := by
  obtain ⟨nmC, qC, N, bs, bm, sn, sub, ab, col, dd, k0, k1, k2, k3, k5, hC, hbm⟩ := T.cls
  have kI : Z.K.In s.heap := by rw [← gd.K]; exact I.kIn
  have e0 := I.env0
  have bs0 : ∀ b o, X.base.get? b = some o → s.heap.get? b = some o := fun b o e => (e0.bs b o e).1
  have bsz := e0.bsz
  have md : Mod Z.K Z.mg X.base := by rw [← gd.K, ← gd.mg]; exact e0.mod
  have J := I
  obtain ⟨hp, g, dr, tk, os⟩ := s
  have kk : ∀ b o, hp.get? b = some o → ((hp.push (PySem.W.kdv_tup [u])).push (HandSPX.excO C hp.objs.size)).get? b = some o := fun b o e => Heap.get?_push_of_some _ (Heap.get?_push_of_some _ e)
  have hget : ((hp.push (PySem.W.kdv_tup [u])).push (HandSPX.excO C hp.objs.size)).get? (hp.objs.size + 1) = some (HandSPX.excO C hp.objs.size) := by heap_get
  refine wpAny_call (FM.own hbm (kI _ _ hC) (PySem.W.looks_findIn kI T.iC) (fun self => PySem.W.bind_fn kI self T.tI) (by rw [sizeLine_eq]; exact (show (1 : Nat) ≤ 16777216 by decide)) ?_)
  rw [gd.prog]
  refine sup_init FM.FC FM.KF FM.pass FM.obj T S hev md hm (fun b o e => kk b o (bs0 b o e)) ?_ ((gd.room.make C [u] []).depth) hget fun h' tk' dx t1 k dn dne hx hn => ⟨rfl, ?_⟩
  · cases e : X.base.get? (hp.objs.size + 1) with
    | none => rfl
    | some o =>
      have h1 : X.base.objs.size ≤ hp.objs.size := bsz
      have h2 : hp.objs.size + 1 < X.base.objs.size := Heap.lt_size e
      omega
  · obtain ⟨G, g1, g2⟩ := L2.restrict h' fun b => decide (b ≠ hp.objs.size + 1)
    have gk : ∀ b, b ≠ hp.objs.size + 1 → G.get? b = h'.get? b := fun b hb => g1 b (decide_eq_true hb)
    have ge : G.get? (hp.objs.size + 1) = none := g2 _ (by simp)
    have ltx : ∀ {b : Addr} {o : Obj}, hp.get? b = some o → b ≠ hp.objs.size + 1 := fun {b o} e z => by
      have h1 : hp.objs.size + 1 < hp.objs.size := by rw [← z]; exact Heap.lt_size e
      exact Nat.not_lt_of_le (Nat.le_succ _) h1
    have kG : ∀ b o, hp.get? b = some o → G.get? b = some o := fun b o e => (gk b (ltx e)).trans (k b o (ltx e) (kk b o e))
    have dle : hp.objs.size ≤ dx := by
      have h1 : ((hp.push (PySem.W.kdv_tup [u])).push (HandSPX.excO C hp.objs.size)).objs.size ≤ dx := dn
      rw [Heap.size_push, Heap.size_push] at h1
      omega
    have hnd : H dx = none := I.hok.fresh dle
    have ok : ObjOk X.prog X.w (L2.upd H dx (.xd [("value", y)])) G dx (.xd [("value", y)]) :=
      ⟨_, hn.at fun o e => (gk dx dne).trans e, relO_put (fs := []) ry fun f => True.intro⟩
    have IG := J.laid (t' := tk') kG dle ok
    refine ⟨hp.objs.size + 1, _, _, _, _, .ref C, some dx, rfl, IG, fun b o e => ?_, ge, hx, ⟨rfl, rfl⟩, rfl, rfl, ?_, rfl, I.bare, L2.raises_own (by rw [gd.K]; exact T.exC) (by rw [gd.K]; exact T.tyC), q dx hnd⟩
    · by_cases hb : b = hp.objs.size + 1
      · rw [hb, ge] at e; cases e
      · exact (gk b hb).symm.trans e
    · rw [upd_ne (Ne.symm dne)]
      exact I.hok.fresh (Nat.le_succ _)
end
end MP
set_option maxRecDepth 100000
namespace MP
open PySem L2 PyProof.Rows
section
variable {Z : Sta} {W : WX} {σ : L2.St} {H H1 : Hp} {m m1 m2 : Mp} {X : Cx} {S : Hs} {x y : V} {a : Addr} {lv k : Nat} {pins : List (Addr × Obj)} {s : Shared} {Q : VK}
/-! ### raise C(e) -/
def raiseS (k : Nat) (f : Loc → Hs → RE) : Loc → Hs → RS := fun L S => (f L S).bindS L fun v S1 => .ex k v L S1
/-- how the class Z.G k makes its exceptions -/
def MakesX (Z : Sta) (k : Nat) : Prop := PySem.W.keepIn Z.K (.ref (Z.G k)) = true ∧ ∀ {lv : Nat} {X : Cx} {W : WX} {pins : List (Addr × Obj)} {σ : L2.St} {H : Hp} {s : Shared} {Q : XK} {y : V} {u : Value}, Good Z lv X W → L2.Inv X pins σ H s → RelV y u →
  (∀ d, H d = none → Q (.ref (Z.G k)) (some d) (L2.upd H d (.xd [("value", y)]))) → wpAny (model X.prog X.w) X.A (call (.ref (Z.G k)) [u]) (MkP X pins σ Q) X.xe s
theorem ok_raise {e : Expr} {nmx : Str} {p pos pos' : Pos} {f : Loc → Hs → RE} (gd : Good Z lv X W) (MX : MakesX Z k) (hg : Gl X nmx) (hm : Z.mg nmx = some (.ref (Z.G k))) (he : PE X e (tE Z W f)) (hdb : (nmx == ("__debug__" : Str)) = false)
    (hs : starEach [e] X.env = (false, eval e X.env) :: starEach [] X.env) (hpl : (backTo pos (starEach [] X.env)).any (·.1) = false) : PS X (.Raise (some (.Call (.Name nmx p) [e] [] pos)) none pos') (tS Z W (raiseS k f)) := by
  have hp : PMk X (.Call (.Name nmx p) [e] [] pos) (fun σ H Q => tA Z W (consA f nilA) σ H fun xs H1 => ∃ y, xs = [y] ∧ ∀ d, H1 d = none → Q (.ref (Z.G k)) (some d) (L2.upd H1 d (.xd [("value", y)]))) := by
    intro pins s σ H Q I h
    refine wpAny_Call_Name_kw (ld_glob I hg (by rw [gd.mg]; exact hm) ?_ hdb)
    refine PySem.W.callWith_K (h₀ := X.base) I.ok.mod.kin (by rw [gd.K]; exact MX.1) (thn ((ok_cons he ok_nil hs).run pos pins s σ H _ I h) fun us s1 ⟨xs, H1, I1, r1, y, ey, q⟩ => ⟨I1.kIn, ?_⟩) hs hpl
    subst ey
    cases r1 with
    | cons r1 r2 =>
      cases r2
      exact MX.2 gd I1 r1 q
  refine PS.imp (ps_raise gd.calm gd.takes hp) ?_
  rintro D σ H ⟨m, L, S, sr, hl, hp⟩
  refine ⟨m, L, S, sr, hl, ?_⟩
  unfold raiseS at hp
  unfold consA
  cases ef : f L S with
  | bad => rw [ef] at hp; exact hp.elim
  | ex k' v S1 => rw [ef] at hp; exact fun H1 m1 d g1 s1 ex => hp H1 m1 d σ g1 s1 (hl.grow g1) ex
  | ok v S1 =>
    rw [ef] at hp
    intro H1 m1 xs g1 s1 r1
    unfold RVs at r1
    obtain ⟨y, t, rfl, r, rt⟩ := r1
    unfold RVs at rt
    subst rt
    refine ⟨y, rfl, fun d hd => ?_⟩
    have gn := Gr.new (Z := Z) (m := m1) (o := .xd [("value", y)]) hd
    exact hp _ m1 (some d) σ (g1.trans gn) (s1.new hd) ((hl.grow g1).grow gn) ⟨d, y, rfl, upd_same, r.grow gn⟩
end
end MP
set_option maxRecDepth 100000
namespace MP
open PySem L2 PyProof.Rows
/-! ### many except clauses, with names -/
def dGone (D : Ends) (i : Nat) : Ends := { nx := fun σ H => D.nx (σ.set i none) H, rt := D.rt, bk := fun σ H => D.bk (σ.set i none) H, ct := fun σ H => D.ct (σ.set i none) H }
abbrev HdT : Type := Value × Option Nat × (Addr → Value → Option Addr → TS)
def wishA (o : Option Nat) (ts : Addr → Value → Option Addr → TS) (D : Ends) (a : Addr) (cls : Value) (d : Option Addr) (σ : L2.St) (H : Hp) : Prop := match o with
  | none => ts a cls d D σ H
  | some i => ts a cls d (dGone D i) (σ.set i (some (.ref a))) H
def wManyA (K : PySem.W.Frag) (Wout : WX) (D : Ends) : List HdT → WX
  | [] => Wout
  | (c, o, ts) :: r => fun cls d σ H => ∃ b, PySem.W.exmOne K cls c = some b ∧ (b = true → ∀ a, H a = none → wishA o ts D a cls d σ H) ∧ (b = false → wManyA K Wout D r cls d σ H)
inductive HdsA (X : Cx) : List ExceptHandler → List HdT → Prop
  | nil : HdsA X [] []
  | one {x : Str} {c : Value} {ts : Addr → Value → Option Addr → TS} {b₀ : Stmt} {suite : List Stmt} {np pos' : Pos} {hds : List ExceptHandler} {l : List HdT} (hc : Names X x c)
      (hsu : ∀ (a : Addr) (oe : Obj) (cls : Value) (d : Option Addr) (pn : List (Addr × Obj)), Zc cls d oe → (∃ vs, oe.data = .fields vs) → PSs (X.suite a ((a, oe) :: pn)) (b₀ :: suite) (ts a cls d)) (r : HdsA X hds l) :
      HdsA X (.ExceptHandler (some (.Name x np)) none (b₀ :: suite) pos' :: hds) ((c, none, ts) :: l)
  | nam {x n : Str} {i : Nat} {c : Value} {ts : Addr → Value → Option Addr → TS} {b₀ : Stmt} {suite : List Stmt} {np pos' : Pos} {hds : List ExceptHandler} {l : List HdT} (hi : X.N[i]? = some n) (hln : X.env.kindOf n = some .local) (hc : Names X x c)
      (hsu : ∀ (a : Addr) (oe : Obj) (cls : Value) (d : Option Addr) (pn : List (Addr × Obj)), Zc cls d oe → (∃ vs, oe.data = .fields vs) → PSs (X.suite a ((a, oe) :: pn)) (b₀ :: suite) (ts a cls d)) (r : HdsA X hds l) :
      HdsA X (.ExceptHandler (some (.Name x np)) (some n) (b₀ :: suite) pos' :: hds) ((c, some i, ts) :: l)
section
variable {X : Cx} {body : List Stmt} {h₀ : ExceptHandler} {hds : List ExceptHandler} {l : List HdT} {pos : Pos} {tb : WX → TS} {Wout : WX}
theorem ps_try_manyA (hs : X.stack = X.env :: X.outer) (hf : X.env.frame = some X.env.locals) (hN : X.N.Nodup) (tk : Takes X Wout)
    (hb : ∀ (W : WX) (pn : List (Addr × Obj)) (xe : Value → Shared → Prop), Takes (X.tr pn xe) W → PassesOwn (model X.prog X.w) X.A X.env xe → PSs (X.tr pn xe) body (tb W))
    (hh : HdsA X (h₀ :: hds) l) : PS X (.Try body (h₀ :: hds) [] [] pos) (fun D σ H => tb (wManyA X.K Wout D l) D σ H) := by
  refine ⟨fun pins s σ H D I h => ?_⟩
  have ok := I.ok
  have hfr : X.A.frames = some (X.env :: X.outer) := by rw [ok.frames, hs]
  refine wpAny_Try_except ?_
  refine wpAny_mono ((hb (wManyA X.K Wout D l) (X.pn ++ pins) (fun e s₁ => wpAny (model X.prog X.w) X.A (noteFrame e X.env) (fun _ s₂ => wpAny (model X.prog X.w) X.A (setFlight e none) (fun _ s₃ =>
    wpAny (model X.prog X.w) X.A (handleBy e X.env (h₀ :: hds)) (SP X pins D) X.xe s₃) X.xe s₂) X.xe s₁) (fun u s' xx => ?_) PassesOwn.looking).run [] s σ H D (I.toTry _) h) (fun f s1 hsp => ?_) (fun e s1 he => he)
  · -- the catch
    obtain ⟨a, B, sI, pins', σ', H', cls, d, rfl, J', nb, up, sky, na, os, ag, w⟩ := xx
    have J : Inv X pins σ' H' sI := J'.ofTry ok
    have sky' : Sky B (X.env :: X.outer) a (Zc cls d) X.env.locals s'.heap := by rw [← hs]; exact sky
    show wpAny (model X.prog X.w) X.A (noteFrame (.ref a) X.env) _ _ _
    refine Sky.land Zc.steady hfr hf sky' fun h3 fl3 up3 => ?_
    have J3 : Inv X pins σ' H' { s' with heap := h3 } := J.landed nb fl3.1 (up.trans up3) os ag
    obtain ⟨oe3, vs3, he3, hz3, hd3⟩ := fl3.there
    have notFr : ∀ {h : Heap} {o : Obj} {vs : Array Value}, h.FunFrames B (X.env :: X.outer) → h.get? a = some o → o.data = .fields vs → a ∉ frs (X.env :: X.outer) := fun {h o vs} ff e dd hm => by
      obtain ⟨_, o', e', hnf⟩ := ff.mem hm
      rw [e] at e'; cases e'
      exact hnf _ dd
    have nfr := notFr fl3.2.2.1 he3 hd3
    have nL : a ≠ X.env.locals := fun z => nfr (List.mem_filterMap.mpr ⟨X.env, List.mem_cons_self, by rw [hf, z]⟩)
    have nF : a ∉ X.fs := fun hm => by
      obtain ⟨e, he, q⟩ := List.mem_filterMap.mp hm
      exact nfr (List.mem_filterMap.mpr ⟨e, List.mem_cons_of_mem _ he, q⟩)
    have S3 := J3.suite he3 hd3 na nL nF
    have LT : PySem.W.Looks (model X.prog X.w) h3 (typeOf (.ref a)) cls := fun A Q E s k q => wpAny_typeOf_ref (k _ _ he3) (by rw [hz3.1]; exact q)
    have test : ∀ {x : Str} {c : Value} {np : Pos} {Q : Value → Shared → Prop} {E : Value → Shared → Prop}, Names X x c → Q c { s' with heap := h3 } → wpAny (model X.prog X.w) (X.A.mark (some (.ref a))) (eval (.Name x np) X.env) Q E { s' with heap := h3 } := fun {x c np Q E} hc q => by
      obtain ⟨hg, hdbg, hm | ⟨hm, hv, hnn⟩⟩ := hc
      · exact ld_glob (X := X.suite a ((a, oe3) :: (X.pn ++ pins))) S3 hg hm q hdbg
      · exact ld_blt (X := X.suite a ((a, oe3) :: (X.pn ++ pins))) S3 hg hm hv q hnn hdbg
    have go : ∀ {hds' : List ExceptHandler} {l' : List HdT}, HdsA X hds' l' → wManyA X.K Wout D l' cls d σ' H' →
        wpAny (model X.prog X.w) X.A (handleBy (.ref a) X.env hds') (SP X pins D) X.xe { s' with heap := h3 } := by
      intro hds' l' hk
      induction hk with
      | nil =>
        intro w
        refine wpAny_handleBy_nil ?_
        obtain ⟨k1, k2, k3, oe, vs, T, oT, ts', he, hz, hd, h1, hr⟩ := id fl3
        unfold PySem.passOn
        refine wpAny_bind (wpAny_field he hd h1 ?_)
        rw [if_neg (show ¬ ((Value.ref T == Value.none) = true) from by simp)]
        have fin : wpAny (model X.prog X.w) X.A (setFlight (.ref a) X.env.frame) (fun _ s4 => wpAny (model X.prog X.w) X.A (throw (.ref a) : Sem Flow) (SP X pins D) X.xe s4) X.xe { s' with heap := h3 } := by
          rw [hf]
          refine HandSPX.setFlight_upZ fl3 fun h4 hh4 up4 => wpAny_throw (tk _ _ ?_)
          exact ⟨a, B, sI, pins, σ', H', cls, d, rfl, J, nb, (up.trans up3).trans up4, .inr (.inr (by rw [hs]; exact hh4)), na, os, ag, w⟩
        first
          | exact wpAny_bind (wpAny_pure (wpAny_bind fin))
          | exact wpAny_bind fin
      | @one x c ts b₀ suite np pos' hds2 l2 hc hsu r ih =>
        intro w
        obtain ⟨b, hb1, hyes, hno⟩ := w
        refine wpAny_handleBy_cons (codeAny_handlers_test ?_) (by intro q; cases q)
        have LM := PySem.W.exm_one (M := model X.prog X.w) (J3.kIn) LT hb1
        refine test hc (LM.here ?_)
        cases b with
        | true =>
          refine codeAny_handlers_suite ?_
          refine HandSPX.lands_againZ fl3 fun h4 fl4 up4 => ?_
          have J4 : Inv X pins σ' H' { s' with heap := h4 } := J.landed nb fl4.1 ((up.trans up3).trans up4) os ag
          obtain ⟨oe4, vs4, he4, hz4, hd4⟩ := fl4.there
          have S4 := J4.suite he4 hd4 na nL nF
          refine wpAny_mono ((hsu a oe4 cls d (X.pn ++ pins) hz4 ⟨_, hd4⟩).run [] _ _ H' _ S4 (hyes rfl a na)) (fun f s6 hsp => ?_) (fun _ _ z => False.elim z)
          cases f with
          | next =>
            obtain ⟨σ6, H6, S6, q6⟩ := hsp
            exact ⟨_, _, S6.unsuite ok, q6⟩
          | brk =>
            obtain ⟨σ6, H6, S6, q6⟩ := hsp
            exact ⟨_, _, S6.unsuite ok, q6⟩
          | cont =>
            obtain ⟨σ6, H6, S6, q6⟩ := hsp
            exact ⟨_, _, S6.unsuite ok, q6⟩
          | ret u =>
            obtain ⟨v6, σ6, H6, S6, r6, q6⟩ := hsp
            exact ⟨_, _, _, S6.unsuite ok, r6, q6⟩
        | false =>
          show wpAny _ X.A (handleBy (.ref a) X.env hds2) _ _ _
          exact ih (hno rfl)
      | @nam x n i c ts b₀ suite np pos' hds2 l2 hi hln hc hsu r ih =>
        intro w
        obtain ⟨b, hb1, hyes, hno⟩ := w
        have hloc : L2.Loc X.env.scope n := .inl hln
        refine wpAny_handleBy_cons (codeAny_handlers_test ?_) (by intro q; cases q)
        have LM := PySem.W.exm_one (M := model X.prog X.w) (J3.kIn) LT hb1
        refine test hc (LM.here ?_)
        cases b with
        | true =>
          refine codeAny_handlers_suite_as ?_
          refine HandSPX.lands_againZ fl3 fun h4 fl4 up4 => ?_
          have J4 : Inv X pins σ' H' { s' with heap := h4 } := J.landed nb fl4.1 ((up.trans up3).trans up4) os ag
          obtain ⟨oe4, vs4, he4, hz4, hd4⟩ := fl4.there
          have S4 := J4.suite he4 hd4 na nL nF
          refine store_ok (X := X.suite a ((a, oe4) :: (X.pn ++ pins))) (v := .ref a) S4 hN hi hloc rfl (fun s5 S5 => ?_) (.inr hln)
          refine wpAny_mono ((hsu a oe4 cls d (X.pn ++ pins) hz4 ⟨_, hd4⟩).run [] s5 _ H' _ S5 (hyes rfl a na)) (fun f s6 hsp => ?_) (fun _ _ z => False.elim z)
          have end_ : ∀ {σ6 : L2.St} {H6 : Hp} {Q : Shared → Prop}, Inv (X.suite a ((a, oe4) :: (X.pn ++ pins))) [] σ6 H6 s6 → (∀ s7, Inv X pins (σ6.set i none) H6 s7 → Q s7) →
              wpAny (model X.prog X.w) X.A (do bindName X.env n .none; unbindBehindTheSuite X.env n pos') (fun _ s7 => Q s7) X.xe s6 := fun {σ6 H6 Q} S6 hq => gone_ok (S6.unsuite ok) hN hi hln hq
          cases f with
          | next =>
            obtain ⟨σ6, H6, S6, q6⟩ := hsp
            exact end_ S6 fun s7 J7 => ⟨_, _, J7, q6⟩
          | brk =>
            obtain ⟨σ6, H6, S6, q6⟩ := hsp
            exact end_ S6 fun s7 J7 => ⟨_, _, J7, q6⟩
          | cont =>
            obtain ⟨σ6, H6, S6, q6⟩ := hsp
            exact end_ S6 fun s7 J7 => ⟨_, _, J7, q6⟩
          | ret u =>
            obtain ⟨v6, σ6, H6, S6, r6, q6⟩ := hsp
            exact end_ S6 fun s7 J7 => ⟨_, _, _, J7, r6, q6⟩
        | false =>
          show wpAny _ X.A (handleBy (.ref a) X.env hds2) _ _ _
          exact ih (hno rfl)
    exact go hh w
  · cases f with
    | next =>
      obtain ⟨σ', H', J', q⟩ := hsp
      exact wpAny_execs_nil ⟨σ', H', J'.ofTry ok, q⟩
    | brk =>
      obtain ⟨σ', H', J', q⟩ := hsp
      exact ⟨σ', H', J'.ofTry ok, q⟩
    | cont =>
      obtain ⟨σ', H', J', q⟩ := hsp
      exact ⟨σ', H', J'.ofTry ok, q⟩
    | ret u =>
      obtain ⟨v, σ', H', J', r, q⟩ := hsp
      exact ⟨v, σ', H', J'.ofTry ok, r, q⟩
end
/-! ### what a try computes -/
def clrR (i : Nat) : RS → RS
  | .nx L S => .nx (L.set i none) S
  | .bk L S => .bk (L.set i none) S
  | .ct L S => .ct (L.set i none) S
  | .rt v S => .rt v S
  | _ => .bad
def noExS : RS → RS
  | .ex _ _ _ _ => .bad
  | r => r
abbrev HdF : Type := Nat → PV → Loc → Hs → RS
structure Hd where
  tk : Nat → Option Bool
  i : Option Nat
  h : HdF
def hdOne (o : Option Nat) (h : HdF) (k : Nat) (v : PV) (L : Loc) (S : Hs) : RS := match o with
  | none => noExS (h k v L S)
  | some i => if i < L.length then clrR i (h k v (L.set i none) S) else .bad
def hdsS : List Hd → HdF
  | [], k, v, L, S => .ex k v L S
  | h :: r, k, v, L, S => match h.tk k with
    | some true => hdOne h.i h.h k v L S
    | some false => hdsS r k v L S
    | none => .bad
def tryS (f : Loc → Hs → RS) (hs : List Hd) : Loc → Hs → RS := fun L S => match f L S with
  | .ex k v L1 S1 => hdsS hs k v L1 S1
  | r => r
/-- nothing leaves a suite -/
abbrev WNo : WX := fun _ _ _ _ => False
/-- a suite's reading -/
def tHd (Z : Sta) (o : Option Nat) (h : HdF) (a : Addr) (cls : Value) (d : Option Addr) : TS := fun D σ H => ∃ k v m L S, cls = .ref (Z.G k) ∧ (∀ i, o = some i → σ[i]? = some (some (.ref a))) ∧ SRel Z H m S ∧ LRel Z H m L σ ∧ ExcAt Z H m v d ∧ PostS Z WNo D H m (h k v L S)
inductive HdsM (Z : Sta) (X : Cx) : List ExceptHandler → List Hd → Prop
  | nil : HdsM Z X [] []
  | one {x : Str} {c : Value} {tk : Nat → Option Bool} {h : HdF} {b₀ : Stmt} {suite : List Stmt} {np pos' : Pos} {hds : List ExceptHandler} {l : List Hd} (hc : Names X x c) (ht : ∀ k b, tk k = some b → PySem.W.exmOne Z.K (.ref (Z.G k)) c = some b)
      (hsu : ∀ (a : Addr) (oe : Obj) (cls : Value) (d : Option Addr) (pn : List (Addr × Obj)), Zc cls d oe → (∃ vs, oe.data = .fields vs) → PSs (X.suite a ((a, oe) :: pn)) (b₀ :: suite) (tHd Z none h a cls d)) (r : HdsM Z X hds l) :
      HdsM Z X (.ExceptHandler (some (.Name x np)) none (b₀ :: suite) pos' :: hds) (⟨tk, none, h⟩ :: l)
  | nam {x n : Str} {i : Nat} {c : Value} {tk : Nat → Option Bool} {h : HdF} {b₀ : Stmt} {suite : List Stmt} {np pos' : Pos} {hds : List ExceptHandler} {l : List Hd} (hi : X.N[i]? = some n) (hln : X.env.scope.names.lookup n = some .local) (hc : Names X x c) (ht : ∀ k b, tk k = some b → PySem.W.exmOne Z.K (.ref (Z.G k)) c = some b)
      (hsu : ∀ (a : Addr) (oe : Obj) (cls : Value) (d : Option Addr) (pn : List (Addr × Obj)), Zc cls d oe → (∃ vs, oe.data = .fields vs) → PSs (X.suite a ((a, oe) :: pn)) (b₀ :: suite) (tHd Z (some i) h a cls d)) (r : HdsM Z X hds l) :
      HdsM Z X (.ExceptHandler (some (.Name x np)) (some n) (b₀ :: suite) pos' :: hds) (⟨tk, some i, h⟩ :: l)
section
variable {Z : Sta} {W : WX} {σ : L2.St} {H H1 : Hp} {m m1 m2 : Mp} {X : Cx} {S : Hs} {x y : V} {a : Addr} {lv k : Nat} {pins : List (Addr × Obj)} {s : Shared} {Q : VK}
theorem LRel.unset {L : Loc} {i : Nat} {z : Option V} (hl : LRel Z H m L σ) : LRel Z H m (L.set i none) (σ.set i z) := by
  refine ⟨by rw [List.length_set, List.length_set]; exact hl.1, fun j v e => ?_⟩
  by_cases hj : i = j
  · subst hj
    by_cases hlt : i < L.length
    · rw [List.getElem?_set_self hlt] at e; cases e
    · rw [List.getElem?_eq_none (by simpa using hlt)] at e; cases e
  · rw [List.getElem?_set_ne hj] at e
    obtain ⟨x, ex, r⟩ := hl.2 j v e
    exact ⟨x, by rw [List.getElem?_set_ne hj]; exact ex, r⟩
theorem clr_post {D : Ends} {i : Nat} {r : RS} (h : PostS Z W D H m (clrR i r)) : PostS Z WNo (dGone D i) H m r := by
  cases r with
  | nx L S => exact fun H' m' σ g s l => h H' m' (σ.set i none) g s l.unset
  | bk L S => exact fun H' m' σ g s l => h H' m' (σ.set i none) g s l.unset
  | ct L S => exact fun H' m' σ g s l => h H' m' (σ.set i none) g s l.unset
  | rt v S => exact h
  | ex k v L S => exact h.elim
  | bad => exact h.elim
theorem noEx_post {D : Ends} {r : RS} (h : PostS Z W D H m (noExS r)) : PostS Z WNo D H m r := by
  cases r with
  | ex k v L S => exact h.elim
  | bad => exact h.elim
  | _ => exact h
/-- the clauses at the hand layer -/
def hdT (Z : Sta) (c : Value) (h : Hd) : HdT := (c, h.i, tHd Z h.i h.h)
theorem hdsM_A : ∀ {hds : List ExceptHandler} {l : List Hd}, HdsM Z X hds l → ∃ cs : List Value, cs.length = l.length ∧ HdsA X hds (List.zipWith (hdT Z) cs l) ∧ ∀ p ∈ cs.zip l, ∀ k b, p.2.tk k = some b → PySem.W.exmOne Z.K (.ref (Z.G k)) p.1 = some b := by
  intro hds l h
  induction h with
  | nil => exact ⟨[], rfl, .nil, fun _ h => nomatch h⟩
  | @one x c tk h b₀ suite np pos' hds l hc ht hsu r ih =>
    obtain ⟨cs, e, ha, hp⟩ := ih
    exact ⟨c :: cs, by simp [e], .one hc hsu ha, fun p hp' => by
      rcases List.mem_cons.mp hp' with q | q
      · subst q; exact ht
      · exact hp p q⟩
  | @nam x n i c tk h b₀ suite np pos' hds l hi hln hc ht hsu r ih =>
    obtain ⟨cs, e, ha, hp⟩ := ih
    exact ⟨c :: cs, by simp [e], .nam hi hln hc hsu ha, fun p hp' => by
      rcases List.mem_cons.mp hp' with q | q
      · subst q; exact ht
      · exact hp p q⟩
theorem hds_read {D : Ends} {v : PV} {d : Option Addr} {K : PySem.W.Frag} (hK : K = Z.K) : ∀ {cs : List Value} {l : List Hd} {L : Loc}, cs.length = l.length → (∀ p ∈ cs.zip l, ∀ k b, p.2.tk k = some b → PySem.W.exmOne Z.K (.ref (Z.G k)) p.1 = some b) → SRel Z H m S → LRel Z H m L σ → ExcAt Z H m v d →
    PostS Z W D H m (hdsS l k v L S) → wManyA K W D (List.zipWith (hdT Z) cs l) (.ref (Z.G k)) d σ H
  | [], [], L, _, _, sr, hl, ex, hp => hp H m d σ Gr.refl sr hl ex
  | [], _ :: _, _, e, _, _, _, _, _ => by cases e
  | _ :: _, [], _, e, _, _, _, _, _ => by cases e
  | c :: cs, h :: l, L, e, ht, sr, hl, ex, hp => by
    unfold hdsS at hp
    cases et : h.tk k with
    | none => rw [et] at hp; exact hp.elim
    | some b =>
      rw [et] at hp
      refine ⟨b, by rw [hK]; exact ht (c, h) List.mem_cons_self k b et, fun hb a ha => ?_, fun hb => ?_⟩
      · subst hb
        obtain ⟨tk, o, f⟩ := h
        cases o with
        | none => exact ⟨k, v, m, L, S, rfl, (fun i e => nomatch e), sr, hl, ex, noEx_post hp⟩
        | some i =>
          have hp' : PostS Z W D H m (if i < L.length then clrR i (f k v (L.set i none) S) else .bad) := hp
          split at hp'
          · rename_i hlt
            refine ⟨k, v, m, L.set i none, S, rfl, fun j ej => ?_, sr, hl.unset, ex, clr_post hp'⟩
            cases ej
            exact List.getElem?_set_self (by rw [hl.1]; exact hlt)
          · exact hp'.elim
      · subst hb
        exact hds_read hK (by simpa using e) (fun p hp' => ht p (List.mem_cons_of_mem _ hp')) sr hl ex hp
theorem Good.tr (gd : Good Z lv X W) {pn : List (Addr × Obj)} {xe : Value → Shared → Prop} {W1 : WX} (tk : Takes (X.tr pn xe) W1) : Good Z lv (X.tr pn xe) W1 :=
  ⟨gd.prog, gd.w, gd.K, gd.mg, gd.base, gd.room3, gd.calm, gd.nd, tk⟩
theorem ok_try {body : List Stmt} {hds : List ExceptHandler} {pos : Pos} {f : Loc → Hs → RS} {l : List Hd} (gd : Good Z lv X W) (hs : X.stack = X.env :: X.outer) (hf : X.env.frame = some X.env.locals)
    (hb : ∀ (W1 : WX) (pn : List (Addr × Obj)) (xe : Value → Shared → Prop), Good Z lv (X.tr pn xe) W1 → PassesOwn (model X.prog X.w) X.A X.env xe → PSs (X.tr pn xe) body (tS Z W1 f)) (hh : HdsM Z X hds l) (hne : hds.isEmpty = false) :
    PS X (.Try body hds [] [] pos) (tS Z W (tryS f l)) := by
  obtain ⟨cs, e, ha, hp⟩ := hdsM_A hh
  cases hds with
  | nil => cases hne
  | cons h₀ hds =>
    refine PS.imp (ps_try_manyA hs hf gd.nd gd.takes (tb := fun W1 => tS Z W1 f) (fun W1 pn xe tk hx => hb W1 pn xe (gd.tr tk) hx) ha) ?_
    rintro D σ H ⟨m, L, S, sr, hl, hq⟩
    refine ⟨m, L, S, sr, hl, ?_⟩
    unfold tryS at hq
    cases ef : f L S with
    | ex k v L1 S1 =>
      rw [ef] at hq
      exact fun H' m' d σ' g s1 l1 ex => hds_read gd.K e hp s1 l1 ex (PostS.grow g hq)
    | nx L1 S1 => rw [ef] at hq; exact hq
    | rt v S1 => rw [ef] at hq; exact hq
    | bk L1 S1 => rw [ef] at hq; exact hq
    | ct L1 S1 => rw [ef] at hq; exact hq
    | bad => rw [ef] at hq; exact hq
theorem DefX.tr {N : List Str} {sc : Scope} {vs ls : List Nat} {gs : List Str} (D : DefX X N sc vs ls gs) {pn : List (Addr × Obj)} {xe : Value → Shared → Prop} : DefX (X.tr pn xe) N sc vs ls gs := ⟨D.eN, D.esc, D.chk, D.fnc⟩
/-- try in a def -/
theorem ok_tryD {N : List Str} {sc : Scope} {vs ls : List Nat} {gs : List Str} {body : List Stmt} {hds : List ExceptHandler} {pos : Pos} {f : Loc → Hs → RS} {l : List Hd} (gd : Good Z lv X W) (D : DefX X N sc vs ls gs) (hp : Hx X)
    (hb : ∀ (W1 : WX) (pn : List (Addr × Obj)) (xe : Value → Shared → Prop), Good Z lv (X.tr pn xe) W1 → DefX (X.tr pn xe) N sc vs ls gs → Hx (X.tr pn xe) → PSs (X.tr pn xe) body (tS Z W1 f)) (hh : HdsM Z X hds l) (hne : hds.isEmpty = false) :
    PS X (.Try body hds [] [] pos) (tS Z W (tryS f l)) :=
  ok_try gd hp.st hp.fr (fun W1 pn xe g1 h1 => hb W1 pn xe g1 D.tr ⟨h1, hp.st, hp.fr⟩) hh hne
end
end MP
set_option maxRecDepth 100000
namespace MP
open PySem L2 PyProof.Rows
/-! ### suites: name = [.., e.value, isinstance(e, D)] -/
/-- what must be known of an exception's class -/
def exB (K : Fr) (C : Addr) : Bool := PySem.W.hasDictIn K C && eqB' (PySem.W.findIn K (.ref C) "__getattribute__") (some (some (.builtin "BaseException.__getattribute__"))) && eqB' (PySem.W.findIn K (.ref C) "__getattr__") (some none) && decide (PySem.W.subIn K (.ref C) (.type "BaseException") = some true) &&
  eqB' (PySem.W.findIn K (.ref C) "value") (some none) && eqB' (PySem.W.findIn K (.ref C) "__class__") (some (some (.builtin "object.__class__"))) && eqB' (PySem.W.specialIn K (.builtin "object.__class__") "__get__") (some (some (.builtin "getset_descriptor.__get__"))) && decide (PySem.W.takesIn K (.builtin "object.__class__") = some true) && decide (PySem.W.mroIn K C (.type "object") = some true) &&
  decide (PySem.W.typeIn K (.ref C) = some (.type "type"))
structure ExK (K : Fr) (C : Addr) : Prop where
  hd : PySem.W.hasDictIn K C = true
  ga : PySem.W.findIn K (.ref C) "__getattribute__" = some (some (.builtin "BaseException.__getattribute__"))
  gg : PySem.W.findIn K (.ref C) "__getattr__" = some none
  ec : PySem.W.subIn K (.ref C) (.type "BaseException") = some true
  nv : PySem.W.findIn K (.ref C) "value" = some none
  ca : PySem.W.findIn K (.ref C) "__class__" = some (some (.builtin "object.__class__"))
  cn : PySem.W.specialIn K (.builtin "object.__class__") "__get__" = some (some (.builtin "getset_descriptor.__get__"))
  tk : PySem.W.takesIn K (.builtin "object.__class__") = some true
  mr : PySem.W.mroIn K C (.type "object") = some true
  ty : PySem.W.typeIn K (.ref C) = some (.type "type")
theorem exB_ok {K : Fr} {C : Addr} (h : exB K C = true) : ExK K C := by
  unfold exB at h
  simp only [Bool.and_eq_true, decide_eq_true_eq] at h
  obtain ⟨⟨⟨⟨⟨⟨⟨⟨⟨h1, h2⟩, h3⟩, h4⟩, h5⟩, h6⟩, h7⟩, h8⟩, h9⟩, h10⟩ := h
  exact ⟨h1, eqB'_ok h2, eqB'_ok h3, h4, eqB'_ok h5, eqB'_ok h6, eqB'_ok h7, h8, h9, h10⟩
/-- the items of such a display -/
inductive HI where
  | con (v : PV) | val | isin (b : Nat → Option Bool)
def itV (ok : Nat → Bool) (k : Nat) (v : PV) : HI → Option PV
  | .con w => some w
  | .val => if ok k then some v else none
  | .isin b => if ok k then (b k).map .bl else none
/-- the exception in hand -/
structure InH (Z : Sta) (i : Nat) (a : Addr) (cls : Value) (d : Option Addr) (σ : L2.St) (H : Hp) (m : Mp) (k : Nat) (v : PV) : Prop where
  ec : cls = .ref (Z.G k)
  hi : σ[i]? = some (some (.ref a))
  ex : ExcAt Z H m v d
def tIt (Z : Sta) (ok : Nat → Bool) (i : Nat) (a : Addr) (cls : Value) (d : Option Addr) (it : HI) : TE := fun σ H Q => ∃ m k v w, InH Z i a cls d σ H m k v ∧ itV ok k v it = some w ∧ ∀ x, RV Z H m w x → Q x H
def tIts (Z : Sta) (ok : Nat → Bool) (i : Nat) (a : Addr) (cls : Value) (d : Option Addr) (its : List HI) : TA := fun σ H Q => ∃ m k v ws, InH Z i a cls d σ H m k v ∧ mapO (itV ok k v) its = some ws ∧ ∀ xs, RVs Z H m ws xs → Q xs H
section
variable {Z : Sta} {W : WX} {σ : L2.St} {H H1 : Hp} {m m1 m2 : Mp} {X : Cx} {S : Hs} {x y : V} {a : Addr} {lv k i : Nat} {pins : List (Addr × Obj)} {s : Shared} {Q : VK} {oe : Obj} {cls : Value} {d : Option Addr} {pn : List (Addr × Obj)} {ok : Nat → Bool}
theorem it_con {e : Expr} {w : PV} {x : V} (h : PE (X.suite a ((a, oe) :: pn)) e (tC x)) (r : ∀ H m, RV Z H m w x) : PE (X.suite a ((a, oe) :: pn)) e (tIt Z ok i a cls d (.con w)) := by
  refine PE.imp h ?_
  rintro σ H Q ⟨m, k, v, w', _, e, q⟩
  cases e
  exact q x (r H m)
theorem it_val {n : Str} {p pos : Pos} (hK : X.K = Z.K) (hok : ∀ k, ok k = true → ExK Z.K (Z.G k)) (hN : X.N[i]? = some n) (hv : Vis X.env.scope n) (hd : (n == ("__debug__" : Str)) = false) (hcd : (n == ("__classdict__" : Str)) = false)
    (hz : Zc cls d oe) (hf : ∃ vs, oe.data = .fields vs) : PE (X.suite a ((a, oe) :: pn)) (.Attribute (.Name n p) "value" pos) (tIt Z ok i a cls d .val) := by
  refine ⟨fun pins s σ H Q I ⟨m, k, v, w, ih, e, q⟩ => ?_⟩
  have e' : (if ok k then some v else none) = some w := e
  split at e'
  · rename_i hk
    cases e'
    obtain ⟨ec, hi, dx, x, ed, ex, r⟩ := ih
    have T := hok k hk
    refine (pe_xf (X := X) (C := Z.G k) ⟨by rw [hK]; exact T.ga, by rw [hK]; exact T.gg, by rw [hK]; exact T.ec, by rw [hK]; exact T.hd⟩ (by rw [hK]; exact T.nv) hz hf (pe_var (X := X.suite a ((a, oe) :: pn)) hN hv hd hcd)).run pins s σ H Q I ?_
    exact ⟨.ref a, hi, rfl, ec, dx, _, x, ed, ex, rfl, q x r⟩
  · cases e'
theorem it_isin {n nm c : Str} {p p1 p2 pos : Pos} {b : Nat → Option Bool} {cw : V} {cv : Value} (hK : X.K = Z.K) (hmg : X.mg = Z.mg) (hok : ∀ k, ok k = true → ExK Z.K (Z.G k)) (hN : X.N[i]? = some n) (hv : Vis X.env.scope n) (hd : (n == ("__debug__" : Str)) = false) (hcd : (n == ("__classdict__" : Str)) = false)
    (hg : Gl X nm) (hm : Z.mg nm = none) (hbt : bootBuiltins nm = some (.builtin "isinstance")) (hnn : nm ≠ "__name__") (hdb : (nm == ("__debug__" : Str)) = false) (hc : PE (X.suite a ((a, oe) :: pn)) (.Name c p2) (tC cw)) (hcv : ∀ u, RelV cw u → u = cv) (hb : ∀ k t, b k = some t → PySem.W.kitOne Z.K (.ref (Z.G k)) cv = some t)
    (hz : Zc cls d oe) (hf : ∃ vs, oe.data = .fields vs) : PE (X.suite a ((a, oe) :: pn)) (.Call (.Name nm p) [.Name n p1, .Name c p2] [] pos) (tIt Z ok i a cls d (.isin b)) := by
  refine ⟨fun pins s σ H Q I ⟨m, k, v, w, ih, e, q⟩ => ?_⟩
  have e' : (if ok k then (b k).map PV.bl else none) = some w := e
  split at e'
  · rename_i hk
    obtain ⟨t, et, ew⟩ := map_some e'
    subst ew
    obtain ⟨ec, hi, dx, x, ed, ex, r⟩ := ih
    have T := hok k hk
    refine PySem.wpAny_Call_Name_kw (ld_blt I hg (by show X.mg nm = none; rw [hmg]; exact hm) hbt ?_ hnn hdb)
    have ha : PA (X.suite a ((a, oe) :: pn)) [.Name n p1, .Name c p2] (tCons (tVar i) (tCons (tC cw) tNil)) := pa_cons (pe_var (X := X.suite a ((a, oe) :: pn)) hN hv hd hcd) (pa_cons hc pa_nil rfl) rfl
    refine PyProof.Rows.callWith_builtin1 (thn (ha.run pos pins s σ H (fun xs H1 => xs = [.ref a, cw] ∧ H1 = H) I ⟨.ref a, hi, rfl, rfl⟩) fun us s1 ⟨xs, H1, I1, rx, ex2, eh⟩ => ?_) rfl rfl
    subst ex2 eh
    cases rx with
    | cons r1 rr =>
      cases rr with
      | cons r2 rr =>
        cases rr
        cases r1
        have e2 := hcv _ r2
        subst e2
        obtain ⟨hget, _⟩ := I1.pin (a, oe) (List.mem_append.mpr (.inl List.mem_cons_self))
        obtain ⟨vs, hdt⟩ := hf
        obtain ⟨mA, hns, hr⟩ := I1.hok dx _ ex
        obtain ⟨od, ho, hl⟩ := lookIn_ns hns
        have J : PySem.W.InstAt s1.heap a oe (Z.G k) (some od) := ⟨hget, by rw [hz.1]; exact ec, by unfold PySem.W.notCls; rw [hdt] <;> rfl, by rw [hz.2, ed]; exact ho⟩
        obtain ⟨cd, hcd', _⟩ := PySem.W.any_some T.hd
        have kx := PySem.W.kitx_exc (K := Z.K) (x := a) (C := Z.G k) (ox := oe) (od := some od) (by rw [hcd']; rfl) T.ga T.gg T.ec T.ca T.cn T.tk T.mr
        refine PySem.W.kia_one kx (by rw [← hK]; exact I1.kIn) J (hb k t et) (fun z => nomatch z) fun tk => ⟨.bl t, H1, I1.kept (t' := tk) fun _ _ z => z, rfl, q (.bl t) to_bl⟩
  · cases e'
inductive ItsOk (Z : Sta) (X : Cx) (ok : Nat → Bool) (i : Nat) (a : Addr) (oe : Obj) (cls : Value) (d : Option Addr) (pn : List (Addr × Obj)) : List Expr → List HI → Prop
  | nil : ItsOk Z X ok i a oe cls d pn [] []
  | cons {e : Expr} {es : List Expr} {it : HI} {its : List HI} (h : PE (X.suite a ((a, oe) :: pn)) e (tIt Z ok i a cls d it)) (hs : starEach (e :: es) X.env = (false, eval e X.env) :: starEach es X.env) (r : ItsOk Z X ok i a oe cls d pn es its) : ItsOk Z X ok i a oe cls d pn (e :: es) (it :: its)
theorem its_ok : ∀ {es : List Expr} {its : List HI}, ItsOk Z X ok i a oe cls d pn es its → PA (X.suite a ((a, oe) :: pn)) es (tIts Z ok i a cls d its) := by
  intro es its h
  induction h with
  | nil =>
    refine PA.imp pa_nil ?_
    rintro σ H Q ⟨m, k, v, ws, _, e, q⟩
    cases e
    exact q [] RVs.nil
  | @cons e es it its h hs r ih =>
    refine PA.imp (pa_cons h ih hs) ?_
    rintro σ H Q ⟨m, k, v, ws, hh, e, q⟩
    unfold mapO at e
    cases e1 : itV ok k v it with
    | none => rw [e1] at e; cases e
    | some w =>
      cases e2 : mapO (itV ok k v) its with
      | none => rw [e1, e2] at e; cases e
      | some ws' =>
        rw [e1, e2] at e
        cases e
        exact ⟨m, k, v, w, hh, e1, fun x r1 => ⟨m, k, v, ws', hh, e2, fun xs r2 => q _ (RVs.cons r1 r2)⟩⟩
/-- name j = [items] -/
def hdLst (ok : Nat → Bool) (j : Nat) (its : List HI) : HdF := fun k v L S => match mapO (itV ok k v) its with
  | some vs => if fits vs then .nx (L.set j (some (.lst vs))) S else .bad
  | none => .bad
theorem hd_lst {es : List Expr} {its : List HI} {j : Nat} {nm : Str} {py pl pos : Pos} (gd : Good Z lv X W) (hj : X.N[j]? = some nm) (hx : X.env.scope.names.lookup nm = some .local) (h : ItsOk Z X ok i a oe cls d pn es its) (hs : swapsWithSole [.Name nm py] (.List es pl) pos.line X.env = pure false) (hw : swappedStores [.Name nm py] (.List es pl) X.env = pure none) :
    PSs (X.suite a ((a, oe) :: pn)) [.Assign [.Name nm py] (.List es pl) pos] (tHd Z (some i) (hdLst ok j its) a cls d) := by
  refine PSs.imp (pss_cons (ps_asg (pe_lst (its_ok h)) (pg_name (X := X.suite a ((a, oe) :: pn)) gd.nd hj (.inl hx) (.inr hx)) hs hw) pss_nil) ?_
  rintro D σ H ⟨k, v, m, L, S, ec, hi, sr, hl, ex, hp⟩
  unfold hdLst at hp
  cases e : mapO (itV ok k v) its with
  | none => rw [e] at hp; exact hp.elim
  | some vs =>
    rw [e] at hp
    have hp' : PostS Z WNo D H m (if fits vs then .nx (L.set j (some (.lst vs))) S else .bad) := hp
    split at hp'
    · rename_i hf
      refine ⟨m, k, v, vs, ⟨ec, hi i rfl, ex⟩, e, fun xs r => ⟨by rw [← r.len]; exact fits_ok hf, fun p hn => ?_⟩⟩
      refine hp' _ m _ (Gr.new hn) (sr.new hn) ((hl.grow (Gr.new hn)).set ?_)
      unfold RV
      exact ⟨p, xs, rfl, sr.notin hn, upd_same, r.grow (Gr.new hn)⟩
    · exact hp'.elim
/-- name j = item -/
def hdVal (ok : Nat → Bool) (j : Nat) (it : HI) : HdF := fun k v L S => match itV ok k v it with
  | some w => .nx (L.set j (some w)) S
  | none => .bad
theorem hd_val {e : Expr} {it : HI} {j : Nat} {nm : Str} {py pos : Pos} (gd : Good Z lv X W) (hj : X.N[j]? = some nm) (hx : X.env.scope.names.lookup nm = some .local) (h : PE (X.suite a ((a, oe) :: pn)) e (tIt Z ok i a cls d it)) (hs : swapsWithSole [.Name nm py] e pos.line X.env = pure false) (hw : swappedStores [.Name nm py] e X.env = pure none) :
    PSs (X.suite a ((a, oe) :: pn)) [.Assign [.Name nm py] e pos] (tHd Z (some i) (hdVal ok j it) a cls d) := by
  refine PSs.imp (pss_cons (ps_asg h (pg_name (X := X.suite a ((a, oe) :: pn)) gd.nd hj (.inl hx) (.inr hx)) hs hw) pss_nil) ?_
  rintro D σ H ⟨k, v, m, L, S, ec, hi, sr, hl, ex, hp⟩
  unfold hdVal at hp
  cases e : itV ok k v it with
  | none => rw [e] at hp; exact hp.elim
  | some w =>
    rw [e] at hp
    exact ⟨m, k, v, w, ⟨ec, hi i rfl, ex⟩, e, fun x r => hp H m _ Gr.refl sr (hl.set r)⟩
end
end MP
set_option maxRecDepth 100000
namespace MP
open PySem L2 PyProof.Rows
/-! ### exceptions made: what is asked of the head -/
/-- the program's own file; no super at its top -/
structure SupP (P : Program) (fileL : Str) : Prop where
  file : ((P.main.file : Str) == fileL) = true
  top : (P.main.scope.names.lookup ("super" : Str)).isSome = false
def codeFileB (K : Fr) (fileL : Str) : Value → Bool
  | .ref cda => (match K.lookup cda with
    | some ⟨_, _, .fields vs, _⟩ => (match (vs[2]? : Option Value) with
      | some (Value.str file _) => file == fileL
      | _ => false)
    | _ => false)
  | _ => false
theorem codeFileB_ok {K : Fr} {fileL : Str} {v : Value} (h : codeFileB K fileL v = true) : ∃ cda ccl cdd vs ccs tf, v = .ref cda ∧ K.lookup cda = some ⟨ccl, cdd, .fields vs, ccs⟩ ∧ (vs[2]? : Option Value) = some (.str fileL tf) := by
  unfold codeFileB at h
  split at h
  · rename_i cda
    split at h
    · rename_i ccl cdd vs ccs e
      split at h
      · rename_i file tf ev
        obtain rfl := beq_iff_eq.mp h
        exact ⟨cda, ccl, cdd, vs, ccs, tf, rfl, e, ev⟩
      · cases h
    · cases h
  · cases h
def cellOfB (K : Fr) (D : Addr) : List (Str × Addr) → Bool
  | [(_, cc)] => (match K.lookup cc with
    | some ⟨_, _, .cell (some (.ref d)), _⟩ => d == D
    | _ => false)
  | _ => false
theorem cellOfB_ok {K : Fr} {D : Addr} {l : List (Str × Addr)} (h : cellOfB K D l = true) : ∃ nm cc cl cld csl, l = [(nm, cc)] ∧ K.lookup cc = some ⟨cl, cld, .cell (some (.ref D)), csl⟩ := by
  unfold cellOfB at h
  split at h
  · rename_i nm cc
    split at h
    · rename_i cl cld d csl e
      obtain rfl := beq_iff_eq.mp h
      exact ⟨nm, cc, cl, cld, csl, rfl, e⟩
    · cases h
  · cases h
def fnPartsB (K : Fr) (D : Addr) (fileL : Str) (dflt code : Value) (clo : List (Str × Addr)) : Bool := decide (dflt = .none) && codeFileB K fileL code && cellOfB K D clo
/-- of the def: fI its place, D its class -/
def supB (K : Fr) (fI D : Addr) (fileL : Str) : Bool := freK K "super" && eqB' (PySem.W.nsIn K cStatics "thirdparty.any") (some none) && (PySem.W.clsIn K D).isSome && (match K.lookup fI with
  | some ⟨_, _, .func fd, _⟩ => fnPartsB K D fileL fd.defaults fd.code fd.closure
  | _ => false)
theorem supB_ok {P : Program} {K : Fr} {D : Addr} {fileL : Str} {d : MDef} {p0 p1 p2 p3 p4 p5 p6 p7 p8 p9 : Pos} (hP : SupP P fileL) (h : supB K (d.adr K) D fileL = true) (M : MOk K d) (hc : d.clo = [("__class__" : Str)]) (hb : d.body = supBody p0 p1 p2 p3 p4 p5 p6 p7 p8 p9) (hs : supScope d.scope = true)
    (bind : ∀ (kV doc pm : Value) (an : Option Addr) (cdv ct : Value) (cc : Addr) (a b : Value), bindArgs (PySem.W.ksFn d.name d.qual d.params (supBody p0 p1 p2 p3 p4 p5 p6 p7 p8 p9) d.scope .none kV doc pm an cdv ct cc) ⟨[a, b], []⟩ = pure [(("self" : Str), a), (("value" : Str), b)])
    (hd : (d.params.posonlyargs ++ d.params.args).head?.map (·.arg) = some ("self" : Str)) : SupF P K (d.adr K) D d.name d.qual d.params (supBody p0 p1 p2 p3 p4 p5 p6 p7 p8 p9) d.scope := by
  obtain ⟨_, e, ok⟩ := M
  unfold supB at h
  obtain ⟨h, h4⟩ := ba2 h
  obtain ⟨h, h3⟩ := ba2 h
  obtain ⟨h1, h2⟩ := ba2 h
  obtain ⟨cdD, hD⟩ := Option.isSome_iff_exists.mp h3
  obtain ⟨_, c2⟩ := ba2 ok
  unfold fnM at e
  cases q : K.lookup (d.adr K) with
  | none => rw [q] at c2; cases c2
  | some o =>
    obtain ⟨oc, od, dt, osl⟩ := o
    rw [q] at c2 e h4
    cases dt with
    | func fd =>
      obtain ⟨n1, n2, n3, n4, n5, n6, n7, n8, n9, n10, n11, n12, n13, n14, n15⟩ := fd
      have e2 : (some (n1, n2, n3, n4, n5, n6, n7.map fun p => (p.1, (0 : Addr)), n15) : He.FnW) = some (d.name, d.qual, d.params, FuncBody.stmts d.body, d.scope, mainGlobals, [(("__class__" : Str), (0 : Addr))], builtinsNs) := by
        have e3 : (some (n1, n2, n3, n4, n5, n6, n7.map fun p => (p.1, (0 : Addr)), n15) : He.FnW) = d.val := e
        rw [e3]
        unfold MDef.val
        rw [hc]
        rfl
      simp only [Option.some.injEq, Prod.mk.injEq] at e2
      obtain ⟨k1, k2, k3, k4, k5, k6, k7, k8⟩ := e2
      subst k1 k2 k3 k4 k5 k6 k8
      obtain ⟨h5, h6⟩ := ba2 (show (decide (n8 = .none) && codeFileB K fileL n13 && cellOfB K D n7) = true from h4)
      obtain ⟨h7, h8⟩ := ba2 h5
      obtain rfl : n8 = .none := of_decide_eq_true h7
      obtain ⟨g1, _⟩ := ba2 (show (PySem.W.codeIn K n13 d.qual && (He.dflB K .none (d.dfl K) && He.kwdB K n9 (d.kwd K))) = true from c2)
      obtain ⟨cda, ccl, cdd, vs, ccs, tf, rfl, hcda, hv⟩ := codeFileB_ok h8
      obtain ⟨nm, cc, cl, cld, csl, rfl, hcc⟩ := cellOfB_ok h6
      have : nm = ("__class__" : Str) := by
        simp only [List.map_cons, List.map_nil, List.cons.injEq, Prod.mk.injEq, and_true] at k7
        exact k7
      subst this
      refine ⟨⟨oc, od, n9, n10, n11, n12, n14, osl, cc, cda, cl, ccl, cld, cdd, csl, ccs, vs, fileL, tf, cdD, ?_, g1, hcc, hcda, hv, hP.file, hD⟩, hs, bind, hd, hP.top, eqB'_ok h1, eqB'_ok h2⟩
      rw [q, hb]
    | _ => cases c2
/-- of the class -/
def oexB (K : Fr) (C D fI : Addr) (B newId initId : String) (bmB : List Value) : Bool := (match K.lookup C with
  | some ⟨c, _, .cls cd, sl⟩ => decide (c = .type "type") && (match cd.mro with
    | m :: bm => decide (m = .ref C) && PySem.W.excTail bmB bm
    | [] => false) && cd.hasDict && !cd.hasDel && (match sl.toList with
    | [_, _, _, _, k4, _] => decide (k4 = some (.builtin newId))
    | _ => false)
  | _ => false) && eqB' (PySem.W.findIn K (.ref C) "__setattr__") (some (some (.builtin "object.__setattr__"))) && decide (PySem.W.subIn K (.ref C) (.type "BaseException") = some true) && decide (PySem.W.typeIn K (.ref C) = some (.type "type")) && PySem.W.keepIn K (.ref C) &&
  eqB' (PySem.W.findIn K (.ref C) "__init__") (some (some (.ref fI))) && decide (PySem.W.typeIn K (.ref fI) = some (.type "function")) && eqB' (PySem.W.findIn K (.ref C) "value") (some none) && eqB' (PySem.W.ks_superIn K C D "__init__") (some (some (.builtin initId))) && decide (PySem.W.mroIn K C (.ref D) = some true) && decide (PySem.W.subIn K (.ref C) (.type B) = some true)
theorem oexB_ok {K : Fr} {C D fI : Addr} {B newId initId : String} {bmB : List Value} (h : oexB K C D fI B newId initId bmB = true) : OexK K C D fI B newId initId bmB := by
  unfold oexB at h
  simp only [Bool.and_eq_true, decide_eq_true_eq] at h
  obtain ⟨⟨⟨⟨⟨⟨⟨⟨⟨⟨h1, h2⟩, h3⟩, h4⟩, h5⟩, h6⟩, h7⟩, h8⟩, h9⟩, h10⟩, h11⟩ := h
  refine ⟨?_, eqB'_ok h2, h3, h4, h5, eqB'_ok h6, h7, eqB'_ok h8, eqB'_ok h9, h10, h11⟩
  split at h1
  · rename_i c dd cd sl hq
    obtain ⟨nm, bs, mro, ns, q, hd, sn, sub, ab, col, hdel⟩ := cd
    obtain ⟨sl⟩ := sl
    simp only [Bool.and_eq_true, decide_eq_true_eq, Bool.not_eq_true'] at h1
    obtain ⟨⟨⟨⟨k1, k2⟩, k3⟩, k4⟩, k5⟩ := h1
    subst k1
    cases mro with
    | nil => cases k2
    | cons m bm =>
      have k2' : (decide (m = .ref C) && PySem.W.excTail bmB bm) = true := k2
      obtain ⟨k6, k7⟩ := ba2 k2'
      have k6 := of_decide_eq_true k6
      have k3' : hd = true := k3
      have k4' : hdel = false := k4
      match sl, k5, hq with
      | [s0, s1, s2, s3, s4, s5], k5, hq =>
        have k5' : s4 = some (.builtin newId) := of_decide_eq_true k5
        subst k6 k3' k4' k5'
        exact ⟨nm, q, ns, bs, bm, sn, sub, ab, col, dd, s0, s1, s2, s3, s5, hq, k7⟩
  · cases h1
/-- a class makes its exceptions -/
theorem makesX_of {Z : Sta} {k : Nat} {D : Addr} {B newId initId : String} {bmB : List Value} {fileL : Str} {d : MDef} {p0 p1 p2 p3 p4 p5 p6 p7 p8 p9 : Pos} (FM : Fam B newId initId bmB) (hP : SupP Z.P fileL) (ho : oexB Z.K (Z.G k) D (d.adr Z.K) B newId initId bmB = true) (h : supB Z.K (d.adr Z.K) D fileL = true) (M : MOk Z.K d) (hm : Z.mg ("super" : Str) = none)
    (hc : d.clo = [("__class__" : Str)]) (hb : d.body = supBody p0 p1 p2 p3 p4 p5 p6 p7 p8 p9) (hs : supScope d.scope = true)
    (bind : ∀ (kV doc pm : Value) (an : Option Addr) (cdv ct : Value) (cc : Addr) (a b : Value), bindArgs (PySem.W.ksFn d.name d.qual d.params (supBody p0 p1 p2 p3 p4 p5 p6 p7 p8 p9) d.scope .none kV doc pm an cdv ct cc) ⟨[a, b], []⟩ = pure [(("self" : Str), a), (("value" : Str), b)])
    (hd : (d.params.posonlyargs ++ d.params.args).head?.map (·.arg) = some ("self" : Str))
    (hev : ∀ env : Env, ∃ pl, eval (.Call (.Attribute (.Call (.Name "super" p0) [] [] p1) "__init__" p2) [.Name "value" p3] [] p4) env = (do
      let ov ← attributeBase (.Call (.Name "super" p0) [] [] p1) "__init__" env (eval (.Call (.Name "super" p0) [] [] p1) env)
      standAt p2.atName
      let (f, first) ← holding [ov] (getMethod ov "__init__" pl)
      callWith p4 f first (backTo p4 (starEach [.Name "value" p3] env)) [])) : MakesX Z k := by
  have T := oexB_ok ho
  have S := supB_ok hP h M hc hb hs bind hd
  exact ⟨T.kC, fun {lv X W pins σ H s Q y u} gd I ry q => make_oex gd FM T S hev hm I ry q⟩
end MP
set_option maxRecDepth 100000
namespace MP
open PySem L2 PyProof.Rows
/-! ### tables of exceptions -/
def look2 (l : List (Nat × Nat × Bool)) (c k : Nat) : Option Bool := match l.find? (fun e => Nat.beq e.1 k && Nat.beq e.2.1 c) with
  | some e => some e.2.2
  | none => none
theorem look2_mem {l : List (Nat × Nat × Bool)} {c k : Nat} {b : Bool} (e : look2 l c k = some b) : (k, c, b) ∈ l := by
  unfold look2 at e
  split at e
  · rename_i q eq
    cases e
    have h := List.find?_some eq
    rw [Bool.and_eq_true] at h
    have h1 := Nat.eq_of_beq_eq_true h.1
    have h2 := Nat.eq_of_beq_eq_true h.2
    have hm := List.mem_of_find?_eq_some eq
    obtain ⟨q1, q2, q3⟩ := q
    simp only at h1 h2
    subst h1 h2
    exact hm
  · cases e
def exmB (K : Fr) (t c : Value) (b : Bool) : Bool := decide (PySem.W.exmOne K t c = some b)
theorem exmB_ok {K : Fr} {t c : Value} {b : Bool} (h : exmB K t c b = true) : PySem.W.exmOne K t c = some b := of_decide_eq_true h
section
variable {Z : Sta} {W : WX} {σ : L2.St} {H H1 : Hp} {m m1 m2 : Mp} {X : Cx} {S : Hs} {x y : V} {a : Addr} {lv k i : Nat} {oe : Obj} {cls : Value} {d : Option Addr} {pn : List (Addr × Obj)} {ok : Nat → Bool} {N : List Str} {sc : Scope} {vs ls : List Nat} {gs : List Str}
theorem it_str {z : Str} {j : Nat} {pos : Pos} (l : List Nat) (h : z = ⟨l.toArray⟩) (ho : sOk l = true) : PE (X.suite a ((a, oe) :: pn)) (.Constant (.str z) j pos) (tIt Z ok i a cls d (.con (.str l))) := by
  subst h
  exact it_con pe_str fun H m => to_str ho
theorem it_int {n : Int} {j : Nat} {pos : Pos} : PE (X.suite a ((a, oe) :: pn)) (.Constant (.int n) j pos) (tIt Z ok i a cls d (.con (.int n))) := it_con pe_int fun H m => to_int
theorem it_bl {b : Bool} {j : Nat} {pos : Pos} : PE (X.suite a ((a, oe) :: pn)) (.Constant (.bool b) j pos) (tIt Z ok i a cls d (.con (.bl b))) := it_con pe_bl fun H m => to_bl
theorem it_non {j : Nat} {pos : Pos} : PE (X.suite a ((a, oe) :: pn)) (.Constant .none j pos) (tIt Z ok i a cls d (.con .non)) := it_con pe_non fun H m => to_non
theorem D_vis (D : DefX X N sc vs ls gs) {nm : Str} (i : Nat) (hN : N[i]? = some nm) (hl : sc.names.lookup nm = some .local) : X.N[i]? = some nm ∧ X.env.scope.names.lookup nm = some .local := ⟨by rw [D.eN]; exact hN, by rw [D.esc]; exact hl⟩
/-- e.value -/
theorem it_valD {n : Str} {p pos : Pos} (gd : Good Z lv X W) (D : DefX X N sc vs ls gs) (hok : ∀ k, ok k = true → ExK Z.K (Z.G k)) (hN : N[i]? = some n) (hl : sc.names.lookup n = some .local) (hd : (n == ("__debug__" : Str)) = false) (hcd : (n == ("__classdict__" : Str)) = false)
    (hz : Zc cls d oe) (hf : ∃ vs, oe.data = .fields vs) : PE (X.suite a ((a, oe) :: pn)) (.Attribute (.Name n p) "value" pos) (tIt Z ok i a cls d .val) :=
  it_val gd.K hok (D_vis D i hN hl).1 (.inl (D_vis D i hN hl).2) hd hcd hz hf
/-- isinstance(e, D), D a class of the text -/
theorem it_isinD {n nm c : Str} {p p1 p2 pos : Pos} {b : Nat → Option Bool} {kc : Nat} (gd : Good Z lv X W) (D : DefX X N sc vs ls gs) (hok : ∀ k, ok k = true → ExK Z.K (Z.G k)) (hN : N[i]? = some n) (hl : sc.names.lookup n = some .local) (hd : (n == ("__debug__" : Str)) = false) (hcd : (n == ("__classdict__" : Str)) = false)
    (j : Nat) (hg : gs[j]? = some nm) (hm : Z.mg nm = none) (hbt : bootBuiltins nm = some (.builtin "isinstance")) (j2 : Nat) (hg2 : gs[j2]? = some c) (hm2 : Z.mg c = some (.ref (Z.G kc))) (hb : ∀ k t, b k = some t → PySem.W.kitOne Z.K (.ref (Z.G k)) (.ref (Z.G kc)) = some t)
    (hz : Zc cls d oe) (hf : ∃ vs, oe.data = .fields vs) : PE (X.suite a ((a, oe) :: pn)) (.Call (.Name nm p) [.Name n p1, .Name c p2] [] pos) (tIt Z ok i a cls d (.isin b)) := by
  obtain ⟨g1, g2, g3⟩ := D_glo D j hg
  obtain ⟨f1, f2, f3⟩ := D_glo D j2 hg2
  exact it_isin gd.K gd.mg hok (D_vis D i hN hl).1 (.inl (D_vis D i hN hl).2) hd hcd g1 hm hbt g3 g2 (pe_glob (X := X.suite a ((a, oe) :: pn)) (v := .ref (Z.G kc)) f1 (by show X.mg c = _; rw [gd.mg]; exact hm2) rfl f2) (fun u r => r) hb hz hf
/-- .. a built-in class -/
theorem it_isinT {n nm c : Str} {p p1 p2 pos : Pos} {b : Nat → Option Bool} {T : String} (gd : Good Z lv X W) (D : DefX X N sc vs ls gs) (hok : ∀ k, ok k = true → ExK Z.K (Z.G k)) (hN : N[i]? = some n) (hl : sc.names.lookup n = some .local) (hd : (n == ("__debug__" : Str)) = false) (hcd : (n == ("__classdict__" : Str)) = false)
    (j : Nat) (hg : gs[j]? = some nm) (hm : Z.mg nm = none) (hbt : bootBuiltins nm = some (.builtin "isinstance")) (j2 : Nat) (hg2 : gs[j2]? = some c) (hm2 : Z.mg c = none) (hb2 : bootBuiltins c = some (.type T)) (hb : ∀ k t, b k = some t → PySem.W.kitOne Z.K (.ref (Z.G k)) (.type T) = some t)
    (hz : Zc cls d oe) (hf : ∃ vs, oe.data = .fields vs) : PE (X.suite a ((a, oe) :: pn)) (.Call (.Name nm p) [.Name n p1, .Name c p2] [] pos) (tIt Z ok i a cls d (.isin b)) := by
  obtain ⟨g1, g2, g3⟩ := D_glo D j hg
  obtain ⟨f1, f2, f3⟩ := D_glo D j2 hg2
  exact it_isin gd.K gd.mg hok (D_vis D i hN hl).1 (.inl (D_vis D i hN hl).2) hd hcd g1 hm hbt g3 g2 (pe_bltn (X := X.suite a ((a, oe) :: pn)) (v := .ty T) f1 (by show X.mg c = _; rw [gd.mg]; exact hm2) hb2 rfl f3 f2) (fun u r => r) hb hz hf
theorem hd_lstD {es : List Expr} {its : List HI} {nm : Str} {py pl pos : Pos} (gd : Good Z lv X W) (D : DefX X N sc vs ls gs) (j : Nat) (hj : N[j]? = some nm) (hx : sc.names.lookup nm = some .local) (h : ItsOk Z X ok i a oe cls d pn es its) (hs : swapsWithSole [.Name nm py] (.List es pl) pos.line X.env = pure false) (hw : swappedStores [.Name nm py] (.List es pl) X.env = pure none) :
    PSs (X.suite a ((a, oe) :: pn)) [.Assign [.Name nm py] (.List es pl) pos] (tHd Z (some i) (hdLst ok j its) a cls d) := hd_lst gd (D_vis D j hj hx).1 (D_vis D j hj hx).2 h hs hw
theorem hd_valD {e : Expr} {it : HI} {nm : Str} {py pos : Pos} (gd : Good Z lv X W) (D : DefX X N sc vs ls gs) (j : Nat) (hj : N[j]? = some nm) (hx : sc.names.lookup nm = some .local) (h : PE (X.suite a ((a, oe) :: pn)) e (tIt Z ok i a cls d it)) (hs : swapsWithSole [.Name nm py] e pos.line X.env = pure false) (hw : swappedStores [.Name nm py] e X.env = pure none) :
    PSs (X.suite a ((a, oe) :: pn)) [.Assign [.Name nm py] e pos] (tHd Z (some i) (hdVal ok j it) a cls d) := hd_val gd (D_vis D j hj hx).1 (D_vis D j hj hx).2 h hs hw
/-- a clause with a name -/
theorem hd_nam {xn n : Str} {tk : Nat → Option Bool} {h : HdF} {b₀ : Stmt} {suite : List Stmt} {np pos' : Pos} {hds : List ExceptHandler} {l : List Hd} (gd : Good Z lv X W) (D : DefX X N sc vs ls gs) (i : Nat) (hi : N[i]? = some n) (hln : sc.names.lookup n = some .local) (j : Nat) (hg : gs[j]? = some xn) {kc : Nat} (hm : Z.mg xn = some (.ref (Z.G kc)))
    (ht : ∀ k b, tk k = some b → PySem.W.exmOne Z.K (.ref (Z.G k)) (.ref (Z.G kc)) = some b)
    (hsu : ∀ (a : Addr) (oe : Obj) (cls : Value) (d : Option Addr) (pn : List (Addr × Obj)), Zc cls d oe → (∃ vs, oe.data = .fields vs) → PSs (X.suite a ((a, oe) :: pn)) (b₀ :: suite) (tHd Z (some i) h a cls d)) (r : HdsM Z X hds l) :
    HdsM Z X (.ExceptHandler (some (.Name xn np)) (some n) (b₀ :: suite) pos' :: hds) (⟨tk, some i, h⟩ :: l) := by
  obtain ⟨g1, g2, g3⟩ := D_glo D j hg
  exact .nam (D_vis D i hi hln).1 (D_vis D i hi hln).2 ⟨g1, g2, .inl (by rw [gd.mg]; exact hm)⟩ ht hsu r
/-- one without -/
theorem hd_one {xn : Str} {tk : Nat → Option Bool} {h : HdF} {b₀ : Stmt} {suite : List Stmt} {np pos' : Pos} {hds : List ExceptHandler} {l : List Hd} (gd : Good Z lv X W) (D : DefX X N sc vs ls gs) (j : Nat) (hg : gs[j]? = some xn) {kc : Nat} (hm : Z.mg xn = some (.ref (Z.G kc)))
    (ht : ∀ k b, tk k = some b → PySem.W.exmOne Z.K (.ref (Z.G k)) (.ref (Z.G kc)) = some b)
    (hsu : ∀ (a : Addr) (oe : Obj) (cls : Value) (d : Option Addr) (pn : List (Addr × Obj)), Zc cls d oe → (∃ vs, oe.data = .fields vs) → PSs (X.suite a ((a, oe) :: pn)) (b₀ :: suite) (tHd Z none h a cls d)) (r : HdsM Z X hds l) :
    HdsM Z X (.ExceptHandler (some (.Name xn np)) none (b₀ :: suite) pos' :: hds) (⟨tk, none, h⟩ :: l) := by
  obtain ⟨g1, g2, g3⟩ := D_glo D j hg
  exact .one ⟨g1, g2, .inl (by rw [gd.mg]; exact hm)⟩ ht hsu r
end
end MP
set_option maxRecDepth 100000
namespace MP
open PySem L2 PyProof.Rows
/-! ### methods of lists of the store -/
section
variable {Z : Sta} {W : WX} {σ : L2.St} {H H1 : Hp} {m m1 m2 : Mp} {X : Cx} {S : Hs} {x y : V} {a : Addr} {lv k i : Nat}
def MeOk (Z : Sta) (X : Cx) (W : WX) (id : String) (g : PV → List PV → Hs → RE) : Prop :=
  ∀ (pins : List (Addr × Obj)) (s : Shared) (σ : L2.St) (H : Hp) (x : V) (xs : List V) (v : Value) (us : List Value) (m : Mp) (S : Hs) (p : PV) (ps : List PV) (Q : VK), L2.Inv X pins σ H s → RelV x v → Vals xs us →
    SRel Z H m S → RV Z H m p x → RVs Z H m ps xs → PostE Z W σ H m Q (g p ps S) → wpAny (model X.prog X.w) X.A (call (.builtin id) (v :: us)) (EP X pins σ Q) X.xe s
theorem MeOk.of {id : String} {r : V → List V → Hp → VK → Prop} {g : PV → List PV → Hs → RE} (ho : MtM X id r) (h : ∀ (σ : L2.St) (H : Hp) (m : Mp) (S : Hs) (p : PV) (ps : List PV) (x : V) (xs : List V) (Q : VK), SRel Z H m S → RV Z H m p x → RVs Z H m ps xs → PostE Z W σ H m Q (g p ps S) → r x xs H Q) : MeOk Z X W id g :=
  fun pins s σ H x xs v us m S p ps Q I rx rxs sr rp rps hp => ho pins s σ H x xs v us Q I rx rxs (h σ H m S p ps x xs Q sr rp rps hp)
/-- a list of the store -/
def cellL (S : Hs) : PV → Option (Nat × List PV)
  | .loc n => match getR S n with
    | some (.lst xs) => some (n, xs)
    | _ => none
  | _ => none
theorem cellL_ok (sr : SRel Z H m S) {p : PV} {n : Nat} {ps : List PV} (r : RV Z H m p x) (h : cellL S p = some (n, ps)) : ∃ a xs, x = .ref a ∧ getR m.l n = some a ∧ getR S n = some (.lst ps) ∧ H a = some (.lst xs) ∧ RVs Z H m ps xs := by
  unfold cellL at h
  split at h
  · rename_i n'
    split at h
    · rename_i xs' e
      cases h
      obtain ⟨a, ea, ys, e1, e2⟩ := sr.at_ e
      unfold RV at r
      obtain ⟨a', ea', rfl⟩ := r
      rw [ea] at ea'
      cases ea'
      exact ⟨a, ys, rfl, ea, e, e1, e2⟩
    · cases h
  · cases h
/-- a value's type is known -/
def TyOk (Z : Sta) (X : Cx) (T : String) (pr : Hs → PV → Bool) : Prop := ∀ (pins : List (Addr × Obj)) (s : Shared) (σ : L2.St) (H : Hp) (x : V) (v : Value) (m : Mp) (S : Hs) (p : PV), L2.Inv X pins σ H s → RelV x v → SRel Z H m S → RV Z H m p x → pr S p = true →
  s.TypeIs v T ∧ ∀ a, v = .ref a → ∃ ob, s.heap.get? a = some ob ∧ ob.dict = none
def isLst (S : Hs) (p : PV) : Bool := (asL S p).isSome
def isDct (S : Hs) (p : PV) : Bool := (dctOf S p).isSome
def isStr (_ : Hs) : PV → Bool
  | .str _ => true
  | _ => false
theorem ty_lst : TyOk Z X "list" isLst := fun pins s σ H x v m S p I rx sr r h => by
  obtain ⟨xs, e⟩ := Option.isSome_iff_exists.mp h
  obtain ⟨a, ys, rfl, ea, _⟩ := asL_ok sr r e
  exact tyV_is I rx (.inl ⟨rfl, ys, .inl (.inl ea)⟩)
theorem ty_str : TyOk Z X "str" isStr := fun pins s σ H x v m S p I rx sr r h => by
  cases p <;> first | (cases h; done) | skip
  unfold RV at r
  obtain ⟨rfl, _⟩ := r
  exact tyV_is (T := "str") I rx rfl
theorem ty_dct (hK : X.K = Z.K) : TyOk Z X "dict" isDct := fun pins s σ H x v m S p I rx sr r h => by
  obtain ⟨⟨ks, vs⟩, e⟩ := Option.isSome_iff_exists.mp h
  obtain ⟨a, es, rfl, d⟩ := dctOf_ok sr r e
  obtain ⟨_, o, ds, ep, ho, hx, hd, _⟩ := d.rd.raw I hK
  obtain rfl : v = .ref a := rx
  refine ⟨⟨o, ho, hx.1⟩, fun b eb => ?_⟩
  cases eb
  exact ⟨o, ho, hx.2.1⟩
/-- o.m(args): o of a known type -/
def bmE (pr : Hs → PV → Bool) (fo : Loc → Hs → RE) (ga : Loc → Hs → RA) (g : PV → List PV → Hs → RE) : Loc → Hs → RE := fun L S => (fo L S).bind fun v S1 => if pr S1 v then (ga L S1).bind fun vs S2 => g v vs S2 else .bad
theorem ok_bm {o e : Expr} {es : List Expr} {nm : Str} {apos cpos : Pos} {T id : String} {pr : Hs → PV → Bool} {fo : Loc → Hs → RE} {ga : Loc → Hs → RA} {g : PV → List PV → Hs → RE} (ty : TyOk Z X T pr) (pa : PlainAttrs T) (slot : Slot T nm id) (hty : typeOf (.builtin id) = pure (.type "method_descriptor")) (hm : MeOk Z X W id g)
    (ho : PE X o (tE Z W fo)) (ha : PA X (e :: es) (tA Z W ga))
    (hbase : attributeBase o nm X.env (eval o X.env) = eval o X.env)
    (hfew : ((backTo cpos (starEach (e :: es) X.env)).all (fun x => !x.1) && (backToKw cpos (keywordEach [] X.env)).all (fun x => x.1.isSome)
      && decide ((e :: es).length + ([] : List Keyword).length + (if ([] : List Keyword).isEmpty then 0 else 1) < 30)) = true)
    (hline : (apos.endLine == cpos.line) = true) (hs : starEach (e :: es) X.env = (false, eval e X.env) :: starEach es X.env) (hplain : (backTo cpos (starEach es X.env)).any (·.1) = false) :
    PE X (.Call (.Attribute o nm apos) (e :: es) [] cpos) (tE Z W (bmE pr fo ga g)) := by
  refine ⟨fun pins s σ H Q I ⟨m, L, S, sr, hl, hp⟩ => ?_⟩
  refine wpAny_Call_method_late hbase hfew hline rfl (thn (ho.run pins s σ H (fun x H1 => ∃ m1 S1 p, SRel Z H1 m1 S1 ∧ LRel Z H1 m1 L σ ∧ RV Z H1 m1 p x ∧ pr S1 p = true ∧ PostE Z W σ H1 m1 Q ((ga L S1).bind fun vs S2 => g p vs S2)) I ⟨m, L, S, sr, hl, PostE.bind hp fun v S1 H1 m1 x g1 s1 r1 hp1 => ?_⟩) fun v s1 ⟨x, H1, I1, r1, m1, S1, p, s1', hl1, rp, hc, hp1⟩ => ?_)
  · split at hp1
    · rename_i ec
      exact ⟨m1, S1, v, s1, hl.grow g1, r1, ec, hp1⟩
    · exact hp1.elim
  obtain ⟨h1, h2⟩ := ty pins s1 σ H1 x v m1 S1 p I1 r1 s1' rp hc
  refine ⟨T, id, pa, slot, hty, h1, h2, ?_⟩
  have hA := ha.run cpos pins s1 σ H1 (fun xs H2 => ∃ m2 S2 ps, SRel Z H2 m2 S2 ∧ RV Z H2 m2 p x ∧ RVs Z H2 m2 ps xs ∧ PostE Z W σ H2 m2 Q (g p ps S2)) I1 ⟨m1, L, S1, s1', hl1, PostA.bind hp1 fun vs S2 H2 m2 xs g2 s2 r2 hp2 => ⟨m2, S2, vs, s2, rp.grow g2, r2, hp2⟩⟩
  rw [hs] at hA ⊢
  refine Calls.callWith_builtin (by show (false || (backTo cpos (starEach es X.env)).any (·.1)) = false; rw [hplain] <;> rfl) (Calls.evalArgs_plain ?_)
  exact thn hA fun us s2 ⟨xs, H2, I2, r2, m2, S2, ps, q1, q2, q3, q4⟩ => hm pins s2 σ H2 x xs v us m2 S2 p ps Q I2 r1 r2 q1 q2 q3 q4
/-- o.m() -/
def bm0E (pr : Hs → PV → Bool) (fo : Loc → Hs → RE) (g : PV → List PV → Hs → RE) : Loc → Hs → RE := fun L S => (fo L S).bind fun v S1 => if pr S1 v then g v [] S1 else .bad
theorem ok_bm0 {o : Expr} {nm : Str} {apos cpos : Pos} {T id : String} {pr : Hs → PV → Bool} {fo : Loc → Hs → RE} {g : PV → List PV → Hs → RE} (ty : TyOk Z X T pr) (pa : PlainAttrs T) (slot : Slot T nm id) (hty : typeOf (.builtin id) = pure (.type "method_descriptor")) (hm : MeOk Z X W id g)
    (ho : PE X o (tE Z W fo)) (hbase : attributeBase o nm X.env (eval o X.env) = eval o X.env) (hline : (apos.endLine == cpos.line) = true) :
    PE X (.Call (.Attribute o nm apos) [] [] cpos) (tE Z W (bm0E pr fo g)) := by
  refine ⟨fun pins s σ H Q I ⟨m, L, S, sr, hl, hp⟩ => ?_⟩
  refine wpAny_Call_method0_late hbase hline (thn (ho.run pins s σ H (fun x H1 => ∃ m1 S1 p, SRel Z H1 m1 S1 ∧ RV Z H1 m1 p x ∧ pr S1 p = true ∧ PostE Z W σ H1 m1 Q (g p [] S1)) I ⟨m, L, S, sr, hl, PostE.bind hp fun v S1 H1 m1 x g1 s1 r1 hp1 => ?_⟩) fun v s1 ⟨x, H1, I1, r1, m1, S1, p, s1', rp, hc, hp1⟩ => ?_)
  · split at hp1
    · rename_i ec
      exact ⟨m1, S1, v, s1, r1, ec, hp1⟩
    · exact hp1.elim
  obtain ⟨h1, h2⟩ := ty pins s1 σ H1 x v m1 S1 p I1 r1 s1' rp hc
  exact ⟨T, id, pa, slot, hty, h1, h2, Calls.callWith_builtin rfl (PySem.evalArgs_none (hm pins s1 σ H1 x [] v [] m1 S1 p [] Q I1 r1 .nil s1' rp RVs.nil hp1))⟩
/-! ### the lists' own -/
theorem no_tupL {ys : List V} (h : H a = some (.lst ys)) : ∀ xs, ¬ Rd H a (.tup xs) := no_tup_lst h
/-- a cell's list becomes another one -/
theorem cell_put_L {n : Nat} {ps qs : List PV} {ys : List V} (sr : SRel Z H m S) (ea : getR m.l n = some a) (ec : getR S n = some (.lst ps)) {xs : List V} (hH : H a = some (.lst xs)) (rq : RVs Z H m qs ys) :
    Gr Z H m (upd H a (.lst ys)) m ∧ SRel Z (upd H a (.lst ys)) m (setR S n (.lst qs)) := by
  have gr := Gr.upd (Z := Z) (o := .lst ys) (getR_mem ea) (no_tupL hH)
  exact ⟨gr, sr.set ea (no_tupL hH) ⟨ys, upd_same, rq.grow gr⟩⟩
def apndV (p : PV) (ps : List PV) (S : Hs) : RE := match cellL S p, ps with
  | some (n, xs), [v] => if xs.length < 16777216 then .ok .non (setR S n (.lst (xs ++ [v]))) else .bad
  | _, _ => .bad
theorem apnd_ok : MeOk Z X W "list.append" apndV := MeOk.of mt_append fun σ H m S p ps x xs Q sr rp rps hp => by
  unfold apndV at hp
  split at hp
  · rename_i n ls v e
    obtain ⟨a, ys, rfl, ea, ec, hH, r⟩ := cellL_ok sr rp e
    unfold RVs at rps
    obtain ⟨y, t, rfl, ry, rt⟩ := rps
    unfold RVs at rt
    subst rt
    split at hp
    · rename_i hlt
      refine ⟨a, ys, y, rfl, rfl, hH, by rw [← r.len, sizeLine_eq]; exact hlt, ?_⟩
      obtain ⟨g, s2⟩ := cell_put_L sr ea ec hH (r.append (RVs.cons ry RVs.nil))
      exact hp _ m _ g s2 to_non
    · exact hp.elim
  · exact hp.elim
def extV (p : PV) (ps : List PV) (S : Hs) : RE := match cellL S p, ps with
  | some (n, xs), [v] => (match asL S v with
    | some zs => if xs.length + zs.length ≤ 16777216 then .ok .non (setR S n (.lst (xs ++ zs))) else .bad
    | none => .bad)
  | _, _ => .bad
theorem ext_ok : MeOk Z X W "list.extend" extV := MeOk.of mt_extend fun σ H m S p ps x xs Q sr rp rps hp => by
  unfold extV at hp
  split at hp
  · rename_i n ls v e
    obtain ⟨a, ys, rfl, ea, ec, hH, r⟩ := cellL_ok sr rp e
    unfold RVs at rps
    obtain ⟨y, t, rfl, ry, rt⟩ := rps
    unfold RVs at rt
    subst rt
    split at hp
    · rename_i zs ez
      obtain ⟨b, ws, rfl, hb, rz⟩ := asL_ok sr ry ez
      split at hp
      · rename_i hlt
        refine ⟨a, b, ys, ws, rfl, rfl, hH, hb, by rw [← r.len, ← rz.len, sizeLine_eq]; exact hlt, ?_⟩
        obtain ⟨g, s2⟩ := cell_put_L sr ea ec hH (r.append rz)
        exact hp _ m _ g s2 to_non
      · exact hp.elim
    · exact hp.elim
  · exact hp.elim
def popV (p : PV) (ps : List PV) (S : Hs) : RE := match cellL S p, ps with
  | some (n, xs), [] => (match xs[xs.length - 1]? with
    | some v => .ok v (setR S n (.lst xs.dropLast))
    | none => .bad)
  | _, _ => .bad
theorem RVs.dropLast' : ∀ {ps : List PV} {ys : List V}, RVs Z H m ps ys → RVs Z H m ps.dropLast ys.dropLast
  | [], _, h => by unfold RVs at h; subst h; exact RVs.nil
  | [p], _, h => by
    unfold RVs at h
    obtain ⟨y, r, rfl, _, h2⟩ := h
    unfold RVs at h2
    subst h2
    exact RVs.nil
  | p :: q :: ps, _, h => by
    unfold RVs at h
    obtain ⟨y, r, rfl, h1, h2⟩ := h
    have h2' := h2
    unfold RVs at h2
    obtain ⟨z, r', rfl, _, _⟩ := h2
    exact RVs.cons h1 (RVs.dropLast' h2')
theorem pop_ok : MeOk Z X W "list.pop" popV := MeOk.of mt_pop fun σ H m S p ps x xs Q sr rp rps hp => by
  unfold popV at hp
  split at hp
  · rename_i n ls e
    obtain ⟨a, ys, rfl, ea, ec, hH, r⟩ := cellL_ok sr rp e
    unfold RVs at rps
    subst rps
    split at hp
    · rename_i v ev
      obtain ⟨y, ey, ry⟩ := r.get ev
      refine ⟨a, ys, y, rfl, rfl, hH, by rw [← r.len]; exact ey, ?_⟩
      obtain ⟨g, s2⟩ := cell_put_L sr ea ec hH r.dropLast'
      exact hp _ m _ g s2 (ry.grow g)
    · exact hp.elim
  · exact hp.elim
def clrV (p : PV) (ps : List PV) (S : Hs) : RE := match cellL S p, ps with
  | some (n, _), [] => .ok .non (setR S n (.lst []))
  | _, _ => .bad
theorem clr_ok : MeOk Z X W "list.clear" clrV := MeOk.of mt_clear fun σ H m S p ps x xs Q sr rp rps hp => by
  unfold clrV at hp
  split at hp
  · rename_i n ls e
    obtain ⟨a, ys, rfl, ea, ec, hH, r⟩ := cellL_ok sr rp e
    unfold RVs at rps
    subst rps
    obtain ⟨g, s2⟩ := cell_put_L sr ea ec hH RVs.nil
    exact ⟨a, ys, rfl, rfl, hH, hp _ m _ g s2 to_non⟩
  · exact hp.elim
end
end MP
set_option maxRecDepth 100000
namespace MP
open PySem L2
/-! ### comprehensions as equations, whatever is walked -/
theorem lc_runG {xs : List PV} {d : Desc} {L0 : Loc} {S : Hs} {tgt : TgF} {cond : Loc → Hs → RB} {elt : Loc → Hs → RE} (Lx : PV → Loc) {g : PV → PV} {c : PV → Bool} (hd : ∀ i, fetch S i d = some xs[i]?) (ht : ∀ x ∈ xs, tgt x L0 S = .nx (Lx x) S) (hc : ∀ x ∈ xs, cond (Lx x) S = .ok (c x) S)
    (hx : ∀ x ∈ xs, c x = true → elt (Lx x) S = .ok (g x) S) (hl : xs.length < 16777216) :
    ∀ (k fuel i : Nat) (acc : List PV), i + k = xs.length → k < fuel → lcLoop d L0 tgt cond elt fuel i acc S = some ((((xs.drop i).filter c).map g).reverse ++ acc, S)
  | 0, 0, _, _, _, h => absurd h (Nat.lt_irrefl _)
  | 0, fuel + 1, i, acc, hi, _ => by
    rw [lcLoop, hd, List.getElem?_eq_none (by omega)]
    simp only
    rw [List.drop_eq_nil_of_le (by omega)]
    rfl
  | k + 1, 0, _, _, _, h => by omega
  | k + 1, fuel + 1, i, acc, hi, hf => by
    have hlt : i < xs.length := by omega
    rw [lcLoop, hd, List.getElem?_eq_getElem hlt]
    have hm := List.getElem_mem hlt
    simp only [ht _ hm, hc _ hm]
    rw [← List.getElem_cons_drop hlt]
    cases e : c xs[i] with
    | true =>
      simp only [hx _ hm e]
      rw [if_pos (by omega), lc_runG Lx hd ht hc hx hl k fuel (i + 1) _ (by omega) (by omega), List.filter_cons_of_pos e]
      simp
    | false =>
      simp only
      rw [lc_runG Lx hd ht hc hx hl k fuel (i + 1) _ (by omega) (by omega), List.filter_cons_of_neg (by rw [e]; exact Bool.false_ne_true)]
theorem lc_gen {xs : List PV} {d : Desc} {L : Loc} {S S1 : Hs} {own : List Nat} {src : Loc → Hs → RI} {tgt : TgF} {cond : Loc → Hs → RB} {elt : Loc → Hs → RE} (Lx : PV → Loc) (g : PV → PV) (c : PV → Bool) (hs : src L S = .ok d S1) (hd : ∀ i, fetch S1 i d = some xs[i]?) (ht : ∀ x ∈ xs, tgt x (wipeL L own) S1 = .nx (Lx x) S1)
    (hc : ∀ x ∈ xs, cond (Lx x) S1 = .ok (c x) S1) (hx : ∀ x ∈ xs, c x = true → elt (Lx x) S1 = .ok (g x) S1) (hl : xs.length < 16777216) : lcE true own src tgt cond elt L S = .ok (.lst ((xs.filter c).map g)) S1 := by
  unfold lcE
  rw [hs]
  simp only
  rw [lc_runG Lx hd ht hc hx hl xs.length turns 0 [] (by omega) (by unfold turns; omega)]
  simp [lcEnd]
/-- [.. for i in range(n)] -/
theorem lc_rng {k : Nat} {lo : Int} {L : Loc} {S S1 : Hs} {m : Nat} {own : List Nat} {src : Loc → Hs → RI} {elt : Loc → Hs → RE} (g : Nat → PV) (hs : src L S = .ok (.rng lo k) S1)
    (hx : ∀ i : Nat, i < k → elt ((wipeL L own).set m (some (.int (lo + i)))) S1 = .ok (g i) S1) (hl : k < 16777216) : lcE true own src (nameT m) trueB elt L S = .ok (.lst ((List.range k).map g)) S1 := by
  have h := lc_gen (xs := (List.range k).map fun i => .int (lo + (i : Nat))) (own := own) (src := src) (tgt := nameT m) (cond := trueB) (elt := elt) (L := L) (S := S) (S1 := S1) (fun x => (wipeL L own).set m (some x)) (fun x => match x with | .int j => g (j - lo).toNat | v => v) (fun _ => true) hs (fun i => by
      rw [fetch_rng, List.getElem?_map]
      by_cases h : i < k
      · rw [if_pos h, List.getElem?_range h]; rfl
      · rw [if_neg h, List.getElem?_eq_none (by simpa using h)]; rfl) (fun _ _ => rfl) (fun _ _ => rfl) (fun x hx' _ => by
      obtain ⟨i, hi, rfl⟩ := List.mem_map.mp hx'
      rw [hx i (List.mem_range.mp hi)]
      simp only
      rw [show (lo + (i : Int) - lo).toNat = i by omega]) (by simpa using hl)
  rw [h, List.filter_eq_self.mpr fun _ _ => rfl, List.map_map]
  congr 2
  refine List.map_congr_left fun i _ => ?_
  show g (lo + (i : Int) - lo).toNat = g i
  rw [show (lo + (i : Int) - lo).toNat = i by omega]
/-- [.. for i, x in enumerate(ints)] -/
theorem lc_enm {ds : List Int} {L : Loc} {S S1 : Hs} {p q : Nat} {own : List Nat} {src : Loc → Hs → RI} {elt : Loc → Hs → RE} (g : Nat → Int → PV) (hs : src L S = .ok (.enm (.lst (ds.map .int))) S1)
    (hx : ∀ (i : Nat) (d : Int), ds[i]? = some d → elt (((wipeL L own).set p (some (.int i))).set q (some (.int d))) S1 = .ok (g i d) S1) (hl : ds.length < 16777216) : lcE true own src (tupT (consT (nameT p) (consT (nameT q) nilT)) 2) trueB elt L S = .ok (.lst (ds.mapIdx g)) S1 := by
  have h := lc_gen (xs := ds.mapIdx fun i d => .tup [.int (i : Nat), .int d]) (own := own) (src := src) (tgt := tupT (consT (nameT p) (consT (nameT q) nilT)) 2) (cond := trueB) (elt := elt) (L := L) (S := S) (S1 := S1)
    (fun x => match x with | .tup [a, b] => ((wipeL L own).set p (some a)).set q (some b) | _ => []) (fun x => match x with | .tup [.int j, .int d] => g j.toNat d | v => v) (fun _ => true) hs (fun i => by
      show (match (ds.map PV.int)[i]? with | some x => some (some (PV.tup [.int i, x])) | none => some none) = _
      rw [List.getElem?_mapIdx, List.getElem?_map]
      cases ds[i]? <;> rfl) (fun x hx' => by
      obtain ⟨i, hi, rfl⟩ := List.mem_mapIdx.mp hx'
      rfl) (fun _ _ => rfl) (fun x hx' _ => by
      obtain ⟨i, hi, rfl⟩ := List.mem_mapIdx.mp hx'
      exact hx i _ (List.getElem?_eq_getElem hi)) (by simpa using hl)
  rw [h, List.filter_eq_self.mpr fun _ _ => rfl]
  congr 2
  refine List.ext_getElem (by simp) fun i h1 h2 => ?_
  simp
/-! lists of ints -/
section
variable {S : Hs} {T : Tab} {c : CmpT} {i : Int} {is : List Int} {xs ys : List PV}
theorem v_lstI {L : Loc} {f : Loc → Hs → RA} (h : f L S = .ok xs S) (hf : fits xs = true) : lstE true f L S = .ok (.lst xs) S := by
  unfold lstE
  rw [h]
  show (if fits xs then _ else _) = _
  rw [if_pos hf]
  rfl
theorem inB_ints : inB S (.int i) (.lst (is.map .int)) = some (is.contains i) := by
  show (if isFlat (.int i) && (is.map PV.int).all isFlat then some ((is.map PV.int).any fun y => eqF y (.int i)) else none) = _
  have h : (is.map PV.int).all isFlat = true := by
    rw [List.all_map, List.all_eq_true]
    intro x _
    rfl
  rw [h]
  show some ((is.map PV.int).any fun y => eqF y (.int i)) = _
  rw [List.any_map]
  congr 1
  rw [Bool.eq_iff_iff, List.any_eq_true, List.contains_iff_mem]
  constructor
  · rintro ⟨x, hx, e⟩
    have e' : (x == i) = true := e
    rw [beq_iff_eq] at e'
    subst e'
    exact hx
  · intro h
    exact ⟨i, h, by show (i == i) = true; simp⟩
theorem v_inI : inD2 T c (.int i) (.lst (is.map .int)) S = .ok (.bl (is.contains i)) S := by
  show (match inB S (.int i) (.lst (is.map .int)) with | some k => RE.ok (.bl k) S | none => _) = _
  rw [inB_ints]
theorem v_ninI : ninD2 T c (.int i) (.lst (is.map .int)) S = .ok (.bl (!is.contains i)) S := by
  show (match inV2 (.int i) (.lst (is.map .int)) S with | .ok (.bl k) S => RE.ok (.bl !k) S | _ => .bad) = _
  have : inV2 (.int i) (.lst (is.map .int)) S = .ok (.bl (is.contains i)) S := v_inI (T := ⟨fun _ _ _ => .bad, fun _ => false, fun _ _ => .bad, fun _ _ _ => none⟩) (c := ⟨0, 0, 0, 0, 0, [], []⟩)
  rw [this]
theorem asIs_map : ∀ {is : List Int}, asIs (is.map .int) = some is
  | [] => rfl
  | i :: is => by
    show (asIs (is.map .int)).map (i :: ·) = _
    rw [asIs_map]
    rfl
theorem v_sumI : sumV [.lst (is.map .int)] S = .ok (.int is.sum) S := by
  show okO ((asIs (is.map .int)).map fun ns => .int ns.sum) S = _
  rw [asIs_map]
  rfl
theorem v_repL {v : PV} {k : Nat} (h : k ≤ 16777216) : binV .Mult true (.lst [v]) (.int k) S = .ok (.lst (List.replicate k v)) S := by
  show (if decide ((0 : Int) ≤ k) && decide ((k : Int) ≤ 16777216) && decide ([v].length * (k : Int).toNat ≤ 16777216) then newL true (repL [v] (k : Int).toNat) S else .bad) = _
  have e : repL [v] (k : Int).toNat = List.replicate k v := by
    unfold repL
    rw [Int.toNat_natCast]
    induction k with
    | zero => rfl
    | succ k ih => rw [List.replicate_succ, List.flatten_cons, ih (by omega)]; rfl
  rw [e, if_pos (by
    rw [Bool.and_eq_true, Bool.and_eq_true]
    refine ⟨⟨decide_eq_true (by omega), decide_eq_true (by omega)⟩, decide_eq_true ?_⟩
    rw [Int.toNat_natCast]
    simpa using h)]
  unfold newL
  rw [if_pos (show fits (List.replicate k v) = true from decide_eq_true (by simpa using h))]
  rfl
theorem v_catL (h : xs.length + ys.length ≤ 16777216) : binV .Add true (.lst xs) (.lst ys) S = .ok (.lst (xs ++ ys)) S := by
  show newL true (xs ++ ys) S = _
  unfold newL
  rw [if_pos (show fits (xs ++ ys) = true from decide_eq_true (by simpa using h))]
  rfl
theorem v_slF {k : Nat} (hk : k ≤ xs.length) (h : xs.length ≤ 16777216) : slV true (.lst xs) (some (k : Int)) none S = .ok (.lst (xs.drop k)) S := by
  show newL true (cutP xs (some (k : Int)) none) S = _
  have e : cutP xs (some (k : Int)) none = xs.drop k := by
    unfold cutP
    rw [HT.sIx_nat, HT.sIx_none, Nat.min_eq_left hk]
    exact List.take_of_length_le (by simp)
  rw [e]
  unfold newL
  rw [if_pos (show fits (xs.drop k) = true from decide_eq_true (by rw [List.length_drop]; omega))]
  rfl
theorem v_slE {f : Loc → Hs → RE} {lo hi : Option (Loc → Hs → RE)} {L : Loc} : slE true f lo hi L S = (f L S).bind fun v S1 => partO lo L S1 fun l S2 => partO hi L S2 fun u S3 => slV true v l u S3 := rfl
theorem v_part1 {f : Loc → Hs → RE} {L : Loc} {k : Option Int → Hs → RE} : partO (some f) L S k = (f L S).bind fun v S1 => match v with | .int i => k (some i) S1 | _ => .bad := rfl
theorem v_part0 {L : Loc} {k : Option Int → Hs → RE} : partO none L S k = k none S := rfl
theorem v_unI {T : Tab} {u : UnT} : unaP T u .USub (.int i) S = .ok (.int (-i)) S := rfl
theorem v_rng1 {L : Loc} {f : Loc → Hs → RE} {j : Int} {S1 : Hs} (h : f L S = .ok (.int j) S1) (hj : fit62 j = true) : rngI (consA f nilA) L S = .ok (.rng 0 j.toNat) S1 := by
  unfold rngI consA
  rw [h]
  show (if fit62 j then _ else _) = _
  rw [if_pos hj]
theorem v_rng2 {L : Loc} {f g : Loc → Hs → RE} {i j : Int} {S1 S2 : Hs} (h : f L S = .ok (.int i) S1) (h2 : g L S1 = .ok (.int j) S2) (hj : (fit62 i && fit62 j) = true) : rngI (consA f (consA g nilA)) L S = .ok (.rng i (j - i).toNat) S2 := by
  unfold rngI consA
  rw [h]
  show (match (consA g nilA L S1).bindA fun vs S2 => RA.ok (PV.int i :: vs) S2 with | .ok [.int j] S1 => _ | .ok [.int i, .int j] S1 => _ | .ok _ _ => _ | .ex k v S1 => _ | .bad => _) = _
  unfold consA
  rw [h2]
  show (if fit62 i && fit62 j then _ else _) = _
  rw [if_pos hj]
theorem v_enmI {L : Loc} {f : Loc → Hs → RE} {S1 : Hs} (h : f L S = .ok (.lst xs) S1) : enmI (consA f nilA) L S = .ok (.enm (.lst xs)) S1 := by
  unfold enmI consA
  rw [h]
  rfl
end
end MP
set_option maxRecDepth 100000
namespace MP
/-! ### binary digits -/
def Dg (u : Int) (k : Nat) : List Int := (List.range k).map fun i => u / 2 ^ i % 2
theorem Dg_len {u : Int} {k : Nat} : (Dg u k).length = k := by simp [Dg]
theorem two_pos (k : Nat) : (0 : Int) < 2 ^ k := Int.pow_pos (by decide)
theorem Dg_succ {u : Int} {k : Nat} : Dg u (k + 1) = (u % 2) :: Dg (u / 2) k := by
  unfold Dg
  rw [List.range_succ_eq_map, List.map_cons, List.map_map]
  congr 1
  · simp
  · refine List.map_congr_left fun i _ => ?_
    show u / 2 ^ (i + 1) % 2 = u / 2 / 2 ^ i % 2
    rw [Int.pow_succ, Int.mul_comm, Int.ediv_ediv_of_nonneg (by decide)]
theorem Dg_drop {k : Nat} : ∀ {n : Nat} {u : Int}, (Dg u (n + k)).drop n = Dg (u / 2 ^ n) k
  | 0, u => by simp
  | n + 1, u => by
    rw [show n + 1 + k = n + k + 1 by omega, Dg_succ, List.drop_succ_cons, Dg_drop, Int.pow_succ, Int.mul_comm, Int.ediv_ediv_of_nonneg (by decide)]
theorem Dg_one : ∀ {k : Nat} {u : Int}, 0 ≤ u → u < 2 ^ k → (Dg u k).contains 1 = !decide (u = 0)
  | 0, u, h0, h1 => by
    have : u = 0 := by
      have : (2 : Int) ^ 0 = 1 := rfl
      omega
    subst this
    rfl
  | k + 1, u, h0, h1 => by
    rw [Int.pow_succ] at h1
    rw [Dg_succ, List.contains_cons, Dg_one (by omega) (by omega)]
    have : u % 2 = 0 ∨ u % 2 = 1 := by omega
    rw [Bool.eq_iff_iff]
    simp only [Bool.or_eq_true, beq_iff_eq, Bool.not_eq_true', decide_eq_false_iff_not]
    omega
theorem Dg_zero : ∀ {k : Nat} {u : Int}, 0 ≤ u → u < 2 ^ k → (Dg u k).contains 0 = !decide (u = 2 ^ k - 1)
  | 0, u, h0, h1 => by
    have : u = 0 := by
      have : (2 : Int) ^ 0 = 1 := rfl
      omega
    subst this
    rfl
  | k + 1, u, h0, h1 => by
    rw [Int.pow_succ] at h1 ⊢
    rw [Dg_succ, List.contains_cons, Dg_zero (by omega) (by omega)]
    have : u % 2 = 0 ∨ u % 2 = 1 := by omega
    rw [Bool.eq_iff_iff]
    simp only [Bool.or_eq_true, beq_iff_eq, Bool.not_eq_true', decide_eq_false_iff_not]
    have := two_pos k
    omega
def valD : List Int → Int
  | [] => 0
  | d :: r => d + 2 * valD r
theorem sum_val : ∀ (ds : List Int) (k : Nat), (ds.mapIdx fun i d => d * 2 ^ (i + k)).sum = 2 ^ k * valD ds
  | [], k => by simp [valD]
  | d :: r, k => by
    rw [List.mapIdx_cons, List.sum_cons]
    have e : (r.mapIdx fun i d => d * 2 ^ (i + 1 + k)) = r.mapIdx fun i d => d * (2 : Int) ^ (i + (k + 1)) := by
      congr 1
      funext i d
      rw [show i + 1 + k = i + (k + 1) by omega]
    rw [e, sum_val r (k + 1), Nat.zero_add, valD, Int.pow_succ, Int.mul_add, Int.mul_comm d, Int.mul_assoc]
theorem valD_Dg : ∀ {k : Nat} {u : Int}, valD (Dg u k) = u % 2 ^ k
  | 0, u => by
    show (0 : Int) = u % 1
    omega
  | k + 1, u => by
    rw [Dg_succ, valD, valD_Dg, Int.pow_succ]
    have hp := two_pos k
    have e1 := Int.emod_add_mul_ediv (u / 2) (2 ^ k)
    have b1 := Int.emod_nonneg (u / 2) (Int.ne_of_gt hp)
    have b2 := Int.emod_lt_of_pos (u / 2) hp
    have e3 : u = (u % 2 + 2 * (u / 2 % 2 ^ k)) + 2 ^ k * 2 * (u / 2 / 2 ^ k) := by
      rw [Int.mul_comm (2 ^ k) 2, Int.mul_assoc]
      omega
    have e4 : u % (2 ^ k * 2) = (u % 2 + 2 * (u / 2 % 2 ^ k)) % (2 ^ k * 2) := by
      conv => lhs; rw [e3]
      rw [Int.add_mul_emod_self_left]
    have e5 : (u % 2 + 2 * (u / 2 % 2 ^ k)) % (2 ^ k * 2) = u % 2 + 2 * (u / 2 % 2 ^ k) := Int.emod_eq_of_lt (by omega) (by omega)
    rw [e4, e5]
theorem valD_app : ∀ (xs ys : List Int), valD (xs ++ ys) = valD xs + 2 ^ xs.length * valD ys
  | [], ys => by simp [valD]
  | x :: xs, ys => by
    rw [List.cons_append, valD, valD, valD_app xs ys, List.length_cons, Int.pow_succ, Int.mul_add, Int.mul_comm (2 ^ xs.length) 2, Int.mul_assoc]
    omega
theorem valD_rep {m : Int} : ∀ {k : Nat}, valD (List.replicate k m) = m * (2 ^ k - 1)
  | 0 => by simp [valD]
  | k + 1 => by
    rw [List.replicate_succ, valD, valD_rep, Int.pow_succ]
    have e : m * (2 ^ k * 2 - 1) = 2 * (m * (2 ^ k - 1)) + m := by
      rw [Int.mul_sub, Int.mul_sub, ← Int.mul_assoc, Int.mul_comm (m * 2 ^ k) 2, Int.mul_one]
      omega
    rw [e]
    omega
end MP
set_option maxRecDepth 100000
namespace MP
open PySem L2
/-! ### a law's loop over its cells -/
theorem v_min2 {i j : Int} {S : Hs} : min2V [.int i, .int j] S = .ok (.int (if j < i then j else i)) S := rfl
theorem v_max2 {i j : Int} {S : Hs} : max2V [.int i, .int j] S = .ok (.int (if j > i then j else i)) S := rfl
/-- range(max(1, min(len(script), c))) -/
theorem cells_src {T : Tab} {ct : CmpT} {ns : List Int} {r : Loc} {S : Hs} {c : Int} (hc : 1 ≤ c) (hl : ns.length ≤ 63) : ∃ N : Nat, N ≤ 63 ∧
    rngI (consA (bltE (consA (conE (.int 1)) (consA (bltE (consA (bltE (consA (varE 0) nilA) (lenD T ct)) (consA (conE (.int c)) nilA)) min2V) nilA)) max2V) nilA) (some (.scr ns) :: r) S = .ok (.rng 0 N) S := by
  refine ⟨(if (if c < (ns.length : Int) then c else (ns.length : Int)) > 1 then (if c < (ns.length : Int) then c else (ns.length : Int)) else 1).toNat, by split <;> split <;> omega, ?_⟩
  refine v_rng1 ?_ ?_
  · simp only [v_blt, v_consA, v_con, v_var0, v_nilA, v_lenS, v_min2, v_max2, v_reA, v_raA, v_ra]
  · unfold fit62
    rw [Bool.and_eq_true, decide_eq_true_eq, decide_eq_true_eq]
    constructor <;> split <;> split <;> omega
end MP
set_option maxRecDepth 100000
namespace MP
open PySem L2 PyProof.Rows
/-! ### list(d) -/
section
variable {Z : Sta} {W : WX} {σ : L2.St} {H H1 : Hp} {m : Mp} {X : Cx} {S : Hs} {x : V} {a : Addr} {lv : Nat} {es : List (Int × V × V)} {ks vs : List PV}
def listV2 (fz : Bool) (ps : List PV) (S : Hs) : RE := match ps with
  | [v] => match dctOf S v with
    | some (ks, _) => newL fz ks S
    | none => listV fz [v] S
  | ps => .bad
theorem keys_vals {ds : List DictEntry} : ∀ {es : List (Int × V × V)} {us : List Value}, Paired EntR es ds → us.length = ds.length → (∀ (j : Nat) (w : Value), us[j]? = some w → ∃ en : DictEntry, ds[j]? = some en ∧ w = en.key) → Vals (es.map (·.2.1)) us := by
  intro es us hp hl h
  refine vals_of_at (by rw [List.length_map, hl]; exact Paired.length hp) fun j x w h1 h2 => ?_
  obtain ⟨en, e1, rfl⟩ := h j w h2
  rw [List.getElem?_map] at h1
  cases ee : es[j]? with
  | none => rw [ee] at h1; cases h1
  | some e =>
    rw [ee] at h1
    cases h1
    obtain ⟨b, e2, r⟩ := paired_get hp ee
    rw [e1] at e2
    cases e2
    exact r.2.1
theorem list2_ok {fz : Bool} (gd : Good Z lv X W) : CallOk Z X W (.type "list") (listV2 fz) := by
  intro pins s σ H xs us m S ps Q I rx sr rp hp
  unfold listV2 at hp
  split at hp
  · rename_i v
    split at hp
    · rename_i ks vs e
      obtain ⟨x, rfl, r1⟩ := rvs1 rp
      obtain ⟨a, es, rfl, d⟩ := dctOf_ok sr r1 e
      obtain ⟨u, rfl, rx'⟩ := vals1 rx
      obtain rfl : u = Value.ref a := rx'
      obtain ⟨lo, o, ds, ep, ho, hx, hd, hpr⟩ := d.rd.raw I gd.K
      have z := newL_post sr d.ks hp
      have hlen : (es.map (·.2.1)).length = ds.size := by
        rw [List.length_map, ← Array.length_toList]
        exact Paired.length hpr
      refine PySem.W.kdl_call (L2.kdl_raw (prog := X.prog) (w := X.w) lo hx hd) (gd.room3.hd) ho (by rw [← hlen]; exact z.1) fun h' tk acc' c' hkeep hS hacc => ?_
      refine ⟨.ref s.heap.objs.size, _, I.laid hkeep (Nat.le_refl _) (show ObjOk X.prog X.w _ h' _ (.lst (es.map (·.2.1))) from ⟨z.1, acc'.toList, c', ?_, by rw [Array.toArray_toList]; exact hS⟩), rfl, z.2 _ (I.hok.fresh (Nat.le_refl _))⟩
      refine keys_vals hpr (by rw [Array.length_toList, Array.length_toList]; exact hacc.1) fun j w hw => ?_
      obtain ⟨en, e1, e2⟩ := hacc.2 j w (by rw [← Array.getElem?_toList]; exact hw)
      exact ⟨en, by rw [Array.getElem?_toList]; exact e1, e2⟩
    · exact list_ok gd pins s σ H xs us m S _ Q I rx sr rp hp
  · exact hp.elim
end
end MP
set_option maxRecDepth 100000
namespace MP
open PySem L2 PyProof.Rows
section
variable {Z : Sta} {W : WX} {σ : L2.St} {H H1 H2 : Hp} {m m1 m2 : Mp} {X : Cx} {S : Hs} {x y : V} {a b D : Addr} {lv g k f : Nat} {T : Tab} {pins : List (Addr × Obj)} {s : Shared} {Q : VK} {c : CmpT} {p q : PV}
/-! ### lists beside lists, an empty dict among their items -/
def dct0 (S : Hs) (v : PV) : Bool := match dctOf S v with
  | some ([], []) => true
  | _ => false
def eqI (S : Hs) (a b : PV) : Option Bool := if isD S deep a && isD S deep b then some (eqB S deep a b) else if dct0 S a && dct0 S b then some true else none
def eqIs (S : Hs) : List PV → List PV → Option (List Bool)
  | [], [] => some []
  | a :: as, b :: bs => match eqI S a b with
    | some x => (match eqIs S as bs with
      | some xs => some (x :: xs)
      | none => none)
    | none => none
  | _, _ => none
def neX (p q : PV) (S : Hs) : RE := match asL S p with
  | some xs => (match asL S q with
    | some ys => (match eqIs S xs ys with
      | some bs => .ok (.bl (!(bs.all id))) S
      | none => .bad)
    | none => .bad)
  | none => .bad
/-- an empty dict, in any world -/
theorem dct0_ok (gd : Good Z lv X W) (I : L2.Inv X pins σ H s) (sr : SRel Z H m S) {v : PV} (r : RV Z H m v x) (h : dct0 S v = true) : ∃ a, x = .ref a ∧ (a == sysModules) = false ∧ ∀ (P : Program) (w : World), s.heap.DictOf (mixKind P w) a [] := by
  unfold dct0 at h
  split at h
  · rename_i e
    obtain ⟨a, es, rfl, d⟩ := dctOf_ok sr r e
    obtain ⟨h0, ws, w1, w2, o, ds, ep, w3, w4, w5, w6, w7, w8⟩ := d.flat I gd.K gd.w rfl
    refine ⟨a, rfl, h0, fun P w => ⟨o, ds, ep, w3, w4, w5, ?_, ?_, List.nodup_nil⟩⟩
    · have e0 : ds.toList = [] := by
        have : ds.toList.length = 0 := by
          have := w7.length
          simpa using this
        exact List.eq_nil_of_length_eq_zero this
      intro e he
      have : e ∈ ds.toList := by simpa using he
      rw [e0] at this
      cases this
    · have e0 : ds.toList = [] := by
        have : ds.toList.length = 0 := by
          have := w7.length
          simpa using this
        exact List.eq_nil_of_length_eq_zero this
      rw [e0]
      exact .nil
  · cases h
theorem eqAt_dct0 {A : Around} (hu : A.units < cLine) (h0 : (a == sysModules) = false) (h1 : (b == sysModules) = false) (ha : ∀ (P : Program) (w : World), s.heap.DictOf (mixKind P w) a []) (hb : ∀ (P : Program) (w : World), s.heap.DictOf (mixKind P w) b []) : SeqAt.EqAt A s (.ref a) (.ref b) true := by
  by_cases e : a = b
  · subst e
    exact SeqAt.EqAt.same _
  · exact SeqAt.EqAt.of_refs e fun prog w E Q hq => PySem.W.rcP_dicts (knd := mixKind prog w) (r := true) h0 h1 (ha prog w) (hb prog w) hu (fun _ => .nil) E Q hq
theorem eqI_ok (gd : Good Z lv X W) (I : L2.Inv X pins σ H s) (sr : SRel Z H m S) {A : Around} (hu : A.units + 64 < cLine) {u w : Value} (rp : RV Z H m p x) (rq : RV Z H m q y) (ru : RelV x u) (rw' : RelV y w) {t : Bool} (h : eqI S p q = some t) : SeqAt.EqAt A s u w t := by
  unfold eqI at h
  split at h
  · rename_i hd
    rw [Bool.and_eq_true] at hd
    cases h
    obtain ⟨d1, c1, n1⟩ := data_ok sr rp hd.1
    obtain ⟨d2, c2, n2⟩ := data_ok sr rq hd.2
    rw [← gd.K] at d1 d2
    obtain ⟨as, r1⟩ := Dp.reads I _ x u d1 ru
    obtain ⟨bs, r2⟩ := Dp.reads I _ y w d2 rw'
    rw [eqB_eq hd.1 hd.2]
    exact SeqAt.eqAt_reads _ _ A s u w as bs r1 r2 c1 c2 (by
      have := Nat.min_le_left (toD S deep p).depth (toD S deep q).depth
      have : deep ≤ 64 := by decide
      omega)
  · split at h
    · rename_i hd
      rw [Bool.and_eq_true] at hd
      cases h
      obtain ⟨a, rfl, h0, ha⟩ := dct0_ok gd I sr rp hd.1
      obtain ⟨b, rfl, h1, hb⟩ := dct0_ok gd I sr rq hd.2
      cases (show u = Value.ref a from ru)
      cases (show w = Value.ref b from rw')
      exact eqAt_dct0 (by omega) h0 h1 ha hb
    · cases h
theorem eqIs_ok (gd : Good Z lv X W) (I : L2.Inv X pins σ H s) (sr : SRel Z H m S) {A : Around} (hu : A.units + 64 < cLine) : ∀ {ps qs : List PV} {xs ys : List V} {us ws : List Value} {bs : List Bool}, RVs Z H m ps xs → RVs Z H m qs ys → Vals xs us → Vals ys ws → eqIs S ps qs = some bs →
    us.length = ws.length ∧ bs.length = us.length ∧ ∀ j (h1 : j < us.length) (h2 : j < ws.length), SeqAt.EqAt A s us[j] ws[j] (bs.getD j true)
  | [], [], _, _, us, ws, bs, r1, r2, v1, v2, h => by
    unfold RVs at r1 r2
    subst r1 r2
    cases v1
    cases v2
    cases h
    exact ⟨rfl, rfl, fun j h1 _ => absurd h1 (Nat.not_lt_zero j)⟩
  | p :: ps, q :: qs, _, _, us, ws, bs, r1, r2, v1, v2, h => by
    unfold RVs at r1 r2
    obtain ⟨x, xs, rfl, p1, p2⟩ := r1
    obtain ⟨y, ys, rfl, q1, q2⟩ := r2
    cases v1 with
    | cons a1 b1 =>
      cases v2 with
      | cons a2 b2 =>
        unfold eqIs at h
        split at h
        · rename_i t e1
          split at h
          · rename_i ts e2
            cases h
            obtain ⟨l1, l2, ih⟩ := eqIs_ok gd I sr hu p2 q2 b1 b2 e2
            refine ⟨by simp [l1], by simp [l2], fun j h1 h2 => ?_⟩
            cases j with
            | zero => exact eqI_ok gd I sr hu p1 q1 a1 a2 e1
            | succ j => exact ih j (Nat.lt_of_succ_lt_succ h1) (Nat.lt_of_succ_lt_succ h2)
          · cases h
        · cases h
  | [], q :: qs, _, _, _, _, _, _, _, _, _, h => by cases h
  | p :: ps, [], _, _, _, _, _, _, _, _, _, h => by cases h
theorem neX_ok (gd : Good Z lv X W) : OpOk Z X W (compareOp .NotEq) neX := by
  intro pins s σ H x y v u m S p q Q I rx ry sr rp rq hp
  unfold neX at hp
  split at hp
  · rename_i xs ex
    split at hp
    · rename_i ys ey
      split at hp
      · rename_i bs eb
        obtain ⟨a, vs, rfl, ha, ra⟩ := asL_ok sr rp ex
        obtain ⟨b, ws, rfl, hb, rb⟩ := asL_ok sr rq ey
        cases (show v = Value.ref a from rx)
        cases (show u = Value.ref b from ry)
        obtain ⟨us1, r1, p1, _⟩ := I.list (SqL.of ha)
        obtain ⟨us2, r2, p2, _⟩ := I.list (SqL.of hb)
        have hu := gd.hu
        obtain ⟨l1, l2, he⟩ := eqIs_ok gd I sr (A := X.A.in1) (by show X.A.units + 1 + 64 < cLine; omega) ra rb r1 r2 eb
        have hsz : us1.toArray.size = us2.toArray.size := by rw [List.size_toArray, List.size_toArray]; exact l1
        refine SeqAt.RcNeAt.lists (e := fun j => bs.getD j true) p1.isList p2.isList hsz (by omega) (fun j h1 h2 => ?_) X.prog X.w _ _ ?_
        · have := he j (by simpa using h1) (by simpa using h2)
          simpa using this
        · have e : ((List.range us1.toArray.size).all fun j => bs.getD j true) = bs.all id := by
            rw [List.size_toArray, ← l2]
            clear he l2 eb hp
            rw [Bool.eq_iff_iff, List.all_eq_true, List.all_eq_true]
            constructor
            · intro h z hz
              obtain ⟨j, hj, rfl⟩ := List.mem_iff_getElem.mp hz
              have := h j (List.mem_range.mpr hj)
              simpa [List.getD_eq_getElem?_getD, List.getElem?_eq_getElem hj] using this
            · intro h j hj
              have hj := List.mem_range.mp hj
              have := h bs[j] (List.getElem_mem hj)
              simpa [List.getD_eq_getElem?_getD, List.getElem?_eq_getElem hj] using this
          rw [e]
          exact ⟨.bl _, H, I, rfl, hp H m _ Gr.refl sr to_bl⟩
      · exact hp.elim
    · exact hp.elim
  · exact hp.elim
/-- !=, and of lists with empty dicts -/
def neT (T : Tab) (c : CmpT) (p q : PV) (S : Hs) : RE := match cmpD2 T c .NotEq p q S with
  | .bad => neX p q S
  | r => r
theorem neT_ok (TO : TabOk Z lv T fdO psO) (gd : Good Z lv X W) (C : CmpTOk Z c) : OpOk Z X W (compareOp .NotEq) (neT T c) := by
  intro pins s σ H x y v u m S p q Q I rx ry sr rp rq hp
  unfold neT at hp
  split at hp
  · exact neX_ok gd pins s σ H x y v u m S p q Q I rx ry sr rp rq hp
  · exact cmpD2_ok .NotEq TO gd C pins s σ H x y v u m S p q Q I rx ry sr rp rq hp
end
end MP
set_option maxRecDepth 100000
namespace MP
open PySem L2 PyProof.Rows
section
variable {Z : Sta} {W : WX} {σ : L2.St} {H H1 H2 : Hp} {m m1 m2 : Mp} {X : Cx} {S : Hs} {x y : V} {pins : List (Addr × Obj)} {s : Shared} {Q : VK} {p q : PV}
/-! ### a text times a number -/
/-- n times over -/
def repN (l : List Nat) (n : Nat) : List Nat := (List.replicate n l).flatten
theorem fold_rep {a : Array Nat} : ∀ (n : Nat) (acc : Array Nat), (List.replicate n a).foldl (· ++ ·) acc = acc ++ (repN a.toList n).toArray
  | 0, acc => by simp [repN]
  | n + 1, acc => by
    rw [List.replicate_succ, List.foldl_cons, fold_rep n]
    apply Array.toList_inj.mp
    simp [repN, List.replicate_succ]
def mulX (fz : Bool) (a b : PV) (S : Hs) : RE := match a, b with
  | .str s, .int k => if decide (2 ≤ k) && decide (k ≤ 10000) && decide (1 ≤ s.length) && decide (s.length ≤ 1000) then .ok (.str (repN s k.toNat)) S else if decide (k = 0) then .ok (.str []) S else if decide (k = 1) then .ok (.str s) S else .bad
  | a, b => mulV fz a b S
def rMulS : R2 := fun x y H Q => ∃ (l : List Nat) (k : Int), x = .str ⟨l.toArray⟩ ∧ y = .int k ∧ ((2 ≤ k ∧ k ≤ 10000 ∧ 1 ≤ l.length ∧ l.length ≤ 1000 ∧ Q (.str ⟨(repN l k.toNat).toArray⟩) H) ∨ (k = 0 ∧ Q (.str Str.empty) H) ∨ (k = 1 ∧ Q (.str ⟨l.toArray⟩) H))
theorem op_mulS : OpR X (binaryOp .Mult) rMulS := by
  intro pins s σ H x y v u Q I rx ry h
  obtain ⟨l, k, rfl, rfl, h⟩ := h
  obtain ⟨t, rfl⟩ := rx
  obtain ⟨t2, rfl⟩ := ry
  have ln : (⟨l.toArray⟩ : Str).length = l.length := by simp [Str.length]
  rcases h with ⟨k1, k2, l1, l2, q⟩ | ⟨rfl, q⟩ | ⟨rfl, q⟩
  · have hm : l.length * k.toNat ≤ 1000 * 10000 := Nat.mul_le_mul l2 (by omega)
    refine PySem.P.mul_str (by simp; omega) (fun _ _ => ?_) (fun _ _ => ?_) ?_
    · rw [ln]
      have : (1000 : Int) ≤ (2 ^ 63 - 1) / k := by
        refine Int.le_ediv_of_mul_le (by omega) ?_
        have : (1000 : Int) * k ≤ 1000 * 10000 := by omega
        omega
      omega
    · rw [ln]
      unfold Builtin.Str.tooLong
      rw [decide_eq_false_iff_not, sizeLine_eq]
      have : (1000 * 10000 : Nat) ≤ 16777216 := by decide
      omega
    · rw [if_neg (by omega), if_neg (by
        rw [ln, Bool.or_eq_true, beq_iff_eq, beq_iff_eq]
        omega)]
      have e : (⟨(List.replicate k.toNat (⟨l.toArray⟩ : Str).cps).foldl (· ++ ·) #[]⟩ : Str) = ⟨(repN l k.toNat).toArray⟩ := by
        rw [fold_rep]
        simp
      rw [e]
      refine ⟨?_, ⟨.str ⟨(repN l k.toNat).toArray⟩, H, I.tok _, ⟨_, rfl⟩, q⟩⟩
      have hz : (repN l k.toNat).length = l.length * k.toNat := by simp [repN, Nat.mul_comm]
      show (repN l k.toNat).toArray.size ≤ sizeLine
      rw [List.size_toArray, hz, sizeLine_eq]
      omega
  · exact PySem.P.mul_str_none (by decide) (by decide) ⟨.str Str.empty, H, I.tok _, ⟨_, rfl⟩, q⟩
  · refine PySem.P.mul_str (by decide) (fun _ h => absurd h (by simp)) (fun _ h => absurd h (by simp)) ?_
    rw [if_neg (by decide), if_pos (by simp)]
    exact ⟨.str ⟨l.toArray⟩, H, I, ⟨_, rfl⟩, q⟩
theorem mulX_ok {fz : Bool} (hK : X.K = Z.K) : OpOk Z X W (binaryOp .Mult) (mulX fz) := by
  intro pins s σ H x y v u m S p q Q I rx ry sr rp rq hp
  unfold mulX at hp
  split at hp
  · rename_i l k
    obtain ⟨rfl, ho⟩ := rv_str rp
    cases rv_int rq
    have fin : ∀ w : List Nat, sOk w = true → PostE Z W σ H m Q (.ok (.str w) S) → Q (.str ⟨w.toArray⟩) H := fun w hw h => h H m _ Gr.refl sr (to_str hw)
    refine op_mulS pins s σ H _ _ v u Q I rx ry ⟨l, k, rfl, rfl, ?_⟩
    split at hp
    · rename_i hc
      simp only [Bool.and_eq_true, decide_eq_true_eq] at hc
      obtain ⟨⟨⟨c1, c2⟩, c3⟩, c4⟩ := hc
      refine .inl ⟨c1, c2, c3, c4, fin _ ?_ hp⟩
      unfold sOk at *
      rw [List.all_eq_true] at *
      intro z hz
      unfold repN at hz
      obtain ⟨l', h1, h2⟩ := List.mem_flatten.mp hz
      rw [List.eq_of_mem_replicate h1] at h2
      exact ho z h2
    · split at hp
      · rename_i e
        exact .inr (.inl ⟨of_decide_eq_true e, fin [] rfl hp⟩)
      · split at hp
        · rename_i e
          exact .inr (.inr ⟨of_decide_eq_true e, fin _ ho hp⟩)
        · exact hp.elim
  · exact mul_ok hK pins s σ H x y v u m S _ _ Q I rx ry sr rp rq hp
end
end MP
set_option maxRecDepth 100000
namespace MP
open PySem L2 PyProof.Rows
section
variable {Z : Sta} {W : WX} {σ : L2.St} {H H1 : Hp} {m m1 : Mp} {X : Cx} {S : Hs} {lv : Nat} {pins : List (Addr × Obj)} {s : Shared} {Q : VK}
theorem upd_swap {a b : Addr} {o u : HO} (h : a ≠ b) : L2.upd (L2.upd H a o) b u = L2.upd (L2.upd H b u) a o := by
  funext c
  by_cases h1 : c = a
  · subst h1
    rw [L2.upd_ne h, L2.upd_same, L2.upd_same]
  · by_cases h2 : c = b
    · subst h2
      rw [L2.upd_same, L2.upd_ne h1, L2.upd_same]
    · rw [L2.upd_ne h2, L2.upd_ne h1, L2.upd_ne h1, L2.upd_ne h2]
/-! ### a lambda is made -/
theorem lam_made {c P : Addr} {q : Str} {ps : Array Value} {params : Arguments} {body : Expr} {scope : Scope} {pos : Pos} {E : Value → Shared → Prop} {R : Value → Shared → Prop} (I : L2.Inv X pins σ H s) (TB : LamX.TabB X.base X.mg c P) (hc : X.env.code = .ref c)
    (hq : X.env.qual ++ "<lambda>" = q) (hP : H P = some (.tbl ps)) (ht : TriplesOk ps.toList) (hd : defaultsOf params X.env = ([], [])) (hf : ∀ y ∈ scope.names, y.2 = .free → ∃ c, X.env.cells.lookup y.1 = some c)
    (old : ∀ cv, codeAmong pos ps.toList = some cv → ∃ c, cv = .ref c ∧ H c = some (LamX.CodeO c q))
    (k : ∀ (f c' : Addr) (pm ctv : Value) (H1 : Hp) (s' : Shared), (H1 = H ∨ (H c' = none ∧ H1 = L2.upd (L2.upd H P (.tbl (ps ++ #[rawInt pos.line, rawInt pos.col, .ref c']))) c' (LamX.CodeO c' q))) → H1 c' = some (LamX.CodeO c' q) → L2.Inv X pins σ H1 s' →
      s'.heap.get? f = some (PySem.W.kla_obj "<lambda>" q params body scope (cloFrom X.env.cells scope.names []) pm c' ctv) → H1 f = none → f ∉ frs X.stack → R (.ref f) s') :
    wpAny (model X.prog X.w) X.A (eval (.Lambda params body scope pos) X.env) R E s := by
  subst hq
  have inP : s.heap.get? P = some { cls := .none, data := .fields ps } := I.hok P _ hP
  have far : ∀ f, s.heap.objs.size ≤ f → f ∉ frs X.stack := fun f hl hm => by
    rcases List.mem_cons.mp (I.stkSub f hm) with e | e
    · have := I.lt
      rw [← e] at this
      exact absurd (Nat.lt_of_lt_of_le this hl) (Nat.lt_irrefl _)
    · exact I.nofs hl e
  refine PySem.W.kla_eval hd ?_
  cases e : codeAmong pos ps.toList with
  | some cv =>
    obtain ⟨c', e1, e2⟩ := old cv e
    subst e1
    exact PySem.W.kla_makeFunctionHit (P := P) (ps := ps) (mg := X.mg) (closure_ok hf) I.ok.glob (I.mod.glob.keeps I.bk) hc (TB.code.keeps I.bk) inP ht e (TB.bm.keeps I.bk) fun ctv h1 tk st sz =>
      k _ c' _ ctv H _ (.inl rfl) e2 (I.kept fun b o eb => Heap.get?_push_of_some _ (st b o eb)) (Heap.get?_push_size _ rfl) (I.hok.fresh sz) (far _ sz)
  | none =>
    refine PySem.W.kla_makeFunction (P := P) (ps := ps) (mg := X.mg) (closure_ok hf) I.ok.glob (I.mod.glob.keeps I.bk) hc (TB.code.keeps I.bk) inP ht e TB.gP (TB.bm.keeps I.bk) fun c' ctv h1 tk st ge lt hr tab => ?_
    obtain ⟨c2, oc, vs, t, ec, o1, o2, o3⟩ := hr
    cases ec
    have nC : H c' = none := I.hok.fresh ge
    have sz : s.heap.objs.size ≤ h1.objs.size := Nat.le_trans ge (Nat.le_of_lt lt)
    have J := LamX.inv_table (t' := tk) (q := X.env.qual ++ "<lambda>") (more := #[rawInt pos.line, rawInt pos.col, .ref c']) (h' := h1.push (PySem.W.kla_obj "<lambda>" (X.env.qual ++ "<lambda>") params body scope (cloFrom X.env.cells scope.names []) ((X.mg "__name__").getD .none) c' ctv)) I hP
      (fun b o hb eb => Heap.get?_push_of_some _ (st b o hb eb)) (Heap.get?_push_of_some _ tab) ge ⟨oc, vs, t, Heap.get?_push_of_some _ o1, o2, o3⟩
    refine k _ c' _ ctv _ _ (.inr ⟨nC, rfl⟩) L2.upd_same J (Heap.get?_push_size _ rfl) ?_ (far _ sz)
    have n1 : h1.objs.size ≠ c' := Nat.ne_of_gt lt
    have n2 : h1.objs.size ≠ P := Nat.ne_of_gt (Nat.lt_of_lt_of_le (Heap.lt_size inP) sz)
    rw [L2.upd_ne n1, L2.upd_ne n2]
    exact I.hok.fresh sz
/-- the table's cell, and the state behind the making -/
theorem tab_at {j i : Nat} (sr : SRel Z H m S) (hS : getR S j = some (.tab i)) : getR m.l j = some (Z.tb i).1 ∧ ∃ ps : Array Value, H (Z.tb i).1 = some (.tbl ps) ∧ TriplesOk ps.toList ∧
    (∀ (pos : Pos) (cv : Value), codeAmong pos ps.toList = some cv → ∃ c, cv = .ref c ∧ H c = some (LamX.CodeO c (Z.tb i).2)) ∧
    ∀ (pos : Pos) (c' : Addr), H c' = none → Gr Z H m (L2.upd (L2.upd H (Z.tb i).1 (.tbl (ps ++ #[rawInt pos.line, rawInt pos.col, .ref c']))) c' (LamX.CodeO c' (Z.tb i).2)) m ∧ SRel Z (L2.upd (L2.upd H (Z.tb i).1 (.tbl (ps ++ #[rawInt pos.line, rawInt pos.col, .ref c']))) c' (LamX.CodeO c' (Z.tb i).2)) m S := by
  obtain ⟨a, ea, e1, ps, e2, e3, e4⟩ := sr.at_ hS
  subst e1
  refine ⟨ea, ps, e2, e3, fun pos cv q => ?_, fun pos c' nC => ?_⟩
  · obtain ⟨c, q1, q2, _⟩ := e4 pos cv q
    exact ⟨c, q1, q2⟩
  · have nP : (Z.tb i).1 ≠ c' := L2.ne_of_none e2 nC
    rw [upd_swap nP]
    have g0 := Gr.new (Z := Z) (m := m) (o := LamX.CodeO c' (Z.tb i).2) nC
    have s0 := sr.new (o := LamX.CodeO c' (Z.tb i).2) nC
    have eP : L2.upd H c' (LamX.CodeO c' (Z.tb i).2) (Z.tb i).1 = some (.tbl ps) := by rw [L2.upd_ne nP]; exact e2
    have nt : ∀ xs, ¬ Rd (L2.upd H c' (LamX.CodeO c' (Z.tb i).2)) (Z.tb i).1 (.tup xs) := no_tup eP (fun _ z => by cases z) (fun _ _ z => by cases z)
    have cr : CRel Z (L2.upd (L2.upd H c' (LamX.CodeO c' (Z.tb i).2)) (Z.tb i).1 (.tbl (ps ++ #[rawInt pos.line, rawInt pos.col, .ref c']))) m (.tab i) (Z.tb i).1 := by
      refine ⟨rfl, _, L2.upd_same, ?_, fun p2 cv q => ?_⟩
      · have eL : (ps ++ #[rawInt pos.line, rawInt pos.col, .ref c']).toList = ps.toList ++ [rawInt pos.line, rawInt pos.col, .ref c'] := by simp
        rw [eL]
        exact PySem.TriplesOk_snoc _ _ _ _ e3
      · have eL : (ps ++ #[rawInt pos.line, rawInt pos.col, .ref c']).toList = ps.toList ++ [rawInt pos.line, rawInt pos.col, .ref c'] := by simp
        rw [eL] at q
        rcases LamX.among_app _ e3 q with z | z
        · obtain ⟨c, q1, q2, q3⟩ := e4 p2 cv z
          refine ⟨c, q1, ?_, q3⟩
          have n1 : c ≠ (Z.tb i).1 := fun z => by rw [z, e2] at q2; cases q2
          rw [L2.upd_ne n1, L2.upd_ne (L2.ne_of_none q2 nC)]
          exact q2
        · refine ⟨c', z, ?_, sr.notin nC⟩
          rw [L2.upd_ne nP.symm]
          exact L2.upd_same
    have s1 := s0.set (n := j) (c := .tab i) ea nt cr
    rw [setR_id hS] at s1
    exact ⟨g0.trans (Gr.upd (getR_mem ea) nt), s1⟩
/-! ### the lambda is called by the def that got it -/
/-- x, called: tb tells what comes -/
def Act (X : Cx) (x : V) (tb : XK → Hp → VK → Prop) : Prop := ∀ (W : WX) (pn : List (Addr × Obj)) (xe : Value → Shared → Prop) (i : Nat) (a : Str) (p1 p2 : Pos), Takes (X.tr pn xe) W → X.N[i]? = some a → Vis X.env.scope a → (a == ("__debug__" : Str)) = false → (a == ("__classdict__" : Str)) = false →
  PE (X.tr pn xe) (.Call (.Name a p1) [] [] p2) (fun σ H Q => σ[i]? = some (some x) ∧ tb (WE W σ) H Q)
theorem lam_act {CXg : CXT} {Eg : XK} {Ng : List Str} {qg q : Str} {sg : Scope} {g f c' : Addr} {cdg pm ctv : Value} {params : Arguments} {body : Expr} {scope : Scope} {k : Nat} {tl : XK → TE} (I : L2.Inv X pins σ H s) (L : LamX.LamS X.env.scope scope) (hq : X.env.qual ++ "<lambda>" = q)
    (hf : s.heap.get? f = some (PySem.W.kla_obj "<lambda>" q params body scope (cloFrom X.env.cells scope.names []) pm c' ctv)) (hfn : H f = none) (hfr : f ∉ frs X.stack)
    (hbind : bindArgs (PySem.W.kla_fn "<lambda>" q params body scope (cloFrom X.env.cells scope.names []) pm (.ref c') ctv) ⟨[], []⟩ = pure []) (hr : Room (k + 1) (X.A.deeper (envOfC qg sg s.heap.objs.size g cdg)))
    (hbody : ∀ (A : Around) (outer : List Env) (s : Shared) (H : Hp) (E : XK), Room k (A.deeper (LamX.lamEnv X scope s.heap.objs.size f c')) → PE (LamX.lamCx X A outer s H E scope f c') body (tl E)) :
    Act (cxOf CXg X.prog X.w X.K X.mg X.base Ng qg sg g cdg X.A X.stack s H Eg) (.ref f) (fun E HZ Q => HZ c' = some (LamX.CodeO c' q) ∧ tl E σ HZ Q) := by
  subst hq
  intro W pn xe i a p1 p2 tk hN hv hd hcd
  refine ⟨fun pz sz σz Hz Q Iz ⟨h1, h2, h3⟩ => ?_⟩
  have look := (pe_var (X := (cxOf CXg X.prog X.w X.K X.mg X.base Ng qg sg g cdg X.A X.stack s H Eg).tr pn xe) (pos := p1) (i := i) hN hv hd hcd).run pz sz σz Hz (fun v H1 => v = .ref f ∧ H1 = Hz) Iz ⟨.ref f, h1, rfl, rfl⟩
  refine wpAny_Call_Name_kw (thn look fun u s1 ⟨v, Hy, Iy, ry, ev, eH⟩ => ?_)
  subst ev
  subst eH
  obtain rfl : u = Value.ref f := ry
  have at1 : s1.heap.get? f = some (PySem.W.kla_obj "<lambda>" (X.env.qual ++ "<lambda>") params body scope (cloFrom X.env.cells scope.names []) pm c' ctv) := Iy.base.keep f _ hf hfn hfr (fun z => nomatch (show f ∈ ([] : List Addr) from z))
  refine PySem.W.callWith_F0 ⟨_, _, _, _, at1⟩ ?_
  obtain ⟨⟨oc, vs, t, c1, c2, c3⟩, _, _⟩ := Iy.hok c' _ h2
  have un : Un (frs X.stack) [] H Hy s.heap s1.heap := Iy.base
  have rc : codeAny (model X.prog X.w) (X.A.deeper (envOfC qg sg s.heap.objs.size g cdg)) (.call (.ref f) ⟨[], []⟩) (CR (L2.CX X.prog X.w) (envOfC qg sg s.heap.objs.size g cdg :: X.stack) X.prog X.w Hy s1 Q (WE W σz)) s1 := by
    refine PySem.W.kla_callFunE hr.depth at1 rfl L.co L.gen rfl ⟨c', oc, vs, t, rfl, c1, c2, c3⟩ ?_
    rw [hbind]
    refine wpAny_pure (wpAny_newFunctionEnv (fun y hy => (L.own y hy).2) (fun y hy => nomatch hy) (fun hh ns sb => ⟨Iy.nolimit.fresh _ sb, ?_⟩) L.kind)
    have st : ∀ b o, s1.heap.get? b = some o → hh.get? b = some o := fun b o e => sb.extBut b o (Nat.ne_of_lt (Heap.lt_size e)) (Heap.get?_push_of_some _ e)
    have J := LamX.lam_start2 (E := WE W σz) (A := X.A.deeper (envOfC qg sg s.heap.objs.size g cdg)) (outer := envOfC qg sg s.heap.objs.size g cdg :: X.stack) (f := f) (c' := c') (tk := s1.toks + ([] : List (Str × Value)).length) I L Iy.env0 hr.hd un ns st
    have run := (hbody _ _ s1 Hy (WE W σz) (hr.deeper _)).run [] _ _ Hy Q J h3
    exact PySem.W.kla_codeExpr (wpAny_mono run (fun v s' ⟨w', H', K', rv, q⟩ => ⟨w', H', K'.os, K'.bare, K'.base, K'.hok, rv, q⟩) fun _ _ z => z)
  refine wpAny_call (codeAny_mono rc fun r s' hq => ?_)
  cases r with
  | ok fl =>
    cases fl with
    | ret u => exact Iy.after hq
    | next => exact False.elim hq
    | brk => exact False.elim hq
    | cont => exact False.elim hq
  | error e => exact passAt tk σz pz Hy s1 e s' Iy hq
end
end MP
set_option maxRecDepth 100000
namespace MP
open PySem L2 PyProof.Rows
/-! ### held = None; try: held = call() except ..; return held -/
def slots0 (n : Nat) : Loc := none :: some .non :: List.replicate (n - 2) none
def caughtR (hs : List Hd) (n : Nat) : RE → RE
  | .ok v S => .ok v S
  | .ex k v S => match hdsS hs k v (slots0 n) S with
    | .nx L S1 => (match L[1]? with
      | some (some w) => .ok w S1
      | _ => .bad)
    | .ex k v _ S1 => .ex k v S1
    | _ => .bad
  | .bad => .bad
/-- the def at g, called with a thunk: fb tells what comes of it -/
def CgOk (Z : Sta) (lv g n : Nat) (hs : List Hd) : Prop := ∀ (A : Around) (outer : List Env) (s : Shared) (H : Hp) (x : V) (u : Value) (co : Hp → Prop) (fb : Loc → Hs → RE) (σm : L2.St) (Q : VK) (E : XK), Room (lv + 5) A → Env0 Z.P Z.w Z.K Z.mg Z.base A outer s H → RelV x u →
  (∀ (N : List Str) (qual : Str) (scope : Scope) (cdv : Value), Room (lv + 4) (A.deeper (envOfC qual scope s.heap.objs.size (Z.G g) cdv)) → Act (cxOf (L2.CX Z.P Z.w) Z.P Z.w Z.K Z.mg Z.base N qual scope (Z.G g) cdv A outer s H E) x (fun E' H' Q' => co H' ∧ tE Z (fun c d _ H'' => E' c d H'') fb σm H' Q')) →
  co H → (∃ m L S, SRel Z H m S ∧ LRel Z H m L σm ∧ PostE Z (fun c d _ H' => E c d H') σm H m Q (caughtR hs n (fb L S))) →
  codeAny (model Z.P Z.w) A (.call (.ref (Z.G g)) ⟨[u], []⟩) (CR (L2.CX Z.P Z.w) outer Z.P Z.w H s Q E) s
section
variable {Z : Sta} {W : WX} {σ : L2.St} {H H1 : Hp} {m m1 : Mp} {X : Cx} {S : Hs} {lv : Nat} {pins : List (Addr × Obj)} {s : Shared} {Q : VK}
/-- the three statements, read by the thunk -/
theorem pss_caught {a h : Str} {x : V} {tb : XK → Hp → VK → Prop} {hds : List ExceptHandler} {l : List Hd} {cs : List Value} {p1 p2 p3 p4 p5 p6 p7 p8 p9 p10 : Pos} {j : Nat} (gd : Good Z lv X W) (hp : Hx X) (ac : Act X x tb) (ha : X.N[0]? = some a) (hh : X.N[1]? = some h)
    (va : Vis X.env.scope a) (lh : X.env.scope.names.lookup h = some .local) (hA : HdsA X hds (List.zipWith (hdT Z) cs l)) (hne : hds.isEmpty = false) (d1 : (a == ("__debug__" : Str)) = false) (d2 : (a == ("__classdict__" : Str)) = false) (d3 : (h == ("__debug__" : Str)) = false) (d4 : (h == ("__classdict__" : Str)) = false)
    (s1 : swapsWithSole [.Name h p1] (.Constant .none j p2) p3.line X.env = pure false) (s2 : swapsWithSole [.Name h p4] (.Call (.Name a p5) [] [] p6) p7.line X.env = pure false) :
    PSs X [.Assign [.Name h p1] (.Constant .none j p2) p3, .Try [.Assign [.Name h p4] (.Call (.Name a p5) [] [] p6) p7] hds [] [] p8, .Return (some (.Name h p9)) p10]
      (fun D σ H => σ[0]? = some (some x) ∧ tb (fun c d H' => wManyA X.K W { D with nx := fun σ H => ∃ v, σ[1]? = some (some v) ∧ D.rt v H } (List.zipWith (hdT Z) cs l) c d (σ.set 1 (some .non)) H') H
        (fun v H' => ∃ w, ((σ.set 1 (some .non)).set 1 (some v))[1]? = some (some w) ∧ D.rt w H')) := by
  have lh' : L2.Loc X.env.scope h := .inl lh
  have r3 : PSs X [.Return (some (.Name h p9)) p10] (fun D σ H => ∃ v, σ[1]? = some (some v) ∧ D.rt v H) := pss_one (ps_ret (pe_var (i := 1) hh (.inl lh) d3 d4))
  have r2 : PS X (.Try [.Assign [.Name h p4] (.Call (.Name a p5) [] [] p6) p7] hds [] [] p8) (fun D σ H => σ[0]? = some (some x) ∧ tb (fun c d H' => wManyA X.K W D (List.zipWith (hdT Z) cs l) c d σ H') H fun v H' => D.nx (σ.set 1 (some v)) H') := by
    cases hds with
    | nil => cases hne
    | cons h₀ hds =>
      refine ps_try_manyA hp.st hp.fr gd.nd gd.takes (tb := fun W1 D σ H => σ[0]? = some (some x) ∧ tb (fun c d H' => W1 c d σ H') H fun v H' => D.nx (σ.set 1 (some v)) H') (fun W1 pn xe tk po => ?_) hA
      have e := ac W1 pn xe 0 a p5 p6 tk ha va d1 d2
      have g := pg_name (X := X.tr pn xe) (pos := p4) gd.nd hh lh' (.inr lh)
      exact pss_one (ps_asg e g s2 rfl rfl)
  have e1 : PE X (.Constant .none j p2) (tC .non) := pe_non
  have g1 := pg_name (X := X) (pos := p1) gd.nd hh lh' (.inr lh)
  refine PSs.imp (pss_cons (ps_asg e1 g1 s1 rfl rfl) (pss_cons r2 r3)) fun D σ H ⟨q1, q2⟩ => ?_
  exact ⟨by rw [List.getElem?_set_ne (by decide)]; exact q1, q2⟩
theorem lrel_slots {n : Nat} {x : V} (hn : 2 ≤ n) (N : List Str) (hN : N.length = n) : LRel Z H m (slots0 n) ((L2.start N [x]).set 1 (some .non)) := by
  have e : (L2.start N [x]).set 1 (some V.non) = some x :: some .non :: List.replicate (n - 2) none := by
    unfold L2.start
    rw [hN]
    obtain ⟨k, rfl⟩ : ∃ k, n = k + 2 := ⟨n - 2, by omega⟩
    show (some x :: List.replicate (k + 2 - 1) none).set 1 (some V.non) = _
    rw [show k + 2 - 1 = k + 1 by omega, List.replicate_succ]
    rfl
  rw [e]
  unfold slots0
  refine ⟨by simp, fun i v ev => ?_⟩
  match i with
  | 0 => cases ev
  | 1 =>
    simp only [List.getElem?_cons_succ, List.getElem?_cons_zero, Option.some.injEq] at ev
    subst ev
    exact ⟨.non, rfl, to_non⟩
  | i + 2 =>
    simp only [List.getElem?_cons_succ, List.getElem?_replicate] at ev
    split at ev <;> cases ev
theorem caught_post {D : Ends} {E : XK} {K : PySem.W.Frag} {cs : List Value} {l : List Hd} {n : Nat} {r : RE} {σm σ1 : L2.St} (hK : K = Z.K) (ec : cs.length = l.length) (ht : ∀ p ∈ cs.zip l, ∀ k b, p.2.tk k = some b → PySem.W.exmOne Z.K (.ref (Z.G k)) p.1 = some b)
    (hl : ∀ H' m', LRel Z H' m' (slots0 n) σ1) (h1 : 1 < σ1.length) (h : PostE Z (fun c d _ H' => E c d H') σm H m D.rt (caughtR l n r)) :
    PostE Z (fun c d _ H' => wManyA K (fun c d _ H' => E c d H') { D with nx := fun σ H => ∃ v, σ[1]? = some (some v) ∧ D.rt v H } (List.zipWith (hdT Z) cs l) c d σ1 H') σm H m (fun v H' => ∃ w, (σ1.set 1 (some v))[1]? = some (some w) ∧ D.rt w H') r := by
  cases r with
  | bad => exact h.elim
  | ok v S => exact fun H' m' x g s rv => ⟨x, List.getElem?_set_self h1, h H' m' x g s rv⟩
  | ex k v S =>
    intro H' m' d g s ex
    refine hds_read (W := fun c d _ H' => E c d H') hK ec ht s (hl H' m') ex ?_
    have h : PostE Z (fun c d _ H' => E c d H') σm H' m' D.rt (match hdsS l k v (slots0 n) S with
      | .nx L S1 => (match L[1]? with
        | some (some w) => .ok w S1
        | _ => .bad)
      | .ex k v _ S1 => .ex k v S1
      | _ => .bad) := PostE.grow g h
    cases eh : hdsS l k v (slots0 n) S with
    | bad => rw [eh] at h; exact h.elim
    | rt v S => rw [eh] at h; exact h.elim
    | bk L S => rw [eh] at h; exact h.elim
    | ct L S => rw [eh] at h; exact h.elim
    | ex k v L S => rw [eh] at h; exact fun H2 m2 d2 σ2 g2 s2 _ ex2 => h H2 m2 d2 g2 s2 ex2
    | nx L S =>
      rw [eh] at h
      simp only at h
      intro H2 m2 σ2 g2 s2 l2
      split at h
      · rename_i w ew
        obtain ⟨x, ex, rx⟩ := l2.2 1 w ew
        exact ⟨x, ex, h H2 m2 x g2 s2 rx⟩
      · exact h.elim
theorem caught_ok {d : MDef} {g : Nat} {N : List Str} {vs ls : List Nat} {gs : List Str} {a h : Str} {hs : List Hd} {hds : List ExceptHandler} {p1 p2 p3 p4 p5 p6 p7 p8 p9 p10 : Pos} {j : Nat} (hF : ∃ fd, MFun Z.K d fd) (hG : Z.G g = d.adr Z.K) (SC : FnScope N [a] d.scope) (hc : chkD N d.scope vs ls gs = true)
    (hb : d.body = [.Assign [.Name h p1] (.Constant .none j p2) p3, .Try [.Assign [.Name h p4] (.Call (.Name a p5) [] [] p6) p7] hds [] [] p8, .Return (some (.Name h p9)) p10]) (ha : N[0]? = some a) (hh : N[1]? = some h) (la : d.scope.names.lookup a = some .local) (lh : d.scope.names.lookup h = some .local)
    (d1 : (a == ("__debug__" : Str)) = false) (d2 : (a == ("__classdict__" : Str)) = false) (d3 : (h == ("__debug__" : Str)) = false) (d4 : (h == ("__classdict__" : Str)) = false) (hne : hds.isEmpty = false) (hn : 2 ≤ N.length)
    (h0 : d.dfl Z.K = []) (hbind : ∀ (kV doc pm : Value) (an : Option Addr) (cdv ct u : Value), bindArgs (PySem.W.fnOf d.name d.qual d.params d.body d.scope .none kV doc pm an cdv ct) ⟨[u], []⟩ = pure [(a, u)])
    (s1 : ∀ env : Env, env.scope = d.scope → swapsWithSole [.Name h p1] (.Constant .none j p2) p3.line env = pure false) (s2 : ∀ env : Env, env.scope = d.scope → swapsWithSole [.Name h p4] (.Call (.Name a p5) [] [] p6) p7.line env = pure false)
    (hM : ∀ X W, Good Z lv X W → DefX X N d.scope vs ls gs → Hx X → HdsM Z X hds hs) : CgOk Z lv g N.length hs := by
  intro A outer s H x u co fb σm Q E hr e0 rx hact hco ⟨m, L, S, sr, hl, hp⟩
  obtain ⟨fd, F⟩ := hF
  obtain ⟨oc, od, dV, kV, doc, pm, an, cdv, ct, osl, rfl, lk, hcd, hD, _⟩ := F.f.ex
  have eD : dV = .none := by
    rcases hD with ⟨_, z⟩ | ⟨z, _⟩
    · exact z
    · exact absurd h0 z
  subst eD
  rw [← hG] at lk
  refine LamX.run_ofS (CX := L2.CX Z.P Z.w) (us := [u]) (vs := [x]) lk hcd SC hr e0 (.of_eq (hbind _ _ _ _ _ _ _)) (.cons rx .nil) rfl fun hr' => ?_
  have gd : Good Z lv (cxOf (L2.CX Z.P Z.w) Z.P Z.w Z.K Z.mg Z.base N d.qual d.scope (Z.G g) cdv A outer s H E) (fun c d _ H' => E c d H') := ⟨rfl, rfl, rfl, rfl, rfl, hr'.mono (Nat.add_le_add_left (by decide) lv), rfl, SC.nd, takes_of rfl rfl rfl rfl⟩
  have D : DefX (cxOf (L2.CX Z.P Z.w) Z.P Z.w Z.K Z.mg Z.base N d.qual d.scope (Z.G g) cdv A outer s H E) N d.scope vs ls gs := ⟨rfl, rfl, hc, fun _ _ _ _ => .inl rfl⟩
  have hx : Hx (cxOf (L2.CX Z.P Z.w) Z.P Z.w Z.K Z.mg Z.base N d.qual d.scope (Z.G g) cdv A outer s H E) := ⟨passes_of rfl, rfl, rfl⟩
  obtain ⟨cs, ecs, hA, ht⟩ := hdsM_A (hM _ _ gd D hx)
  have ac := hact N d.qual d.scope cdv hr'
  have P := pss_caught (p8 := p8) (p9 := p9) (p10 := p10) gd hx ac ha hh (.inl la) lh hA hne d1 d2 d3 d4 (s1 _ rfl) (s2 _ rfl)
  rw [← hb] at P
  refine ⟨_, P, rfl, hco, m, L, S, sr, hl, ?_⟩
  refine caught_post (K := Z.K) (D := { nx := fun _ H' => Q .non H', rt := Q }) rfl ecs ht (fun H' m' => lrel_slots hn N rfl) ?_ hp
  unfold L2.start
  simp
  omega
theorem pss_bad {b : List Stmt} : PSs X b (tS Z W fun _ _ => .bad) := ⟨fun _ _ _ _ _ _ ⟨_, _, _, _, _, h⟩ => h.elim⟩
end
end MP
set_option maxRecDepth 100000
namespace MP
open PySem L2 PyProof.Rows
/-! ### f(lambda: e), f a def that calls what it got -/
/-- a place where lambdas are made: the code of the def has the table i -/
structure LmX (Z : Sta) (lv : Nat) (X : Cx) (i : Nat) : Prop where
  room : Room (lv + 5) X.A
  tab : ∃ c, X.env.code = .ref c ∧ LamX.TabB X.base X.mg c (Z.tb i).1
  q : X.env.qual ++ "<lambda>" = (Z.tb i).2
theorem LmX.tr {Z : Sta} {lv i : Nat} {X : Cx} (h : LmX Z lv X i) {pn : List (Addr × Obj)} {xe : Value → Shared → Prop} : LmX Z lv (X.tr pn xe) i := ⟨h.room, h.tab, h.q⟩
def lamcE (i : Nat) (hs : List Hd) (n : Nat) (fb : Loc → Hs → RE) : Loc → Hs → RE := fun L S => match getR S i with
  | some (.tab j) => if j = i then caughtR hs n (fb L S) else .bad
  | _ => .bad
section
variable {Z : Sta} {W : WX} {σ : L2.St} {H H1 : Hp} {m m1 : Mp} {X : Cx} {S : Hs} {lv : Nat} {pins : List (Addr × Obj)} {s : Shared} {Q : VK} {N : List Str} {sc : Scope} {vs ls : List Nat} {gs : List Str}
theorem ok_lamc {x : Str} {p lpos pos : Pos} {params : Arguments} {body : Expr} {scope : Scope} {i g n : Nat} {hs : List Hd} {fb : Loc → Hs → RE} (gd : Good Z lv X W) (D : DefX X N sc vs ls gs) (ml : LmX Z lv X i) (cg : CgOk Z lv g n hs) (hk : PySem.W.keepIn Z.K (.ref (Z.G g)) = true)
    (hg : Gl X x) (hm : Z.mg x = some (.ref (Z.G g))) (hdb : (x == ("__debug__" : Str)) = false) (hl : LamX.lamSB sc scope = true) (hd : defaultsOf params X.env = ([], [])) (vs' : List Nat) (gs' : List Str) (hc : chkD N scope vs' [] gs' = true)
    (hbind : ∀ (q : Str) (cl : List (Str × Addr)) (pm cv ctv : Value), bindArgs (PySem.W.kla_fn "<lambda>" q params body scope cl pm cv ctv) ⟨[], []⟩ = pure [])
    (hb : ∀ Xb Wb, Good Z lv Xb Wb → DefX Xb N scope vs' [] gs' → PE Xb body (tE Z Wb fb)) : PE X (.Call (.Name x p) [.Lambda params body scope lpos] [] pos) (tE Z W (lamcE i hs n fb)) := by
  refine ⟨fun pins s σ H Q I ⟨m, L, S, sr, hL, hp⟩ => ?_⟩
  unfold lamcE at hp
  split at hp
  · rename_i j et
    split at hp
    · rename_i ej
      subst ej
      obtain ⟨_, ps, e1, e2, e3, e4⟩ := tab_at sr et
      obtain ⟨c, hcode, TB⟩ := ml.tab
      have LS : LamX.LamS X.env.scope scope := LamX.lamS_by (by rw [D.esc]; exact hl)
      have hm' : X.mg x = some (.ref (Z.G g)) := by rw [gd.mg]; exact hm
      have hk' : PySem.W.keepIn X.K (.ref (Z.G g)) = true := by rw [gd.K]; exact hk
      refine wpAny_Call_Name_kw (ld_glob I hg hm' ?_ hdb)
      refine PySem.W.callWith_K (h₀ := X.base) I.ok.mod.kin hk' ?_ (by rfl) (by rfl)
      refine Calls.spliced_cons (lam_made I TB hcode ml.q e1 e2 hd (LS.has I.ok) (fun cv q => e3 _ cv q) fun f c' pm ctv H1 s' eH co I1 hf hfn hfr => ?_)
      have st : Gr Z H m H1 m ∧ SRel Z H1 m S := by
        rcases eH with rfl | ⟨nC, rfl⟩
        · exact ⟨Gr.refl, sr⟩
        · exact e4 _ _ nC
      refine Calls.spliced_nil ⟨I1.kIn, ?_⟩
      have e0 := I1.env0
      rw [gd.prog, gd.w, gd.K, gd.mg, gd.base] at e0
      have rc := cg X.A X.stack s' H1 (.ref f) (.ref f) (fun H' => H' c' = some (LamX.CodeO c' (Z.tb j).2)) fb σ Q (WE W σ) ml.room e0 rfl (fun Ng qg sg cdg hr => ?_) co ⟨m, L, S, st.2, hL.grow st.1, ?_⟩
      · rw [← gd.prog, ← gd.w] at rc
        refine wpAny_call (codeAny_mono rc fun r s2 hq => ?_)
        cases r with
        | error e => exact passAt gd.takes σ pins H1 s' e s2 I1 hq
        | ok fl =>
          cases fl with
          | ret u => exact I1.after hq
          | next => exact False.elim hq
          | brk => exact False.elim hq
          | cont => exact False.elim hq
      · have ac := lam_act (CXg := L2.CX Z.P Z.w) (Eg := WE W σ) (Ng := Ng) (qg := qg) (sg := sg) (g := Z.G g) (cdg := cdg) (k := lv + 3) (tl := fun E => tE Z (fun c d _ H' => E c d H') fb) I1 LS ml.q hf hfn hfr (hbind _ _ _ _ _) hr fun A outer s H E r2 =>
          hb _ _ ⟨gd.prog, gd.w, gd.K, gd.mg, gd.base, r2, rfl, gd.nd, takes_of rfl rfl rfl rfl⟩ ⟨D.eN, rfl, hc, fun _ _ h => nomatch h⟩
        rw [gd.prog, gd.w, gd.K, gd.mg, gd.base] at ac
        exact ac
      · have z := PostE.grow st.1 hp
        cases er : caughtR hs n (fb L S) with
        | ok v S2 => rw [er] at z; exact z
        | ex k v S2 => rw [er] at z; exact z
        | bad => rw [er] at z; exact z
    · exact hp.elim
  · exact hp.elim
end
end MP
set_option maxRecDepth 100000
namespace MP
open PySem L2 PyProof.Rows
/-! ### the tables of code at the head -/
def notTab (g : Addr → Option Obj) (a : Addr) : Bool := match g a with
  | some ⟨.none, none, .fields vs, _⟩ => !Nat.beq vs.size 0
  | _ => true
def asTb (g : Addr → Option Obj) (n : Nat) : List Addr := (asM g n).filter (notTab g)
/-- the code of the def at a, and its table -/
def tabAt (K : Fr) (a : Addr) : Addr × Addr := match K.lookup a with
  | some ⟨_, _, .func fd, _⟩ => (match fd.code with
    | .ref c => (match K.lookup c with
      | some ⟨_, _, .fields vs, _⟩ => (match (vs[11]? : Option Value) with
        | some (.ref P) => (c, P)
        | _ => (c, 0))
      | _ => (c, 0))
    | _ => (0, 0))
  | _ => (0, 0)
def cdIs (K : Fr) (a c : Addr) : Bool := match K.lookup a with
  | some ⟨_, _, .func fd, _⟩ => (match fd.code with
    | .ref c' => Nat.beq c' c
    | _ => false)
  | _ => false
def emptyTab : Option Obj → Bool
  | some ⟨.none, none, .fields vs, sl⟩ => Nat.beq vs.size 0 && Nat.beq sl.size 0
  | _ => false
def tabOkB (g : Addr → Option Obj) (K : Fr) (a : Addr) : Bool := cdIs K a (tabAt K a).1 && PySem.W.codeHdIn K (tabAt K a).1 (tabAt K a).2 && emptyTab (g (tabAt K a).2)
def obsL (n : Nat) (ex : List (Fr → Bool)) (ds : List MDef) (tx : List DTab) (lm : List (Fr → Addr)) (g : Addr → Option Obj) : AlM := match He.frG g (asTb g n) with
  | K => match obsM ex ds tx K with
    | (b, r) => (b && ((lm.all fun f => tabOkB g K (f K)) && decide ((lm.map fun f => (tabAt K (f K)).2).Nodup)), r)
structure SaysL (ex : List (Fr → Bool)) (ds : List MDef) (tx : List DTab) (lm : List (Fr → Addr)) (w : World) (h : Heap) (K : Fr) : Prop where
  m : SaysM ex ds tx w K
  tabs : ∀ f ∈ lm, cdIs K (f K) (tabAt K (f K)).1 = true ∧ PySem.W.codeHdIn K (tabAt K (f K)).1 (tabAt K (f K)).2 = true ∧ h.get? (tabAt K (f K)).2 = some { cls := .none, data := .fields #[] } ∧ K.lookup (tabAt K (f K)).2 = none
  nd : (lm.map fun f => (tabAt K (f K)).2).Nodup
theorem emptyTab_ok {o : Option Obj} (h : emptyTab o = true) : o = some { cls := .none, data := .fields #[] } := by
  unfold emptyTab at h
  split at h
  · rename_i vs sl
    rw [Bool.and_eq_true] at h
    have h1 : vs = #[] := Array.eq_empty_of_size_eq_zero (Nat.eq_of_beq_eq_true h.1)
    have h2 : sl = #[] := Array.eq_empty_of_size_eq_zero (Nat.eq_of_beq_eq_true h.2)
    subst h1
    subst h2
    rfl
  · cases h
theorem lookA_mem {a : Addr} {o : Obj} : ∀ {l : List (Addr × Obj)}, l.lookup a = some o → (a, o) ∈ l
  | [], h => nomatch h
  | (b, u) :: r, h => by
    rw [List.lookup_cons] at h
    split at h
    · rename_i c
      cases h
      rw [eq_of_beq c]
      exact List.mem_cons_self
    · exact List.mem_cons_of_mem _ (lookA_mem h)
theorem frG_mem {g : Addr → Option Obj} {as : List Addr} {a : Addr} {o : Obj} (h : (He.frG g as).lookup a = some o) : a ∈ as := by
  have hm : (a, o) ∈ He.frG g as := lookA_mem h
  unfold He.frG at hm
  obtain ⟨b, hb, e⟩ := List.mem_filterMap.mp hm
  cases eg : g b with
  | none => rw [eg] at e; cases e
  | some u =>
    rw [eg] at e
    simp only [Option.map_some, Option.some.injEq, Prod.mk.injEq] at e
    rw [← e.1]
    exact hb
theorem saysL_of {n : Nat} {ex : List (Fr → Bool)} {ds : List MDef} {tx : List DTab} {lm : List (Fr → Addr)} {w : World} {h : Heap} (e : obsL n ex ds tx lm h.get? = valM ds tx w) : SaysL ex ds tx lm w h (He.frG h.get? (asTb h.get? n)) := by
  unfold obsL valM at e
  simp only at e
  rw [Prod.mk.injEq, Bool.and_eq_true, Bool.and_eq_true] at e
  obtain ⟨⟨e1, e2, e3⟩, e4⟩ := e
  refine ⟨saysM_of (Prod.ext e1 e4), fun f hf => ?_, of_decide_eq_true e3⟩
  have q := List.all_eq_true.mp e2 f hf
  unfold tabOkB at q
  rw [Bool.and_eq_true, Bool.and_eq_true] at q
  obtain ⟨⟨q1, q2⟩, q3⟩ := q
  have q4 := emptyTab_ok q3
  refine ⟨q1, q2, q4, ?_⟩
  cases el : (He.frG h.get? (asTb h.get? n)).lookup (tabAt (He.frG h.get? (asTb h.get? n)) (f (He.frG h.get? (asTb h.get? n)))).2 with
  | none => rfl
  | some o =>
    have hm := frG_mem el
    have z := (List.mem_filter.mp hm).2
    unfold notTab at z
    rw [q4] at z
    cases z
def hookL (n : Nat) (ex : List (Fr → Bool)) (ds : List MDef) (tx : List DTab) (lm : List (Fr → Addr)) : PySem.W.Hook where
  α := AlM
  obs := fun s => obsL n ex ds tx lm s.heap.get?
  val := fun w => valM ds tx w
  says := fun w h => ∃ K : Fr, K.In h ∧ SaysL ex ds tx lm w h K
  of := fun _ _ e => ⟨_, He.frG_in, saysL_of e⟩
  keeps := fun _ _ _ ⟨K, hK, c⟩ k => ⟨K, PySem.W.Frag.In.keeps hK k, c.m, fun f hf => let ⟨c1, c2, c3, c4⟩ := c.tabs f hf; ⟨c1, c2, k _ _ c3, c4⟩, c.nd⟩
theorem obsL_eq {n : Nat} {ex : List (Fr → Bool)} {ds : List MDef} {tx : List DTab} {lm : List (Fr → Addr)} {g : Addr → Option Obj} {s : Shared} (h : ∀ a, g a = s.heap.get? a) : obsL n ex ds tx lm g = (hookL n ex ds tx lm).obs s := by
  have e : g = s.heap.get? := funext h
  subst e
  rfl
theorem code_at {K : Fr} {a c : Addr} (h : cdIs K a c = true) : (fdAt K a).code = .ref c := by
  unfold cdIs at h
  unfold fdAt
  split at h
  · rename_i _ _ fd _ e
    try rw [e]
    try simp only
    split at h
    · rename_i c' e2
      rw [e2, Nat.eq_of_beq_eq_true h]
    · cases h
  · cases h
/-- a def that makes lambdas -/
structure LmD (Z : Sta) (g i : Nat) (qual : Str) : Prop where
  tab : ∃ c, (fdOf Z g).code = .ref c ∧ LamX.TabB Z.base Z.mg c (Z.tb i).1
  q : qual ++ ".<locals>." ++ "<lambda>" = (Z.tb i).2
theorem LmD.x {Z : Sta} {lv g i : Nat} {qual : Str} {X : Cx} {W : WX} (l : LmD Z g i qual) (gd : Good Z lv X W) (bx : Bx lv X (fdOf Z g) qual) : LmX Z lv X i := by
  refine ⟨bx.room, ?_, by rw [bx.qual]; exact l.q⟩
  obtain ⟨c, e, t⟩ := l.tab
  exact ⟨c, by rw [bx.code]; exact e, by rw [gd.base, gd.mg]; exact t⟩
/-! ### the law -/
def tabS (n : Nat) : Hs := (List.range n).reverse.map .tab
def spLawT (Z : Sta) (nt : Nat) : Sp := fun vs H Q _ => ∃ (a : Addr) (ns : List Int), vs = [.ref a] ∧ ns.length ≤ 63 ∧ SqL Z.K H a (ns.map V.int) ∧ (∀ i, i < nt → H (Z.tb i).1 = some (.tbl #[])) ∧ ∀ H', Q (.bl true) H'
theorem paired_maps {A B C : Type} {F : A → B → Prop} {f : C → A} {g : C → B} : ∀ {l : List C}, (∀ i ∈ l, F (f i) (g i)) → Paired F (l.map f) (l.map g)
  | [], _ => .nil
  | c :: l, h => .cons (h c List.mem_cons_self) (paired_maps fun i hi => h i (List.mem_cons_of_mem _ hi))
section
variable {Z : Sta} {tbl : List DefI} {mems : List (List (Nat × FK))} {arrs : List (List (Nat × List Str × Arr))}
theorem law_ofT {g n nt : Nat} {fd : FuncData} {ps : List Str} (hps : ps.length = 1) (TO : TabOk Z (6 * n) (tabOf tbl mems arrs n) (fdOf Z) (psOf tbl)) (hh : decide (g < tbl.length) = true) (ep : psOf tbl g = ps) (ef : fdOf Z g = fd)
    (hnd : ((List.range nt).map fun i => (Z.tb i).1).Nodup)
    (hev : ∀ ns : List Int, ns.length ≤ 63 → ∃ S, (tabOf tbl mems arrs n).run g [.scr ns] (tabS nt) = .ok (.bl true) S) : FnOk Z.P Z.w Z.K Z.mg Z.base CXa (6 * n) (Z.G g) fd ps (spLawT Z nt) := by
  have F := (TO.fn g (has_ok hh)).ok
  rw [ep, ef] at F
  refine fnAny (F.imp fun vs H Q E ⟨a, ns, e, hl, hS, hT, hQ⟩ => ?_)
  subst e
  obtain ⟨S, es⟩ := hev ns hl
  have hd : ((List.range nt).reverse.map fun i => (Z.tb i).1).Nodup := by
    rw [List.map_reverse]
    exact (List.reverse_perm _).nodup_iff.mpr hnd
  refine ⟨by rw [hps]; rfl, ⟨(List.range nt).reverse.map fun i => (Z.tb i).1, []⟩, tabS nt, [.scr ns], ⟨paired_maps fun i hi => ?_, hd, fun _ h => nomatch h⟩, RVs.cons ?_ RVs.nil, ?_⟩
  · have hi' : i < nt := by
      rw [List.mem_reverse, List.mem_range] at hi
      exact hi
    refine ⟨rfl, #[], hT i hi', True.intro, fun pos cv q => ?_⟩
    have z : codeAmong pos [] = some cv := q
    simp [codeAmong] at z
  · unfold RV
    refine ⟨a, rfl, ?_⟩
    rcases hS with h | ⟨o, its, k, h1, h2, h3, h4, h5, h6⟩
    · refine .inl ⟨⟨fun hm => ?_, List.not_mem_nil⟩, h⟩
      obtain ⟨i, hi, ei⟩ := List.mem_map.mp hm
      rw [List.mem_reverse, List.mem_range] at hi
      have ht := hT i hi
      rw [ei] at ht
      rcases h with h | ⟨o, h⟩
      · rw [ht] at h; cases h
      · rw [ht] at h; cases h
    · exact .inr ⟨o, its, k, h1, h2, h3, h4, h5, h6⟩
  · rw [es]
    intro H' m' x _ _ r
    have : x = .bl true := rv_bl r
    subst this
    exact hQ H'
end
end MP
set_option maxRecDepth 100000
namespace MP
/-! ### != of lists whose items are equal, own ones among them -/
section
open PySem PySem.SeqAt GQ MeetsSeq MeetsSeq2 MeetsSeq3 SeqRoads2
open AutoSeq1 (wpAny_loadPart')
variable {prog : Program} {w : World} {A : Around} {R : Result → Shared → Prop} {l b : Addr} {N : Nat} {I : Nat → Shared → Prop}
theorem ne_turns (hl : ListI prog w A (fun e s' => R (.error e) s') l b N I) (fin : ∀ s, I N s → R (.ok (.ret (.bool false))) s) : ∀ (k i : Nat), i + k = N → ∀ s, I i s →
    wpAny (model prog w) A.in1 (Builtin.«list.__eq__.loop» ⟨[.ref l, .ref b, rawInt i, rawInt 3], []⟩) (FinOf prog w A R) (fun e s' => R (.error e) s') s
  | 0, i, hk, s, h => by
    obtain ⟨xs, ys, n1, n2, gl, gb, z1, z2, _⟩ := hl _ _ h
    have ei : i = N := by omega
    have done : R (.ok (.ret (.bool false))) s := fin s (ei ▸ h)
    have o1 : xs[((i : Nat) : Int).toNat]? = none := by simp; omega
    have o2 : ys[((i : Nat) : Int).toNat]? = none := by simp; omega
    obtain ⟨s1, s2, s3, s4, s5⟩ := s
    wp_walk using wpAny_loadPart' gl, wpAny_loadPart' gb
    rw [o1, o2]
    wp_walk using wpAny_loadPart' gl, wpAny_loadPart' gb
    show R (.ok (.ret (.bool (xs.size != ys.size)))) _
    rw [z1, z2]
    simpa using done
  | k + 1, i, hk, s, h => by
    obtain ⟨xs, ys, n1, n2, gl, gb, z1, z2, turn⟩ := hl _ _ h
    have l1 : i < xs.size := by omega
    have l2 : i < ys.size := by omega
    have now := turn l1 l2
    have o1 : xs[((i : Nat) : Int).toNat]? = some xs[i] := by simp [l1]
    have o2 : ys[((i : Nat) : Int).toNat]? = some ys[i] := by simp [l2]
    have nx : ((i : Int) + 1) = ((i + 1 : Nat) : Int) := by omega
    obtain ⟨s1, s2, s3, s4, s5⟩ := s
    wp_walk using wpAny_loadPart' gl, wpAny_loadPart' gb
    rw [o1, o2]
    refine wpAny_bind (wpAny_mono now (fun r t ⟨er, hi⟩ => ?_) fun _ _ z => z)
    subst er
    have next := ne_turns hl fin k (i + 1) (by omega) t hi
    obtain ⟨t1, t2, t3, t4, t5⟩ := t
    wp_walk
    rw [nx]
    refine ⟨plainId_quiet plain_eq_loop _, codeAny_builtin entry_eq_loop ?_⟩
    rw [Around.under_plainId plain_eq_loop _]
    exact next
theorem ne_list (hl : ListI prog w A (fun e s' => R (.error e) s') l b N I) (fin : ∀ s, I N s → R (.ok (.ret (.bool false))) s) {s : Shared} (h : I 0 s) : wpAny (model prog w) A.in1 (Builtin.«list.__ne__» ⟨[.ref l, .ref b], []⟩) (FinOf prog w A R) (fun e s' => R (.error e) s') s := by
  obtain ⟨xs, ys, n1, n2, gl, gb, z1, z2, _⟩ := hl _ _ h
  have go := ne_turns (A := A) (R := R) hl fin N 0 (by omega) s h
  have same : ¬ (xs.size != ys.size) = true := by simp [z1, z2]
  have lists := AutoSeq1.sub_list_list
  obtain ⟨s1, s2, s3, s4, s5⟩ := s
  wp_walk using wpAny_loadPart' gl, wpAny_loadPart' gb
  refine ⟨plainId_quiet plain_eq_loop _, codeAny_builtin entry_eq_loop ?_⟩
  rw [Around.under_plainId plain_eq_loop _]
  exact go
theorem ne_same {E : Value → Shared → Prop} {Q : Value → Shared → Prop} {s : Shared} (hu : A.units < cLine) (hl : ListI prog w A E l b N I) (fin : ∀ s, I N s → Q (.bool false) s) (h : I 0 s) : wpAny (model prog w) A (richCompare .NotEq (.ref l) (.ref b)) Q E s := by
  obtain ⟨xs, ys, n1, n2, gl, gb, _, _, _⟩ := hl _ _ h
  refine wpAny_richCompare_same_room (op := .NotEq) ⟨_, gl, rfl⟩ ⟨_, gb, rfl⟩ F.slot_list_ne (call_here F.slot_list_ne ⟨_, gl, rfl⟩ F.entry_list_ne (F.args_list_ne_2 _ _) ?_) hu
  exact ne_list (R := wants (fun v s' => v ≠ .notImplemented ∧ Q v s') E) hl (fun s' q => ⟨(fun z => nomatch z), fin s' q⟩) h
end
open PySem L2 PyProof.Rows
/-- own ones, equal by their class's own word -/
def eqOwn (T : Tab) (c : CmpT) (S : Hs) (p q : PV) : Bool := match clsOf S p, clsOf S q with
  | some (k, _, _), some (k2, _, _) => decide (k = k2) && (c.ks.contains k && (match T.mem k c.e with
    | .meth g => (match T.arr g 2 [] with
      | some a => (match mapO (freeze [] dpF) [p, q] with
        | some vs => (match T.run g (a vs []) [] with
          | .ok (.bl true) _ => true
          | _ => false)
        | none => false)
      | none => false)
    | _ => false))
  | _, _ => false
def all2 (f : PV → PV → Bool) : List PV → List PV → Bool
  | [], [] => true
  | x :: xs, y :: ys => f x y && all2 f xs ys
  | _, _ => false
def eqI1 (S : Hs) (p q : PV) : Bool := match eqI S p q with
  | some true => true
  | _ => false
def seq2 (f : PV → PV → Bool) (S : Hs) (p q : PV) : Bool := match asL S p, asL S q with
  | some xs, some ys => all2 f xs ys
  | _, _ => match p, q with
    | .tup xs, .tup ys => all2 f xs ys
    | _, _ => false
/-- equal, whatever they are: data, own ones, lists of such -/
def eqO (T : Tab) (c : CmpT) (S : Hs) : Nat → PV → PV → Bool
  | 0, p, q => eqI1 S p q || eqOwn T c S p q
  | n + 1, p, q => eqO T c S n p q || seq2 (eqO T c S n) S p q
section
variable {Z : Sta} {W : WX} {σ : L2.St} {H H1 : Hp} {m m1 : Mp} {X : Cx} {S : Hs} {lv : Nat} {pins : List (Addr × Obj)} {s : Shared} {Q : VK} {T : Tab} {fdO : Nat → FuncData} {psO : Nat → List Str} {c : CmpT}
theorem gr_ext (h : Ext H H1) : Gr Z H m H1 m :=
  ⟨⟨⟨[], rfl, fun _ z => nomatch z⟩, fun _ z => .inl z, fun b o _ _ e => h b o e, fun b o e => ⟨o, h b o e⟩, fun b xs q => q.ext h⟩, fun b o _ e => h b o e, rfl⟩
theorem srel_ext (sr : SRel Z H m S) (h : Ext H H1) : SRel Z H1 m S :=
  ⟨paired_map sr.cells fun c a _ r => r.grow (gr_ext h) fun o e => h a o e, sr.nd, fun a ha => let ⟨o, e⟩ := sr.hid a ha; ⟨o, h a o e⟩⟩
/-- two values that a test tells of -/
def DB (Z : Sta) (f : Hs → PV → PV → Bool) : Eqv := fun x y H => ∃ m S p q, SRel Z H m S ∧ RV Z H m p x ∧ RV Z H m q y ∧ f S p q = true
theorem mon_DB {f : Hs → PV → PV → Bool} : Mon (DB Z f) := fun x y H H1 e ⟨m, S, p, q, sr, rp, rq, h⟩ => ⟨m, S, p, q, srel_ext sr e, rp.grow (gr_ext e), rq.grow (gr_ext e), h⟩
theorem eqG_data (gd : Good Z lv X W) : EqG X 0 (DB Z eqI1) := by
  intro A pins s σ H x y u v sb I rx ry ⟨m, S, p, q, sr, rp, rq, h⟩
  unfold eqI1 at h
  split at h
  · rename_i e
    exact eqI_ok gd I sr sb.room.units rp rq rx ry e X.prog X.w X.xe _ ⟨rfl, H, I, Ext.rfl'⟩
  · cases h
theorem eqG_own (TO : TabOk Z lv T fdO psO) (gd : Good Z lv X W) (C : CmpTOk Z c) : EqG X lv (DB Z (eqOwn T c)) := by
  intro A pins s σ H x y u v sb I rx ry ⟨m, S, p, q, sr, rp, rq, h⟩
  unfold eqOwn at h
  split at h
  · rename_i k ns xs k2 ns2 xs2 e1 e2
    rw [Bool.and_eq_true, Bool.and_eq_true, decide_eq_true_eq] at h
    obtain ⟨rfl, hk, h⟩ := h
    have hk : k ∈ c.ks := by simpa using hk
    split at h
    · rename_i g em
      split at h
      · rename_i a ea
        split at h
        · rename_i vs ev
          split at h
          · rename_i S1 er
            obtain ⟨p1, d1, y1, rfl, h1, _, _⟩ := clsOf_ok sr rp e1
            obtain ⟨p2, d2, y2, rfl, h2, _, _⟩ := clsOf_ok sr rq e2
            have mk := TO.mem k c.e
            rw [em] at mk
            obtain ⟨cl, me, hh⟩ := mk
            have F := TO.fn g hh
            have B := TO.arr g 2 [] a ea
            rw [C.e] at me
            rw [← gd.K] at cl me
            have hf : PySem.W.isFn X.K (.ref (Z.G g)) = true := by rw [gd.K]; exact F.fn
            have Fok := F.ok
            rw [← gd.prog, ← gd.w, ← gd.K, ← gd.mg, ← gd.base] at Fok
            obtain ⟨mA, J, _⟩ := ins_get I.hok h1
            obtain ⟨mB, J', _⟩ := ins_get I.hok h2
            obtain ⟨od, J, _⟩ := J.look
            obtain ⟨od', J', _⟩ := J'.look
            obtain ⟨mf, hF⟩ := I.fr
            cases (show u = Value.ref p1 from rx)
            cases (show v = Value.ref p2 from ry)
            by_cases hab : p1 = p2
            · subst hab
              exact SeqAt.EqAt.same (A := A) (s := s) (.ref p1) X.prog X.w X.xe _ ⟨rfl, H, I, Ext.rfl'⟩
            · refine GQ.eqBool_refG hab ?_
              refine PySem.W.cmp_K (op := .Eq) (tb := .ref (Z.G k)) sb.room.units0 hF I.ok.mod.kin J J'.type (by simp [PySem.W.notFirst]) me.1 hf ?_
              have e0 : Env0 X.prog X.w X.K X.mg X.base A X.stack s H := by
                have e := I.env0
                exact ⟨by rw [sb.fr]; exact e.frames, e.mod, e.bs, e.bsz, e.funs, e.frf, e.hok, e.bare⟩
              have kin : Z.K.In s.heap := by rw [← gd.K]; exact I.kIn
              have v2 : Vals [V.ref p1, V.ref p2] [Value.ref p1, Value.ref p2] := .cons rfl (.cons rfl .nil)
              obtain ⟨ts, ys, hb, hv, hlen, hr⟩ := B s [.ref p1, .ref p2] [] [.ref p1, .ref p2] [] kin rfl rfl v2 .nil
              have ra := args_apart (RVs.cons rp (RVs.cons rq RVs.nil)) ev
              have sp : spF Z (psO g).length (T.run g) ys H (fun v H' => v = .bl true ∧ Ext H H') (fun _ _ _ => False) := by
                refine ⟨hlen, m.apart, [], a vs [], sr.apart, hr H m.apart vs [] ra RVs.nil, ?_⟩
                rw [er]
                intro H' m' x' g1 _ r1
                exact ⟨rv_bl r1, fun b o e => g1.keep b o List.not_mem_nil e⟩
              refine wpAny_call (codeAny_mono (Fok.run A X.stack s H ⟨[.ref p1, .ref p2], []⟩ ts ys _ _ sb.room e0 hb hv sp) fun r s' hq => ?_)
              cases r with
              | error e => exact passes_call (E := fun _ _ _ => False) gd.takes (fun _ _ _ _ z => z.elim) pins σ H s e s' I hq
              | ok fl =>
                cases fl with
                | ret w =>
                  obtain ⟨z, H', I', rz, ez, ex⟩ := I.after hq
                  subst ez
                  cases rz
                  exact ⟨true, rfl, rfl, H', I', ex⟩
                | next => exact False.elim hq
                | brk => exact False.elim hq
                | cont => exact False.elim hq
          · cases h
        · cases h
      · cases h
    · cases h
  · cases h
theorem prs_all2 {f : Hs → PV → PV → Bool} (sr : SRel Z H m S) : ∀ {ps qs : List PV} {xs ys : List V}, RVs Z H m ps xs → RVs Z H m qs ys → all2 (f S) ps qs = true → Prs (DB Z f) xs ys H
  | [], [], _, _, r1, r2, _ => by
    unfold RVs at r1 r2
    subst r1 r2
    exact Prs.nil
  | p :: ps, q :: qs, _, _, r1, r2, h => by
    unfold RVs at r1 r2
    obtain ⟨x, xs, rfl, a1, b1⟩ := r1
    obtain ⟨y, ys, rfl, a2, b2⟩ := r2
    unfold all2 at h
    rw [Bool.and_eq_true] at h
    exact Prs.cons ⟨m, S, p, q, sr, a1, a2, h.1⟩ (prs_all2 sr b1 b2 h.2)
  | [], _ :: _, _, _, _, _, h => by cases h
  | _ :: _, [], _, _, _, _, h => by cases h
theorem eqG_O (TO : TabOk Z lv T fdO psO) (gd : Good Z lv X W) (C : CmpTOk Z c) : ∀ n, EqG X (lv + n) (DB Z fun S => eqO T c S n)
  | 0 => ((eqG_data gd).mono (Nat.zero_le _) |>.or (eqG_own TO gd C)).imp fun x y H ⟨m, S, p, q, sr, rp, rq, h⟩ => by
    have h : (eqI1 S p q || eqOwn T c S p q) = true := h
    rw [Bool.or_eq_true] at h
    exact h.elim (fun z => .inl ⟨m, S, p, q, sr, rp, rq, z⟩) fun z => .inr ⟨m, S, p, q, sr, rp, rq, z⟩
  | n + 1 => by
    have ih := eqG_O TO gd C n
    refine ((ih.mono (Nat.le_succ _)).or ((eqG_list mon_DB ih).or (eqG_tup mon_DB ih))).imp fun x y H ⟨m, S, p, q, sr, rp, rq, h⟩ => ?_
    have h : (eqO T c S n p q || seq2 (eqO T c S n) S p q) = true := h
    rw [Bool.or_eq_true] at h
    rcases h with h | h
    · exact .inl ⟨m, S, p, q, sr, rp, rq, h⟩
    · unfold seq2 at h
      split at h
      · rename_i xs ys e1 e2
        obtain ⟨a, vs, rfl, ha, ra⟩ := asL_ok sr rp e1
        obtain ⟨b, ws, rfl, hb, rb⟩ := asL_ok sr rq e2
        exact .inr (.inl ⟨a, b, vs, ws, rfl, rfl, ha, hb, prs_all2 (f := fun S => eqO T c S n) sr ra rb h⟩)
      · split at h
        · obtain ⟨a, vs, rfl, ha, ra⟩ := rv_tup rp
          obtain ⟨b, ws, rfl, hb, rb⟩ := rv_tup rq
          rw [← gd.K] at ha hb
          exact .inr (.inr ⟨a, b, vs, ws, rfl, rfl, ha, hb, prs_all2 (f := fun S => eqO T c S n) sr ra rb h⟩)
        · cases h
/-- !=, and of lists whose items are equal -/
def neO (T : Tab) (c : CmpT) (p q : PV) (S : Hs) : RE := match neT T c p q S with
  | .bad => (match asL S p, asL S q with
    | some xs, some ys => if all2 (eqO T c S 2) xs ys then .ok (.bl false) S else .bad
    | _, _ => .bad)
  | r => r
theorem neO_ok (TO : TabOk Z lv T fdO psO) (gd : Good Z lv X W) (C : CmpTOk Z c) : OpOk Z X W (compareOp .NotEq) (neO T c) := by
  intro pins s σ H x y v u m S p q Q I rx ry sr rp rq hp
  unfold neO at hp
  split at hp
  · split at hp
    · rename_i xs ys e1 e2
      split at hp
      · rename_i h
        obtain ⟨a, vs, rfl, ha, ra⟩ := asL_ok sr rp e1
        obtain ⟨b, ws, rfl, hb, rb⟩ := asL_ok sr rq e2
        cases (show v = Value.ref a from rx)
        cases (show u = Value.ref b from ry)
        have pr := prs_all2 (f := fun S => eqO T c S 2) sr ra rb h
        have sb : Sub X (lv + 2 + 1) X.A := ⟨gd.room3, rfl⟩
        refine ne_same (N := vs.length) (I := fun _ s' => LoopI X pins σ H s') sb.room.units0 (fun i s' hq => ?_) (fun s' hq => ?_) ⟨H, I, Ext.rfl'⟩
        · obtain ⟨H1, I1, x1⟩ := id hq
          obtain ⟨_, us, k1, r1, o1⟩ := I1.hok a _ (x1 _ _ ha)
          obtain ⟨_, us2, k2, r2, o2⟩ := I1.hok b _ (x1 _ _ hb)
          exact ⟨us.toArray, us2.toArray, k1, k2, o1, o2, by rw [List.size_toArray, ← r1.length], by rw [List.size_toArray, ← r2.length, ← pr.1], fun h1 h2 => turnG mon_DB (eqG_O TO gd C 2) sb pr r1 r2 i h1 h2 s' hq⟩
        · obtain ⟨H1, I1, x1⟩ := hq
          exact ⟨.bl false, H1, I1, rfl, hp H1 m _ (gr_ext x1) (srel_ext sr x1) to_bl⟩
      · exact hp.elim
    · exact hp.elim
  · exact neT_ok TO gd C pins s σ H x y v u m S p q Q I rx ry sr rp rq hp
/-- ==, and of lists whose items are equal -/
def eqL (T : Tab) (c : CmpT) (p q : PV) (S : Hs) : RE := match cmpD2 T c .Eq p q S with
  | .bad => (match asL S p, asL S q with
    | some xs, some ys => if all2 (eqO T c S 2) xs ys then .ok (.bl true) S else .bad
    | _, _ => .bad)
  | r => r
theorem eqL_ok (TO : TabOk Z lv T fdO psO) (gd : Good Z lv X W) (C : CmpTOk Z c) : OpOk Z X W (compareOp .Eq) (eqL T c) := by
  intro pins s σ H x y v u m S p q Q I rx ry sr rp rq hp
  unfold eqL at hp
  split at hp
  · split at hp
    · rename_i xs ys e1 e2
      split at hp
      · rename_i h
        obtain ⟨a, vs, rfl, ha, ra⟩ := asL_ok sr rp e1
        obtain ⟨b, ws, rfl, hb, rb⟩ := asL_ok sr rq e2
        exact op_eqG (rcG_list mon_DB (eqG_O TO gd C 2)) gd.room3 pins s σ H (.ref a) (.ref b) v u Q I rx ry ⟨⟨a, b, vs, ws, rfl, rfl, ha, hb, prs_all2 (f := fun S => eqO T c S 2) sr ra rb h⟩, fun H1 x1 => hp H1 m _ (gr_ext x1) (srel_ext sr x1) to_bl⟩
      · exact hp.elim
    · exact hp.elim
  · exact cmpD2_ok .Eq TO gd C pins s σ H x y v u m S p q Q I rx ry sr rp rq hp
end
end MP
set_option maxRecDepth 100000
namespace MP
open PySem PySem.Spec PyProof.Rows L2
/-! ### three names at once, and things the other way round -/
def parS3 (i j l : Nat) (f : Loc → Hs → RA) : Loc → Hs → RS := fun L S => match f L S with
  | .ok [v, w, u] S1 => .nx (((L.set i (some v)).set j (some w)).set l (some u)) S1
  | .ex k v S1 => .ex k v L S1
  | _ => .bad
def revV (fz : Bool) (a : PV) (S : Hs) : RE := match a with
  | .str s => if fits s then .ok (.str s.reverse) S else .bad
  | .tup _ => .bad
  | a => match asR S a with
    | some xs => newL fz xs.reverse S
    | none => .bad
def revE (fz : Bool) (f : Loc → Hs → RE) : Loc → Hs → RE := fun L S => (f L S).bind fun v S1 => revV fz v S1
def par3C (p q r : Expr) (px py pz : Pos) (xn yn zn : Str) : Bool := (px.line == py.line) && (px.line == pz.line) && ([xn, yn, zn].eraseDups.length == 3) && (noStar1 p && noStar1 q && noStar1 r) && !([p, q, r].all (foldedForSure 8)) && !([p, q, r].all (constantsAlone 8))
section
variable {Z : Sta} {W : WX} {σ : L2.St} {H H1 : Hp} {m m1 : Mp} {X : Cx} {S : Hs} {x y : V} {lv : Nat} {Q : VK} {N : List Str} {sc : Scope} {vs ls : List Nat} {gs : List Str}
theorem sw_par3 {env : Env} {p q r : Expr} {px py pz pt pt2 : Pos} {xn yn zn : Str} {kt k2 : Nat} (hk : env.scope.kind = .function) (hx : env.scope.names.lookup xn = some .local) (hy : env.scope.names.lookup yn = some .local) (hz : env.scope.names.lookup zn = some .local) (hc : par3C p q r px py pz xn yn zn = true) :
    swappedStores [.Tuple [.Name xn px, .Name yn py, .Name zn pz] kt pt] (.Tuple [p, q, r] k2 pt2) env = pure (some [xn, yn, zn]) := by
  unfold par3C at hc
  simp only [Bool.and_eq_true, Bool.not_eq_true'] at hc
  obtain ⟨⟨⟨⟨⟨c1, c1b⟩, c2⟩, c3⟩, c4⟩, c5⟩ := hc
  have kx : env.kindOf xn = some .local := hx
  have ky : env.kindOf yn = some .local := hy
  have kz : env.kindOf zn = some .local := hz
  have hb : env.blockKind = .function := by unfold Env.blockKind; rw [hk]; rfl
  have c1' : (py.line == px.line) = true := by rw [beq_iff_eq] at c1 ⊢; exact c1.symm
  have c1b' : (pz.line == px.line) = true := by rw [beq_iff_eq] at c1b ⊢; exact c1b.symm
  have hstar : ∀ e ∈ [p, q, r], noStar1 e = true := by
    intro e he
    obtain ⟨⟨c6, c7⟩, c8⟩ := c3
    simp only [List.mem_cons, List.not_mem_nil, or_false] at he
    rcases he with rfl | rfl | rfl <;> assumption
  simp only [beq_iff_eq] at c2
  unfold swappedStores
  simp only [hb, kx, ky, kz, c4, c5, Expr.pos, List.filterMap_cons, List.filterMap_nil, List.head?_cons, Option.map_some, Option.getD_some, beq_self_eq_true, c1', c1b', Bool.and_true, Bool.and_self, if_true, List.length_cons, List.length_nil]
  rw [show ([xn, yn, zn] : List Str).eraseDups.length = 3 from c2]
  split
  · rename_i hx
    exact absurd hx (by decide)
  · split
    · rename_i hh
      obtain ⟨e, he, hf⟩ := List.any_eq_true.mp hh
      have := hstar e he
      cases e <;> first | (cases this; done) | exact Bool.noConfusion hf
    · rfl
theorem D_par3 {i j l : Nat} {xn yn zn : Str} {p q r : Expr} {px py pz pt : Pos} {kt k2 : Nat} {pt2 pos : Pos} {f : Loc → Hs → RA} (gd : Good Z lv X W) (D : DefX X N sc vs ls gs) (hi : N[i]? = some xn) (hj : N[j]? = some yn) (hl : N[l]? = some zn) (hij : i ≠ j) (hil : i ≠ l) (hjl : j ≠ l) (hk : sc.kind = .function)
    (hx : sc.names.lookup xn = some .local) (hy : sc.names.lookup yn = some .local) (hz : sc.names.lookup zn = some .local) (ha : PA X [p, q, r] (tA Z W f)) (hc : par3C p q r px py pz xn yn zn = true) :
    PS X (.Assign [.Tuple [.Name xn px, .Name yn py, .Name zn pz] kt pt] (.Tuple [p, q, r] k2 pt2) pos) (tS Z W (parS3 i j l f)) := by
  have hx' : X.env.scope.names.lookup xn = some .local := by rw [D.esc]; exact hx
  have hy' : X.env.scope.names.lookup yn = some .local := by rw [D.esc]; exact hy
  have hz' : X.env.scope.names.lookup zn = some .local := by rw [D.esc]; exact hz
  refine PS.imp (ps_par3 gd.calm gd.nd (by rw [D.eN]; exact hi) (by rw [D.eN]; exact hj) (by rw [D.eN]; exact hl) hij hil hjl hx' hy' hz' ha (sw_par3 (by rw [D.esc]; exact hk) hx' hy' hz' hc) rfl) ?_
  rintro Dn σ H ⟨m, L, S, sr, hl, hp⟩
  refine ⟨m, L, S, sr, hl, ?_⟩
  unfold parS3 at hp
  split at hp
  · rename_i v w u S1 e
    rw [e]
    intro H1 m1 xs g1 s1 r1
    unfold RVs at r1
    obtain ⟨y, t, rfl, r, rt⟩ := r1
    unfold RVs at rt
    obtain ⟨y2, t2, rfl, r2, rt⟩ := rt
    unfold RVs at rt
    obtain ⟨y3, t3, rfl, r3, rt⟩ := rt
    unfold RVs at rt
    subst rt
    exact ⟨y, y2, y3, rfl, hp H1 m1 _ g1 s1 ((((hl.grow g1).set r).set r2).set r3)⟩
  · rename_i k v S1 e
    rw [e]
    exact fun H' m' d g s ex => hp H' m' d σ g s (hl.grow g) ex
  · exact hp.elim
/-- what `e[::-1]` asks -/
def tRevX (K : PySem.W.Frag) (te : TE) : TE := fun σ H Q => te σ H fun x H1 => (∃ a xs, x = .ref a ∧ SqL K H1 a xs ∧ ∀ p, H1 p = none → Q (.ref p) (upd H1 p (.lst xs.reverse))) ∨ (∃ z : List Nat, x = .str ⟨z.toArray⟩ ∧ z.length ≤ sizeLine ∧ Q (.str ⟨z.reverse.toArray⟩) H1)
theorem idx_rev (z : List Nat) : ((Builtin.Str.strSliceIndices none none (-1) z.length).filterMap (z.toArray[·]?)) = z.reverse := by
  have e : Builtin.Str.strSliceIndices none none (-1) z.length = sliceRange ((z.length : Int) - 1) (-1) (-1) := rfl
  rw [e, PySem.W.krv_sliceRange, PySem.W.krv_range, List.filterMap_reverse]
  have h := PySem.W.krv_all z.toArray
  rw [List.size_toArray] at h
  rw [h]
theorem pe_revX {e : Expr} {te : TE} {k : Nat} {p1 p2 p3 pos : Pos} (he : PE X e te) : PE X (.Subscript e (.Slice none none (some (.UnaryOp .USub (.Constant (.int 1) k p1) p2)) p3) pos) (tRevX X.K te) := by
  refine ⟨fun pins s σ H Q I h => ?_⟩
  refine Subscript_ (thn (he.run pins s σ H _ I h) fun v s1 ⟨x, H1, I1, r1, q1⟩ => ?_)
  have hst : PO X (some (.UnaryOp .USub (.Constant (.int 1) k p1) p2)) (tPart (tUn (rU fun i => .int (-i)) (tC (.int 1)))) := po_some (pe_un un_neg pe_int)
  refine wpAny_Slice (thn (po_none.run pins s1 σ H1 (fun o H2 => o = none ∧ H2 = H1) I1 ⟨rfl, rfl⟩) fun vl s2 ⟨l, H2, I2, pl, el, e2⟩ => ?_)
  subst el e2
  refine thn (po_none.run pins s2 σ H2 (fun o H3 => o = none ∧ H3 = H2) I2 ⟨rfl, rfl⟩) fun vu s3 ⟨u, H3, I3, pu, eu, e3⟩ => ?_
  subst eu e3
  refine thn (hst.run pins s3 σ H3 (fun o H4 => o = some (-1) ∧ H4 = H3) I3 ⟨1, rfl, -1, rfl, rfl, rfl⟩) fun vs s4 ⟨o, H4, I4, ps, eo, e4⟩ => ?_
  subst eo e4
  have I5 : Inv X pins σ H4 { s4 with heap := s4.heap.push { cls := .type "slice", data := .fields #[vl, vu, vs] } } := I4.kept (t' := s4.toks) fun b ob q => Heap.get?_push_of_some _ q
  rcases q1 with ⟨a, xs, ex, hx, q⟩ | ⟨z, ex, hz, q⟩
  · subst ex
    cases r1
    obtain ⟨its, r, ht, hz⟩ := I5.list hx
    have hlen := r.length
    show wpAny (model X.prog X.w) X.A (subscriptTail e (.Slice none none (some (.UnaryOp .USub (.Constant (.int 1) k p1) p2)) p3) (.ref a) (.ref s4.heap.objs.size)) (EP X pins σ Q) X.xe { s4 with heap := s4.heap.push { cls := .type "slice", data := .fields #[vl, vu, vs] } }
    refine tail_any (ops := [.ref a, .ref s4.heap.objs.size]) ht.isList.typeIs (PySem.slot_list_getitem.lookup) ?_ (by with_unfolding_all rfl)
    refine wpAny_getItem_list_slice ht.isList (Heap.IsSliceOf.new _ vl vu vs) pl pu ps (by decide) ?_ (by rw [List.size_toArray]; omega)
    rw [PySem.W.krv_pick]
    refine ⟨.ref _, _, I5.laid (t' := s4.toks) (o := .lst xs.reverse) (fun b ob q => Heap.get?_push_of_some _ q) (Nat.le_refl _) ?_, rfl, q _ (I5.hok.fresh (Nat.le_refl _))⟩
    exact ⟨by rw [List.length_reverse]; exact hz, _, 0, r.reverse, Heap.get?_push_size _ rfl⟩
  · subst ex
    obtain ⟨t, rfl⟩ := r1
    obtain ⟨l, rfl, el⟩ := IsPart.raw pl
    obtain ⟨u, rfl, eu⟩ := IsPart.raw pu
    obtain ⟨st, rfl, es⟩ := IsPart.raw ps
    have hos : Heap.IsSlice (s4.heap.push { cls := .type "slice", data := .fields #[partValue l, partValue u, partValue st] }) s4.heap.objs.size l u st := ⟨_, Heap.get?_push_size _ rfl, rfl, rfl⟩
    show wpAny (model X.prog X.w) X.A (subscriptTail e (.Slice none none (some (.UnaryOp .USub (.Constant (.int 1) k p1) p2)) p3) (.str ⟨z.toArray⟩ t) (.ref s4.heap.objs.size)) (EP X pins σ Q) X.xe { s4 with heap := s4.heap.push { cls := .type "slice", data := .fields #[partValue l, partValue u, partValue st] } }
    refine tail_any (ops := [.str ⟨z.toArray⟩ t, .ref s4.heap.objs.size]) (typeIs_str _ _ _) (PySem.F.slot_str_getitem.lookup) ?_ (by with_unfolding_all rfl)
    refine wpAny_getItem_str_slice hos (by rw [es]; rfl) ?_
    have hm : sliceMade ⟨z.toArray⟩ t l u st = .str ⟨z.reverse.toArray⟩ := by
      unfold sliceMade slicePicked
      rw [el, eu, es]
      show (if ((-1 : Int) == 1 && _) = true then Made.val (.str ⟨z.toArray⟩ t) else Made.str ⟨((Builtin.Str.strSliceIndices none none (-1) (Str.length ⟨z.toArray⟩)).filterMap (z.toArray[·]?)).toArray⟩) = _
      rw [show ((-1 : Int) == 1) = false from rfl, Bool.false_and, if_neg Bool.false_ne_true]
      have : Str.length ⟨z.toArray⟩ = z.length := List.size_toArray ..
      rw [this, idx_rev]
    rw [hm]
    exact ⟨by show (z.reverse.toArray).size ≤ sizeLine; rw [List.size_toArray, List.length_reverse]; exact hz, .str _, H4, I5.tok _, ⟨_, rfl⟩, q⟩
theorem RVs.rev : ∀ {xs : List PV} {ys : List V}, RVs Z H m xs ys → RVs Z H m xs.reverse ys.reverse
  | [], _, h => by unfold RVs at h; subst h; exact RVs.nil
  | p :: ps, _, h => by
    unfold RVs at h
    obtain ⟨y, r, rfl, h1, h2⟩ := h
    rw [List.reverse_cons, List.reverse_cons]
    exact RVs.append (RVs.rev h2) (RVs.cons h1 RVs.nil)
theorem ok_rev {e : Expr} {fz : Bool} {k : Nat} {p1 p2 p3 pos : Pos} {f : Loc → Hs → RE} (hK : X.K = Z.K) (he : PE X e (tE Z W f)) : PE X (.Subscript e (.Slice none none (some (.UnaryOp .USub (.Constant (.int 1) k p1) p2)) p3) pos) (tE Z W (revE fz f)) := by
  refine PE.imp (pe_revX he) ?_
  rintro σ H Q ⟨m, L, S, sr, hl, hp⟩
  refine ⟨m, L, S, sr, hl, PostE.bind hp fun v S1 H1 m1 x g1 s1 r1 hp1 => ?_⟩
  unfold revV at hp1
  split at hp1
  · rename_i st
    split at hp1
    · rename_i hf
      obtain ⟨rfl, ho⟩ := rv_str r1
      refine .inr ⟨st, rfl, fits_ok hf, hp1 H1 m1 _ Gr.refl s1 (to_str ?_)⟩
      unfold sOk at *
      rw [List.all_reverse]
      exact ho
    · exact hp1.elim
  · exact hp1.elim
  · split at hp1
    · rename_i xs ex
      obtain ⟨a, ys, rfl, hq, rr⟩ := asR_ok s1 r1 ex
      exact .inl ⟨a, ys, rfl, by rw [hK]; exact hq, (newL_post s1 rr.rev hp1).2⟩
    · exact hp1.elim
end
end MP
set_option maxRecDepth 100000
namespace PySem.SeqAt
open AutoSeq1 (wpAny_loadPart')
open MeetsSeq MeetsSeq2 MeetsSeq3
theorem mp_str_ne_dict (b : Str) (u : Tok) (l : Addr) (c : Value) (es : Array DictEntry) (ep : Nat) (dd : Option Addr) (sl : Array (Option Value)) :
    Meets (Builtin.«str.__ne__» ⟨[.str b u, .ref l], []⟩) (fun _ R s => s.heap.get? l = some { cls := c, dict := dd, data := .dict es ep, slots := sl } ∧ R (.ok (.ret .notImplemented)) s) :=
  .of_wp fun prog w A R s h => by obtain ⟨hp, g, d, tk, os⟩ := s; obtain ⟨hl, h⟩ := h; wp_walk using wpAny_loadPart' hl, wpAny_load hl; exact ⟨_, rfl, h⟩
theorem mp_dict_str {A : Around} {s : Shared} {l : Addr} (b : Str) (u : Tok) (hl : ∀ (P : Program) (w : World), s.heap.DictOf (L2.mixKind P w) l []) (hu : A.units < cLine) : RcNeAt A s (.ref l) (.str b u) true := fun prog w E Q h => by
  have da := hl prog w
  obtain ⟨⟨cls, dd, data, sl⟩, es, ep, ho, hx, hd, _⟩ := id da
  simp only at hd
  subst hd
  refine rc_ne_decline_or (k := false) da.typeIs (typeIs_str s b u) (by decide) F.sub_str_dict F.slot_dict_ne F.slot_str_ne_refl (fun Q' hq => wpAny_call_entry F.slot_dict_ne da.typeIs F.entry_dict_ne ?_ (F.args_dict_ne_2 _ _))
    (fun _ hq => call_meets F.slot_str_ne_refl (typeIs_str s b u) F.entry_str_ne (F.args_str_ne_2 _ _) (mp_str_ne_dict b u l cls es ep dd sl) ⟨ho, hq⟩)
    (fun _ hq => wpAny_of_eq (rfl : isSame (.ref l) (.str b u) = pure false) hq) (.inr hu) h
  show wpAny _ _ (Builtin.Dict.dictSlotArgs "__ne__" ⟨[.ref l, .str b u], []⟩ >>= _) _ _ s
  refine wpAny_bind ?_
  unfold Builtin.Dict.dictSlotArgs
  refine wpAny_bind (wpAny_notOrdered_dict da.typeIs ?_)
  show wpAny _ _ (pure (Value.ref l, Value.str b u)) _ _ s
  refine wpAny_pure ?_
  refine wpAny_bind (wpAny_isInstance (T := "str") (typeIs_str s b u) PySem.F.sub_str_dict ?_)
  simp only [Bool.not_false, if_true]
  exact wpAny_bind (wpAny_rule (wpAny_pure ⟨_, rfl, hq⟩))
end PySem.SeqAt
namespace MP
open PySem L2 PyProof.Rows
section
variable {Z : Sta} {W : WX} {σ : L2.St} {H H1 H2 : Hp} {m m1 m2 : Mp} {X : Cx} {S : Hs} {lv : Nat} {T : Tab} {pins : List (Addr × Obj)} {s : Shared} {Q : VK} {c : CmpT} {fdO : Nat → FuncData} {psO : Nat → List Str}
/-! ### != where an empty dict stands beside a text -/
def isTxt : PV → Bool
  | .str _ => true
  | _ => false
def neZ (T : Tab) (c : CmpT) (p q : PV) (S : Hs) : RE := match cmpD2 T c .NotEq p q S with
  | .bad => if dct0 S p && isTxt q then .ok (.bl true) S else .bad
  | r => r
theorem neZ_ok (TO : TabOk Z lv T fdO psO) (gd : Good Z lv X W) (C : CmpTOk Z c) : OpOk Z X W (compareOp .NotEq) (neZ T c) := by
  intro pins s σ H x y v u m S p q Q I rx ry sr rp rq hp
  unfold neZ at hp
  split at hp
  · split at hp
    · rename_i hc
      rw [Bool.and_eq_true] at hc
      obtain ⟨a, rfl, h0, ha⟩ := dct0_ok gd I sr rp hc.1
      cases (show v = Value.ref a from rx)
      cases q with
      | str t =>
        obtain ⟨rfl, _⟩ := rv_str rq
        obtain ⟨tk, rfl⟩ := ry
        have hu := gd.hu
        exact SeqAt.mp_dict_str _ tk ha (by omega) X.prog X.w _ _ ⟨.bl _, H, I, rfl, hp H m _ Gr.refl sr to_bl⟩
      | _ => cases hc.2
    · exact hp.elim
  · exact cmpD2_ok .NotEq TO gd C pins s σ H x y v u m S p q Q I rx ry sr rp rq hp
/-! ### is, is not of booleans -/
def isB (neg : Bool) (a b : PV) (S : Hs) : RE := match a, b with
  | .bl x, .bl y => .ok (.bl (if neg then !decide (x = y) else decide (x = y))) S
  | _, _ => .bad
theorem isB_is : OpOk Z X W (compareOp .Is) (isB false) :=
  OpOk.of op_isBl fun σ H m S p q x y Q sr rp rq hp => by
    unfold isB at hp
    split at hp
    · cases rv_bl rp
      cases rv_bl rq
      exact ⟨_, _, rfl, rfl, hp H m _ Gr.refl sr to_bl⟩
    · exact hp.elim
theorem isB_not : OpOk Z X W (compareOp .IsNot) (isB true) :=
  OpOk.of op_notBl fun σ H m S p q x y Q sr rp rq hp => by
    unfold isB at hp
    split at hp
    · cases rv_bl rp
      cases rv_bl rq
      exact ⟨_, _, rfl, rfl, hp H m _ Gr.refl sr to_bl⟩
    · exact hp.elim
end
end MP
set_option maxRecDepth 100000
namespace MP
open PySem PySem.Spec PyProof.Rows L2
/-! ### texts: split, isdigit, int of a text, replace -/
theorem spl_mem {t : List Nat} : ∀ {s acc : List Nat} {k : Nat} {p : List Nat} {c : Nat}, p ∈ TL.spl t k acc s → c ∈ p → c ∈ acc ∨ c ∈ s
  | [], acc, k, p, c, h, hc => by
    rw [TL.spl_nil, List.mem_singleton] at h
    subst h
    exact .inl hc
  | x :: s, acc, 0, p, c, h, hc => by
    cases e : TL.pre t (x :: s) with
    | true =>
      rw [TL.spl_hit e] at h
      rcases List.mem_cons.mp h with rfl | h
      · exact .inl hc
      · rcases spl_mem h hc with h | h
        · cases h
        · exact .inr (List.mem_cons_of_mem _ h)
    | false =>
      rw [TL.spl_miss e] at h
      rcases spl_mem h hc with h | h
      · rcases List.mem_append.mp h with h | h
        · exact .inl h
        · rw [List.mem_singleton.mp h]; exact .inr List.mem_cons_self
      · exact .inr (List.mem_cons_of_mem _ h)
  | x :: s, acc, k + 1, p, c, h, hc => by
    rw [show TL.spl t (k + 1) acc (x :: s) = TL.spl t k acc s from rfl] at h
    rcases spl_mem h hc with h | h
    · exact .inl h
    · exact .inr (List.mem_cons_of_mem _ h)
def splV (s t : List Nat) (S : Hs) : RE := if !t.isEmpty && t.all (· < 256) && decide (s.length + 2 ≤ 16777216) then newL true ((TL.spl t 0 [] s).map PV.str) S else .bad
def splE (f g : Loc → Hs → RE) : Loc → Hs → RE := fun L S => (f L S).bind fun v S1 => match v with
  | .str s => (g L S1).bind fun w S2 => match w with
    | .str t => splV s t S2
    | _ => .bad
  | _ => .bad
def isDig (c : Nat) : Bool := decide (48 ≤ c) && decide (c ≤ 57)
def digE (f : Loc → Hs → RE) : Loc → Hs → RE := fun L S => (f L S).bind fun v S1 => match v with
  | .str s => if s.all (· < 128) then .ok (.bl (!s.isEmpty && s.all isDig)) S1 else .bad
  | _ => .bad
def intV3 (ps : List PV) (S : Hs) : RE := match ps with
  | [.str s] => if !s.isEmpty && s.all isDig && decide (s.length ≤ 640) then .ok (.int (NumText.digitsVal s : Nat)) S else .bad
  | ps => intV1 ps S
def repV (s y z : List Nat) (S : Hs) : RE := if decide (s.length + (s.length + 1) * z.length ≤ 16777216) && (s.all (· < 1114112) && z.all (· < 1114112)) then .ok (.str (Txt.replace ⟨s.toArray⟩ ⟨y.toArray⟩ ⟨z.toArray⟩).cps.toList) S else .bad
def repE (f : Loc → Hs → RE) (y z : List Nat) : Loc → Hs → RE := fun L S => (f L S).bind fun v S1 => match v with
  | .str s => repV s y z S1
  | _ => .bad
/-! what is in a replaced text -/
theorem sub_mem {x : Str} {i j c : Nat} (h : c ∈ (Builtin.Str.strSub x i j).cps.toList) : c ∈ x.cps.toList := by
  unfold Builtin.Str.strSub at h
  rw [Array.mem_toList_iff] at h ⊢
  obtain ⟨k, hk, rfl⟩ := Array.mem_iff_getElem.mp h
  rw [Array.getElem_extract]
  exact Array.getElem_mem _
theorem fold_mem {z : Str} {c : Nat} {P : Nat → Prop} (hz : ∀ c ∈ z.cps.toList, P c) : ∀ (ps : List Str) (acc : Array Nat), (∀ p ∈ ps, ∀ c ∈ p.cps.toList, P c) → (∀ c ∈ acc.toList, P c) → c ∈ (ps.foldl (fun acc p => acc ++ z.cps ++ p.cps) acc).toList → P c
  | [], acc, _, ha, h => ha c h
  | p :: ps, acc, hp, ha, h => by
    refine fold_mem hz ps (acc ++ z.cps ++ p.cps) (fun q hq => hp q (List.mem_cons_of_mem _ hq)) (fun d hd => ?_) h
    rw [Array.toList_append, Array.toList_append, List.mem_append, List.mem_append] at hd
    rcases hd with (hd | hd) | hd
    · exact ha d hd
    · exact hz d hd
    · exact hp p List.mem_cons_self d hd
theorem rep_mem {x y z : Str} {P : Nat → Prop} (hx : ∀ c ∈ x.cps.toList, P c) (hz : ∀ c ∈ z.cps.toList, P c) : ∀ c ∈ (Txt.replace x y z).cps.toList, P c := by
  intro c hc
  unfold Txt.replace at hc
  split at hc
  · exact hx c hc
  · unfold Builtin.Str.glued at hc
    have hp : ∀ p ∈ Builtin.Str.partsBetween x (Builtin.Str.occurrences x y 0 x.length (x.length + 1)) y.length, ∀ c ∈ p.cps.toList, P c := fun p hp c hc => by
      unfold Builtin.Str.partsBetween at hp
      obtain ⟨ij, _, rfl⟩ := List.mem_map.mp hp
      exact hx c (sub_mem hc)
    generalize Builtin.Str.partsBetween x (Builtin.Str.occurrences x y 0 x.length (x.length + 1)) y.length = ps at *
    refine fold_mem hz (ps.drop 1) _ (fun p hq => hp p (List.mem_of_mem_drop hq)) (fun d hd => ?_) hc
    cases ps with
    | nil => cases hd
    | cons p ps => exact hp p List.mem_cons_self d hd
section
variable {Z : Sta} {W : WX} {σ : L2.St} {H H1 H2 : Hp} {m m1 m2 : Mp} {X : Cx} {S : Hs} {lv : Nat} {T : Tab} {pins : List (Addr × Obj)} {s : Shared} {Q : VK}
theorem sOk_mem {s : List Nat} : sOk s = true ↔ ∀ c ∈ s, c < 1114112 := by
  unfold sOk
  rw [List.all_eq_true]
  exact ⟨fun h c hc => of_decide_eq_true (h c hc), fun h c hc => decide_eq_true (h c hc)⟩
theorem rvs_strs : ∀ {l : List (List Nat)}, (∀ p ∈ l, sOk p = true) → RVs Z H m (l.map PV.str) ((l.map SX.S).map V.str)
  | [], _ => RVs.nil
  | p :: l, h => RVs.cons (to_str (h p List.mem_cons_self)) (rvs_strs fun q hq => h q (List.mem_cons_of_mem _ hq))
theorem ok_split {o e : Expr} {apos pos : Pos} {fo fe : Loc → Hs → RE} (ho : PE X o (tE Z W fo)) (he : PE X e (tE Z W fe)) (hs : starEach [e] X.env = [(false, eval e X.env)]) (hbase : attributeBase o "split" X.env (eval o X.env) = eval o X.env) (hline : (apos.endLine == pos.line) = true) :
    PE X (.Call (.Attribute o "split" apos) [e] [] pos) (tE Z W (splE fo fe)) := by
  refine PE.imp (pe_split ho he hs hbase hline) ?_
  rintro σ H Q ⟨m, L, S, sr, hl, hp⟩
  refine ⟨m, L, S, sr, hl, PostE.bind hp fun v S1 H1 m1 x g1 s1 r1 hp1 => ?_⟩
  split at hp1
  · rename_i a
    obtain ⟨rfl, ho1⟩ := rv_str r1
    refine ⟨⟨_, rfl⟩, m1, L, S1, s1, hl.grow g1, PostE.bind hp1 fun w S2 H2 m2 y g2 s2 r2 hp2 => ?_⟩
    split at hp2
    · rename_i b
      obtain ⟨rfl, ho2⟩ := rv_str r2
      unfold splV at hp2
      split at hp2
      · rename_i hc
        rw [Bool.and_eq_true, Bool.and_eq_true, decide_eq_true_eq] at hc
        obtain ⟨⟨c1, c2⟩, c3⟩ := hc
        have hne : b ≠ [] := by
          intro e
          subst e
          cases c1
        refine ⟨SX.S a, SX.S b, rfl, rfl, ?_, ?_, ?_⟩
        · rw [SX.S_len]
          cases b with
          | nil => exact absurd rfl hne
          | cons _ _ => rfl
        · rw [SX.S_len, sizeLine_eq]; exact c3
        · rw [SX.split_S hne c2]
          have hm : ∀ p ∈ TL.spl b 0 [] a, sOk p = true := fun p hp => sOk_mem.mpr fun c hc => by
            rcases spl_mem hp hc with h | h
            · cases h
            · exact sOk_mem.mp ho1 c h
          exact (newL_post s2 (rvs_strs hm) hp2).2
      · exact hp2.elim
    · exact hp2.elim
  · exact hp1.elim
theorem dig_one {c : Nat} (h : c < 128) : Unicode.isDigit c = isDig c := by
  have := PySem.W.os_isdigit h
  unfold Txt.isdigit at this
  simpa [Str.length, isDig] using this
theorem isdigit_S {s : List Nat} (h : s.all (· < 128) = true) : Txt.isdigit (SX.S s) = (!s.isEmpty && s.all isDig) := by
  unfold Txt.isdigit
  have e1 : (SX.S s).cps.all Unicode.isDigit = s.all isDig := by
    show s.toArray.all Unicode.isDigit = _
    rw [List.all_toArray]
    have := List.all_eq_true.mp h
    rw [Bool.eq_iff_iff, List.all_eq_true, List.all_eq_true]
    exact ⟨fun h c hc => by rw [← dig_one (of_decide_eq_true (this c hc))]; exact h c hc, fun h c hc => by rw [dig_one (of_decide_eq_true (this c hc))]; exact h c hc⟩
  rw [e1, SX.S_len]
  cases s <;> rfl
theorem ok_isdigit {o : Expr} {apos pos : Pos} {fo : Loc → Hs → RE} (ho : PE X o (tE Z W fo)) (hbase : attributeBase o "isdigit" X.env (eval o X.env) = eval o X.env) (hline : (apos.endLine == pos.line) = true) :
    PE X (.Call (.Attribute o "isdigit" apos) [] [] pos) (tE Z W (digE fo)) := by
  refine PE.imp (pe_m0 F.slot_str_isdigit F.type_str_isdigit mt_isdigit ho hbase hline) ?_
  rintro σ H Q ⟨m, L, S, sr, hl, hp⟩
  refine ⟨m, L, S, sr, hl, PostE.bind hp fun v S1 H1 m1 x g1 s1 r1 hp1 => ?_⟩
  split at hp1
  · rename_i a
    obtain ⟨rfl, ho1⟩ := rv_str r1
    split at hp1
    · rename_i hc
      refine ⟨⟨_, rfl⟩, SX.S a, rfl, rfl, trivial, ?_⟩
      rw [isdigit_S hc]
      exact hp1 H1 m1 _ Gr.refl s1 to_bl
    · exact hp1.elim
  · exact hp1.elim
theorem intS_ok : CallOk Z X W (.type "int") (fun ps S => match ps with
    | [.str s] => if !s.isEmpty && s.all isDig && decide (s.length ≤ 640) then .ok (.int (NumText.digitsVal s : Nat)) S else .bad
    | _ => .bad) := by
  refine CallOk.of call_int_str fun σ H m S ps xs Q sr rp hp => ?_
  split at hp
  · rename_i a
    obtain ⟨x, rfl, r1⟩ := rvs1 rp
    obtain ⟨rfl, ho1⟩ := rv_str r1
    split at hp
    · rename_i hc
      rw [Bool.and_eq_true, Bool.and_eq_true, decide_eq_true_eq] at hc
      refine ⟨SX.S a, _, rfl, SX.int_S hc.1.2 (by intro e; subst e; cases hc.1.1) (by omega), by rw [SX.S_len]; exact hc.2, hp H m _ Gr.refl sr to_int⟩
    · exact hp.elim
  · exact hp.elim
theorem int3_ok : CallOk Z X W (.type "int") intV3 := by
  intro pins s σ H xs us m S ps Q I rs sr rp hp
  unfold intV3 at hp
  split at hp
  · exact intS_ok pins s σ H xs us m S _ Q I rs sr rp hp
  · exact int1_ok pins s σ H xs us m S _ Q I rs sr rp hp
/-! ### replace: it asks for a token -/
open CwR in
theorem pet_rep {o : Expr} {y z : List Nat} {j k : Nat} {c0 c1 apos pos : Pos} {fo : Loc → Hs → RE} (ho : PE X o (tE Z W fo)) (hyz : (SX.S y == SX.S z) = false)
    (hst : starEach [.Constant (.str (SX.S y)) j c0, .Constant (.str (SX.S z)) k c1] X.env = [(false, eval (.Constant (.str (SX.S y)) j c0) X.env), (false, eval (.Constant (.str (SX.S z)) k c1) X.env)])
    (hbase : attributeBase o "replace" X.env (eval o X.env) = eval o X.env) (hline : (apos.endLine == pos.line) = true) :
    PET X (.Call (.Attribute o "replace" apos) [.Constant (.str (SX.S y)) j c0, .Constant (.str (SX.S z)) k c1] [] pos) (tE Z W (repE fo y z)) := by
  intro pins s σ H Q h0 I h
  refine pet_replC ho hyz hst hbase hline pins s σ H Q h0 I ?_
  obtain ⟨m, L, S, sr, hl, hp⟩ := h
  refine ⟨m, L, S, sr, hl, PostE.bind hp fun v S1 H1 m1 x g1 s1 r1 hp1 => ?_⟩
  split at hp1
  · rename_i a
    obtain ⟨rfl, ho1⟩ := rv_str r1
    unfold repV at hp1
    split at hp1
    · rename_i hc
      rw [Bool.and_eq_true, Bool.and_eq_true, decide_eq_true_eq] at hc
      obtain ⟨c1, c2, c3⟩ := hc
      refine ⟨SX.S a, rfl, by rw [SX.S_len, SX.S_len]; exact c1, ?_⟩
      have hso : sOk (Txt.replace (SX.S a) (SX.S y) (SX.S z)).cps.toList = true := sOk_mem.mpr (rep_mem (fun c hc => of_decide_eq_true (List.all_eq_true.mp c2 c hc)) fun c hc => of_decide_eq_true (List.all_eq_true.mp c3 c hc))
      have := hp1 H1 m1 _ Gr.refl s1 (to_str hso)
      rwa [show (⟨(Txt.replace (SX.S a) (SX.S y) (SX.S z)).cps.toList.toArray⟩ : Str) = Txt.replace (SX.S a) (SX.S y) (SX.S z) from rfl] at this
    · exact hp1.elim
  · exact hp1.elim
theorem pat_nilA : PAT X [] (tA Z W nilA) := fun pos pins s σ H Q _ I h => (ok_nil (Z := Z) (W := W) (X := X)).run pos pins s σ H Q I h
theorem pat_consA {e : Expr} {es : List Expr} {f : Loc → Hs → RE} {g : Loc → Hs → RA} (ha : PET X e (tE Z W f)) (hr : PAT X es (tA Z W g)) (hs : starEach (e :: es) X.env = (false, eval e X.env) :: starEach es X.env) : PAT X (e :: es) (tA Z W (consA f g)) := by
  intro pos pins s σ H Q h0 I h
  refine pat_cons ha hr hs pos pins s σ H Q h0 I ?_
  obtain ⟨m, L, S, sr, hl, hp⟩ := h
  refine ⟨m, L, S, sr, hl, PostE.bindA hp fun v S1 H1 m1 x g1 s1 r1 hp1 => ⟨m1, L, S1, s1, hl.grow g1, PostA.bindA hp1 fun vs S2 H2 m2 xs g2 s2 r2 hp2 => ?_⟩⟩
  exact hp2 H2 m2 (x :: xs) Gr.refl s2 (RVs.cons (r1.grow g2) r2)
theorem petE {e : Expr} {f : Loc → Hs → RE} (h : PE X e (tE Z W f)) : PET X e (tE Z W f) := fun pins s σ H Q _ I q => h.run pins s σ H Q I q
/-- a list whose first item begins with a written text: behind it a token is out -/
theorem ok_lstU {c : Str} {k : Nat} {cp bp pos : Pos} {op : Operator} {b : Expr} {es : List Expr} {t : List Nat} {fb : Loc → Hs → RE} {o : PV → PV → Hs → RE} {g : Loc → Hs → RA} {fz : Bool} (hc : PE X (.Constant (.str c) k cp) (tE Z W (conE (.str t)))) (hb : PE X b (tE Z W fb)) (ho : OpOk Z X W (binaryOp op) o) (hr : PAT X es (tA Z W g))
    (hs : starEach (.BinOp (.Constant (.str c) k cp) op b bp :: es) X.env = (false, eval (.BinOp (.Constant (.str c) k cp) op b bp) X.env) :: starEach es X.env) :
    PE X (.List (.BinOp (.Constant (.str c) k cp) op b bp :: es) pos) (tE Z W (lstE fz (consA (binE (conE (.str t)) fb o) g))) := by
  have h : PA X (.BinOp (.Constant (.str c) k cp) op b bp :: es) (tA Z W (consA (binE (conE (.str t)) fb o) g)) := by
    refine ⟨fun ps pins s σ H Q I h => ?_⟩
    rw [hs]
    show wpAny _ _ (spliced ((false, eval (.BinOp (.Constant (.str c) k cp) op b bp) X.env) :: backTo ps (starEach es X.env))) _ _ s
    have h1 : tE Z W (binE (conE (.str t)) fb o) σ H fun x H1 => tA Z W g σ H1 fun xs H2 => Q (x :: xs) H2 := by
      obtain ⟨m, L, S, sr, hl, hp⟩ := h
      exact ⟨m, L, S, sr, hl, PostE.bindA hp fun v S1 H1 m1 x g1 s1 r1 hp1 => ⟨m1, L, S1, s1, hl.grow g1, PostA.bindA hp1 fun vs S2 H2 m2 xs g2 s2 r2 hp2 => hp2 H2 m2 (x :: xs) Gr.refl s2 (RVs.cons (r1.grow g2) r2)⟩⟩
    have run := bin_run hc hb ho I h1
    have run2 : wpAny (model X.prog X.w) X.A (eval (.BinOp (.Constant (.str c) k cp) op b bp) X.env) (fun v s1 => 1 ≤ s1.toks ∧ EP X pins σ (fun x H1 => tA Z W g σ H1 fun xs H2 => Q (x :: xs) H2) v s1) X.xe s := by
      refine PySem.wpAny_BinOp (fun Γ p hΓ => ?_)
      have r0 : wpAny (model X.prog X.w) X.A (eval b X.env) (fun u s₂ => wpAny (model X.prog X.w) X.A (binaryOp op (.str c s.toks) u) (EP X pins σ (fun x H1 => tA Z W g σ H1 fun xs H2 => Q (x :: xs) H2)) X.xe s₂) X.xe { s with toks := s.toks + 1 } := run Γ p hΓ
      show wpAny (model X.prog X.w) X.A (eval b X.env) (fun u s₂ => wpAny (model X.prog X.w) X.A (binaryOp op (.str c s.toks) u) (fun v s1 => 1 ≤ s1.toks ∧ EP X pins σ (fun x H1 => tA Z W g σ H1 fun xs H2 => Q (x :: xs) H2) v s1) X.xe s₂) X.xe { s with toks := s.toks + 1 }
      refine wpAny_mono (PySem.wpAny_toks r0) (fun u s2 q => ?_) fun _ _ z => z.2
      refine wpAny_mono (PySem.wpAny_toks q.2) (fun v s3 q3 => ⟨?_, q3.2⟩) fun _ _ z => z.2
      have h1 : s.toks + 1 ≤ s2.toks := q.1
      have h2 := q3.1
      omega
    refine Calls.spliced_cons (wpAny_mono run2 (fun v s1 q => ?_) fun _ _ z => z)
    obtain ⟨hk, x, H1, I1, r1, q1⟩ := q
    exact thn (hr ps pins s1 σ H1 _ hk I1 q1) fun us s2 ⟨xs, H2, I2, r2, q2⟩ => ⟨x :: xs, H2, I2, .cons r1 r2, q2⟩
  exact ok_lst h
end
end MP
set_option maxRecDepth 100000
set_option maxHeartbeats 0
namespace MP.LW
open PySem L2
def top (i : Nat) : Stmt := PySem.Challenge.pw_signskept_k31_runs_as_text.main.body.getD i (.Pass ⟨0, 0, 0, 0⟩)
abbrev st0 : Stmt := (top 1)
abbrev st1 : Stmt := (top 2)
abbrev st2 : Stmt := (top 11)
abbrev st3 : Stmt := (top 12)
abbrev st4 : Stmt := (top 13)
abbrev st5 : Stmt := (top 15)
abbrev st6 : Stmt := (top 16)
abbrev st7 : Stmt := (top 17)
abbrev st8 : Stmt := (top 18)
abbrev st9 : Stmt := (top 19)
abbrev st10 : Stmt := (top 20)
abbrev st11 : Stmt := (top 21)
abbrev st12 : Stmt := (top 22)
def da : List (Fr → Addr) := [aG "is_integer", aG "is_between", aG "format_run", aG "is_run_of_integers", aG "parse_run", aG "_law_pool", aG "_law_take", aG "_law_row", aG "_law_text", aG "_law_read", aG "_law_refused", aG "_law_bent", aG "law"]
def ca : List (Fr → Addr) := [aG "SignsError", aG "BadRun", aG "BadText"]
def md0 : MDef := { adr := aG "is_integer", name := "is_integer", qual := "is_integer", params := defArgs st0, body := defBody st0, scope := defScope st0 }
def md1 : MDef := { adr := aG "is_between", name := "is_between", qual := "is_between", params := defArgs st1, body := defBody st1, scope := defScope st1 }
def md2 : MDef := { adr := aG "format_run", name := "format_run", qual := "format_run", params := defArgs st2, body := defBody st2, scope := defScope st2 }
def md3 : MDef := { adr := aG "is_run_of_integers", name := "is_run_of_integers", qual := "is_run_of_integers", params := defArgs st3, body := defBody st3, scope := defScope st3 }
def md4 : MDef := { adr := aG "parse_run", name := "parse_run", qual := "parse_run", params := defArgs st4, body := defBody st4, scope := defScope st4 }
def md5 : MDef := { adr := aG "_law_pool", name := "_law_pool", qual := "_law_pool", params := defArgs st5, body := defBody st5, scope := defScope st5 }
def md6 : MDef := { adr := aG "_law_take", name := "_law_take", qual := "_law_take", params := defArgs st6, body := defBody st6, scope := defScope st6 }
def md7 : MDef := { adr := aG "_law_row", name := "_law_row", qual := "_law_row", params := defArgs st7, body := defBody st7, scope := defScope st7 }
def md8 : MDef := { adr := aG "_law_text", name := "_law_text", qual := "_law_text", params := defArgs st8, body := defBody st8, scope := defScope st8 }
def md9 : MDef := { adr := aG "_law_read", name := "_law_read", qual := "_law_read", params := defArgs st9, body := defBody st9, scope := defScope st9 }
def md10 : MDef := { adr := aG "_law_refused", name := "_law_refused", qual := "_law_refused", params := defArgs st10, body := defBody st10, scope := defScope st10 }
def md11 : MDef := { adr := aG "_law_bent", name := "_law_bent", qual := "_law_bent", params := defArgs st11, body := defBody st11, scope := defScope st11 }
def md12 : MDef := { adr := aG "law", name := "law", qual := "law", params := defArgs st12, body := defBody st12, scope := defScope st12 }
def txL : List DTab := []
abbrev stx_SignsError : Stmt := ((clsBody (top 4)).getD 0 (.Pass ⟨0, 0, 0, 0⟩))
def mx_SignsError : MDef := { adr := aM "SignsError" "__init__", name := "__init__", qual := "SignsError.__init__", params := defArgs stx_SignsError, body := defBody stx_SignsError, scope := defScope stx_SignsError, clo := ["__class__"] }
def dsL : List MDef := [md0, md1, md2, md3, md4, md5, md6, md7, md8, md9, md10, md11, md12, mx_SignsError]
abbrev fileL : Str := PySem.Challenge.pw_signskept_k31_runs_as_text.main.file
def ct : CmpT := ⟨0, 1, 2, 3, 4, [], []⟩
def isaL : List (Nat × Nat × Bool) := [(0, 1, false), (0, 2, false), (0, 3, false), (0, 5, false), (1, 1, true), (1, 2, true), (1, 3, false), (1, 5, false), (2, 1, false), (2, 2, true), (2, 3, false), (2, 5, false), (3, 1, false), (3, 2, false), (3, 3, true), (3, 5, false), (4, 1, false), (4, 2, false), (4, 3, false), (4, 5, false), (5, 1, false), (5, 2, false), (5, 3, false), (5, 5, true), (6, 1, false), (6, 2, false), (6, 3, false), (6, 5, false)]
def isa (t c : Nat) : Option Bool := match isaL.find? (fun e => Nat.beq e.1 t && Nat.beq e.2.1 c) with
  | some e => some e.2.2
  | none => none
def mems : List (List (Nat × FK)) := []
def arrs : List (List (Nat × List Str × Arr)) := [([(1, [], (fun vs _ => vs))] : List (Nat × List Str × Arr)),
  ([(3, [], (fun vs _ => vs))] : List (Nat × List Str × Arr)),
  ([(1, [], (fun vs _ => vs))] : List (Nat × List Str × Arr)),
  ([(1, [], (fun vs _ => vs))] : List (Nat × List Str × Arr)),
  ([(1, [], (fun vs _ => vs))] : List (Nat × List Str × Arr)),
  ([(2, [], (fun vs _ => vs))] : List (Nat × List Str × Arr)),
  ([(2, [], (fun vs _ => vs))] : List (Nat × List Str × Arr)),
  ([(1, [], (fun vs _ => vs))] : List (Nat × List Str × Arr)),
  ([(1, [], (fun vs _ => vs))] : List (Nat × List Str × Arr)),
  ([(1, [], (fun vs _ => vs))] : List (Nat × List Str × Arr)),
  ([(1, [], (fun vs _ => vs))] : List (Nat × List Str × Arr)),
  ([(2, [], (fun vs _ => vs))] : List (Nat × List Str × Arr)),
  ([] : List (Nat × List Str × Arr))]
def exmL : List (Nat × Nat × Bool) := [(501, 501, true), (502, 501, false), (501, 502, false), (502, 502, true)]
def isxL : List (Nat × Nat × Bool) := []
def okx (k : Nat) : Bool := [501, 502].contains k
def e0 (T : Tab) : Loc → Hs → RS :=
    (seqS (retS (andE (bltE (consA (varE 0) (consA (conE (.ty "int")) nilA)) (isiA isa)) (notE (bltE (consA (varE 0) (consA (conE (.ty "bool")) nilA)) (isiA isa)))))
    nilS)
def e1 (T : Tab) : Loc → Hs → RS :=
    (seqS (retS (andE (callE 1 0 (consA (varE 0) nilA) nilA fun vs qs => useC true (T.run 0) ((fun vs _ => vs) vs qs)) (chainE (varE 1) (varE 0) (varE 2) (cmpD2 T ct .LtE) (cmpD2 T ct .LtE))))
    nilS)
def e2 (T : Tab) : Loc → Hs → RS :=
    (seqS (ifS (notB (truB (callE 1 0 (consA (varE 0) nilA) nilA fun vs qs => useC true (T.run 3) ((fun vs _ => vs) vs qs))))
    (seqS (raiseS 501 (varE 0))
    nilS)
    nilS)
    (seqS (retS (joinE (conE (.str [59, 32])) (lcE true [1] (valI (varE 0)) (nameT 1) trueB (joinE (conE (.str [32])) (lcE true [2] (valI (varE 1)) (nameT 2) trueB (bltE (consA (varE 2) nilA) (strD T ct)))))))
    nilS))
def e3 (T : Tab) : Loc → Hs → RS :=
    (seqS (ifS (orB (notB (truB (bltE (consA (varE 0) (consA (conE (.ty "tuple")) nilA)) (isiA isa)))) (orB (cmpB (binE (bltE (consA (varE 0) nilA) (lenD T ct)) (conE (.int 2)) (cmpD2 T ct .NotEq))) (notB (truB (bltE (consA (lcE true [1] (valI (varE 0)) (nameT 1) trueB (bltE (consA (varE 1) (consA (conE (.ty "tuple")) nilA)) (isiA isa))) nilA) allV)))))
    (seqS (retS (conE (.bl false)))
    nilS)
    nilS)
    (seqS (retS (bltE (consA (lc2E true [1, 2] [2] (valI (varE 0)) (nameT 1) trueB (valI (varE 1)) (nameT 2) trueB (callE 3 0 (consA (varE 2) (consA (conE (.int 0)) (consA (conE (.int (4294967295))) nilA))) nilA fun vs qs => useC true (T.run 1) ((fun vs _ => vs) vs qs))) nilA) allV))
    nilS))
def e4 (T : Tab) : Loc → Hs → RS :=
    (seqS (ifS (orB (notB (truB (bltE (consA (varE 0) (consA (conE (.ty "str")) nilA)) (isiA isa)))) (orB (cmpB (binE (bltE (consA (varE 0) nilA) (lenD T ct)) (conE (.int (8000))) (cmpD2 T ct .Gt))) (notB (truB (bltE (consA (lcE true [5] (valI (varE 0)) (nameT 5) trueB (binE (varE 5) (binE (conE (.str [48, 49, 50, 51, 52, 53, 54, 55, 56, 57])) (conE (.str [59, 32])) (binV .Add true)) (cmpD2 T ct .In))) nilA) allV)))))
    (seqS (raiseS 502 (varE 0))
    nilS)
    nilS)
    (seqS (asgS (splE (varE 0) (conE (.str [59, 32]))) (nameT 1))
    (seqS (asgS (lcE true [4] (valI (varE 1)) (nameT 4) trueB (iteE (cmpB (binE (varE 4) (conE (.str [])) (cmpD2 T ct .Eq))) (lstE true nilA) (splE (varE 4) (conE (.str [32]))))) (nameT 2))
    (seqS (ifS (orB (cmpB (binE (bltE (consA (varE 1) nilA) (lenD T ct)) (conE (.int 2)) (cmpD2 T ct .NotEq))) (notB (truB (bltE (consA (lc2E true [4, 6] [6] (valI (varE 2)) (nameT 4) trueB (valI (varE 4)) (nameT 6) trueB (andE (chainE (conE (.int 1)) (bltE (consA (varE 6) nilA) (lenD T ct)) (conE (.int 10)) (cmpD2 T ct .LtE) (cmpD2 T ct .LtE)) (digE (varE 6)))) nilA) allV))))
    (seqS (raiseS 502 (varE 0))
    nilS)
    nilS)
    (seqS (asgS (bltE (consA (lcE true [4] (valI (varE 2)) (nameT 4) trueB (bltE (consA (lcE true [6] (valI (varE 4)) (nameT 6) trueB (bltE (consA (varE 6) nilA) intV3)) nilA) tupleV)) nilA) tupleV) (nameT 3))
    (seqS (ifS (orB (notB (truB (callE 1 0 (consA (varE 3) nilA) nilA fun vs qs => useC true (T.run 3) ((fun vs _ => vs) vs qs)))) (cmpB (binE (callE 1 0 (consA (varE 3) nilA) nilA fun vs qs => useC true (T.run 2) ((fun vs _ => vs) vs qs)) (varE 0) (cmpD2 T ct .NotEq))))
    (seqS (raiseS 502 (varE 0))
    nilS)
    nilS)
    (seqS (retS (varE 3))
    nilS)))))))
def e5 (T : Tab) : Loc → Hs → RS :=
    (seqS (asgS (iteE (cmpB (binE (varE 1) (bltE (consA (varE 0) nilA) (lenD T ct)) (cmpD2 T ct .Lt))) (binE (varE 0) (varE 1) ixV2) (conE (.int 0))) (nameT 2))
    (seqS (asgS (binE (bltE (consA (binE (binE (binE (bltE (consA (varE 2) nilA) intV1) (conE (.int 2147483629)) (binV .Mod true)) (binE (binE (conE (.int 7919)) (varE 1) (binV .Mult false)) (varE 1) (binV .Mult false)) (binV .Add false)) (conE (.int 13)) (binV .Add false)) nilA) intV1) (conE (.int 48271)) (binV .Mult false)) (nameT 3))
    (seqS (retS (lstE false (consA (iteE (cmpB (binE (varE 2) (binE (conE (.int 10)) (conE (.int 18)) (binV .Pow true)) (cmpD2 T ct .GtE))) (varE 2) (conE (.int 0))) (consA (binE (binE (bltE (consA (varE 3) nilA) intV1) (conE (.int 2147483647)) (binV .Mod true)) (conE (.int 1)) (binV .Add false)) nilA))))
    nilS)))
def e6 (T : Tab) : Loc → Hs → RS :=
    (seqS (ifS (cmpB (binE (binE (varE 0) (conE (.int 0)) ixV2) (conE (.int 0)) (cmpD2 T ct .Gt)))
    (seqS (asgS (binE (bltE (consA (binE (varE 0) (conE (.int 0)) ixV2) nilA) intV1) (varE 1) (binV .Mod true)) (nameT 2))
    (seqS (asgS (binE (binE (varE 0) (conE (.int 0)) ixV2) (varE 1) (binV .FloorDiv true)) (subT2 (varE 0) (conE (.int 0))))
    (seqS (retS (varE 2))
    nilS)))
    nilS)
    (seqS (asgS (binE (bltE (consA (binE (binE (binE (varE 0) (conE (.int 1)) ixV2) (conE (.int 48271)) (binV .Mult true)) (conE (.int 11)) (binV .Add true)) nilA) intV1) (conE (.int 2147483647)) (binV .Mod true)) (subT2 (varE 0) (conE (.int 1))))
    (seqS (retS (binE (binE (binE (bltE (consA (binE (binE (varE 0) (conE (.int 1)) ixV2) (binE (varE 0) (conE (.int 1)) ixV2) (binV .Mult true)) nilA) intV1) (conE (.int 2147483629)) (binV .Mod true)) (conE (.int 64)) (binV .FloorDiv true)) (varE 1) (binV .Mod true)))
    nilS)))
def e7 (T : Tab) : Loc → Hs → RS :=
    (seqS (asgS (lstE true (consA (conE (.int 0)) (consA (conE (.int 1)) (consA (conE (.int 9)) (consA (conE (.int 10)) (consA (conE (.int 4294967295)) (consA (callE 2 0 (consA (varE 0) (consA (conE (.int 4294967296)) nilA)) nilA fun vs qs => useC false (T.run 6) ((fun vs _ => vs) vs qs)) nilA))))))) (nameT 1))
    (seqS (retS (bltE (consA (lcE true [2] (rngI (consA (callE 2 0 (consA (varE 0) (consA (conE (.int 7)) nilA)) nilA fun vs qs => useC false (T.run 6) ((fun vs _ => vs) vs qs)) nilA)) (nameT 2) trueB (binE (varE 1) (callE 2 0 (consA (varE 0) (consA (conE (.int 6)) nilA)) nilA fun vs qs => useC false (T.run 6) ((fun vs _ => vs) vs qs)) ixV2)) nilA) tupleV))
    nilS))
def e8 (T : Tab) : Loc → Hs → RS :=
    (seqS (retS (joinE (conE (.str [59, 32])) (lcE true [1] (valI (varE 0)) (nameT 1) trueB (joinE (conE (.str [32])) (lcE true [2] (valI (varE 1)) (nameT 2) trueB (bltE (consA (varE 2) nilA) (strD T ct)))))))
    nilS)
def e9 (T : Tab) : Loc → Hs → RS :=
    (seqS (asgS (conE .non) (nameT 1))
    (seqS (tryS (seqS (asgS (callE 1 0 (consA (varE 0) nilA) nilA fun vs qs => useC true (T.run 4) ((fun vs _ => vs) vs qs)) (nameT 1))
    nilS)
    [⟨look2 exmL 502, some 2, hdLst okx 1 [.con (.str [116, 101, 120, 116]), .val]⟩])
    (seqS (retS (varE 1))
    nilS)))
def e10 (T : Tab) : Loc → Hs → RS :=
    (seqS (asgS (conE .non) (nameT 1))
    (seqS (tryS (seqS (asgS (callE 1 0 (consA (varE 0) nilA) nilA fun vs qs => useC true (T.run 2) ((fun vs _ => vs) vs qs)) (nameT 1))
    nilS)
    [⟨look2 exmL 501, some 2, hdLst okx 1 [.con (.str [114, 117, 110]), .val]⟩])
    (seqS (retS (varE 1))
    nilS)))
def e11 (T : Tab) : Loc → Hs → RS :=
    (seqS (asgS (callE 2 0 (consA (varE 0) (consA (binE (bltE (consA (varE 1) nilA) (lenD T ct)) (conE (.int 1)) (binV .Add true)) nilA)) nilA fun vs qs => useC false (T.run 6) ((fun vs _ => vs) vs qs)) (nameT 2))
    (seqS (asgS (binE (lstE true (consA (conE (.str [32])) (consA (conE (.str [59])) (consA (conE (.str [59, 32])) (consA (conE (.str [48])) (consA (conE (.str [57])) (consA (conE (.str [45])) (consA (conE (.str [97])) (consA (conE (.str [10])) (consA (conE (.str [43])) nilA)))))))))) (callE 2 0 (consA (varE 0) (consA (conE (.int 9)) nilA)) nilA fun vs qs => useC false (T.run 6) ((fun vs _ => vs) vs qs)) ixV2) (nameT 3))
    (seqS (asgS (lstE true (consA (binE (binE (slE true (varE 1) none (some (varE 2))) (varE 3) (binV .Add true)) (slE true (varE 1) (some (varE 2)) none) (binV .Add true)) (consA (binE (slE true (varE 1) none (some (varE 2))) (slE true (varE 1) (some (binE (varE 2) (conE (.int 1)) (binV .Add true))) none) (binV .Add true)) (consA (binE (binE (slE true (varE 1) none (some (varE 2))) (varE 3) (binV .Add true)) (slE true (varE 1) (some (binE (varE 2) (conE (.int 1)) (binV .Add true))) none) (binV .Add true)) (consA (binE (varE 1) (conE (.str [32])) (binV .Add true)) nilA))))) (nameT 4))
    (seqS (retS (binE (varE 4) (lstE true (consA (binE (conE (.str [32])) (varE 1) (binV .Add true)) (consA (repE (varE 1) [59, 32] [59]) (consA (binE (varE 1) (conE (.str [10])) (binV .Add true)) (consA (slE true (varE 1) none (some (varE 2))) (consA (binE (varE 1) (conE (.str [59, 32, 53])) (binV .Add true)) (consA (repE (varE 1) [32] [32, 32]) nilA))))))) (binV .Add true)))
    nilS))))
def e12 (T : Tab) : Loc → Hs → RS :=
    (seqS (forS (rngI (consA (bltE (consA (conE (.int 1)) (consA (bltE (consA (bltE (consA (varE 0) nilA) (lenD T ct)) (consA (conE (.int 5)) nilA)) min2V) nilA)) max2V) nilA)) (nameT 1)
    (seqS (asgS (callE 2 0 (consA (varE 0) (consA (varE 1) nilA)) nilA fun vs qs => useC false (T.run 5) ((fun vs _ => vs) vs qs)) (nameT 2))
    (seqS (asgS (tupE (consA (callE 1 0 (consA (varE 2) nilA) nilA fun vs qs => useC false (T.run 7) ((fun vs _ => vs) vs qs)) (consA (callE 1 0 (consA (varE 2) nilA) nilA fun vs qs => useC false (T.run 7) ((fun vs _ => vs) vs qs)) nilA))) (nameT 3))
    (seqS (asgS (callE 1 0 (consA (varE 3) nilA) nilA fun vs qs => useC true (T.run 8) ((fun vs _ => vs) vs qs)) (nameT 4))
    (seqS (ifS (orB (cmpB (binE (callE 1 0 (consA (varE 3) nilA) nilA fun vs qs => useC true (T.run 2) ((fun vs _ => vs) vs qs)) (varE 4) (cmpD2 T ct .NotEq))) (orB (cmpB (binE (callE 1 0 (consA (varE 4) nilA) nilA fun vs qs => useC true (T.run 4) ((fun vs _ => vs) vs qs)) (varE 3) (cmpD2 T ct .NotEq))) (notB (truB (bltE (consA (callE 1 0 (consA (varE 4) nilA) nilA fun vs qs => useC true (T.run 4) ((fun vs _ => vs) vs qs)) (consA (conE (.ty "tuple")) nilA)) (isiA isa))))))
    (seqS (retS (conE (.bl false)))
    nilS)
    nilS)
    (seqS (forS (rngI (consA (conE (.int 4)) nilA)) (nameT 5)
    (seqS (forS (valI (callE 2 0 (consA (varE 2) (consA (varE 4) nilA)) nilA fun vs qs => useC false (T.run 11) ((fun vs _ => vs) vs qs))) (nameT 6)
    (seqS (asgS (callE 1 0 (consA (varE 6) nilA) nilA fun vs qs => useC true (T.run 9) ((fun vs _ => vs) vs qs)) (nameT 7))
    (seqS (ifS (truB (bltE (consA (varE 7) (consA (conE (.ty "tuple")) nilA)) (isiA isa)))
    (seqS (ifS (cmpB (binE (callE 1 0 (consA (varE 7) nilA) nilA fun vs qs => useC true (T.run 8) ((fun vs _ => vs) vs qs)) (varE 6) (cmpD2 T ct .NotEq)))
    (seqS (retS (conE (.bl false)))
    nilS)
    nilS)
    nilS)
    (seqS (ifS (cmpB (binE (varE 7) (lstE true (consA (conE (.str [116, 101, 120, 116])) (consA (varE 6) nilA))) (cmpD2 T ct .NotEq)))
    (seqS (retS (conE (.bl false)))
    nilS)
    nilS)
    nilS))
    nilS)))
    nilS))
    (seqS (forS (valI (lstE true (consA (conE .non) (consA (conE (.int 5)) (consA (conE (.str [])) (consA (conE (.str [32])) (consA (conE (.str [59])) (consA (conE (.str [53])) (consA (conE (.str [53, 59, 53])) (consA (conE (.str [48, 53, 59, 32])) (consA (conE (.str [52, 50, 57, 52, 57, 54, 55, 50, 57, 54, 59, 32])) (consA (conE (.str [45, 49, 59, 32])) (consA (conE (.str [97, 59, 32])) (consA (conE (.str [53, 59, 32, 53, 59, 32, 53])) (consA (lstE true nilA) (consA (conE (.bl true)) nilA)))))))))))))))) (nameT 8)
    (seqS (ifS (cmpB (binE (callE 1 0 (consA (varE 8) nilA) nilA fun vs qs => useC true (T.run 9) ((fun vs _ => vs) vs qs)) (lstE true (consA (conE (.str [116, 101, 120, 116])) (consA (varE 8) nilA))) (cmpD2 T ct .NotEq)))
    (seqS (retS (conE (.bl false)))
    nilS)
    nilS)
    nilS))
    (seqS (ifS (orB (cmpB (binE (callE 1 0 (consA (binE (binE (conE (.str [53, 32])) (conE (.int 5000)) (mulX true)) (conE (.str [59, 32])) (binV .Add true)) nilA) nilA fun vs qs => useC true (T.run 9) ((fun vs _ => vs) vs qs)) (lstE true (consA (conE (.str [116, 101, 120, 116])) (consA (binE (binE (conE (.str [53, 32])) (conE (.int 5000)) (mulX true)) (conE (.str [59, 32])) (binV .Add true)) nilA))) (cmpD2 T ct .NotEq))) (cmpB (binE (callE 1 0 (consA (conE (.str [59, 32])) nilA) nilA fun vs qs => useC true (T.run 4) ((fun vs _ => vs) vs qs)) (tupE (consA (tupE nilA) (consA (tupE nilA) nilA))) (cmpD2 T ct .NotEq))))
    (seqS (retS (conE (.bl false)))
    nilS)
    nilS)
    (seqS (asgS (lstE true (consA (conE .non) (consA (conE (.int 5)) (consA (varE 4) (consA (slE true (varE 3) none (some (conE (.int 1)))) (consA (bltE (consA (varE 3) nilA) (listV2 true)) (consA (tupE (consA (binE (varE 3) (conE (.int 0)) ixV2) (consA (bltE (consA (binE (varE 3) (conE (.int 1)) ixV2) nilA) (listV2 true)) nilA))) (consA (tupE (consA (tupE (consA (unaE .USub (conE (.int 1))) nilA)) (consA (tupE nilA) nilA))) (consA (tupE (consA (tupE (consA (conE (.bl true)) nilA)) (consA (tupE nilA) nilA))) nilA))))))))) (nameT 9))
    (seqS (forS (valI (binE (varE 9) (lstE true (consA (tupE (consA (tupE (consA (conE (.int 4294967296)) nilA)) (consA (tupE nilA) nilA))) nilA)) (binV .Add true))) (nameT 10)
    (seqS (ifS (cmpB (binE (callE 1 0 (consA (varE 10) nilA) nilA fun vs qs => useC true (T.run 10) ((fun vs _ => vs) vs qs)) (lstE true (consA (conE (.str [114, 117, 110])) (consA (varE 10) nilA))) (cmpD2 T ct .NotEq)))
    (seqS (retS (conE (.bl false)))
    nilS)
    nilS)
    nilS))
    nilS))))))))))
    (seqS (retS (conE (.bl true)))
    nilS))
def tbl : List DefI := [⟨["thing"], 1, e0⟩,
  ⟨["thing", "least", "most"], 3, e1⟩,
  ⟨["run"], 3, e2⟩,
  ⟨["thing"], 3, e3⟩,
  ⟨["text"], 7, e4⟩,
  ⟨["_law_script", "_law_k"], 4, e5⟩,
  ⟨["_law_pool_here", "_law_many"], 3, e6⟩,
  ⟨["_law_pool_here"], 3, e7⟩,
  ⟨["_law_run"], 3, e8⟩,
  ⟨["_law_text_here"], 3, e9⟩,
  ⟨["_law_thing"], 3, e10⟩,
  ⟨["_law_pool_here", "_law_text_here"], 5, e11⟩,
  ⟨["_law_script"], 11, e12⟩]
def exL : List (Fr → Bool) := [fun K => gloK K "law" (aG "law" K),
  fun K => freK K "int",
  fun K => freK K "isinstance",
  fun K => freK K "bool",
  fun K => gloK K "is_integer" (aG "is_integer" K),
  fun K => freK K "str",
  fun K => gloK K "is_run_of_integers" (aG "is_run_of_integers" K),
  fun K => gloK K "BadRun" (aG "BadRun" K),
  fun K => conK K "MOST_BITS" (.int (4294967295)),
  fun K => gloK K "is_between" (aG "is_between" K),
  fun K => freK K "all",
  fun K => freK K "tuple",
  fun K => freK K "len",
  fun K => gloK K "format_run" (aG "format_run" K),
  fun K => gloK K "BadText" (aG "BadText" K),
  fun K => conK K "MOST_SIGNS" (.int (8000)),
  fun K => conK K "FIGURES" (.str [48, 49, 50, 51, 52, 53, 54, 55, 56, 57]),
  fun K => gloK K "_law_take" (aG "_law_take" K),
  fun K => freK K "range",
  fun K => gloK K "parse_run" (aG "parse_run" K),
  fun K => freK K "min",
  fun K => freK K "max",
  fun K => gloK K "_law_refused" (aG "_law_refused" K),
  fun K => freK K "list",
  fun K => gloK K "_law_read" (aG "_law_read" K),
  fun K => gloK K "_law_bent" (aG "_law_bent" K),
  fun K => gloK K "_law_text" (aG "_law_text" K),
  fun K => gloK K "_law_row" (aG "_law_row" K),
  fun K => gloK K "_law_pool" (aG "_law_pool" K),
  fun K => freK K "super",
  fun K => supB K (mx_SignsError.adr K) (aG "SignsError" K) fileL,
  fun K => oexB K (aG "BadRun" K) (aG "SignsError" K) (mx_SignsError.adr K) "ValueError" "ValueError.__new__" "ValueError.__init__" [.type "ValueError", .type "Exception", .type "BaseException", .type "object"],
  fun K => exB K (aG "BadRun" K),
  fun K => oexB K (aG "BadText" K) (aG "SignsError" K) (mx_SignsError.adr K) "ValueError" "ValueError.__new__" "ValueError.__init__" [.type "ValueError", .type "Exception", .type "BaseException", .type "object"],
  fun K => exB K (aG "BadText" K),
  fun K => exmB K (.ref (aG "BadRun" K)) (.ref (aG "BadRun" K)) true,
  fun K => exmB K (.ref (aG "BadText" K)) (.ref (aG "BadRun" K)) false,
  fun K => exmB K (.ref (aG "BadRun" K)) (.ref (aG "BadText" K)) false,
  fun K => exmB K (.ref (aG "BadText" K)) (.ref (aG "BadText" K)) true,
  fun K => kitB K (.type (tyS 0)) (.type (tyS 1)) false,
  fun K => kitB K (.type (tyS 0)) (.type (tyS 2)) false,
  fun K => kitB K (.type (tyS 0)) (.type (tyS 3)) false,
  fun K => kitB K (.type (tyS 0)) (.type (tyS 5)) false,
  fun K => kitB K (.type (tyS 1)) (.type (tyS 1)) true,
  fun K => kitB K (.type (tyS 1)) (.type (tyS 2)) true,
  fun K => kitB K (.type (tyS 1)) (.type (tyS 3)) false,
  fun K => kitB K (.type (tyS 1)) (.type (tyS 5)) false,
  fun K => kitB K (.type (tyS 2)) (.type (tyS 1)) false,
  fun K => kitB K (.type (tyS 2)) (.type (tyS 2)) true,
  fun K => kitB K (.type (tyS 2)) (.type (tyS 3)) false,
  fun K => kitB K (.type (tyS 2)) (.type (tyS 5)) false,
  fun K => kitB K (.type (tyS 3)) (.type (tyS 1)) false,
  fun K => kitB K (.type (tyS 3)) (.type (tyS 2)) false,
  fun K => kitB K (.type (tyS 3)) (.type (tyS 3)) true,
  fun K => kitB K (.type (tyS 3)) (.type (tyS 5)) false,
  fun K => kitB K (.type (tyS 4)) (.type (tyS 1)) false,
  fun K => kitB K (.type (tyS 4)) (.type (tyS 2)) false,
  fun K => kitB K (.type (tyS 4)) (.type (tyS 3)) false,
  fun K => kitB K (.type (tyS 4)) (.type (tyS 5)) false,
  fun K => kitB K (.type (tyS 5)) (.type (tyS 1)) false,
  fun K => kitB K (.type (tyS 5)) (.type (tyS 2)) false,
  fun K => kitB K (.type (tyS 5)) (.type (tyS 3)) false,
  fun K => kitB K (.type (tyS 5)) (.type (tyS 5)) true,
  fun K => kitB K (.type (tyS 6)) (.type (tyS 1)) false,
  fun K => kitB K (.type (tyS 6)) (.type (tyS 2)) false,
  fun K => kitB K (.type (tyS 6)) (.type (tyS 3)) false,
  fun K => kitB K (.type (tyS 6)) (.type (tyS 5)) false]
def names : List Str := (["__eq__", "__contains__", "__len__", "__str__", "__repr__"] : List Str)
abbrev looseL : List Str := (["is_integer", "is_between", "format_run", "is_run_of_integers", "parse_run", "_law_pool", "_law_take", "_law_row", "_law_text", "_law_read", "_law_refused", "_law_bent", "SignsError", "BadRun", "BadText", "__name__", "MOST_SIGNS", "MOST_BITS", "FIGURES"] : List Str)
abbrev R : PySem.W.OpenRow := PySem.W.OpenLaw.row PySem.Challenge.rw_signskept_k31_runs_as_text
abbrev hk : PySem.W.Hook := hookM 7 exL dsL txL
def ob (s : PySem.W.SharedT) : AlM := obsMG 7 exL dsL txL (HandSHeadRun.getT s)
theorem ob_eq (s : PySem.W.SharedT) : ob s = hk.obs s.abs := obsMG_eq (HandSHeadRun.getT_eq s)
abbrev RunP (w : World) : Prop := HandSHeadRun.RunEq R (PySem.W.view R.prog [22]) hk ob 20000 looseL w
theorem run0 (w : World) : RunP (w.withFollow "special-get-raises" false) := by
  intro os
  kernel_rfl
theorem run1 (w : World) : RunP (w.withFollow "special-get-raises" true) := by
  intro os
  kernel_rfl
theorem run (w : World) : HandSHeadRun.RunEq R (PySem.W.view R.prog [22]) hk ob 20000 looseL w := PySem.W.byRow2 "special-get-raises" (P := RunP) run0 run1 w
structure C (Z : Sta) : Prop extends Ctx exL dsL txL da ca names Z where
  sp : SupP Z.P fileL
section
variable {Z : Sta}
theorem mkx_BadRun (c : C Z) : MakesX Z 501 := makesX_of (D := aG "SignsError" Z.K) (d := mx_SignsError) fam_VE c.sp (by rw [c.G]; exact c.at_ 31 rfl) (c.at_ 30 rfl) (c.ds mx_SignsError (List.mem_of_getElem? (i := 13) rfl)) (c.fre 29 rfl) rfl rfl (by decide +kernel) (fun _ _ _ _ _ _ _ _ _ => rfl) rfl (fun _ => ⟨_, rfl⟩)
theorem mkx_BadText (c : C Z) : MakesX Z 502 := makesX_of (D := aG "SignsError" Z.K) (d := mx_SignsError) fam_VE c.sp (by rw [c.G]; exact c.at_ 33 rfl) (c.at_ 30 rfl) (c.ds mx_SignsError (List.mem_of_getElem? (i := 13) rfl)) (c.fre 29 rfl) rfl rfl (by decide +kernel) (fun _ _ _ _ _ _ _ _ _ => rfl) rfl (fun _ => ⟨_, rfl⟩)
theorem okx_ok (c : C Z) : ∀ k, okx k = true → ExK Z.K (Z.G k) := fun k h => by
  have hm : k ∈ ([501, 502] : List Nat) := by simpa [okx] using h
  simp only [List.mem_cons, List.not_mem_nil, or_false] at hm
  rcases hm with rfl | rfl
  · rw [c.G]; exact exB_ok (c.at_ 32 rfl)
  · rw [c.G]; exact exB_ok (c.at_ 34 rfl)
theorem exm_BadRun (c : C Z) : ∀ k b, look2 exmL 501 k = some b → PySem.W.exmOne Z.K (.ref (Z.G k)) (.ref (Z.G 501)) = some b := fun k b e => by
  have hm := look2_mem e
  unfold exmL at hm
  simp only [List.mem_cons, List.not_mem_nil, or_false, Prod.mk.injEq] at hm
  rcases hm with ⟨rfl, h, rfl⟩ | ⟨rfl, h, rfl⟩ | ⟨rfl, h, rfl⟩ | ⟨rfl, h, rfl⟩
  · first | (cases h; done) | (rw [c.G]; exact exmB_ok (c.at_ 35 rfl))
  · first | (cases h; done) | (rw [c.G]; exact exmB_ok (c.at_ 36 rfl))
  · first | (cases h; done) | (rw [c.G]; exact exmB_ok (c.at_ 37 rfl))
  · first | (cases h; done) | (rw [c.G]; exact exmB_ok (c.at_ 38 rfl))
theorem exm_BadText (c : C Z) : ∀ k b, look2 exmL 502 k = some b → PySem.W.exmOne Z.K (.ref (Z.G k)) (.ref (Z.G 502)) = some b := fun k b e => by
  have hm := look2_mem e
  unfold exmL at hm
  simp only [List.mem_cons, List.not_mem_nil, or_false, Prod.mk.injEq] at hm
  rcases hm with ⟨rfl, h, rfl⟩ | ⟨rfl, h, rfl⟩ | ⟨rfl, h, rfl⟩ | ⟨rfl, h, rfl⟩
  · first | (cases h; done) | (rw [c.G]; exact exmB_ok (c.at_ 35 rfl))
  · first | (cases h; done) | (rw [c.G]; exact exmB_ok (c.at_ 36 rfl))
  · first | (cases h; done) | (rw [c.G]; exact exmB_ok (c.at_ 37 rfl))
  · first | (cases h; done) | (rw [c.G]; exact exmB_ok (c.at_ 38 rfl))
theorem ct_ok (c : C Z) : CmpTOk Z ct := ⟨c.nm _ rfl, c.nm _ rfl, c.nm _ rfl, c.nm _ rfl, c.nm _ rfl, (fun k hk => nomatch hk), (fun k hk => nomatch hk)⟩
theorem isa_all (c : C Z) : ∀ e ∈ isaL, (100 ≤ e.1 → OwnTy Z (e.1 - 100)) ∧ PySem.W.kitOne Z.K (tyV Z e.1) (tyV Z e.2.1) = some e.2.2 :=
  (List.forall_mem_cons.mpr ⟨⟨(fun h => absurd h (by decide)), by show PySem.W.kitOne Z.K (tyW Z.G _) (tyW Z.G _) = _; rw [c.G]; exact kitB_ok (c.at_ 39 rfl)⟩, (List.forall_mem_cons.mpr ⟨⟨(fun h => absurd h (by decide)), by show PySem.W.kitOne Z.K (tyW Z.G _) (tyW Z.G _) = _; rw [c.G]; exact kitB_ok (c.at_ 40 rfl)⟩, (List.forall_mem_cons.mpr ⟨⟨(fun h => absurd h (by decide)), by show PySem.W.kitOne Z.K (tyW Z.G _) (tyW Z.G _) = _; rw [c.G]; exact kitB_ok (c.at_ 41 rfl)⟩, (List.forall_mem_cons.mpr ⟨⟨(fun h => absurd h (by decide)), by show PySem.W.kitOne Z.K (tyW Z.G _) (tyW Z.G _) = _; rw [c.G]; exact kitB_ok (c.at_ 42 rfl)⟩, (List.forall_mem_cons.mpr ⟨⟨(fun h => absurd h (by decide)), by show PySem.W.kitOne Z.K (tyW Z.G _) (tyW Z.G _) = _; rw [c.G]; exact kitB_ok (c.at_ 43 rfl)⟩, (List.forall_mem_cons.mpr ⟨⟨(fun h => absurd h (by decide)), by show PySem.W.kitOne Z.K (tyW Z.G _) (tyW Z.G _) = _; rw [c.G]; exact kitB_ok (c.at_ 44 rfl)⟩, (List.forall_mem_cons.mpr ⟨⟨(fun h => absurd h (by decide)), by show PySem.W.kitOne Z.K (tyW Z.G _) (tyW Z.G _) = _; rw [c.G]; exact kitB_ok (c.at_ 45 rfl)⟩, (List.forall_mem_cons.mpr ⟨⟨(fun h => absurd h (by decide)), by show PySem.W.kitOne Z.K (tyW Z.G _) (tyW Z.G _) = _; rw [c.G]; exact kitB_ok (c.at_ 46 rfl)⟩, (List.forall_mem_cons.mpr ⟨⟨(fun h => absurd h (by decide)), by show PySem.W.kitOne Z.K (tyW Z.G _) (tyW Z.G _) = _; rw [c.G]; exact kitB_ok (c.at_ 47 rfl)⟩, (List.forall_mem_cons.mpr ⟨⟨(fun h => absurd h (by decide)), by show PySem.W.kitOne Z.K (tyW Z.G _) (tyW Z.G _) = _; rw [c.G]; exact kitB_ok (c.at_ 48 rfl)⟩, (List.forall_mem_cons.mpr ⟨⟨(fun h => absurd h (by decide)), by show PySem.W.kitOne Z.K (tyW Z.G _) (tyW Z.G _) = _; rw [c.G]; exact kitB_ok (c.at_ 49 rfl)⟩, (List.forall_mem_cons.mpr ⟨⟨(fun h => absurd h (by decide)), by show PySem.W.kitOne Z.K (tyW Z.G _) (tyW Z.G _) = _; rw [c.G]; exact kitB_ok (c.at_ 50 rfl)⟩, (List.forall_mem_cons.mpr ⟨⟨(fun h => absurd h (by decide)), by show PySem.W.kitOne Z.K (tyW Z.G _) (tyW Z.G _) = _; rw [c.G]; exact kitB_ok (c.at_ 51 rfl)⟩, (List.forall_mem_cons.mpr ⟨⟨(fun h => absurd h (by decide)), by show PySem.W.kitOne Z.K (tyW Z.G _) (tyW Z.G _) = _; rw [c.G]; exact kitB_ok (c.at_ 52 rfl)⟩, (List.forall_mem_cons.mpr ⟨⟨(fun h => absurd h (by decide)), by show PySem.W.kitOne Z.K (tyW Z.G _) (tyW Z.G _) = _; rw [c.G]; exact kitB_ok (c.at_ 53 rfl)⟩, (List.forall_mem_cons.mpr ⟨⟨(fun h => absurd h (by decide)), by show PySem.W.kitOne Z.K (tyW Z.G _) (tyW Z.G _) = _; rw [c.G]; exact kitB_ok (c.at_ 54 rfl)⟩, (List.forall_mem_cons.mpr ⟨⟨(fun h => absurd h (by decide)), by show PySem.W.kitOne Z.K (tyW Z.G _) (tyW Z.G _) = _; rw [c.G]; exact kitB_ok (c.at_ 55 rfl)⟩, (List.forall_mem_cons.mpr ⟨⟨(fun h => absurd h (by decide)), by show PySem.W.kitOne Z.K (tyW Z.G _) (tyW Z.G _) = _; rw [c.G]; exact kitB_ok (c.at_ 56 rfl)⟩, (List.forall_mem_cons.mpr ⟨⟨(fun h => absurd h (by decide)), by show PySem.W.kitOne Z.K (tyW Z.G _) (tyW Z.G _) = _; rw [c.G]; exact kitB_ok (c.at_ 57 rfl)⟩, (List.forall_mem_cons.mpr ⟨⟨(fun h => absurd h (by decide)), by show PySem.W.kitOne Z.K (tyW Z.G _) (tyW Z.G _) = _; rw [c.G]; exact kitB_ok (c.at_ 58 rfl)⟩, (List.forall_mem_cons.mpr ⟨⟨(fun h => absurd h (by decide)), by show PySem.W.kitOne Z.K (tyW Z.G _) (tyW Z.G _) = _; rw [c.G]; exact kitB_ok (c.at_ 59 rfl)⟩, (List.forall_mem_cons.mpr ⟨⟨(fun h => absurd h (by decide)), by show PySem.W.kitOne Z.K (tyW Z.G _) (tyW Z.G _) = _; rw [c.G]; exact kitB_ok (c.at_ 60 rfl)⟩, (List.forall_mem_cons.mpr ⟨⟨(fun h => absurd h (by decide)), by show PySem.W.kitOne Z.K (tyW Z.G _) (tyW Z.G _) = _; rw [c.G]; exact kitB_ok (c.at_ 61 rfl)⟩, (List.forall_mem_cons.mpr ⟨⟨(fun h => absurd h (by decide)), by show PySem.W.kitOne Z.K (tyW Z.G _) (tyW Z.G _) = _; rw [c.G]; exact kitB_ok (c.at_ 62 rfl)⟩, (List.forall_mem_cons.mpr ⟨⟨(fun h => absurd h (by decide)), by show PySem.W.kitOne Z.K (tyW Z.G _) (tyW Z.G _) = _; rw [c.G]; exact kitB_ok (c.at_ 63 rfl)⟩, (List.forall_mem_cons.mpr ⟨⟨(fun h => absurd h (by decide)), by show PySem.W.kitOne Z.K (tyW Z.G _) (tyW Z.G _) = _; rw [c.G]; exact kitB_ok (c.at_ 64 rfl)⟩, (List.forall_mem_cons.mpr ⟨⟨(fun h => absurd h (by decide)), by show PySem.W.kitOne Z.K (tyW Z.G _) (tyW Z.G _) = _; rw [c.G]; exact kitB_ok (c.at_ 65 rfl)⟩, (List.forall_mem_cons.mpr ⟨⟨(fun h => absurd h (by decide)), by show PySem.W.kitOne Z.K (tyW Z.G _) (tyW Z.G _) = _; rw [c.G]; exact kitB_ok (c.at_ 66 rfl)⟩, (fun k hk => nomatch hk)⟩)⟩)⟩)⟩)⟩)⟩)⟩)⟩)⟩)⟩)⟩)⟩)⟩)⟩)⟩)⟩)⟩)⟩)⟩)⟩)⟩)⟩)⟩)⟩)⟩)⟩)⟩)⟩)
theorem isa_ok (c : C Z) : IsaOk Z isa := fun t k b e => by
  unfold isa at e
  split at e
  · rename_i q eq
    cases e
    have h := List.find?_some eq
    rw [Bool.and_eq_true] at h
    have h1 := Nat.eq_of_beq_eq_true h.1
    have h2 := Nat.eq_of_beq_eq_true h.2
    have := isa_all c q (List.mem_of_find?_eq_some eq)
    rw [h1, h2] at this
    exact this
  · cases e
theorem mems_ok (c : C Z) : AllN (MemOk Z tbl) 0 mems := True.intro
theorem ar0 (c : C Z) : ArrOk Z tbl 0 (arrs.getD 0 []) := (arrOk_cons (arr_of (c.def_ 0 rfl) (by rw [c.G]; rfl) fun fd F => (bind_all F fun _ _ _ _ _ _ us hl => match us, hl with | [_], _ => rfl)) arrOk_nil)
theorem ar1 (c : C Z) : ArrOk Z tbl 1 (arrs.getD 1 []) := (arrOk_cons (arr_of (c.def_ 1 rfl) (by rw [c.G]; rfl) fun fd F => (bind_all F fun _ _ _ _ _ _ us hl => match us, hl with | [_, _, _], _ => rfl)) arrOk_nil)
theorem ar2 (c : C Z) : ArrOk Z tbl 2 (arrs.getD 2 []) := (arrOk_cons (arr_of (c.def_ 2 rfl) (by rw [c.G]; rfl) fun fd F => (bind_all F fun _ _ _ _ _ _ us hl => match us, hl with | [_], _ => rfl)) arrOk_nil)
theorem ar3 (c : C Z) : ArrOk Z tbl 3 (arrs.getD 3 []) := (arrOk_cons (arr_of (c.def_ 3 rfl) (by rw [c.G]; rfl) fun fd F => (bind_all F fun _ _ _ _ _ _ us hl => match us, hl with | [_], _ => rfl)) arrOk_nil)
theorem ar4 (c : C Z) : ArrOk Z tbl 4 (arrs.getD 4 []) := (arrOk_cons (arr_of (c.def_ 4 rfl) (by rw [c.G]; rfl) fun fd F => (bind_all F fun _ _ _ _ _ _ us hl => match us, hl with | [_], _ => rfl)) arrOk_nil)
theorem ar5 (c : C Z) : ArrOk Z tbl 5 (arrs.getD 5 []) := (arrOk_cons (arr_of (c.def_ 5 rfl) (by rw [c.G]; rfl) fun fd F => (bind_all F fun _ _ _ _ _ _ us hl => match us, hl with | [_, _], _ => rfl)) arrOk_nil)
theorem ar6 (c : C Z) : ArrOk Z tbl 6 (arrs.getD 6 []) := (arrOk_cons (arr_of (c.def_ 6 rfl) (by rw [c.G]; rfl) fun fd F => (bind_all F fun _ _ _ _ _ _ us hl => match us, hl with | [_, _], _ => rfl)) arrOk_nil)
theorem ar7 (c : C Z) : ArrOk Z tbl 7 (arrs.getD 7 []) := (arrOk_cons (arr_of (c.def_ 7 rfl) (by rw [c.G]; rfl) fun fd F => (bind_all F fun _ _ _ _ _ _ us hl => match us, hl with | [_], _ => rfl)) arrOk_nil)
theorem ar8 (c : C Z) : ArrOk Z tbl 8 (arrs.getD 8 []) := (arrOk_cons (arr_of (c.def_ 8 rfl) (by rw [c.G]; rfl) fun fd F => (bind_all F fun _ _ _ _ _ _ us hl => match us, hl with | [_], _ => rfl)) arrOk_nil)
theorem ar9 (c : C Z) : ArrOk Z tbl 9 (arrs.getD 9 []) := (arrOk_cons (arr_of (c.def_ 9 rfl) (by rw [c.G]; rfl) fun fd F => (bind_all F fun _ _ _ _ _ _ us hl => match us, hl with | [_], _ => rfl)) arrOk_nil)
theorem ar10 (c : C Z) : ArrOk Z tbl 10 (arrs.getD 10 []) := (arrOk_cons (arr_of (c.def_ 10 rfl) (by rw [c.G]; rfl) fun fd F => (bind_all F fun _ _ _ _ _ _ us hl => match us, hl with | [_], _ => rfl)) arrOk_nil)
theorem ar11 (c : C Z) : ArrOk Z tbl 11 (arrs.getD 11 []) := (arrOk_cons (arr_of (c.def_ 11 rfl) (by rw [c.G]; rfl) fun fd F => (bind_all F fun _ _ _ _ _ _ us hl => match us, hl with | [_, _], _ => rfl)) arrOk_nil)
theorem ar12 (c : C Z) : ArrOk Z tbl 12 (arrs.getD 12 []) := arrOk_nil
theorem arrs_ok (c : C Z) : AllN (ArrOk Z tbl) 0 arrs := ⟨ar0 c, ⟨ar1 c, ⟨ar2 c, ⟨ar3 c, ⟨ar4 c, ⟨ar5 c, ⟨ar6 c, ⟨ar7 c, ⟨ar8 c, ⟨ar9 c, ⟨ar10 c, ⟨ar11 c, ⟨ar12 c, True.intro⟩⟩⟩⟩⟩⟩⟩⟩⟩⟩⟩⟩⟩
theorem b0 (c : C Z) {lv : Nat} {T : Tab} (TO : TabOk Z lv T (fdOf Z) (psOf tbl)) (TH : ∀ g, decide (g < 13) = true → T.has g = true) (TA : ∀ g n ks {a : Arr}, arrOf arrs g n ks = some a → T.arr g n ks = some a) {X : Cx} {W : WX} (gd : Good Z lv X W) (D : DefX X ["thing"] (defScope st0) [0] [0] ["isinstance", "int", "bool"]) (hp : Hx X) (bx : Bx lv X (fdOf Z 0) "is_integer") : PSs X (defBody st0) (tS Z W (e0 T)) :=
    (ok_seqS (ok_retS (ok_andE gd.K (ok_blt gd (isiA_ok gd (isa_ok c)) (D_glo D 0 rfl).1 (c.fre 2 rfl) (by decide +kernel) (ok_cons (D_var D 0 rfl rfl) (ok_cons (D_ty D gd 1 rfl (c.fre 1 rfl) (by decide +kernel)) ok_nil rfl) rfl) rfl (D_glo D 0 rfl).2.2 (D_glo D 0 rfl).2.1) (e_one (ok_notE gd.K (ok_blt gd (isiA_ok gd (isa_ok c)) (D_glo D 0 rfl).1 (c.fre 2 rfl) (by decide +kernel) (ok_cons (D_var D 0 rfl rfl) (ok_cons (D_ty D gd 2 rfl (c.fre 3 rfl) (by decide +kernel)) ok_nil rfl) rfl) rfl (D_glo D 0 rfl).2.2 (D_glo D 0 rfl).2.1)))))
    ok_nilS)
theorem d0 (c : C Z) : DefOk Z tbl mems arrs 0 ⟨["thing"], 1, e0⟩ := defOk_of (d := md0) (N := ["thing"]) (vs := [0]) (ls := [0]) (gs := ["isinstance", "int", "bool"]) (c.def_ 0 rfl) (by rw [c.G]; rfl) ⟨rfl, rfl, rfl, by decide +kernel, rfl, by decide +kernel, by decide +kernel⟩ rfl (by decide +kernel) fun n X W TO gd D hp bx => b0 c TO (fun g h => has_ok h) (fun g n ks {a} h => arr_ok h) gd D hp bx
theorem b1 (c : C Z) {lv : Nat} {T : Tab} (TO : TabOk Z lv T (fdOf Z) (psOf tbl)) (TH : ∀ g, decide (g < 13) = true → T.has g = true) (TA : ∀ g n ks {a : Arr}, arrOf arrs g n ks = some a → T.arr g n ks = some a) {X : Cx} {W : WX} (gd : Good Z lv X W) (D : DefX X ["thing", "least", "most"] (defScope st1) [0, 1, 2] [0, 1, 2] ["is_integer"]) (hp : Hx X) (bx : Bx lv X (fdOf Z 1) "is_between") : PSs X (defBody st1) (tS Z W (e1 T)) :=
    (ok_seqS (ok_retS (ok_andE gd.K (ok_callG (ks := []) gd (TO.fn 0 (TH 0 rfl)) (TO.arr 0 1 [] _ (TA 0 1 [] rfl)) (D_glo D 0 rfl).1 (c.gloG 4 0 rfl rfl) (.cons (ok_cons (D_var D 0 rfl rfl) ok_nil rfl) rfl) .nil (D_glo D 0 rfl).2.1) (e_one (ok_chain (D_var D 1 rfl rfl) (D_var D 0 rfl rfl) (D_var D 2 rfl rfl) (cmpD2_ok .LtE TO gd (ct_ok c)) (cmpD2_ok .LtE TO gd (ct_ok c)) rfl))))
    ok_nilS)
theorem d1 (c : C Z) : DefOk Z tbl mems arrs 1 ⟨["thing", "least", "most"], 3, e1⟩ := defOk_of (d := md1) (N := ["thing", "least", "most"]) (vs := [0, 1, 2]) (ls := [0, 1, 2]) (gs := ["is_integer"]) (c.def_ 1 rfl) (by rw [c.G]; rfl) ⟨rfl, rfl, rfl, by decide +kernel, rfl, by decide +kernel, by decide +kernel⟩ rfl (by decide +kernel) fun n X W TO gd D hp bx => b1 c TO (fun g h => has_ok h) (fun g n ks {a} h => arr_ok h) gd D hp bx
theorem b2 (c : C Z) {lv : Nat} {T : Tab} (TO : TabOk Z lv T (fdOf Z) (psOf tbl)) (TH : ∀ g, decide (g < 13) = true → T.has g = true) (TA : ∀ g n ks {a : Arr}, arrOf arrs g n ks = some a → T.arr g n ks = some a) {X : Cx} {W : WX} (gd : Good Z lv X W) (D : DefX X ["run", "row", "bits"] (defScope st2) [0] [0] ["is_run_of_integers", "BadRun"]) (hp : Hx X) (bx : Bx lv X (fdOf Z 2) "format_run") : PSs X (defBody st2) (tS Z W (e2 T)) :=
    (ok_seqS (ok_ifS (ok_notB (ok_truth gd.K (ok_callG (ks := []) gd (TO.fn 3 (TH 3 rfl)) (TO.arr 3 1 [] _ (TA 3 1 [] rfl)) (D_glo D 0 rfl).1 (c.gloG 6 3 rfl rfl) (.cons (ok_cons (D_var D 0 rfl rfl) ok_nil rfl) rfl) .nil (D_glo D 0 rfl).2.1) (fun _ => rfl)))
    (ok_seqS (ok_raise gd (mkx_BadRun c) (D_glo D 1 rfl).1 (c.gloG 7 501 rfl rfl) (D_var D 0 rfl rfl) (D_glo D 1 rfl).2.1 rfl rfl)
    ok_nilS)
    ok_nilS)
    (ok_seqS (ok_retS (ok_join gd.K (c_str [59, 32] rfl rfl) (ok_lc [("row", 1)] (vs' := [1]) (ls' := [1]) (gs' := []) gd D (ok_valI gd.K (D_var D 0 rfl rfl)) (by decide +kernel) rfl (fun X1 gd1 D1 => ⟨(D_tgt gd1 D1 1 rfl rfl), pts_none, (ok_join gd1.K (c_str [32] rfl rfl) (ok_lc [("bits", 2)] (vs' := [2]) (ls' := [2]) (gs' := ["str"]) gd1 D1 (ok_valI gd1.K (D_var D1 1 rfl rfl)) (by decide +kernel) rfl (fun X2 gd2 D2 => ⟨(D_tgt gd2 D2 2 rfl rfl), pts_none, (ok_bltT gd2 (str_ok TO gd2 (ct_ok c)) (D_glo D2 0 rfl).1 (c.fre 5 rfl) (by decide +kernel) (ok_cons (D_var D2 2 rfl rfl) ok_nil rfl) rfl (D_glo D2 0 rfl).2.2 (D_glo D2 0 rfl).2.1)⟩) (fun _ => rfl)) rfl rfl rfl)⟩) (fun _ => rfl)) rfl rfl rfl))
    ok_nilS))
theorem d2 (c : C Z) : DefOk Z tbl mems arrs 2 ⟨["run"], 3, e2⟩ := defOk_of (d := md2) (N := ["run", "row", "bits"]) (vs := [0]) (ls := [0]) (gs := ["is_run_of_integers", "BadRun"]) (c.def_ 2 rfl) (by rw [c.G]; rfl) ⟨rfl, rfl, rfl, by decide +kernel, rfl, by decide +kernel, by decide +kernel⟩ rfl (by decide +kernel) fun n X W TO gd D hp bx => b2 c TO (fun g h => has_ok h) (fun g n ks {a} h => arr_ok h) gd D hp bx
theorem b3 (c : C Z) {lv : Nat} {T : Tab} (TO : TabOk Z lv T (fdOf Z) (psOf tbl)) (TH : ∀ g, decide (g < 13) = true → T.has g = true) (TA : ∀ g n ks {a : Arr}, arrOf arrs g n ks = some a → T.arr g n ks = some a) {X : Cx} {W : WX} (gd : Good Z lv X W) (D : DefX X ["thing", "row", "bits"] (defScope st3) [0] [0] ["isinstance", "tuple", "len", "all"]) (hp : Hx X) (bx : Bx lv X (fdOf Z 3) "is_run_of_integers") : PSs X (defBody st3) (tS Z W (e3 T)) :=
    (ok_seqS (ok_ifS ((ok_orB (ok_notB (ok_truth gd.K (ok_blt gd (isiA_ok gd (isa_ok c)) (D_glo D 0 rfl).1 (c.fre 2 rfl) (by decide +kernel) (ok_cons (D_var D 0 rfl rfl) (ok_cons (D_ty D gd 1 rfl (c.fre 11 rfl) (by decide +kernel)) ok_nil rfl) rfl) rfl (D_glo D 0 rfl).2.2 (D_glo D 0 rfl).2.1) (fun _ => rfl))) (ok_orB (ok_cmpB (ok_blt gd (len_ok TO gd (ct_ok c)) (D_glo D 2 rfl).1 (c.fre 12 rfl) (by decide +kernel) (ok_cons (D_var D 0 rfl rfl) ok_nil rfl) rfl (D_glo D 2 rfl).2.2 (D_glo D 2 rfl).2.1) c_int (cmpD2_ok .NotEq TO gd (ct_ok c)) rfl) (t_or1 (ok_notB (ok_truth gd.K (ok_blt gd (all_ok gd) (D_glo D 3 rfl).1 (c.fre 10 rfl) (by decide +kernel) (ok_cons (ok_lc [("row", 1)] (vs' := [1]) (ls' := [1]) (gs' := ["isinstance", "tuple"]) gd D (ok_valI gd.K (D_var D 0 rfl rfl)) (by decide +kernel) rfl (fun X1 gd1 D1 => ⟨(D_tgt gd1 D1 1 rfl rfl), pts_none, (ok_blt gd1 (isiA_ok gd1 (isa_ok c)) (D_glo D1 0 rfl).1 (c.fre 2 rfl) (by decide +kernel) (ok_cons (D_var D1 1 rfl rfl) (ok_cons (D_ty D1 gd1 1 rfl (c.fre 11 rfl) (by decide +kernel)) ok_nil rfl) rfl) rfl (D_glo D1 0 rfl).2.2 (D_glo D1 0 rfl).2.1)⟩) (fun _ => rfl)) ok_nil rfl) rfl (D_glo D 3 rfl).2.2 (D_glo D 3 rfl).2.1) (fun _ => rfl))))))).pt
    (ok_seqS (ok_retS c_bl)
    ok_nilS)
    ok_nilS)
    (ok_seqS (ok_retS (ok_blt gd (all_ok gd) (D_glo D 3 rfl).1 (c.fre 10 rfl) (by decide +kernel) (ok_cons (ok_lc2 [("row", 1), ("bits", 2)] [2] (vs' := [1, 2]) (ls' := [1, 2]) (gs' := ["is_between", "MOST_BITS"]) gd D (ok_valI gd.K (D_var D 0 rfl rfl)) (by decide +kernel) rfl rfl rfl (fun X1 gd1 D1 => ⟨(D_tgt gd1 D1 1 rfl rfl), pts_none, (ok_valI gd1.K (D_var D1 1 rfl rfl)), (D_tgt gd1 D1 2 rfl rfl), pts_none, (ok_callG (ks := []) gd1 (TO.fn 1 (TH 1 rfl)) (TO.arr 1 3 [] _ (TA 1 3 [] rfl)) (D_glo D1 0 rfl).1 (c.gloG 9 1 rfl rfl) (.cons (ok_cons (D_var D1 2 rfl rfl) (ok_cons c_int (ok_cons (D_con D1 gd1 1 rfl (c.con 8 rfl)) ok_nil rfl) rfl) rfl) rfl) .nil (D_glo D1 0 rfl).2.1)⟩) (fun _ => rfl) (fun _ _ => rfl)) ok_nil rfl) rfl (D_glo D 3 rfl).2.2 (D_glo D 3 rfl).2.1))
    ok_nilS))
theorem d3 (c : C Z) : DefOk Z tbl mems arrs 3 ⟨["thing"], 3, e3⟩ := defOk_of (d := md3) (N := ["thing", "row", "bits"]) (vs := [0]) (ls := [0]) (gs := ["isinstance", "tuple", "len", "all"]) (c.def_ 3 rfl) (by rw [c.G]; rfl) ⟨rfl, rfl, rfl, by decide +kernel, rfl, by decide +kernel, by decide +kernel⟩ rfl (by decide +kernel) fun n X W TO gd D hp bx => b3 c TO (fun g h => has_ok h) (fun g n ks {a} h => arr_ok h) gd D hp bx
theorem b4 (c : C Z) {lv : Nat} {T : Tab} (TO : TabOk Z lv T (fdOf Z) (psOf tbl)) (TH : ∀ g, decide (g < 13) = true → T.has g = true) (TA : ∀ g n ks {a : Arr}, arrOf arrs g n ks = some a → T.arr g n ks = some a) {X : Cx} {W : WX} (gd : Good Z lv X W) (D : DefX X ["text", "rows", "words", "run", "row", "sign", "word"] (defScope st4) [0, 1, 2, 3] [0, 1, 2, 3] ["isinstance", "str", "len", "MOST_SIGNS", "all", "BadText", "tuple", "is_run_of_integers", "format_run"]) (hp : Hx X) (bx : Bx lv X (fdOf Z 4) "parse_run") : PSs X (defBody st4) (tS Z W (e4 T)) :=
    (ok_seqS (ok_ifS ((ok_orB (ok_notB (ok_truth gd.K (ok_blt gd (isiA_ok gd (isa_ok c)) (D_glo D 0 rfl).1 (c.fre 2 rfl) (by decide +kernel) (ok_cons (D_var D 0 rfl rfl) (ok_cons (D_ty D gd 1 rfl (c.fre 5 rfl) (by decide +kernel)) ok_nil rfl) rfl) rfl (D_glo D 0 rfl).2.2 (D_glo D 0 rfl).2.1) (fun _ => rfl))) (ok_orB (ok_cmpB (ok_blt gd (len_ok TO gd (ct_ok c)) (D_glo D 2 rfl).1 (c.fre 12 rfl) (by decide +kernel) (ok_cons (D_var D 0 rfl rfl) ok_nil rfl) rfl (D_glo D 2 rfl).2.2 (D_glo D 2 rfl).2.1) (D_con D gd 3 rfl (c.con 15 rfl)) (cmpD2_ok .Gt TO gd (ct_ok c)) rfl) (t_or1 (ok_notB (ok_truth gd.K (ok_blt gd (all_ok gd) (D_glo D 4 rfl).1 (c.fre 10 rfl) (by decide +kernel) (ok_cons (ok_lc [("sign", 5)] (vs' := [5]) (ls' := [5]) (gs' := ["FIGURES"]) gd D (ok_valI gd.K (D_var D 0 rfl rfl)) (by decide +kernel) rfl (fun X1 gd1 D1 => ⟨(D_tgt gd1 D1 5 rfl rfl), pts_none, (ok_cmp (D_var D1 5 rfl rfl) (ok_bin (D_con D1 gd1 0 rfl (c.con 16 rfl)) (c_str [59, 32] rfl rfl) (bin_ok .Add true gd1.K)) (cmpD2_ok .In TO gd1 (ct_ok c)) rfl)⟩) (fun _ => rfl)) ok_nil rfl) rfl (D_glo D 4 rfl).2.2 (D_glo D 4 rfl).2.1) (fun _ => rfl))))))).pt
    (ok_seqS (ok_raise gd (mkx_BadText c) (D_glo D 5 rfl).1 (c.gloG 14 502 rfl rfl) (D_var D 0 rfl rfl) (D_glo D 5 rfl).2.1 rfl rfl)
    ok_nilS)
    ok_nilS)
    (ok_seqS (ok_asg (ok_split (D_var D 0 rfl rfl) (c_str [59, 32] rfl rfl) rfl rfl rfl) (D_tgt gd D 1 rfl rfl) rfl rfl rfl)
    (ok_seqS (ok_setLc [("row", 4)] (vs' := [4]) (ls' := [4]) (gs' := []) gd D rfl rfl (by decide +kernel) rfl rfl (by decide +kernel) (ok_valI gd.K (D_var D 1 rfl rfl)) (by decide +kernel) rfl (fun X1 gd1 D1 => ⟨(D_tgt gd1 D1 4 rfl rfl), pts_none, (ok_ite (ok_cmpB (D_var D1 4 rfl rfl) (c_str [] rfl rfl) (cmpD2_ok .Eq TO gd1 (ct_ok c)) rfl) (ok_lst ok_nil) (ok_split (D_var D1 4 rfl rfl) (c_str [32] rfl rfl) rfl rfl rfl))⟩) (fun _ => rfl))
    (ok_seqS (ok_ifS ((ok_orB (ok_cmpB (ok_blt gd (len_ok TO gd (ct_ok c)) (D_glo D 2 rfl).1 (c.fre 12 rfl) (by decide +kernel) (ok_cons (D_var D 1 rfl rfl) ok_nil rfl) rfl (D_glo D 2 rfl).2.2 (D_glo D 2 rfl).2.1) c_int (cmpD2_ok .NotEq TO gd (ct_ok c)) rfl) (t_or1 (ok_notB (ok_truth gd.K (ok_blt gd (all_ok gd) (D_glo D 4 rfl).1 (c.fre 10 rfl) (by decide +kernel) (ok_cons (ok_lc2 [("row", 4), ("word", 6)] [6] (vs' := [4, 6]) (ls' := [4, 6]) (gs' := ["len"]) gd D (ok_valI gd.K (D_var D 2 rfl rfl)) (by decide +kernel) rfl rfl rfl (fun X1 gd1 D1 => ⟨(D_tgt gd1 D1 4 rfl rfl), pts_none, (ok_valI gd1.K (D_var D1 4 rfl rfl)), (D_tgt gd1 D1 6 rfl rfl), pts_none, (ok_andE gd1.K (ok_chain c_int (ok_blt gd1 (len_ok TO gd1 (ct_ok c)) (D_glo D1 0 rfl).1 (c.fre 12 rfl) (by decide +kernel) (ok_cons (D_var D1 6 rfl rfl) ok_nil rfl) rfl (D_glo D1 0 rfl).2.2 (D_glo D1 0 rfl).2.1) c_int (cmpD2_ok .LtE TO gd1 (ct_ok c)) (cmpD2_ok .LtE TO gd1 (ct_ok c)) rfl) (e_one (ok_isdigit (D_var D1 6 rfl rfl) rfl rfl)))⟩) (fun _ => rfl) (fun _ _ => rfl)) ok_nil rfl) rfl (D_glo D 4 rfl).2.2 (D_glo D 4 rfl).2.1) (fun _ => rfl)))))).pt
    (ok_seqS (ok_raise gd (mkx_BadText c) (D_glo D 5 rfl).1 (c.gloG 14 502 rfl rfl) (D_var D 0 rfl rfl) (D_glo D 5 rfl).2.1 rfl rfl)
    ok_nilS)
    ok_nilS)
    (ok_seqS (ok_asg (ok_bltT gd (tuple_ok gd) (D_glo D 6 rfl).1 (c.fre 11 rfl) (by decide +kernel) (ok_cons (ok_lc [("row", 4)] (vs' := [4]) (ls' := [4]) (gs' := ["tuple"]) gd D (ok_valI gd.K (D_var D 2 rfl rfl)) (by decide +kernel) rfl (fun X1 gd1 D1 => ⟨(D_tgt gd1 D1 4 rfl rfl), pts_none, (ok_bltT gd1 (tuple_ok gd1) (D_glo D1 0 rfl).1 (c.fre 11 rfl) (by decide +kernel) (ok_cons (ok_lc [("word", 6)] (vs' := [6]) (ls' := [6]) (gs' := ["int"]) gd1 D1 (ok_valI gd1.K (D_var D1 4 rfl rfl)) (by decide +kernel) rfl (fun X2 gd2 D2 => ⟨(D_tgt gd2 D2 6 rfl rfl), pts_none, (ok_bltT gd2 int3_ok (D_glo D2 0 rfl).1 (c.fre 1 rfl) (by decide +kernel) (ok_cons (D_var D2 6 rfl rfl) ok_nil rfl) rfl (D_glo D2 0 rfl).2.2 (D_glo D2 0 rfl).2.1)⟩) (fun _ => rfl)) ok_nil rfl) rfl (D_glo D1 0 rfl).2.2 (D_glo D1 0 rfl).2.1)⟩) (fun _ => rfl)) ok_nil rfl) rfl (D_glo D 6 rfl).2.2 (D_glo D 6 rfl).2.1) (D_tgt gd D 3 rfl rfl) rfl rfl rfl)
    (ok_seqS (ok_ifS ((ok_orB (ok_notB (ok_truth gd.K (ok_callG (ks := []) gd (TO.fn 3 (TH 3 rfl)) (TO.arr 3 1 [] _ (TA 3 1 [] rfl)) (D_glo D 7 rfl).1 (c.gloG 6 3 rfl rfl) (.cons (ok_cons (D_var D 3 rfl rfl) ok_nil rfl) rfl) .nil (D_glo D 7 rfl).2.1) (fun _ => rfl))) (t_or1 (ok_cmpB (ok_callG (ks := []) gd (TO.fn 2 (TH 2 rfl)) (TO.arr 2 1 [] _ (TA 2 1 [] rfl)) (D_glo D 8 rfl).1 (c.gloG 13 2 rfl rfl) (.cons (ok_cons (D_var D 3 rfl rfl) ok_nil rfl) rfl) .nil (D_glo D 8 rfl).2.1) (D_var D 0 rfl rfl) (cmpD2_ok .NotEq TO gd (ct_ok c)) rfl)))).pt
    (ok_seqS (ok_raise gd (mkx_BadText c) (D_glo D 5 rfl).1 (c.gloG 14 502 rfl rfl) (D_var D 0 rfl rfl) (D_glo D 5 rfl).2.1 rfl rfl)
    ok_nilS)
    ok_nilS)
    (ok_seqS (ok_retS (D_var D 3 rfl rfl))
    ok_nilS)))))))
theorem d4 (c : C Z) : DefOk Z tbl mems arrs 4 ⟨["text"], 7, e4⟩ := defOk_of (d := md4) (N := ["text", "rows", "words", "run", "row", "sign", "word"]) (vs := [0, 1, 2, 3]) (ls := [0, 1, 2, 3]) (gs := ["isinstance", "str", "len", "MOST_SIGNS", "all", "BadText", "tuple", "is_run_of_integers", "format_run"]) (c.def_ 4 rfl) (by rw [c.G]; rfl) ⟨rfl, rfl, rfl, by decide +kernel, rfl, by decide +kernel, by decide +kernel⟩ rfl (by decide +kernel) fun n X W TO gd D hp bx => b4 c TO (fun g h => has_ok h) (fun g n ks {a} h => arr_ok h) gd D hp bx
theorem b5 (c : C Z) {lv : Nat} {T : Tab} (TO : TabOk Z lv T (fdOf Z) (psOf tbl)) (TH : ∀ g, decide (g < 13) = true → T.has g = true) (TA : ∀ g n ks {a : Arr}, arrOf arrs g n ks = some a → T.arr g n ks = some a) {X : Cx} {W : WX} (gd : Good Z lv X W) (D : DefX X ["_law_script", "_law_k", "_law_cell", "_law_seed"] (defScope st5) [0, 1, 2, 3] [0, 1, 2, 3] ["len", "int"]) (hp : Hx X) (bx : Bx lv X (fdOf Z 5) "_law_pool") : PSs X (defBody st5) (tS Z W (e5 T)) :=
    (ok_seqS (ok_asg (ok_ite (ok_cmpB (D_var D 1 rfl rfl) (ok_blt gd (len_ok TO gd (ct_ok c)) (D_glo D 0 rfl).1 (c.fre 12 rfl) (by decide +kernel) (ok_cons (D_var D 0 rfl rfl) ok_nil rfl) rfl (D_glo D 0 rfl).2.2 (D_glo D 0 rfl).2.1) (cmpD2_ok .Lt TO gd (ct_ok c)) rfl) (ok_ix2 gd (D_var D 0 rfl rfl) (D_var D 1 rfl rfl) (fun _ _ => rfl)) c_int) (D_tgt gd D 2 rfl rfl) rfl rfl rfl)
    (ok_seqS (ok_asg (ok_bin (ok_bltT gd int1_ok (D_glo D 1 rfl).1 (c.fre 1 rfl) (by decide +kernel) (ok_cons (ok_bin (ok_bin (ok_bin (ok_bltT gd int1_ok (D_glo D 1 rfl).1 (c.fre 1 rfl) (by decide +kernel) (ok_cons (D_var D 2 rfl rfl) ok_nil rfl) rfl (D_glo D 1 rfl).2.2 (D_glo D 1 rfl).2.1) c_int (bin_ok .Mod true gd.K)) (ok_bin (ok_bin c_int (D_var D 1 rfl rfl) (bin_ok .Mult false gd.K)) (D_var D 1 rfl rfl) (bin_ok .Mult false gd.K)) (bin_ok .Add false gd.K)) c_int (bin_ok .Add false gd.K)) ok_nil rfl) rfl (D_glo D 1 rfl).2.2 (D_glo D 1 rfl).2.1) c_int (bin_ok .Mult false gd.K)) (D_tgt gd D 3 rfl rfl) rfl rfl rfl)
    (ok_seqS (ok_retS (ok_lst (ok_cons (ok_ite (ok_cmpB (D_var D 2 rfl rfl) (ok_bin c_int c_int (bin_ok .Pow true gd.K)) (cmpD2_ok .GtE TO gd (ct_ok c)) rfl) (D_var D 2 rfl rfl) c_int) (ok_cons (ok_bin (ok_bin (ok_bltT gd int1_ok (D_glo D 1 rfl).1 (c.fre 1 rfl) (by decide +kernel) (ok_cons (D_var D 3 rfl rfl) ok_nil rfl) rfl (D_glo D 1 rfl).2.2 (D_glo D 1 rfl).2.1) c_int (bin_ok .Mod true gd.K)) c_int (bin_ok .Add false gd.K)) ok_nil rfl) rfl)))
    ok_nilS)))
theorem d5 (c : C Z) : DefOk Z tbl mems arrs 5 ⟨["_law_script", "_law_k"], 4, e5⟩ := defOk_of (d := md5) (N := ["_law_script", "_law_k", "_law_cell", "_law_seed"]) (vs := [0, 1, 2, 3]) (ls := [0, 1, 2, 3]) (gs := ["len", "int"]) (c.def_ 5 rfl) (by rw [c.G]; rfl) ⟨rfl, rfl, rfl, by decide +kernel, rfl, by decide +kernel, by decide +kernel⟩ rfl (by decide +kernel) fun n X W TO gd D hp bx => b5 c TO (fun g h => has_ok h) (fun g n ks {a} h => arr_ok h) gd D hp bx
theorem b6 (c : C Z) {lv : Nat} {T : Tab} (TO : TabOk Z lv T (fdOf Z) (psOf tbl)) (TH : ∀ g, decide (g < 13) = true → T.has g = true) (TA : ∀ g n ks {a : Arr}, arrOf arrs g n ks = some a → T.arr g n ks = some a) {X : Cx} {W : WX} (gd : Good Z lv X W) (D : DefX X ["_law_pool_here", "_law_many", "_law_found"] (defScope st6) [0, 1, 2] [0, 1, 2] ["int"]) (hp : Hx X) (bx : Bx lv X (fdOf Z 6) "_law_take") : PSs X (defBody st6) (tS Z W (e6 T)) :=
    (ok_seqS (ok_ifS (ok_cmpB (ok_ix2 gd (D_var D 0 rfl rfl) c_int (fun _ _ => rfl)) c_int (cmpD2_ok .Gt TO gd (ct_ok c)) rfl)
    (ok_seqS (ok_asg (ok_bin (ok_bltT gd int1_ok (D_glo D 0 rfl).1 (c.fre 1 rfl) (by decide +kernel) (ok_cons (ok_ix2 gd (D_var D 0 rfl rfl) c_int (fun _ _ => rfl)) ok_nil rfl) rfl (D_glo D 0 rfl).2.2 (D_glo D 0 rfl).2.1) (D_var D 1 rfl rfl) (bin_ok .Mod true gd.K)) (D_tgt gd D 2 rfl rfl) rfl rfl rfl)
    (ok_seqS (ok_asg (ok_bin (ok_ix2 gd (D_var D 0 rfl rfl) c_int (fun _ _ => rfl)) (D_var D 1 rfl rfl) (bin_ok .FloorDiv true gd.K)) (ok_subT2 (W := W) gd (D_var D 0 rfl rfl) c_int (fun _ => rfl)) rfl rfl rfl)
    (ok_seqS (ok_retS (D_var D 2 rfl rfl))
    ok_nilS)))
    ok_nilS)
    (ok_seqS (ok_asg (ok_bin (ok_bltT gd int1_ok (D_glo D 0 rfl).1 (c.fre 1 rfl) (by decide +kernel) (ok_cons (ok_bin (ok_bin (ok_ix2 gd (D_var D 0 rfl rfl) c_int (fun _ _ => rfl)) c_int (bin_ok .Mult true gd.K)) c_int (bin_ok .Add true gd.K)) ok_nil rfl) rfl (D_glo D 0 rfl).2.2 (D_glo D 0 rfl).2.1) c_int (bin_ok .Mod true gd.K)) (ok_subT2 (W := W) gd (D_var D 0 rfl rfl) c_int (fun _ => rfl)) rfl rfl rfl)
    (ok_seqS (ok_retS (ok_bin (ok_bin (ok_bin (ok_bltT gd int1_ok (D_glo D 0 rfl).1 (c.fre 1 rfl) (by decide +kernel) (ok_cons (ok_bin (ok_ix2 gd (D_var D 0 rfl rfl) c_int (fun _ _ => rfl)) (ok_ix2 gd (D_var D 0 rfl rfl) c_int (fun _ _ => rfl)) (bin_ok .Mult true gd.K)) ok_nil rfl) rfl (D_glo D 0 rfl).2.2 (D_glo D 0 rfl).2.1) c_int (bin_ok .Mod true gd.K)) c_int (bin_ok .FloorDiv true gd.K)) (D_var D 1 rfl rfl) (bin_ok .Mod true gd.K)))
    ok_nilS)))
theorem d6 (c : C Z) : DefOk Z tbl mems arrs 6 ⟨["_law_pool_here", "_law_many"], 3, e6⟩ := defOk_of (d := md6) (N := ["_law_pool_here", "_law_many", "_law_found"]) (vs := [0, 1, 2]) (ls := [0, 1, 2]) (gs := ["int"]) (c.def_ 6 rfl) (by rw [c.G]; rfl) ⟨rfl, rfl, rfl, by decide +kernel, rfl, by decide +kernel, by decide +kernel⟩ rfl (by decide +kernel) fun n X W TO gd D hp bx => b6 c TO (fun g h => has_ok h) (fun g n ks {a} h => arr_ok h) gd D hp bx
theorem b7 (c : C Z) {lv : Nat} {T : Tab} (TO : TabOk Z lv T (fdOf Z) (psOf tbl)) (TH : ∀ g, decide (g < 13) = true → T.has g = true) (TA : ∀ g n ks {a : Arr}, arrOf arrs g n ks = some a → T.arr g n ks = some a) {X : Cx} {W : WX} (gd : Good Z lv X W) (D : DefX X ["_law_pool_here", "_law_some", "_law_turn"] (defScope st7) [0, 1] [0, 1] ["_law_take", "tuple", "range"]) (hp : Hx X) (bx : Bx lv X (fdOf Z 7) "_law_row") : PSs X (defBody st7) (tS Z W (e7 T)) :=
    (ok_seqS (ok_asg (ok_lst (ok_cons c_int (ok_cons c_int (ok_cons c_int (ok_cons c_int (ok_cons c_int (ok_cons (ok_callG (ks := []) gd (TO.fn 6 (TH 6 rfl)) (TO.arr 6 2 [] _ (TA 6 2 [] rfl)) (D_glo D 0 rfl).1 (c.gloG 17 6 rfl rfl) (.cons (ok_cons (D_var D 0 rfl rfl) (ok_cons c_int ok_nil rfl) rfl) rfl) .nil (D_glo D 0 rfl).2.1) ok_nil rfl) rfl) rfl) rfl) rfl) rfl)) (D_tgt gd D 1 rfl rfl) rfl rfl rfl)
    (ok_seqS (ok_retS (ok_bltT gd (tuple_ok gd) (D_glo D 1 rfl).1 (c.fre 11 rfl) (by decide +kernel) (ok_cons (ok_lc [("_law_turn", 2)] (vs' := [0, 1, 2]) (ls' := [2]) (gs' := ["_law_take"]) gd D (ok_rng1 gd rfl (D_glo D 2 rfl).1 (c.fre 18 rfl) (ok_callG (ks := []) gd (TO.fn 6 (TH 6 rfl)) (TO.arr 6 2 [] _ (TA 6 2 [] rfl)) (D_glo D 0 rfl).1 (c.gloG 17 6 rfl rfl) (.cons (ok_cons (D_var D 0 rfl rfl) (ok_cons c_int ok_nil rfl) rfl) rfl) .nil (D_glo D 0 rfl).2.1) rfl) (by decide +kernel) rfl (fun X1 gd1 D1 => ⟨(D_tgt gd1 D1 2 rfl rfl), pts_none, (ok_ix2 gd1 (D_var D1 1 rfl rfl) (ok_callG (ks := []) gd1 (TO.fn 6 (TH 6 rfl)) (TO.arr 6 2 [] _ (TA 6 2 [] rfl)) (D_glo D1 0 rfl).1 (c.gloG 17 6 rfl rfl) (.cons (ok_cons (D_var D1 0 rfl rfl) (ok_cons c_int ok_nil rfl) rfl) rfl) .nil (D_glo D1 0 rfl).2.1) (fun _ _ => rfl))⟩) (fun _ => rfl)) ok_nil rfl) rfl (D_glo D 1 rfl).2.2 (D_glo D 1 rfl).2.1))
    ok_nilS))
theorem d7 (c : C Z) : DefOk Z tbl mems arrs 7 ⟨["_law_pool_here"], 3, e7⟩ := defOk_of (d := md7) (N := ["_law_pool_here", "_law_some", "_law_turn"]) (vs := [0, 1]) (ls := [0, 1]) (gs := ["_law_take", "tuple", "range"]) (c.def_ 7 rfl) (by rw [c.G]; rfl) ⟨rfl, rfl, rfl, by decide +kernel, rfl, by decide +kernel, by decide +kernel⟩ rfl (by decide +kernel) fun n X W TO gd D hp bx => b7 c TO (fun g h => has_ok h) (fun g n ks {a} h => arr_ok h) gd D hp bx
theorem b8 (c : C Z) {lv : Nat} {T : Tab} (TO : TabOk Z lv T (fdOf Z) (psOf tbl)) (TH : ∀ g, decide (g < 13) = true → T.has g = true) (TA : ∀ g n ks {a : Arr}, arrOf arrs g n ks = some a → T.arr g n ks = some a) {X : Cx} {W : WX} (gd : Good Z lv X W) (D : DefX X ["_law_run", "_law_row_here", "_law_bits"] (defScope st8) [0] [0] []) (hp : Hx X) (bx : Bx lv X (fdOf Z 8) "_law_text") : PSs X (defBody st8) (tS Z W (e8 T)) :=
    (ok_seqS (ok_retS (ok_join gd.K (c_str [59, 32] rfl rfl) (ok_lc [("_law_row_here", 1)] (vs' := [1]) (ls' := [1]) (gs' := []) gd D (ok_valI gd.K (D_var D 0 rfl rfl)) (by decide +kernel) rfl (fun X1 gd1 D1 => ⟨(D_tgt gd1 D1 1 rfl rfl), pts_none, (ok_join gd1.K (c_str [32] rfl rfl) (ok_lc [("_law_bits", 2)] (vs' := [2]) (ls' := [2]) (gs' := ["str"]) gd1 D1 (ok_valI gd1.K (D_var D1 1 rfl rfl)) (by decide +kernel) rfl (fun X2 gd2 D2 => ⟨(D_tgt gd2 D2 2 rfl rfl), pts_none, (ok_bltT gd2 (str_ok TO gd2 (ct_ok c)) (D_glo D2 0 rfl).1 (c.fre 5 rfl) (by decide +kernel) (ok_cons (D_var D2 2 rfl rfl) ok_nil rfl) rfl (D_glo D2 0 rfl).2.2 (D_glo D2 0 rfl).2.1)⟩) (fun _ => rfl)) rfl rfl rfl)⟩) (fun _ => rfl)) rfl rfl rfl))
    ok_nilS)
theorem d8 (c : C Z) : DefOk Z tbl mems arrs 8 ⟨["_law_run"], 3, e8⟩ := defOk_of (d := md8) (N := ["_law_run", "_law_row_here", "_law_bits"]) (vs := [0]) (ls := [0]) (gs := []) (c.def_ 8 rfl) (by rw [c.G]; rfl) ⟨rfl, rfl, rfl, by decide +kernel, rfl, by decide +kernel, by decide +kernel⟩ rfl (by decide +kernel) fun n X W TO gd D hp bx => b8 c TO (fun g h => has_ok h) (fun g n ks {a} h => arr_ok h) gd D hp bx
theorem b9 (c : C Z) {lv : Nat} {T : Tab} (TO : TabOk Z lv T (fdOf Z) (psOf tbl)) (TH : ∀ g, decide (g < 13) = true → T.has g = true) (TA : ∀ g n ks {a : Arr}, arrOf arrs g n ks = some a → T.arr g n ks = some a) {X : Cx} {W : WX} (gd : Good Z lv X W) (D : DefX X ["_law_text_here", "_law_held", "e"] (defScope st9) [0, 1, 2] [0, 1, 2] ["parse_run", "BadText"]) (hp : Hx X) (bx : Bx lv X (fdOf Z 9) "_law_read") : PSs X (defBody st9) (tS Z W (e9 T)) :=
    (ok_seqS (ok_asg c_non (D_tgt gd D 1 rfl rfl) rfl rfl rfl)
    (ok_seqS (ok_tryD gd D hp (fun W pn1 xe1 gd D hp => (ok_seqS (ok_asg (ok_callG (ks := []) gd (TO.fn 4 (TH 4 rfl)) (TO.arr 4 1 [] _ (TA 4 1 [] rfl)) (D_glo D 0 rfl).1 (c.gloG 19 4 rfl rfl) (.cons (ok_cons (D_var D 0 rfl rfl) ok_nil rfl) rfl) .nil (D_glo D 0 rfl).2.1) (D_tgt gd D 1 rfl rfl) rfl rfl rfl)
    ok_nilS))
    (hd_nam gd D 2 rfl rfl 1 rfl (c.gloG 14 502 rfl rfl) (exm_BadText c) (fun _ _ _ _ _ hz hf => hd_lstD gd D 1 rfl rfl (.cons (it_str [116, 101, 120, 116] rfl rfl) rfl (.cons (it_valD gd D (okx_ok c) (i := 2) rfl rfl rfl rfl hz hf) rfl .nil)) rfl rfl) .nil) rfl)
    (ok_seqS (ok_retS (D_var D 1 rfl rfl))
    ok_nilS)))
theorem d9 (c : C Z) : DefOk Z tbl mems arrs 9 ⟨["_law_text_here"], 3, e9⟩ := defOk_of (d := md9) (N := ["_law_text_here", "_law_held", "e"]) (vs := [0, 1, 2]) (ls := [0, 1, 2]) (gs := ["parse_run", "BadText"]) (c.def_ 9 rfl) (by rw [c.G]; rfl) ⟨rfl, rfl, rfl, by decide +kernel, rfl, by decide +kernel, by decide +kernel⟩ rfl (by decide +kernel) fun n X W TO gd D hp bx => b9 c TO (fun g h => has_ok h) (fun g n ks {a} h => arr_ok h) gd D hp bx
theorem b10 (c : C Z) {lv : Nat} {T : Tab} (TO : TabOk Z lv T (fdOf Z) (psOf tbl)) (TH : ∀ g, decide (g < 13) = true → T.has g = true) (TA : ∀ g n ks {a : Arr}, arrOf arrs g n ks = some a → T.arr g n ks = some a) {X : Cx} {W : WX} (gd : Good Z lv X W) (D : DefX X ["_law_thing", "_law_held", "e"] (defScope st10) [0, 1, 2] [0, 1, 2] ["format_run", "BadRun"]) (hp : Hx X) (bx : Bx lv X (fdOf Z 10) "_law_refused") : PSs X (defBody st10) (tS Z W (e10 T)) :=
    (ok_seqS (ok_asg c_non (D_tgt gd D 1 rfl rfl) rfl rfl rfl)
    (ok_seqS (ok_tryD gd D hp (fun W pn1 xe1 gd D hp => (ok_seqS (ok_asg (ok_callG (ks := []) gd (TO.fn 2 (TH 2 rfl)) (TO.arr 2 1 [] _ (TA 2 1 [] rfl)) (D_glo D 0 rfl).1 (c.gloG 13 2 rfl rfl) (.cons (ok_cons (D_var D 0 rfl rfl) ok_nil rfl) rfl) .nil (D_glo D 0 rfl).2.1) (D_tgt gd D 1 rfl rfl) rfl rfl rfl)
    ok_nilS))
    (hd_nam gd D 2 rfl rfl 1 rfl (c.gloG 7 501 rfl rfl) (exm_BadRun c) (fun _ _ _ _ _ hz hf => hd_lstD gd D 1 rfl rfl (.cons (it_str [114, 117, 110] rfl rfl) rfl (.cons (it_valD gd D (okx_ok c) (i := 2) rfl rfl rfl rfl hz hf) rfl .nil)) rfl rfl) .nil) rfl)
    (ok_seqS (ok_retS (D_var D 1 rfl rfl))
    ok_nilS)))
theorem d10 (c : C Z) : DefOk Z tbl mems arrs 10 ⟨["_law_thing"], 3, e10⟩ := defOk_of (d := md10) (N := ["_law_thing", "_law_held", "e"]) (vs := [0, 1, 2]) (ls := [0, 1, 2]) (gs := ["format_run", "BadRun"]) (c.def_ 10 rfl) (by rw [c.G]; rfl) ⟨rfl, rfl, rfl, by decide +kernel, rfl, by decide +kernel, by decide +kernel⟩ rfl (by decide +kernel) fun n X W TO gd D hp bx => b10 c TO (fun g h => has_ok h) (fun g n ks {a} h => arr_ok h) gd D hp bx
theorem b11 (c : C Z) {lv : Nat} {T : Tab} (TO : TabOk Z lv T (fdOf Z) (psOf tbl)) (TH : ∀ g, decide (g < 13) = true → T.has g = true) (TA : ∀ g n ks {a : Arr}, arrOf arrs g n ks = some a → T.arr g n ks = some a) {X : Cx} {W : WX} (gd : Good Z lv X W) (D : DefX X ["_law_pool_here", "_law_text_here", "_law_at", "_law_sign", "_law_found"] (defScope st11) [0, 1, 2, 3, 4] [0, 1, 2, 3, 4] ["_law_take", "len"]) (hp : Hx X) (bx : Bx lv X (fdOf Z 11) "_law_bent") : PSs X (defBody st11) (tS Z W (e11 T)) :=
    (ok_seqS (ok_asg (ok_callG (ks := []) gd (TO.fn 6 (TH 6 rfl)) (TO.arr 6 2 [] _ (TA 6 2 [] rfl)) (D_glo D 0 rfl).1 (c.gloG 17 6 rfl rfl) (.cons (ok_cons (D_var D 0 rfl rfl) (ok_cons (ok_bin (ok_blt gd (len_ok TO gd (ct_ok c)) (D_glo D 1 rfl).1 (c.fre 12 rfl) (by decide +kernel) (ok_cons (D_var D 1 rfl rfl) ok_nil rfl) rfl (D_glo D 1 rfl).2.2 (D_glo D 1 rfl).2.1) c_int (bin_ok .Add true gd.K)) ok_nil rfl) rfl) rfl) .nil (D_glo D 0 rfl).2.1) (D_tgt gd D 2 rfl rfl) rfl rfl rfl)
    (ok_seqS (ok_asg (ok_ix2 gd (ok_lst (ok_cons (c_str [32] rfl rfl) (ok_cons (c_str [59] rfl rfl) (ok_cons (c_str [59, 32] rfl rfl) (ok_cons (c_str [48] rfl rfl) (ok_cons (c_str [57] rfl rfl) (ok_cons (c_str [45] rfl rfl) (ok_cons (c_str [97] rfl rfl) (ok_cons (c_str [10] rfl rfl) (ok_cons (c_str [43] rfl rfl) ok_nil rfl) rfl) rfl) rfl) rfl) rfl) rfl) rfl) rfl)) (ok_callG (ks := []) gd (TO.fn 6 (TH 6 rfl)) (TO.arr 6 2 [] _ (TA 6 2 [] rfl)) (D_glo D 0 rfl).1 (c.gloG 17 6 rfl rfl) (.cons (ok_cons (D_var D 0 rfl rfl) (ok_cons c_int ok_nil rfl) rfl) rfl) .nil (D_glo D 0 rfl).2.1) (fun _ _ => rfl)) (D_tgt gd D 3 rfl rfl) rfl rfl rfl)
    (ok_seqS (ok_asg (ok_lst (ok_cons (ok_bin (ok_bin (ok_sl gd.K (D_var D 1 rfl rfl) .none (.some (D_var D 2 rfl rfl))) (D_var D 3 rfl rfl) (bin_ok .Add true gd.K)) (ok_sl gd.K (D_var D 1 rfl rfl) (.some (D_var D 2 rfl rfl)) .none) (bin_ok .Add true gd.K)) (ok_cons (ok_bin (ok_sl gd.K (D_var D 1 rfl rfl) .none (.some (D_var D 2 rfl rfl))) (ok_sl gd.K (D_var D 1 rfl rfl) (.some (ok_bin (D_var D 2 rfl rfl) c_int (bin_ok .Add true gd.K))) .none) (bin_ok .Add true gd.K)) (ok_cons (ok_bin (ok_bin (ok_sl gd.K (D_var D 1 rfl rfl) .none (.some (D_var D 2 rfl rfl))) (D_var D 3 rfl rfl) (bin_ok .Add true gd.K)) (ok_sl gd.K (D_var D 1 rfl rfl) (.some (ok_bin (D_var D 2 rfl rfl) c_int (bin_ok .Add true gd.K))) .none) (bin_ok .Add true gd.K)) (ok_cons (ok_bin (D_var D 1 rfl rfl) (c_str [32] rfl rfl) (bin_ok .Add true gd.K)) ok_nil rfl) rfl) rfl) rfl)) (D_tgt gd D 4 rfl rfl) rfl rfl rfl)
    (ok_seqS (ok_retS (ok_bin (D_var D 4 rfl rfl) (ok_lstU (c_str [32] rfl rfl) (D_var D 1 rfl rfl) (bin_ok .Add true gd.K) (pat_consA (pet_rep (y := [59, 32]) (z := [59]) (D_var D 1 rfl rfl) (by decide +kernel) rfl rfl rfl) (pat_consA (petE (ok_bin (D_var D 1 rfl rfl) (c_str [10] rfl rfl) (bin_ok .Add true gd.K))) (pat_consA (petE (ok_sl gd.K (D_var D 1 rfl rfl) .none (.some (D_var D 2 rfl rfl)))) (pat_consA (petE (ok_bin (D_var D 1 rfl rfl) (c_str [59, 32, 53] rfl rfl) (bin_ok .Add true gd.K))) (pat_consA (pet_rep (y := [32]) (z := [32, 32]) (D_var D 1 rfl rfl) (by decide +kernel) rfl rfl rfl) pat_nilA rfl) rfl) rfl) rfl) rfl) rfl) (bin_ok .Add true gd.K)))
    ok_nilS))))
theorem d11 (c : C Z) : DefOk Z tbl mems arrs 11 ⟨["_law_pool_here", "_law_text_here"], 5, e11⟩ := defOk_of (d := md11) (N := ["_law_pool_here", "_law_text_here", "_law_at", "_law_sign", "_law_found"]) (vs := [0, 1, 2, 3, 4]) (ls := [0, 1, 2, 3, 4]) (gs := ["_law_take", "len"]) (c.def_ 11 rfl) (by rw [c.G]; rfl) ⟨rfl, rfl, rfl, by decide +kernel, rfl, by decide +kernel, by decide +kernel⟩ rfl (by decide +kernel) fun n X W TO gd D hp bx => b11 c TO (fun g h => has_ok h) (fun g n ks {a} h => arr_ok h) gd D hp bx
theorem b12 (c : C Z) {lv : Nat} {T : Tab} (TO : TabOk Z lv T (fdOf Z) (psOf tbl)) (TH : ∀ g, decide (g < 13) = true → T.has g = true) (TA : ∀ g n ks {a : Arr}, arrOf arrs g n ks = some a → T.arr g n ks = some a) {X : Cx} {W : WX} (gd : Good Z lv X W) (D : DefX X ["_law_script", "_law_k", "_law_pool_here", "_law_run", "_law_text_here", "_law_turn", "_law_bent_here", "_law_told", "_law_thing", "_law_some", "_law_odd"] (defScope st12) [0, 1, 2, 3, 4, 5, 6, 7, 8, 9, 10] [0, 1, 2, 3, 4, 5, 6, 7, 8, 9, 10] ["range", "max", "min", "len", "_law_pool", "_law_row", "_law_text", "format_run", "parse_run", "isinstance", "tuple", "_law_bent", "_law_read", "list", "_law_refused"]) (hp : Hx X) (bx : Bx lv X (fdOf Z 12) "law") : PSs X (defBody st12) (tS Z W (e12 T)) :=
    (ok_seqS (ok_for hp.po gd.calm (ok_rng1 gd rfl (D_glo D 0 rfl).1 (c.fre 18 rfl) (ok_blt gd (max2_ok gd) (D_glo D 1 rfl).1 (c.fre 21 rfl) (by decide +kernel) (ok_cons c_int (ok_cons (ok_blt gd (min2_ok gd) (D_glo D 2 rfl).1 (c.fre 20 rfl) (by decide +kernel) (ok_cons (ok_blt gd (len_ok TO gd (ct_ok c)) (D_glo D 3 rfl).1 (c.fre 12 rfl) (by decide +kernel) (ok_cons (D_var D 0 rfl rfl) ok_nil rfl) rfl (D_glo D 3 rfl).2.2 (D_glo D 3 rfl).2.1) (ok_cons c_int ok_nil rfl) rfl) rfl (D_glo D 2 rfl).2.2 (D_glo D 2 rfl).2.1) ok_nil rfl) rfl) rfl (D_glo D 1 rfl).2.2 (D_glo D 1 rfl).2.1) rfl) (D_tgt gd D 1 rfl rfl)
    (ok_seqS (ok_asg (ok_callG (ks := []) gd (TO.fn 5 (TH 5 rfl)) (TO.arr 5 2 [] _ (TA 5 2 [] rfl)) (D_glo D 4 rfl).1 (c.gloG 28 5 rfl rfl) (.cons (ok_cons (D_var D 0 rfl rfl) (ok_cons (D_var D 1 rfl rfl) ok_nil rfl) rfl) rfl) .nil (D_glo D 4 rfl).2.1) (D_tgt gd D 2 rfl rfl) rfl rfl rfl)
    (ok_seqS (ok_asg (ok_tup (ok_cons (ok_callG (ks := []) gd (TO.fn 7 (TH 7 rfl)) (TO.arr 7 1 [] _ (TA 7 1 [] rfl)) (D_glo D 5 rfl).1 (c.gloG 27 7 rfl rfl) (.cons (ok_cons (D_var D 2 rfl rfl) ok_nil rfl) rfl) .nil (D_glo D 5 rfl).2.1) (ok_cons (ok_callG (ks := []) gd (TO.fn 7 (TH 7 rfl)) (TO.arr 7 1 [] _ (TA 7 1 [] rfl)) (D_glo D 5 rfl).1 (c.gloG 27 7 rfl rfl) (.cons (ok_cons (D_var D 2 rfl rfl) ok_nil rfl) rfl) .nil (D_glo D 5 rfl).2.1) ok_nil rfl) rfl)) (D_tgt gd D 3 rfl rfl) rfl rfl rfl)
    (ok_seqS (ok_asg (ok_callG (ks := []) gd (TO.fn 8 (TH 8 rfl)) (TO.arr 8 1 [] _ (TA 8 1 [] rfl)) (D_glo D 6 rfl).1 (c.gloG 26 8 rfl rfl) (.cons (ok_cons (D_var D 3 rfl rfl) ok_nil rfl) rfl) .nil (D_glo D 6 rfl).2.1) (D_tgt gd D 4 rfl rfl) rfl rfl rfl)
    (ok_seqS (ok_ifS ((ok_orB (ok_cmpB (ok_callG (ks := []) gd (TO.fn 2 (TH 2 rfl)) (TO.arr 2 1 [] _ (TA 2 1 [] rfl)) (D_glo D 7 rfl).1 (c.gloG 13 2 rfl rfl) (.cons (ok_cons (D_var D 3 rfl rfl) ok_nil rfl) rfl) .nil (D_glo D 7 rfl).2.1) (D_var D 4 rfl rfl) (cmpD2_ok .NotEq TO gd (ct_ok c)) rfl) (ok_orB (ok_cmpB (ok_callG (ks := []) gd (TO.fn 4 (TH 4 rfl)) (TO.arr 4 1 [] _ (TA 4 1 [] rfl)) (D_glo D 8 rfl).1 (c.gloG 19 4 rfl rfl) (.cons (ok_cons (D_var D 4 rfl rfl) ok_nil rfl) rfl) .nil (D_glo D 8 rfl).2.1) (D_var D 3 rfl rfl) (cmpD2_ok .NotEq TO gd (ct_ok c)) rfl) (t_or1 (ok_notB (ok_truth gd.K (ok_blt gd (isiA_ok gd (isa_ok c)) (D_glo D 9 rfl).1 (c.fre 2 rfl) (by decide +kernel) (ok_cons (ok_callG (ks := []) gd (TO.fn 4 (TH 4 rfl)) (TO.arr 4 1 [] _ (TA 4 1 [] rfl)) (D_glo D 8 rfl).1 (c.gloG 19 4 rfl rfl) (.cons (ok_cons (D_var D 4 rfl rfl) ok_nil rfl) rfl) .nil (D_glo D 8 rfl).2.1) (ok_cons (D_ty D gd 10 rfl (c.fre 11 rfl) (by decide +kernel)) ok_nil rfl) rfl) rfl (D_glo D 9 rfl).2.2 (D_glo D 9 rfl).2.1) (fun _ => rfl))))))).pt
    (ok_seqS (ok_retS c_bl)
    ok_nilS)
    ok_nilS)
    (ok_seqS (ok_for hp.po gd.calm (ok_rng1 gd rfl (D_glo D 0 rfl).1 (c.fre 18 rfl) c_int rfl) (D_tgt gd D 5 rfl rfl)
    (ok_seqS (ok_for hp.po gd.calm (ok_valI gd.K (ok_callG (ks := []) gd (TO.fn 11 (TH 11 rfl)) (TO.arr 11 2 [] _ (TA 11 2 [] rfl)) (D_glo D 11 rfl).1 (c.gloG 25 11 rfl rfl) (.cons (ok_cons (D_var D 2 rfl rfl) (ok_cons (D_var D 4 rfl rfl) ok_nil rfl) rfl) rfl) .nil (D_glo D 11 rfl).2.1)) (D_tgt gd D 6 rfl rfl)
    (ok_seqS (ok_asg (ok_callG (ks := []) gd (TO.fn 9 (TH 9 rfl)) (TO.arr 9 1 [] _ (TA 9 1 [] rfl)) (D_glo D 12 rfl).1 (c.gloG 24 9 rfl rfl) (.cons (ok_cons (D_var D 6 rfl rfl) ok_nil rfl) rfl) .nil (D_glo D 12 rfl).2.1) (D_tgt gd D 7 rfl rfl) rfl rfl rfl)
    (ok_seqS (ok_ifS (ok_truth gd.K (ok_blt gd (isiA_ok gd (isa_ok c)) (D_glo D 9 rfl).1 (c.fre 2 rfl) (by decide +kernel) (ok_cons (D_var D 7 rfl rfl) (ok_cons (D_ty D gd 10 rfl (c.fre 11 rfl) (by decide +kernel)) ok_nil rfl) rfl) rfl (D_glo D 9 rfl).2.2 (D_glo D 9 rfl).2.1) (fun _ => rfl))
    (ok_seqS (ok_ifS (ok_cmpB (ok_callG (ks := []) gd (TO.fn 8 (TH 8 rfl)) (TO.arr 8 1 [] _ (TA 8 1 [] rfl)) (D_glo D 6 rfl).1 (c.gloG 26 8 rfl rfl) (.cons (ok_cons (D_var D 7 rfl rfl) ok_nil rfl) rfl) .nil (D_glo D 6 rfl).2.1) (D_var D 6 rfl rfl) (cmpD2_ok .NotEq TO gd (ct_ok c)) rfl)
    (ok_seqS (ok_retS c_bl)
    ok_nilS)
    ok_nilS)
    ok_nilS)
    (ok_seqS (ok_ifS (ok_cmpB (D_var D 7 rfl rfl) (ok_lst (ok_cons (c_str [116, 101, 120, 116] rfl rfl) (ok_cons (D_var D 6 rfl rfl) ok_nil rfl) rfl)) (cmpD2_ok .NotEq TO gd (ct_ok c)) rfl)
    (ok_seqS (ok_retS c_bl)
    ok_nilS)
    ok_nilS)
    ok_nilS))
    ok_nilS)) (fun _ => rfl))
    ok_nilS) (fun _ => rfl))
    (ok_seqS (ok_for hp.po gd.calm (ok_valI gd.K (ok_lst (ok_cons c_non (ok_cons c_int (ok_cons (c_str [] rfl rfl) (ok_cons (c_str [32] rfl rfl) (ok_cons (c_str [59] rfl rfl) (ok_cons (c_str [53] rfl rfl) (ok_cons (c_str [53, 59, 53] rfl rfl) (ok_cons (c_str [48, 53, 59, 32] rfl rfl) (ok_cons (c_str [52, 50, 57, 52, 57, 54, 55, 50, 57, 54, 59, 32] rfl rfl) (ok_cons (c_str [45, 49, 59, 32] rfl rfl) (ok_cons (c_str [97, 59, 32] rfl rfl) (ok_cons (c_str [53, 59, 32, 53, 59, 32, 53] rfl rfl) (ok_cons (ok_lst ok_nil) (ok_cons c_bl ok_nil rfl) rfl) rfl) rfl) rfl) rfl) rfl) rfl) rfl) rfl) rfl) rfl) rfl) rfl))) (D_tgt gd D 8 rfl rfl)
    (ok_seqS (ok_ifS (ok_cmpB (ok_callG (ks := []) gd (TO.fn 9 (TH 9 rfl)) (TO.arr 9 1 [] _ (TA 9 1 [] rfl)) (D_glo D 12 rfl).1 (c.gloG 24 9 rfl rfl) (.cons (ok_cons (D_var D 8 rfl rfl) ok_nil rfl) rfl) .nil (D_glo D 12 rfl).2.1) (ok_lst (ok_cons (c_str [116, 101, 120, 116] rfl rfl) (ok_cons (D_var D 8 rfl rfl) ok_nil rfl) rfl)) (cmpD2_ok .NotEq TO gd (ct_ok c)) rfl)
    (ok_seqS (ok_retS c_bl)
    ok_nilS)
    ok_nilS)
    ok_nilS) (fun _ => rfl))
    (ok_seqS (ok_ifS ((ok_orB (ok_cmpB (ok_callG (ks := []) gd (TO.fn 9 (TH 9 rfl)) (TO.arr 9 1 [] _ (TA 9 1 [] rfl)) (D_glo D 12 rfl).1 (c.gloG 24 9 rfl rfl) (.cons (ok_cons (ok_bin (ok_bin (c_str [53, 32] rfl rfl) c_int (mulX_ok gd.K)) (c_str [59, 32] rfl rfl) (bin_ok .Add true gd.K)) ok_nil rfl) rfl) .nil (D_glo D 12 rfl).2.1) (ok_lst (ok_cons (c_str [116, 101, 120, 116] rfl rfl) (ok_cons (ok_bin (ok_bin (c_str [53, 32] rfl rfl) c_int (mulX_ok gd.K)) (c_str [59, 32] rfl rfl) (bin_ok .Add true gd.K)) ok_nil rfl) rfl)) (cmpD2_ok .NotEq TO gd (ct_ok c)) rfl) (t_or1 (ok_cmpB (ok_callG (ks := []) gd (TO.fn 4 (TH 4 rfl)) (TO.arr 4 1 [] _ (TA 4 1 [] rfl)) (D_glo D 8 rfl).1 (c.gloG 19 4 rfl rfl) (.cons (ok_cons (c_str [59, 32] rfl rfl) ok_nil rfl) rfl) .nil (D_glo D 8 rfl).2.1) (ok_tup (ok_cons (ok_tup ok_nil) (ok_cons (ok_tup ok_nil) ok_nil rfl) rfl)) (cmpD2_ok .NotEq TO gd (ct_ok c)) rfl)))).pt
    (ok_seqS (ok_retS c_bl)
    ok_nilS)
    ok_nilS)
    (ok_seqS (ok_asg (ok_lst (ok_cons c_non (ok_cons c_int (ok_cons (D_var D 4 rfl rfl) (ok_cons (ok_sl gd.K (D_var D 3 rfl rfl) .none (.some c_int)) (ok_cons (ok_bltT gd (list2_ok gd) (D_glo D 13 rfl).1 (c.fre 23 rfl) (by decide +kernel) (ok_cons (D_var D 3 rfl rfl) ok_nil rfl) rfl (D_glo D 13 rfl).2.2 (D_glo D 13 rfl).2.1) (ok_cons (ok_tup (ok_cons (ok_ix2 gd (D_var D 3 rfl rfl) c_int (fun _ _ => rfl)) (ok_cons (ok_bltT gd (list2_ok gd) (D_glo D 13 rfl).1 (c.fre 23 rfl) (by decide +kernel) (ok_cons (ok_ix2 gd (D_var D 3 rfl rfl) c_int (fun _ _ => rfl)) ok_nil rfl) rfl (D_glo D 13 rfl).2.2 (D_glo D 13 rfl).2.1) ok_nil rfl) rfl)) (ok_cons (ok_tup (ok_cons (ok_tup (ok_cons (ok_una (.inl rfl) c_int) ok_nil rfl)) (ok_cons (ok_tup ok_nil) ok_nil rfl) rfl)) (ok_cons (ok_tup (ok_cons (ok_tup (ok_cons c_bl ok_nil rfl)) (ok_cons (ok_tup ok_nil) ok_nil rfl) rfl)) ok_nil rfl) rfl) rfl) rfl) rfl) rfl) rfl) rfl)) (D_tgt gd D 9 rfl rfl) rfl rfl rfl)
    (ok_seqS (ok_for hp.po gd.calm (ok_valI gd.K (ok_bin (D_var D 9 rfl rfl) (ok_lst (ok_cons (ok_tup (ok_cons (ok_tup (ok_cons c_int ok_nil rfl)) (ok_cons (ok_tup ok_nil) ok_nil rfl) rfl)) ok_nil rfl)) (bin_ok .Add true gd.K))) (D_tgt gd D 10 rfl rfl)
    (ok_seqS (ok_ifS (ok_cmpB (ok_callG (ks := []) gd (TO.fn 10 (TH 10 rfl)) (TO.arr 10 1 [] _ (TA 10 1 [] rfl)) (D_glo D 14 rfl).1 (c.gloG 22 10 rfl rfl) (.cons (ok_cons (D_var D 10 rfl rfl) ok_nil rfl) rfl) .nil (D_glo D 14 rfl).2.1) (ok_lst (ok_cons (c_str [114, 117, 110] rfl rfl) (ok_cons (D_var D 10 rfl rfl) ok_nil rfl) rfl)) (cmpD2_ok .NotEq TO gd (ct_ok c)) rfl)
    (ok_seqS (ok_retS c_bl)
    ok_nilS)
    ok_nilS)
    ok_nilS) (fun _ => rfl))
    ok_nilS))))))))) (fun _ => rfl))
    (ok_seqS (ok_retS c_bl)
    ok_nilS))
theorem d12 (c : C Z) : DefOk Z tbl mems arrs 12 ⟨["_law_script"], 11, e12⟩ := defOk_of (d := md12) (N := ["_law_script", "_law_k", "_law_pool_here", "_law_run", "_law_text_here", "_law_turn", "_law_bent_here", "_law_told", "_law_thing", "_law_some", "_law_odd"]) (vs := [0, 1, 2, 3, 4, 5, 6, 7, 8, 9, 10]) (ls := [0, 1, 2, 3, 4, 5, 6, 7, 8, 9, 10]) (gs := ["range", "max", "min", "len", "_law_pool", "_law_row", "_law_text", "format_run", "parse_run", "isinstance", "tuple", "_law_bent", "_law_read", "list", "_law_refused"]) (c.def_ 12 rfl) (by rw [c.G]; rfl) ⟨rfl, rfl, rfl, by decide +kernel, rfl, by decide +kernel, by decide +kernel⟩ rfl (by decide +kernel) fun n X W TO gd D hp bx => b12 c TO (fun g h => has_ok h) (fun g n ks {a} h => arr_ok h) gd D hp bx
theorem defs_ok (c : C Z) : AllN (DefOk Z tbl mems arrs) 0 tbl := ⟨d0 c, ⟨d1 c, ⟨d2 c, ⟨d3 c, ⟨d4 c, ⟨d5 c, ⟨d6 c, ⟨d7 c, ⟨d8 c, ⟨d9 c, ⟨d10 c, ⟨d11 c, ⟨d12 c, True.intro⟩⟩⟩⟩⟩⟩⟩⟩⟩⟩⟩⟩⟩
theorem tabs (c : C Z) (n : Nat) : TabOk Z (6 * n) (tabOf tbl mems arrs n) (fdOf Z) (psOf tbl) := tab_ok (defs_ok c) (mems_ok c) (arrs_ok c) n
end
/-! ### the law by the evaluator -/
--EVAL
abbrev TT (n : Nat) : Tab := tabOf tbl mems arrs n
theorem rn0 {n : Nat} : (TT (n + 1)).run 0 = runB 1 (e0 (TT n)) := rfl
theorem rn1 {n : Nat} : (TT (n + 1)).run 1 = runB 3 (e1 (TT n)) := rfl
theorem rn2 {n : Nat} : (TT (n + 1)).run 2 = runB 3 (e2 (TT n)) := rfl
theorem rn3 {n : Nat} : (TT (n + 1)).run 3 = runB 3 (e3 (TT n)) := rfl
theorem rn4 {n : Nat} : (TT (n + 1)).run 4 = runB 7 (e4 (TT n)) := rfl
theorem rn5 {n : Nat} : (TT (n + 1)).run 5 = runB 4 (e5 (TT n)) := rfl
theorem rn6 {n : Nat} : (TT (n + 1)).run 6 = runB 3 (e6 (TT n)) := rfl
theorem rn7 {n : Nat} : (TT (n + 1)).run 7 = runB 3 (e7 (TT n)) := rfl
theorem rn8 {n : Nat} : (TT (n + 1)).run 8 = runB 3 (e8 (TT n)) := rfl
theorem rn9 {n : Nat} : (TT (n + 1)).run 9 = runB 3 (e9 (TT n)) := rfl
theorem rn10 {n : Nat} : (TT (n + 1)).run 10 = runB 3 (e10 (TT n)) := rfl
theorem rn11 {n : Nat} : (TT (n + 1)).run 11 = runB 5 (e11 (TT n)) := rfl
theorem rn12 {n : Nat} : (TT (n + 1)).run 12 = runB 11 (e12 (TT n)) := rfl
theorem u_take {n : Nat} {S : Hs} {p q m : Int} {r : Nat} (hr : getR S r = some (cel p q)) (hp : PoolOk p q) (hm : 0 < m) (hl : m.natAbs < 2 ^ 100) : ∃ v p' q', 0 ≤ v ∧ v < m ∧ PoolOk p' q' ∧ (TT (n + 1)).run 6 [.loc r, .int m] S = .ok (.int v) (setR S r (cel p' q')) := by
  obtain ⟨h1, h2⟩ := hp
  have hlog : m.natAbs.log2 < 9000 := by have := log2_of hl (by decide); omega
  have x0 : ixV2 (.loc r) (.int 0) S = .ok (.int p) S := ix_at hr
  have x1 : ixV2 (.loc r) (.int 1) S = .ok (.int q) S := ix_at hr
  by_cases hp0 : 0 < p
  · refine ⟨p % m, p / m, q, Int.emod_nonneg _ (by omega), Int.emod_lt_of_pos _ hm, ⟨h1, h2⟩, ?_⟩
    rw [rn6]
    simp only [e6, x0, hp0, v_gt, v_int1, v_mod hm, v_fdiv hm hlog, v_name, v_re, v_reA, v_reB, v_reS, v_ra, v_raA, v_rb, v_rbB, v_rbS, v_rs, v_rt, v_seq, v_nil, v_ret, v_exp, v_if, v_asg, v_only, v_con, v_var0, v_varS, v_nilA, v_consA, v_bin, v_call, v_blt, v_and, v_or, v_not, v_okT, v_okB, v_okO, v_truBl, v_truInt, v_truB, v_cmpB, v_asB, v_andB, v_orB, v_notB, v_ite, v_noX, v_chain, v_useT, v_useF, v_b_int, v_i_int, v_b_str, v_add, v_sub, v_band, v_bor, v_bxor, v_mul, v_mod, v_fdiv, v_shl, v_shr, v_le, v_lt, v_eqI, v_neI, v_eqB, v_neB, v_setf, v_lst, v_una, v_attr, v_aug, v_name, List.length_cons, List.length_nil, Nat.zero_add, Nat.reduceAdd, Nat.reduceSub, and_self, if_true, if_false, Bool.false_eq_true, Bool.not_true, Bool.not_false, Bool.and_true, Bool.true_and, Bool.and_self, decide_true, decide_false, List.set_cons_zero, List.set_cons_succ, List.cons_append, List.nil_append, List.append_nil, cmpD2, cmpD, cmpV, ordV, runB, List.map_cons, List.map_nil, List.replicate, Nat.sub_self]
    rw [sub_at (S := S) (n := 0) (i := 0) (xs := [.int p, .int q]) rfl rfl hr rfl]
    simp only [v_re, v_reA, v_reB, v_reS, v_ra, v_raA, v_rb, v_rbB, v_rbS, v_rs, v_rt, v_seq, v_nil, v_ret, v_exp, v_if, v_asg, v_only, v_con, v_var0, v_varS, v_nilA, v_consA, v_bin, v_call, v_blt, v_and, v_or, v_not, v_okT, v_okB, v_okO, v_truBl, v_truInt, v_truB, v_cmpB, v_asB, v_andB, v_orB, v_notB, v_ite, v_noX, v_chain, v_useT, v_useF, v_b_int, v_i_int, v_b_str, v_add, v_sub, v_band, v_bor, v_bxor, v_mul, v_mod, v_fdiv, v_shl, v_shr, v_le, v_lt, v_eqI, v_neI, v_eqB, v_neB, v_setf, v_lst, v_una, v_attr, v_aug, v_name, List.length_cons, List.length_nil, Nat.zero_add, Nat.reduceAdd, Nat.reduceSub, and_self, if_true, if_false, Bool.false_eq_true, Bool.not_true, Bool.not_false, Bool.and_true, Bool.true_and, Bool.and_self, decide_true, decide_false, List.set_cons_zero, List.set_cons_succ, List.cons_append, List.nil_append, List.append_nil, cmpD2, cmpD, cmpV, ordV, runB, List.map_cons, List.map_nil, List.replicate, Nat.sub_self]
    rfl
  · refine ⟨((q * 48271 + 11) % 2147483647) * ((q * 48271 + 11) % 2147483647) % 2147483629 / 64 % m, p, (q * 48271 + 11) % 2147483647, Int.emod_nonneg _ (by omega), Int.emod_lt_of_pos _ hm, ⟨Int.emod_nonneg _ (by decide), by have := Int.emod_lt_of_pos (q * 48271 + 11) (show (0 : Int) < 2147483647 by decide); omega⟩, ?_⟩
    · rw [rn6]
      have k1 : mulOk q 48271 = true := mulOk_of (a := 40) (b := 40) (by omega) (by decide) (by decide) (by decide) (by decide)
      have hq1 : 0 ≤ (q * 48271 + 11) % 2147483647 ∧ (q * 48271 + 11) % 2147483647 < 2147483647 := ⟨Int.emod_nonneg _ (by decide), Int.emod_lt_of_pos _ (by decide)⟩
      have k2 : mulOk ((q * 48271 + 11) % 2147483647) ((q * 48271 + 11) % 2147483647) = true := mulOk_of (a := 40) (b := 40) (by omega) (by omega) (by decide) (by decide) (by decide)
      have y1 : ixV2 (.loc r) (.int 1) (setR S r (.lst [.int p, .int ((q * 48271 + 11) % 2147483647)])) = .ok (.int ((q * 48271 + 11) % 2147483647)) (setR S r (.lst [.int p, .int ((q * 48271 + 11) % 2147483647)])) := ix_at (getR_setR hr)
      simp only [e6, x0, x1, hp0, v_gt, v_int1, k1, v_mod (show (0 : Int) < 2147483647 by decide), v_name, v_re, v_reA, v_reB, v_reS, v_ra, v_raA, v_rb, v_rbB, v_rbS, v_rs, v_rt, v_seq, v_nil, v_ret, v_exp, v_if, v_asg, v_only, v_con, v_var0, v_varS, v_nilA, v_consA, v_bin, v_call, v_blt, v_and, v_or, v_not, v_okT, v_okB, v_okO, v_truBl, v_truInt, v_truB, v_cmpB, v_asB, v_andB, v_orB, v_notB, v_ite, v_noX, v_chain, v_useT, v_useF, v_b_int, v_i_int, v_b_str, v_add, v_sub, v_band, v_bor, v_bxor, v_mul, v_mod, v_fdiv, v_shl, v_shr, v_le, v_lt, v_eqI, v_neI, v_eqB, v_neB, v_setf, v_lst, v_una, v_attr, v_aug, v_name, List.length_cons, List.length_nil, Nat.zero_add, Nat.reduceAdd, Nat.reduceSub, and_self, if_true, if_false, Bool.false_eq_true, Bool.not_true, Bool.not_false, Bool.and_true, Bool.true_and, Bool.and_self, decide_true, decide_false, List.set_cons_zero, List.set_cons_succ, List.cons_append, List.nil_append, List.append_nil, cmpD2, cmpD, cmpV, ordV, runB, List.map_cons, List.map_nil, List.replicate, Nat.sub_self]
      rw [sub_at (S := S) (n := 1) (i := 1) (xs := [.int p, .int q]) rfl rfl hr rfl]
      simp only [List.set, y1, k2, v_int1, v_mod (show (0 : Int) < 2147483629 by decide), v_mod hm, v_fdiv (show (0 : Int) < 64 by decide) (by decide), v_re, v_reA, v_reB, v_reS, v_ra, v_raA, v_rb, v_rbB, v_rbS, v_rs, v_rt, v_seq, v_nil, v_ret, v_exp, v_if, v_asg, v_only, v_con, v_var0, v_varS, v_nilA, v_consA, v_bin, v_call, v_blt, v_and, v_or, v_not, v_okT, v_okB, v_okO, v_truBl, v_truInt, v_truB, v_cmpB, v_asB, v_andB, v_orB, v_notB, v_ite, v_noX, v_chain, v_useT, v_useF, v_b_int, v_i_int, v_b_str, v_add, v_sub, v_band, v_bor, v_bxor, v_mul, v_mod, v_fdiv, v_shl, v_shr, v_le, v_lt, v_eqI, v_neI, v_eqB, v_neB, v_setf, v_lst, v_una, v_attr, v_aug, v_name, List.length_cons, List.length_nil, Nat.zero_add, Nat.reduceAdd, Nat.reduceSub, and_self, if_true, if_false, Bool.false_eq_true, Bool.not_true, Bool.not_false, Bool.and_true, Bool.true_and, Bool.and_self, decide_true, decide_false, List.set_cons_zero, List.set_cons_succ, List.cons_append, List.nil_append, List.append_nil, cmpD2, cmpD, cmpV, ordV, runB, List.map_cons, List.map_nil, List.replicate, Nat.sub_self]
      rfl
theorem u_pool {n : Nat} {S : Hs} {ns : List Int} {k : Nat} (hk : k < 64) : ∃ p q, PoolOk p q ∧ (TT (n + 1)).run 5 [.scr ns, .int k] S = .ok (.loc S.length) (cel p q :: S) := by
  have key : ∃ i : Int, iteE (cmpB (binE (varE 1) (bltE (consA (varE 0) nilA) (lenD (TT n) ct)) (cmpD2 (TT n) ct .Lt))) (binE (varE 0) (varE 1) ixV2) (conE (.int 0)) [some (.scr ns), some (.int k), none, none] S = .ok (.int i) S := by
    by_cases h : k < ns.length
    · refine ⟨ns[k], ?_⟩
      have h' : (k : Int) < (ns.length : Int) := by omega
      simp only [v_lenS, ix_scr h, h', v_re, v_reA, v_reB, v_reS, v_ra, v_raA, v_rb, v_rbB, v_rbS, v_rs, v_rt, v_seq, v_nil, v_ret, v_exp, v_if, v_asg, v_only, v_con, v_var0, v_varS, v_nilA, v_consA, v_bin, v_call, v_blt, v_and, v_or, v_not, v_okT, v_okB, v_okO, v_truBl, v_truInt, v_truB, v_cmpB, v_asB, v_andB, v_orB, v_notB, v_ite, v_noX, v_chain, v_useT, v_useF, v_b_int, v_i_int, v_b_str, v_add, v_sub, v_band, v_bor, v_bxor, v_mul, v_mod, v_fdiv, v_shl, v_shr, v_le, v_lt, v_eqI, v_neI, v_eqB, v_neB, v_setf, v_lst, v_una, v_attr, v_aug, v_name, List.length_cons, List.length_nil, Nat.zero_add, Nat.reduceAdd, Nat.reduceSub, and_self, if_true, if_false, Bool.false_eq_true, Bool.not_true, Bool.not_false, Bool.and_true, Bool.true_and, Bool.and_self, decide_true, decide_false, List.set_cons_zero, List.set_cons_succ, List.cons_append, List.nil_append, List.append_nil, cmpD2, cmpD, cmpV, ordV, runB, List.map_cons, List.map_nil, List.replicate, Nat.sub_self]
    · refine ⟨0, ?_⟩
      have h' : ¬ (k : Int) < (ns.length : Int) := by omega
      simp only [v_lenS, h', v_re, v_reA, v_reB, v_reS, v_ra, v_raA, v_rb, v_rbB, v_rbS, v_rs, v_rt, v_seq, v_nil, v_ret, v_exp, v_if, v_asg, v_only, v_con, v_var0, v_varS, v_nilA, v_consA, v_bin, v_call, v_blt, v_and, v_or, v_not, v_okT, v_okB, v_okO, v_truBl, v_truInt, v_truB, v_cmpB, v_asB, v_andB, v_orB, v_notB, v_ite, v_noX, v_chain, v_useT, v_useF, v_b_int, v_i_int, v_b_str, v_add, v_sub, v_band, v_bor, v_bxor, v_mul, v_mod, v_fdiv, v_shl, v_shr, v_le, v_lt, v_eqI, v_neI, v_eqB, v_neB, v_setf, v_lst, v_una, v_attr, v_aug, v_name, List.length_cons, List.length_nil, Nat.zero_add, Nat.reduceAdd, Nat.reduceSub, and_self, if_true, if_false, Bool.false_eq_true, Bool.not_true, Bool.not_false, Bool.and_true, Bool.true_and, Bool.and_self, decide_true, decide_false, List.set_cons_zero, List.set_cons_succ, List.cons_append, List.nil_append, List.append_nil, cmpD2, cmpD, cmpV, ordV, runB, List.map_cons, List.map_nil, List.replicate, Nat.sub_self]
  obtain ⟨i, ei⟩ := key
  refine ⟨if 10 ^ 18 ≤ i then i else 0, (i % 2147483629 + 7919 * k * k + 13) * 48271 % 2147483647 + 1, ⟨?_, ?_⟩, ?_⟩
  · have := Int.emod_nonneg ((i % 2147483629 + 7919 * k * k + 13) * 48271) (show (2147483647 : Int) ≠ 0 by decide); omega
  · have := Int.emod_lt_of_pos ((i % 2147483629 + 7919 * k * k + 13) * 48271) (show (0 : Int) < 2147483647 by decide); omega
  · rw [rn5]
    have t10 : ∀ S : Hs, binV .Pow true (.int 10) (.int 18) S = .ok (.int (10 ^ 18)) S := fun _ => rfl
    have k1 : mulOk 7919 (k : Int) = true := mulOk_of (a := 40) (b := 40) (by decide) (by omega) (by decide) (by decide) (by decide)
    have k2 : mulOk (7919 * (k : Int)) (k : Int) = true := mulOk_of (a := 40) (b := 40) (by omega) (by omega) (by decide) (by decide) (by decide)
    have b0 : 0 ≤ i % 2147483629 ∧ i % 2147483629 < 2147483629 := ⟨Int.emod_nonneg _ (by decide), Int.emod_lt_of_pos _ (by decide)⟩
    have b1 : 7919 * (k : Int) * k ≤ 7919 * 64 * 64 := by
      have h1 : 7919 * (k : Int) ≤ 7919 * 64 := by omega
      exact Int.mul_le_mul h1 (by omega) (by omega) (by omega)
    have b2 : 0 ≤ 7919 * (k : Int) * k := Int.mul_nonneg (by omega) (by omega)
    have k3 : mulOk (i % 2147483629 + 7919 * (k : Int) * k + 13) 48271 = true := mulOk_of (a := 40) (b := 40) (by omega) (by decide) (by decide) (by decide) (by decide)
    simp only [e5, runB, v_seq, v_asg, List.map_cons, List.map_nil, List.length_cons, List.length_nil, Nat.reduceAdd, Nat.zero_add, Nat.reduceSub, List.replicate, List.cons_append, List.nil_append, ei]
    by_cases h : (10 : Int) ^ 18 ≤ i <;> simp only [h, v_name, List.set, v_int1, k1, k2, k3, t10, v_ge, v_mod (show (0 : Int) < 2147483629 by decide), v_mod (show (0 : Int) < 2147483647 by decide), v_re, v_reA, v_reB, v_reS, v_ra, v_raA, v_rb, v_rbB, v_rbS, v_rs, v_rt, v_seq, v_nil, v_ret, v_exp, v_if, v_asg, v_only, v_con, v_var0, v_varS, v_nilA, v_consA, v_bin, v_call, v_blt, v_and, v_or, v_not, v_okT, v_okB, v_okO, v_truBl, v_truInt, v_truB, v_cmpB, v_asB, v_andB, v_orB, v_notB, v_ite, v_noX, v_chain, v_useT, v_useF, v_b_int, v_i_int, v_b_str, v_add, v_sub, v_band, v_bor, v_bxor, v_mul, v_mod, v_fdiv, v_shl, v_shr, v_le, v_lt, v_eqI, v_neI, v_eqB, v_neB, v_setf, v_lst, v_una, v_attr, v_aug, v_name, List.length_cons, List.length_nil, Nat.zero_add, Nat.reduceAdd, Nat.reduceSub, and_self, if_true, if_false, Bool.false_eq_true, Bool.not_true, Bool.not_false, Bool.and_true, Bool.true_and, Bool.and_self, decide_true, decide_false, List.set_cons_zero, List.set_cons_succ, List.cons_append, List.nil_append, List.append_nil, cmpD2, cmpD, cmpV, ordV, runB, List.map_cons, List.map_nil, List.replicate, Nat.sub_self]
    · rfl
    · rfl
/-! ### drawing, from a pool somewhere -/
def HasPool (S : Hs) (r : Nat) : Prop := ∃ p q, getR S r = some (cel p q) ∧ PoolOk p q
theorem take1 {n : Nat} {S : Hs} {r : Nat} {m : Int} (h : HasPool S r) (hm : 0 < m) (hl : m.natAbs < 2 ^ 100) : ∃ v S', 0 ≤ v ∧ v < m ∧ HasPool S' r ∧ (TT (n + 1)).run 6 [.loc r, .int m] S = .ok (.int v) S' := by
  obtain ⟨p, q, hr, hp⟩ := h
  obtain ⟨v, p', q', h1, h2, h3, e⟩ := u_take (n := n) hr hp hm hl
  exact ⟨v, _, h1, h2, ⟨p', q', getR_setR hr, h3⟩, e⟩
theorem pool1 {n : Nat} {S : Hs} {ns : List Int} {k : Nat} (hk : k < 64) : ∃ r S', HasPool S' r ∧ (TT (n + 1)).run 5 [.scr ns, .int k] S = .ok (.loc r) S' := by
  obtain ⟨p, q, hp, e⟩ := u_pool (n := n) (S := S) (ns := ns) hk
  exact ⟨S.length, _, ⟨p, q, getR_top, hp⟩, e⟩
theorem runB_rt {ns : Nat} {b : Loc → Hs → RS} {args : List PV} {S S1 : Hs} {v : PV} (h : b (args.map some ++ List.replicate (ns - args.length) none) S = .rt v S1) : runB ns b args S = .ok v S1 := by
  unfold runB
  rw [h]
/-! ### comprehensions and searches over the pictures of a list -/
section
variable {α : Type} {l : List α} {d : Desc} {L0 L : Loc} {S S1 : Hs} {tgt : TgF}
theorem lc_on' {cond : Loc → Hs → RB} {elt : Loc → Hs → RE} {h : α → PV} {Lx : α → Loc} {r : α → PV} {c : α → Bool} (hd : ∀ i, fetch S i d = some (l[i]?.map h)) (ht : ∀ x ∈ l, tgt (h x) L0 S = .nx (Lx x) S) (hc : ∀ x ∈ l, cond (Lx x) S = .ok (c x) S) (hx : ∀ x ∈ l, c x = true → elt (Lx x) S = .ok (r x) S) (hl : l.length < 16777216) :
    ∀ (k fuel i : Nat) (acc : List PV), i + k = l.length → k < fuel → lcLoop d L0 tgt cond elt fuel i acc S = some ((((l.drop i).filter c).map r).reverse ++ acc, S)
  | 0, 0, _, _, _, h => absurd h (Nat.lt_irrefl _)
  | 0, fuel + 1, i, acc, hi, _ => by
    rw [lcLoop, hd, List.getElem?_eq_none (by omega)]
    simp only [Option.map_none]
    rw [List.drop_eq_nil_of_le (by omega)]
    rfl
  | k + 1, 0, _, _, _, h => by omega
  | k + 1, fuel + 1, i, acc, hi, hf => by
    have hlt : i < l.length := by omega
    have hm := List.getElem_mem hlt
    rw [lcLoop, hd, List.getElem?_eq_getElem hlt]
    simp only [Option.map_some, ht _ hm, hc _ hm]
    rw [← List.getElem_cons_drop hlt]
    cases e : c l[i] with
    | true =>
      simp only [hx _ hm e]
      rw [if_pos (by omega), lc_on' hd ht hc hx hl k fuel (i + 1) _ (by omega) (by omega), List.filter_cons_of_pos e]
      simp
    | false =>
      simp only
      rw [lc_on' hd ht hc hx hl k fuel (i + 1) _ (by omega) (by omega), List.filter_cons_of_neg (by rw [e]; exact Bool.false_ne_true)]
theorem lc_on {own : List Nat} {src : Loc → Hs → RI} {cond : Loc → Hs → RB} {elt : Loc → Hs → RE} (h : α → PV) (Lx : α → Loc) (r : α → PV) (c : α → Bool) (hs : src L S = .ok d S1) (hd : ∀ i, fetch S1 i d = some (l[i]?.map h)) (ht : ∀ x ∈ l, tgt (h x) (wipeL L own) S1 = .nx (Lx x) S1) (hc : ∀ x ∈ l, cond (Lx x) S1 = .ok (c x) S1)
    (hx : ∀ x ∈ l, c x = true → elt (Lx x) S1 = .ok (r x) S1) (hl : l.length < 16777216) : lcE true own src tgt cond elt L S = .ok (.lst ((l.filter c).map r)) S1 := by
  unfold lcE
  rw [hs]
  simp only
  rw [lc_on' hd ht hc hx hl l.length turns 0 [] (by omega) (by unfold turns; omega)]
  simp [lcEnd]
theorem lc_all {own : List Nat} {src : Loc → Hs → RI} {elt : Loc → Hs → RE} (h : α → PV) (Lx : α → Loc) (r : α → PV) (hs : src L S = .ok d S1) (hd : ∀ i, fetch S1 i d = some (l[i]?.map h)) (ht : ∀ x ∈ l, tgt (h x) (wipeL L own) S1 = .nx (Lx x) S1)
    (hx : ∀ x ∈ l, elt (Lx x) S1 = .ok (r x) S1) (hl : l.length < 16777216) : lcE true own src tgt trueB elt L S = .ok (.lst (l.map r)) S1 := by
  rw [lc_on (l := l) h Lx r (fun _ => true) hs hd ht (fun _ _ => rfl) (fun x m _ => hx x m) hl, List.filter_eq_self.mpr fun _ _ => rfl]
theorem any_on' {body : Loc → Hs → RS} {h : α → PV} {q : α → Bool} {v : PV} {P : Loc → Prop} (hd : ∀ i, fetch S i d = some (l[i]?.map h)) (step : ∀ x ∈ l, ∀ L, P L → ∃ L1 L2, tgt (h x) L S = .nx L1 S ∧ P L2 ∧ body L1 S = if q x then .rt v S else .nx L2 S) :
    ∀ (k fuel i : Nat) (L : Loc), i + k = l.length → k < fuel → P L → ((l.drop i).any q = true ∧ forLoop d tgt body fuel i L S = .rt v S) ∨ ((l.drop i).any q = false ∧ ∃ L', P L' ∧ forLoop d tgt body fuel i L S = .nx L' S)
  | 0, 0, _, _, _, h, _ => absurd h (Nat.lt_irrefl _)
  | 0, fuel + 1, j, L, hi, _, hP => by
    rw [forLoop, hd, List.getElem?_eq_none (by omega), List.drop_eq_nil_of_le (by omega)]
    exact .inr ⟨rfl, L, hP, rfl⟩
  | k + 1, 0, _, _, _, h, _ => by omega
  | k + 1, fuel + 1, i, L, hi, hf, hP => by
    have hlt : i < l.length := by omega
    rw [forLoop, hd, List.getElem?_eq_getElem hlt, ← List.getElem_cons_drop hlt]
    obtain ⟨L1, L2, h1, h2, h3⟩ := step _ (List.getElem_mem hlt) L hP
    simp only [Option.map_some, h1]
    rw [List.any_cons]
    cases hq : q l[i] with
    | true =>
      rw [hq, if_pos rfl] at h3
      simp only [h3]
      exact .inl ⟨rfl, trivial⟩
    | false =>
      rw [hq, if_neg Bool.false_ne_true] at h3
      simp only [h3]
      rw [Bool.false_or]
      exact any_on' hd step k fuel (i + 1) L2 (by omega) (by omega) h2
/-- a loop that leaves with v at the first x that is so -/
theorem any_on {src : Loc → Hs → RI} {body : Loc → Hs → RS} (h : α → PV) (q : α → Bool) (v : PV) (P : Loc → Prop) (hs : src L S = .ok d S1) (hd : ∀ i, fetch S1 i d = some (l[i]?.map h)) (step : ∀ x ∈ l, ∀ L, P L → ∃ L1 L2, tgt (h x) L S1 = .nx L1 S1 ∧ P L2 ∧ body L1 S1 = if q x then .rt v S1 else .nx L2 S1)
    (hP : P L) (hl : l.length < 1000000000) : (l.any q = true ∧ forS src tgt body L S = .rt v S1) ∨ (l.any q = false ∧ ∃ L', P L' ∧ forS src tgt body L S = .nx L' S1) := by
  have h := any_on' hd step l.length turns 0 L (by omega) (by unfold turns; exact hl) hP
  unfold forS
  rw [hs]
  exact h
theorem asBs_on {f : α → Bool} : ∀ {l : List α}, asBs (l.map fun x => PV.bl (f x)) = some (l.map f)
  | [] => rfl
  | x :: l => by
    show asBs (PV.bl (f x) :: l.map fun x => PV.bl (f x)) = _
    unfold asBs
    rw [asBs_on]
    rfl
theorem v_allO {f : α → Bool} : allV [.lst (l.map fun x => PV.bl (f x))] S = .ok (.bl (l.all f)) S := by
  show okO (Option.map (fun bs => PV.bl (bs.all id)) (asBs (l.map fun x => PV.bl (f x)))) S = _
  rw [asBs_on]
  show RE.ok (.bl ((l.map f).all id)) S = _
  rw [List.all_map]
  rfl
theorem v_anyO {f : α → Bool} : anyV [.lst (l.map fun x => PV.bl (f x))] S = .ok (.bl (l.any f)) S := by
  show okO (Option.map (fun bs => PV.bl (bs.any id)) (asBs (l.map fun x => PV.bl (f x)))) S = _
  rw [asBs_on]
  show RE.ok (.bl ((l.map f).any id)) S = _
  rw [List.any_map]
  rfl
end
theorem fetchL {α : Type} {l : List α} {h : α → PV} {S : Hs} {i : Nat} : fetch S i (.seq (.lst (l.map h))) = some (l[i]?.map h) := by
  show some (l.map h)[i]? = _
  rw [List.getElem?_map]
theorem fetchT {α : Type} {l : List α} {h : α → PV} {S : Hs} {i : Nat} : fetch S i (.seq (PV.tup (l.map h))) = some (l[i]?.map h) := by
  show some (l.map h)[i]? = _
  rw [List.getElem?_map]
theorem fetchZ {α β : Type} {l : List α} {l' : List β} {h : α → PV} {g : β → PV} {S : Hs} {i : Nat} : fetch S i (.zip (PV.tup (l.map h)) (.tup (l'.map g))) = some ((l.zip l')[i]?.map fun p => PV.tup [h p.1, g p.2]) := by
  show (match (l.map h)[i]?, (l'.map g)[i]? with
    | some x, some y => some (some (PV.tup [x, y]))
    | _, _ => some none) = _
  rw [List.getElem?_map, List.getElem?_map, show (l.zip l')[i]? = _ from List.getElem?_zipWith (f := Prod.mk)]
  cases l[i]? <;> cases l'[i]? <;> rfl
/-! ### comprehensions of two clauses, the second one's list by the first one's item -/
section
variable {α β : Type} {S : Hs} {L0 : Loc} {d d1 : Desc}
theorem lcIn_on {l : List β} {h : β → PV} {q : Nat} {elt : Loc → Hs → RE} {r : β → PV} (hd : ∀ i, fetch S i d = some (l[i]?.map h)) (hx : ∀ y ∈ l, elt (L0.set q (some (h y))) S = .ok (r y) S) (lim : Nat) (hl : lim < 16777216) :
    ∀ (k fuel j n : Nat) (acc : List PV), j + k = l.length → k < fuel → n + k ≤ lim → lcIn d L0 (nameT q) trueB elt fuel j n acc S = some (n + k, ((l.drop j).map r).reverse ++ acc, S)
  | 0, 0, _, _, _, _, h, _ => absurd h (Nat.lt_irrefl _)
  | 0, fuel + 1, j, n, acc, hi, _, _ => by
    rw [lcIn, hd, List.getElem?_eq_none (by omega)]
    simp only [Option.map_none]
    rw [List.drop_eq_nil_of_le (by omega)]
    rfl
  | k + 1, 0, _, _, _, _, h, _ => by omega
  | k + 1, fuel + 1, j, n, acc, hi, hf, hn => by
    have hlt : j < l.length := by omega
    have hm := List.getElem_mem hlt
    rw [lcIn, hd, List.getElem?_eq_getElem hlt]
    rw [← List.getElem_cons_drop hlt]
    have e1 : nameT q (h l[j]) L0 S = .nx (L0.set q (some (h l[j]))) S := rfl
    have e2 : trueB (L0.set q (some (h l[j]))) S = .ok true S := rfl
    simp only [Option.map_some, e1, e2, hx _ hm]
    rw [if_pos (by omega), lcIn_on hd hx lim hl k fuel (j + 1) (n + 1) _ (by omega) (by omega) (by omega), show n + 1 + k = n + (k + 1) by omega]
    simp only [List.map_cons, List.reverse_cons, List.append_assoc, List.singleton_append]
def tot {α β : Type} (g : α → List β) : List α → Nat
  | [] => 0
  | x :: l => (g x).length + tot g l
theorem lcOut_on {l : List α} {g : α → List β} {h : α → PV} {h1 : β → PV} {p q : Nat} {own1 : List Nat} {src1 : Loc → Hs → RI} {elt : Loc → Hs → RE} {r : α → β → PV} {dd : α → Desc} (hd : ∀ i, fetch S i d = some (l[i]?.map h)) (hs : ∀ x ∈ l, src1 (L0.set p (some (h x))) S = .ok (dd x) S) (hd1 : ∀ x ∈ l, ∀ i, fetch S i (dd x) = some ((g x)[i]?.map h1))
    (hx : ∀ x ∈ l, ∀ y ∈ g x, elt ((wipeL (L0.set p (some (h x))) own1).set q (some (h1 y))) S = .ok (r x y) S) (hg : ∀ x ∈ l, (g x).length < turns) (lim : Nat) (hl : lim < 16777216) :
    ∀ (k fuel i n : Nat) (acc : List PV), i + k = l.length → k < fuel → n + tot g (l.drop i) ≤ lim → lcOut d L0 own1 (nameT p) trueB src1 (nameT q) trueB elt fuel i n acc S = some (((l.drop i).flatMap fun x => (g x).map (r x)).reverse ++ acc, S)
  | 0, 0, _, _, _, _, h, _ => absurd h (Nat.lt_irrefl _)
  | 0, fuel + 1, j, n, acc, hi, _, _ => by
    rw [lcOut, hd, List.getElem?_eq_none (by omega)]
    simp only [Option.map_none]
    rw [List.drop_eq_nil_of_le (by omega)]
    rfl
  | k + 1, 0, _, _, _, _, h, _ => by omega
  | k + 1, fuel + 1, i, n, acc, hi, hf, hn => by
    have hlt : i < l.length := by omega
    have hm := List.getElem_mem hlt
    rw [lcOut, hd, List.getElem?_eq_getElem hlt]
    rw [← List.getElem_cons_drop hlt] at hn ⊢
    have e1 : nameT p (h l[i]) L0 S = .nx (L0.set p (some (h l[i]))) S := rfl
    have e2 : trueB (L0.set p (some (h l[i]))) S = .ok true S := rfl
    have ht : (g l[i]).length + tot g (l.drop (i + 1)) + n ≤ lim := by
      have : tot g (l[i] :: l.drop (i + 1)) = (g l[i]).length + tot g (l.drop (i + 1)) := rfl
      omega
    have e3 := lcIn_on (L0 := wipeL (L0.set p (some (h l[i]))) own1) (q := q) (elt := elt) (r := r l[i]) (hd1 _ hm) (hx _ hm) lim hl (g l[i]).length turns 0 n acc (by omega) (hg _ hm) (by omega)
    simp only [Option.map_some, e1, e2, hs _ hm, e3]
    rw [lcOut_on hd hs hd1 hx hg lim hl k fuel (i + 1) (n + (g l[i]).length) _ (by omega) (by omega) (by omega)]
    simp only [List.flatMap_cons, List.reverse_append, List.append_assoc, List.drop_zero]
theorem lc2_on {L : Loc} {l : List α} {g : α → List β} {p q : Nat} {own own1 : List Nat} {src src1 : Loc → Hs → RI} {elt : Loc → Hs → RE} (h : α → PV) (h1 : β → PV) (r : α → β → PV) (dd : α → Desc) (hs0 : src L S = .ok d S) (hd : ∀ i, fetch S i d = some (l[i]?.map h)) (hs : ∀ x ∈ l, src1 ((wipeL L own).set p (some (h x))) S = .ok (dd x) S) (hd1 : ∀ x ∈ l, ∀ i, fetch S i (dd x) = some ((g x)[i]?.map h1))
    (hx : ∀ x ∈ l, ∀ y ∈ g x, elt ((wipeL ((wipeL L own).set p (some (h x))) own1).set q (some (h1 y))) S = .ok (r x y) S) (hg : ∀ x ∈ l, (g x).length < 16777216) (hl : tot g l < 16777216) (hll : l.length < 16777216) : lc2E true own own1 src (nameT p) trueB src1 (nameT q) trueB elt L S = .ok (.lst (l.flatMap fun x => (g x).map (r x))) S := by
  unfold lc2E
  rw [hs0]
  simp only
  rw [lcOut_on hd hs hd1 hx (fun x m => by have := hg x m; unfold turns; omega) (tot g l) hl l.length turns 0 0 [] (by omega) (by unfold turns; omega) (by rw [List.drop_zero]; omega)]
  unfold lcEnd
  simp
theorem flat_bl {l : List α} {g : α → List β} {f : β → Bool} : (l.flatMap fun x => (g x).map fun y => PV.bl (f y)) = ((l.flatMap g).map fun y => PV.bl (f y)) := by
  induction l with
  | nil => rfl
  | cons x l ih => rw [List.flatMap_cons, List.flatMap_cons, List.map_append, ih]
end
/-! ### runs, and their texts -/
def rwv (r : List Nat) : PV := .tup (r.map fun n : Nat => .int (n : Nat))
def runv (a b : List Nat) : PV := .tup [rwv a, rwv b]
def inR (r : List Nat) : Bool := r.all fun n => decide (n ≤ 4294967295)
def txt (r : List Nat) : List Nat := joinL [32] (r.map TL.numL)
def textOf (a b : List Nat) : List Nat := joinL [59, 32] [txt a, txt b]
theorem i_isn {n : Nat} {i : Int} {S : Hs} : isoC ((TT (n + 1)).run 0) [.int i] S = .ok (.bl true) S := iso_ok rfl (S1 := []) rfl rfl
theorem i_btw {n : Nat} {i a b : Int} {S : Hs} : isoC ((TT (n + 2)).run 1) [.int i, .int a, .int b] S = .ok (.bl (decide (a ≤ i) && decide (i ≤ b))) S := by
  refine iso_ok rfl (S1 := []) ?_ rfl
  rw [rn1]
  by_cases h1 : a ≤ i <;> by_cases h2 : i ≤ b <;> simp only [e1, i_isn, h1, h2, v_re, v_reA, v_reB, v_reS, v_ra, v_raA, v_rb, v_rbB, v_rbS, v_rs, v_rt, v_seq, v_nil, v_ret, v_exp, v_if, v_asg, v_only, v_con, v_var0, v_varS, v_nilA, v_consA, v_bin, v_call, v_blt, v_and, v_or, v_not, v_okT, v_okB, v_okO, v_truBl, v_truInt, v_truB, v_cmpB, v_asB, v_andB, v_orB, v_notB, v_ite, v_noX, v_chain, v_useT, v_useF, v_b_int, v_i_int, v_b_str, v_add, v_sub, v_band, v_bor, v_bxor, v_mul, v_mod, v_fdiv, v_shl, v_shr, v_le, v_lt, v_eqI, v_neI, v_eqB, v_neB, v_setf, v_lst, v_una, v_attr, v_aug, v_name, List.length_cons, List.length_nil, Nat.zero_add, Nat.reduceAdd, Nat.reduceSub, and_self, if_true, if_false, Bool.false_eq_true, Bool.not_true, Bool.not_false, Bool.and_true, Bool.true_and, Bool.and_self, decide_true, decide_false, List.set_cons_zero, List.set_cons_succ, List.cons_append, List.nil_append, List.append_nil, cmpD2, cmpD, cmpV, ordV, runB, List.map_cons, List.map_nil, List.replicate, Nat.sub_self]
theorem solid_rw {n : Nat} {r : List Nat} : solid (n + 2) (rwv r) = true := by
  unfold rwv solid
  rw [List.all_eq_true]
  intro x hx
  obtain ⟨p, _, rfl⟩ := List.mem_map.mp hx
  rfl
theorem solid_run {n : Nat} {a b : List Nat} : solid (n + 3) (runv a b) = true := by
  show (solid (n + 2) (rwv a) && (solid (n + 2) (rwv b) && true)) = true
  rw [solid_rw, solid_rw]
  rfl
/-- rows of some thousand numbers at most -/
structure Sm (r : List Nat) : Prop where
  l : r.length ≤ 9000
  v : ∀ n ∈ r, n < 10000000000
theorem i_isrun {n : Nat} {a b : List Nat} {S : Hs} (ha : Sm a) (hb : Sm b) : isoC ((TT (n + 3)).run 3) [runv a b] S = .ok (.bl (inR a && inR b)) S := by
  refine iso_ok (by
    show (solid (21 + 3) (runv a b) && true) = true
    rw [solid_run]
    rfl) (S1 := []) ?_ rfl
  rw [rn3]
  have it : ∀ r S, isiA isa [rwv r, .ty "tuple"] S = .ok (.bl true) S := fun _ _ => rfl
  have it2 : ∀ S, isiA isa [runv a b, .ty "tuple"] S = .ok (.bl true) S := fun _ => rfl
  have ln : ∀ T S, lenD T ct [runv a b] S = .ok (.int 2) S := fun _ _ => rfl
  have nn : ∀ T S, neD T ct (.int 2) (.int 2) S = .ok (.bl false) S := fun _ _ => rfl
  have c1 : (lcE true [1] (valI (varE 0)) (nameT 1) trueB (bltE (consA (varE 1) (consA (conE (.ty "tuple")) nilA)) (isiA isa))) [some (runv a b), none, none] [] = .ok (.lst ([a, b].map fun r => .bl true)) [] :=
    lc_all (l := [a, b]) (d := .seq (runv a b)) rwv (fun r => [some (runv a b), some (rwv r), none]) (fun _ => .bl true) rfl (fun i => fetchT (l := [a, b]) (h := rwv)) (fun x _ => rfl) (fun x _ => by
      have h := it x
      generalize rwv x = q1 at *
      generalize runv a b = q2 at *
      simp only [h, v_re, v_reA, v_reB, v_reS, v_ra, v_raA, v_rb, v_rbB, v_rbS, v_rs, v_rt, v_seq, v_nil, v_ret, v_exp, v_if, v_asg, v_only, v_con, v_var0, v_varS, v_nilA, v_consA, v_bin, v_call, v_blt, v_and, v_or, v_not, v_okT, v_okB, v_okO, v_truBl, v_truInt, v_truB, v_cmpB, v_asB, v_andB, v_orB, v_notB, v_ite, v_noX, v_chain, v_useT, v_useF, v_b_int, v_i_int, v_b_str, v_add, v_sub, v_band, v_bor, v_bxor, v_mul, v_mod, v_fdiv, v_shl, v_shr, v_le, v_lt, v_eqI, v_neI, v_eqB, v_neB, v_setf, v_lst, v_una, v_attr, v_aug, v_name, List.length_cons, List.length_nil, Nat.zero_add, Nat.reduceAdd, Nat.reduceSub, and_self, if_true, if_false, Bool.false_eq_true, Bool.not_true, Bool.not_false, Bool.and_true, Bool.true_and, Bool.and_self, decide_true, decide_false, List.set_cons_zero, List.set_cons_succ, List.cons_append, List.nil_append, List.append_nil, cmpD2, cmpD, cmpV, ordV, runB, List.map_cons, List.map_nil, List.replicate, Nat.sub_self]) (by show 2 < 16777216; decide)
  have c2 : (lc2E true [1, 2] [2] (valI (varE 0)) (nameT 1) trueB (valI (varE 1)) (nameT 2) trueB (callE 3 0 (consA (varE 2) (consA (conE (.int 0)) (consA (conE (.int (4294967295))) nilA))) nilA fun vs qs => useC true ((TT (n + 2)).run 1) ((fun vs _ => vs) vs qs))) [some (runv a b), none, none] [] = .ok (.lst ([a, b].flatMap fun r => r.map fun n => .bl (decide (n ≤ 4294967295)))) [] :=
    lc2_on (l := [a, b]) (g := id) (d := .seq (runv a b)) rwv (fun n : Nat => .int (n : Nat)) (fun _ n => .bl (decide (n ≤ 4294967295))) (fun r => .seq (rwv r)) rfl (fun i => fetchT (l := [a, b]) (h := rwv)) (fun x _ => rfl) (fun x _ i => fetchT) (fun x _ y _ => by
      have h := fun S => i_btw (n := n) (i := (y : Nat)) (a := 0) (b := 4294967295) (S := S)
      have e : (decide ((0 : Int) ≤ (y : Nat)) && decide (((y : Nat) : Int) ≤ 4294967295)) = decide (y ≤ 4294967295) := by
        rw [decide_eq_true (by omega), Bool.true_and]
        exact decide_eq_decide.mpr (by omega)
      rw [e] at h
      show (callE 3 0 (consA (varE 2) (consA (conE (.int 0)) (consA (conE (.int (4294967295))) nilA))) nilA fun vs qs => useC true ((TT (n + 2)).run 1) ((fun vs _ => vs) vs qs)) [some (runv a b), some (rwv x), some (.int (y : Nat))] [] = _
      generalize rwv x = q1 at *
      generalize runv a b = q2 at *
      simp only [h, v_re, v_reA, v_reB, v_reS, v_ra, v_raA, v_rb, v_rbB, v_rbS, v_rs, v_rt, v_seq, v_nil, v_ret, v_exp, v_if, v_asg, v_only, v_con, v_var0, v_varS, v_nilA, v_consA, v_bin, v_call, v_blt, v_and, v_or, v_not, v_okT, v_okB, v_okO, v_truBl, v_truInt, v_truB, v_cmpB, v_asB, v_andB, v_orB, v_notB, v_ite, v_noX, v_chain, v_useT, v_useF, v_b_int, v_i_int, v_b_str, v_add, v_sub, v_band, v_bor, v_bxor, v_mul, v_mod, v_fdiv, v_shl, v_shr, v_le, v_lt, v_eqI, v_neI, v_eqB, v_neB, v_setf, v_lst, v_una, v_attr, v_aug, v_name, List.length_cons, List.length_nil, Nat.zero_add, Nat.reduceAdd, Nat.reduceSub, and_self, if_true, if_false, Bool.false_eq_true, Bool.not_true, Bool.not_false, Bool.and_true, Bool.true_and, Bool.and_self, decide_true, decide_false, List.set_cons_zero, List.set_cons_succ, List.cons_append, List.nil_append, List.append_nil, cmpD2, cmpD, cmpV, ordV, runB, List.map_cons, List.map_nil, List.replicate, Nat.sub_self]) (fun x hx => by
      simp only [List.mem_cons, List.not_mem_nil, or_false] at hx
      rcases hx with rfl | rfl
      · have := ha.l; show x.length < _; omega
      · have := hb.l; show x.length < _; omega) (by
      have := ha.l
      have := hb.l
      show a.length + (b.length + 0) < 16777216
      omega) (by show 2 < 16777216; decide)
  rw [show ([a, b].flatMap fun r => r.map fun n => PV.bl (decide (n ≤ 4294967295))) = (([a, b].flatMap id).map fun n => PV.bl (decide (n ≤ 4294967295))) from flat_bl (g := id)] at c2
  have al1 : ∀ S, allV [.lst ([a, b].map fun _ => .bl true)] S = .ok (.bl true) S := fun S => v_allO (l := [a, b]) (f := fun _ => true)
  have al2 := fun S => v_allO (l := [a, b].flatMap id) (f := fun n => decide (n ≤ 4294967295)) (S := S)
  have e : ([a, b].flatMap id).all (fun n => decide (n ≤ 4294967295)) = (inR a && inR b) := by
    unfold inR
    simp
  rw [e] at al2
  generalize runv a b = q1 at *
  generalize (PV.lst ([a, b].map fun _ => .bl true)) = q2 at *
  generalize (PV.lst (([a, b].flatMap id).map fun n => .bl (decide (n ≤ 4294967295)))) = q3 at *
  simp only [e3, it2, ln, nn, c1, c2, al1, al2, v_re, v_reA, v_reB, v_reS, v_ra, v_raA, v_rb, v_rbB, v_rbS, v_rs, v_rt, v_seq, v_nil, v_ret, v_exp, v_if, v_asg, v_only, v_con, v_var0, v_varS, v_nilA, v_consA, v_bin, v_call, v_blt, v_and, v_or, v_not, v_okT, v_okB, v_okO, v_truBl, v_truInt, v_truB, v_cmpB, v_asB, v_andB, v_orB, v_notB, v_ite, v_noX, v_chain, v_useT, v_useF, v_b_int, v_i_int, v_b_str, v_add, v_sub, v_band, v_bor, v_bxor, v_mul, v_mod, v_fdiv, v_shl, v_shr, v_le, v_lt, v_eqI, v_neI, v_eqB, v_neB, v_setf, v_lst, v_una, v_attr, v_aug, v_name, List.length_cons, List.length_nil, Nat.zero_add, Nat.reduceAdd, Nat.reduceSub, and_self, if_true, if_false, Bool.false_eq_true, Bool.not_true, Bool.not_false, Bool.and_true, Bool.true_and, Bool.and_self, decide_true, decide_false, List.set_cons_zero, List.set_cons_succ, List.cons_append, List.nil_append, List.append_nil, cmpD2, cmpD, cmpV, ordV, runB, List.map_cons, List.map_nil, List.replicate, Nat.sub_self]
/-! ### what is raised, and caught -/
section
variable {S S1 : Hs} {k : Nat} {v w : PV} {s : List Nat} {T : Tab} {c : CmpT} {xs : List PV} {m : Nat}
theorem iso_ex {f : List PV → Hs → RE} {vs : List PV} (ha : vs.all (solid dpF) = true) (h : f vs [] = .ex k v []) (hv : solid dpF v = true) : isoC f vs S = .ex k v S := by
  unfold isoC
  rw [solid_all solid_ok ha]
  cases S with
  | nil => simp only [h]; rfl
  | cons c S => simp only [h]; rfl
theorem v_lamc {i n : Nat} {hs : List Hd} {fb : Loc → Hs → RE} {L : Loc} (h : getR S i = some (.tab i)) : lamcE i hs n fb L S = caughtR hs n (fb L S) := by
  unfold lamcE
  rw [h]
  exact if_pos rfl
theorem eqO_up {p q : PV} (h : eqO T c S m p q = true) : eqO T c S (m + 1) p q = true := by
  show (eqO T c S m p q || seq2 (eqO T c S m) S p q) = true
  rw [h]
  rfl
theorem all2_same {f : PV → PV → Bool} : ∀ {xs : List PV}, (∀ x ∈ xs, f x x = true) → all2 f xs xs = true
  | [], _ => rfl
  | x :: xs, h => by
    unfold all2
    rw [h x List.mem_cons_self, all2_same fun y hy => h y (List.mem_cons_of_mem _ hy)]
    rfl
theorem eqO_lst (h : ∀ x ∈ xs, eqO T c S m x x = true) : eqO T c S (m + 1) (.lst xs) (.lst xs) = true := by
  show (eqO T c S m (.lst xs) (.lst xs) || all2 (eqO T c S m) xs xs) = true
  rw [all2_same h, Bool.or_true]
theorem eqO_tup (h : ∀ x ∈ xs, eqO T c S m x x = true) : eqO T c S (m + 1) (.tup xs) (.tup xs) = true := by
  show (eqO T c S m (.tup xs) (.tup xs) || all2 (eqO T c S m) xs xs) = true
  rw [all2_same h, Bool.or_true]
theorem neO_of (hb : neT T c (.lst [.str s, v]) (.lst [.str s, v]) S = .bad) (h1 : eqO T c S 2 (.str s) (.str s) = true) (h : eqO T c S 2 v v = true) : neO T c (.lst [.str s, v]) (.lst [.str s, v]) S = .ok (.bl false) S := by
  unfold neO
  rw [hb]
  show (if all2 (eqO T c S 2) [.str s, v] [.str s, v] then RE.ok (.bl false) S else .bad) = _
  rw [if_pos]
  exact all2_same fun x hx => by
    rcases List.mem_cons.mp hx with rfl | hx
    · exact h1
    · rcases List.mem_cons.mp hx with rfl | hx
      · exact h
      · cases hx
theorem eqL_of (hb : cmpD2 T c .Eq (.lst [.str s, v]) (.lst [.str s, v]) S = .bad) (h1 : eqO T c S 2 (.str s) (.str s) = true) (h : eqO T c S 2 v v = true) : eqL T c (.lst [.str s, v]) (.lst [.str s, v]) S = .ok (.bl true) S := by
  unfold eqL
  rw [hb]
  show (if all2 (eqO T c S 2) [.str s, v] [.str s, v] then RE.ok (.bl true) S else .bad) = _
  rw [if_pos]
  exact all2_same fun x hx => by
    rcases List.mem_cons.mp hx with rfl | hx
    · exact h1
    · rcases List.mem_cons.mp hx with rfl | hx
      · exact h
      · cases hx
end
/-! ### the text of a run -/
theorem dig_num {c : Nat} {n : Nat} (h : c ∈ TL.numL n) : 48 ≤ c ∧ c ≤ 57 := TL.numL_digits n c h
theorem v_strN {T : Tab} {n : Nat} {S : Hs} (h : n < 10000000000) : strD T ct [.int (n : Nat)] S = .ok (.str (TL.numL n)) S := by
  show (if smallI (n : Int) && sOk (digI (n : Int)) then RE.ok (.str (digI (n : Int))) S else .bad) = _
  have e : digI (n : Int) = TL.numL n := TL.tl_num n
  rw [e, if_pos]
  rw [Bool.and_eq_true]
  constructor
  · unfold smallI
    refine decide_eq_true ?_
    have : (n : Int).natAbs < 2 ^ 40 := by show n < _; omega
    have := log2_of this (by decide)
    omega
  · exact sOk_mem.mpr fun c hc => by have := dig_num hc; omega
theorem asStrs_on : ∀ {l : List (List Nat)}, asStrs (l.map PV.str) = some l
  | [] => rfl
  | x :: l => by
    show (asStrs (l.map PV.str)).map (x :: ·) = _
    rw [asStrs_on]
    rfl
theorem v_join {s : List Nat} {l : List (List Nat)} {S : Hs} (h : sumL l + l.length * s.length ≤ 16777216) : joinV s (.lst (l.map PV.str)) S = .ok (.str (joinL s l)) S := by
  show (match asStrs (l.map PV.str) with
    | some ys => if decide (sumL ys + ys.length * s.length ≤ 16777216) then RE.ok (.str (joinL s ys)) S else .bad
    | none => .bad) = _
  rw [asStrs_on]
  simp only
  rw [if_pos (decide_eq_true h)]
theorem joinL_len {s : List Nat} : ∀ {l : List (List Nat)}, (joinL s l).length ≤ sumL l + l.length * s.length
  | [] => Nat.zero_le _
  | x :: l => by
    have h : ∀ l : List (List Nat), ((l.map fun p => s ++ p).flatten).length = sumL l + l.length * s.length := by
      intro l
      induction l with
      | nil => simp [sumL]
      | cons y l ih =>
        unfold sumL at *
        rw [List.map_cons, List.flatten_cons, List.length_append, ih, List.length_append, List.map_cons, List.sum_cons, List.length_cons, Nat.succ_mul]
        omega
    show (x ++ (l.map fun p => s ++ p).flatten).length ≤ _
    rw [List.length_append, h, List.length_cons, Nat.succ_mul]
    unfold sumL
    rw [List.map_cons, List.sum_cons]
    omega
theorem num_len {n : Nat} (h : n < 10000000000) : (TL.numL n).length ≤ 10 := TL.numL_len (k := 10) (by decide) (by omega)
theorem sum_num : ∀ {r : List Nat}, (∀ n ∈ r, n < 10000000000) → sumL (r.map TL.numL) ≤ 10 * r.length
  | [], _ => Nat.le_refl _
  | n :: r, h => by
    have := sum_num (r := r) fun m hm => h m (List.mem_cons_of_mem _ hm)
    have := num_len (h n List.mem_cons_self)
    unfold sumL at *
    rw [List.map_cons, List.map_cons, List.sum_cons, List.length_cons]
    omega
theorem txt_len {r : List Nat} (h : ∀ n ∈ r, n < 10000000000) : (txt r).length ≤ 11 * r.length := by
  have h1 := joinL_len (s := [32]) (l := r.map TL.numL)
  have h2 := sum_num h
  rw [List.length_map] at h1
  have : r.length * ([32] : List Nat).length = r.length := Nat.mul_one _
  unfold txt
  omega
theorem v_row {T : Tab} {L : Loc} {r : List Nat} {S : Hs} {k : Nat} {own : List Nat} {src : Loc → Hs → RI} {g : Loc → Hs → RA} (h : Sm r) (hs : src L S = .ok (.seq (rwv r)) S) (hg : ∀ n : Nat, g ((wipeL L own).set k (some (.int (n : Nat)))) S = .ok [.int (n : Nat)] S) :
    joinE (conE (.str [32])) (lcE true own src (nameT k) trueB (bltE g (strD T ct))) L S = .ok (.str (txt r)) S := by
  have c := lc_all (l := r) (d := .seq (rwv r)) (own := own) (L := L) (S := S) (S1 := S) (src := src) (tgt := nameT k) (elt := bltE g (strD T ct)) (fun n : Nat => .int (n : Nat)) (fun n => (wipeL L own).set k (some (.int (n : Nat)))) (fun n => .str (TL.numL n)) hs (fun i => fetchT) (fun _ _ => rfl) (fun n hn => by rw [v_blt, hg, v_ra, v_strN (h.v n hn)]) (by have := h.l; omega)
  show (conE (.str [32]) L S).bind _ = _
  rw [v_con, v_re]
  show (lcE _ _ _ _ _ _ L S).bind (fun w S2 => joinV [32] w S2) = _
  rw [c, v_re, show (r.map fun n => PV.str (TL.numL n)) = (r.map TL.numL).map PV.str by rw [List.map_map]; rfl]
  refine v_join ?_
  have := sum_num h.v
  have := h.l
  rw [List.length_map]
  show _ + r.length * 1 ≤ _
  omega
theorem v_rows {a b : List Nat} {L : Loc} {S : Hs} {k : Nat} {own : List Nat} {src : Loc → Hs → RI} {elt : Loc → Hs → RE} (ha : Sm a) (hb : Sm b) (hs : src L S = .ok (.seq (runv a b)) S) (he : ∀ r, Sm r → elt ((wipeL L own).set k (some (rwv r))) S = .ok (.str (txt r)) S) :
    joinE (conE (.str [59, 32])) (lcE true own src (nameT k) trueB elt) L S = .ok (.str (textOf a b)) S := by
  have c := lc_all (l := [a, b]) (d := .seq (runv a b)) (own := own) (L := L) (S := S) (S1 := S) (src := src) (tgt := nameT k) (elt := elt) rwv (fun r => (wipeL L own).set k (some (rwv r))) (fun r => .str (txt r)) hs (fun i => fetchT (l := [a, b]) (h := rwv)) (fun _ _ => rfl) (fun r hr => by
    simp only [List.mem_cons, List.not_mem_nil, or_false] at hr
    rcases hr with rfl | rfl
    · exact he _ ha
    · exact he _ hb) (by show 2 < 16777216; decide)
  show (conE (.str [59, 32]) L S).bind _ = _
  rw [v_con, v_re]
  show (lcE _ _ _ _ _ _ L S).bind (fun w S2 => joinV [59, 32] w S2) = _
  rw [c, v_re]
  refine v_join (l := [txt a, txt b]) ?_
  have := txt_len ha.v
  have := txt_len hb.v
  have := ha.l
  have := hb.l
  show ((txt a).length + ((txt b).length + 0)) + 2 * 2 ≤ _
  omega
theorem i_fmt {n : Nat} {a b : List Nat} {S : Hs} (ha : Sm a) (hb : Sm b) : isoC ((TT (n + 4)).run 2) [runv a b] S = if inR a && inR b then .ok (.str (textOf a b)) S else .ex 501 (runv a b) S := by
  have so : [runv a b].all (solid dpF) = true := by
    show (solid (21 + 3) (runv a b) && true) = true
    rw [solid_run]
    rfl
  have ir := fun S => i_isrun (n := n) (S := S) ha hb
  have ej : (joinE (conE (.str [59, 32])) (lcE true [1] (valI (varE 0)) (nameT 1) trueB (joinE (conE (.str [32])) (lcE true [2] (valI (varE 1)) (nameT 2) trueB (bltE (consA (varE 2) nilA) (strD (TT (n + 3)) ct)))))) [some (runv a b), none, none] [] = .ok (.str (textOf a b)) [] :=
    v_rows ha hb rfl fun r hr => v_row (own := [2]) (k := 2) hr rfl fun n => rfl
  cases c : (inR a && inR b) with
  | true =>
    rw [if_pos rfl]
    refine iso_ok so (S1 := []) ?_ rfl
    rw [rn2]
    rw [c] at ir
    generalize runv a b = q1 at *
    simp only [e2, ir, ej, v_re, v_reA, v_reB, v_reS, v_ra, v_raA, v_rb, v_rbB, v_rbS, v_rs, v_rt, v_seq, v_nil, v_ret, v_exp, v_if, v_asg, v_only, v_con, v_var0, v_varS, v_nilA, v_consA, v_bin, v_call, v_blt, v_and, v_or, v_not, v_okT, v_okB, v_okO, v_truBl, v_truInt, v_truB, v_cmpB, v_asB, v_andB, v_orB, v_notB, v_ite, v_noX, v_chain, v_useT, v_useF, v_b_int, v_i_int, v_b_str, v_add, v_sub, v_band, v_bor, v_bxor, v_mul, v_mod, v_fdiv, v_shl, v_shr, v_le, v_lt, v_eqI, v_neI, v_eqB, v_neB, v_setf, v_lst, v_una, v_attr, v_aug, v_name, List.length_cons, List.length_nil, Nat.zero_add, Nat.reduceAdd, Nat.reduceSub, and_self, if_true, if_false, Bool.false_eq_true, Bool.not_true, Bool.not_false, Bool.and_true, Bool.true_and, Bool.and_self, decide_true, decide_false, List.set_cons_zero, List.set_cons_succ, List.cons_append, List.nil_append, List.append_nil, cmpD2, cmpD, cmpV, ordV, runB, List.map_cons, List.map_nil, List.replicate, Nat.sub_self]
  | false =>
    rw [if_neg Bool.false_ne_true]
    refine iso_ex so ?_ (by rw [List.all_cons, List.all_nil, Bool.and_true] at so; exact so)
    rw [rn2]
    rw [c] at ir
    have rz : ∀ S, raiseS 501 (varE 0) [some (runv a b), none, none] S = .ex 501 (runv a b) [some (runv a b), none, none] S := fun _ => rfl
    have xs : ∀ (k : Nat) (v : PV) (L : Loc) (S : Hs) (f : Loc → Hs → RS), (RS.ex k v L S).bind f = .ex k v L S := fun _ _ _ _ _ => rfl
    generalize runv a b = q1 at *
    simp only [e2, ir, rz, xs, v_re, v_reA, v_reB, v_reS, v_ra, v_raA, v_rb, v_rbB, v_rbS, v_rs, v_rt, v_seq, v_nil, v_ret, v_exp, v_if, v_asg, v_only, v_con, v_var0, v_varS, v_nilA, v_consA, v_bin, v_call, v_blt, v_and, v_or, v_not, v_okT, v_okB, v_okO, v_truBl, v_truInt, v_truB, v_cmpB, v_asB, v_andB, v_orB, v_notB, v_ite, v_noX, v_chain, v_useT, v_useF, v_b_int, v_i_int, v_b_str, v_add, v_sub, v_band, v_bor, v_bxor, v_mul, v_mod, v_fdiv, v_shl, v_shr, v_le, v_lt, v_eqI, v_neI, v_eqB, v_neB, v_setf, v_lst, v_una, v_attr, v_aug, v_name, List.length_cons, List.length_nil, Nat.zero_add, Nat.reduceAdd, Nat.reduceSub, and_self, if_true, if_false, Bool.false_eq_true, Bool.not_true, Bool.not_false, Bool.and_true, Bool.true_and, Bool.and_self, decide_true, decide_false, List.set_cons_zero, List.set_cons_succ, List.cons_append, List.nil_append, List.append_nil, cmpD2, cmpD, cmpV, ordV, runB, List.map_cons, List.map_nil, List.replicate, Nat.sub_self]
theorem l_text {n : Nat} {a b : List Nat} {S : Hs} (ha : Sm a) (hb : Sm b) : isoC ((TT (n + 1)).run 8) [runv a b] S = .ok (.str (textOf a b)) S := by
  refine iso_ok (by
    show (solid (21 + 3) (runv a b) && true) = true
    rw [solid_run]
    rfl) (S1 := []) ?_ rfl
  rw [rn8]
  have ej : (joinE (conE (.str [59, 32])) (lcE true [1] (valI (varE 0)) (nameT 1) trueB (joinE (conE (.str [32])) (lcE true [2] (valI (varE 1)) (nameT 2) trueB (bltE (consA (varE 2) nilA) (strD (TT n) ct)))))) [some (runv a b), none, none] [] = .ok (.str (textOf a b)) [] :=
    v_rows ha hb rfl fun r hr => v_row (own := [2]) (k := 2) hr rfl fun n => rfl
  generalize runv a b = q1 at *
  simp only [e8, ej, v_re, v_reA, v_reB, v_reS, v_ra, v_raA, v_rb, v_rbB, v_rbS, v_rs, v_rt, v_seq, v_nil, v_ret, v_exp, v_if, v_asg, v_only, v_con, v_var0, v_varS, v_nilA, v_consA, v_bin, v_call, v_blt, v_and, v_or, v_not, v_okT, v_okB, v_okO, v_truBl, v_truInt, v_truB, v_cmpB, v_asB, v_andB, v_orB, v_notB, v_ite, v_noX, v_chain, v_useT, v_useF, v_b_int, v_i_int, v_b_str, v_add, v_sub, v_band, v_bor, v_bxor, v_mul, v_mod, v_fdiv, v_shl, v_shr, v_le, v_lt, v_eqI, v_neI, v_eqB, v_neB, v_setf, v_lst, v_una, v_attr, v_aug, v_name, List.length_cons, List.length_nil, Nat.zero_add, Nat.reduceAdd, Nat.reduceSub, and_self, if_true, if_false, Bool.false_eq_true, Bool.not_true, Bool.not_false, Bool.and_true, Bool.true_and, Bool.and_self, decide_true, decide_false, List.set_cons_zero, List.set_cons_succ, List.cons_append, List.nil_append, List.append_nil, cmpD2, cmpD, cmpV, ordV, runB, List.map_cons, List.map_nil, List.replicate, Nat.sub_self]
/-! ### texts read -/
def okc (c : Nat) : Bool := ([48, 49, 50, 51, 52, 53, 54, 55, 56, 57, 59, 32] : List Nat).contains c
theorem okc_lt {c : Nat} (h : okc c = true) : c < 128 := by
  unfold okc at h
  rw [List.contains_iff_mem] at h
  simp only [List.mem_cons, List.not_mem_nil, or_false] at h
  omega
theorem okc_dig {c : Nat} (h1 : 48 ≤ c) (h2 : c ≤ 57) : okc c = true := by
  unfold okc
  rw [List.contains_iff_mem]
  simp only [List.mem_cons, List.not_mem_nil, or_false]
  omega
theorem fetchX {s : List Nat} {S : Hs} {i : Nat} : fetch S i (.txt s) = some (s[i]?.map fun c => PV.str [c]) := by
  show (match s[i]? with
    | some c => some (some (PV.str [c]))
    | none => some none) = _
  cases s[i]? <;> rfl
theorem spl_n {t : List Nat} : ∀ {s acc : List Nat} {k : Nat}, (TL.spl t k acc s).length ≤ s.length + 1 ∧ ∀ p ∈ TL.spl t k acc s, p.length ≤ acc.length + s.length
  | [], acc, k => by
    rw [TL.spl_nil]
    exact ⟨Nat.le_refl _, fun p h => by rw [List.mem_singleton.mp h]; exact Nat.le_add_right _ _⟩
  | x :: s, acc, 0 => by
    cases e : TL.pre t (x :: s) with
    | true =>
      rw [TL.spl_hit e]
      have h := spl_n (t := t) (s := s) (acc := []) (k := t.length - 1)
      refine ⟨by rw [List.length_cons, List.length_cons]; have := h.1; omega, fun p hp => ?_⟩
      rcases List.mem_cons.mp hp with rfl | hp
      · exact Nat.le_add_right _ _
      · have := h.2 p hp
        rw [List.length_cons]
        simp at this
        omega
    | false =>
      rw [TL.spl_miss e]
      have h := spl_n (t := t) (s := s) (acc := acc ++ [x]) (k := 0)
      refine ⟨by rw [List.length_cons]; have := h.1; omega, fun p hp => ?_⟩
      have := h.2 p hp
      rw [List.length_append] at this
      rw [List.length_cons]
      simp at this
      omega
  | x :: s, acc, k + 1 => by
    rw [show TL.spl t (k + 1) acc (x :: s) = TL.spl t k acc s from rfl]
    have h := spl_n (t := t) (s := s) (acc := acc) (k := k)
    exact ⟨by rw [List.length_cons]; have := h.1; omega, fun p hp => by have := h.2 p hp; rw [List.length_cons]; omega⟩
def words (r : List Nat) : List (List Nat) := if (r == []) = true then [] else TL.spl [32] 0 [] r
def wok (w : List Nat) : Bool := decide (1 ≤ w.length) && (decide (w.length ≤ 10) && (!w.isEmpty && w.all isDig))
def vals (p : List Nat) : List Nat := (words p).map NumText.digitsVal
def parse2 (t p q : List Nat) : Option (List Nat × List Nat) := if (words p ++ words q).all wok then (if inR (vals p) && inR (vals q) then (if (textOf (vals p) (vals q) == t) = true then some (vals p, vals q) else none) else none) else none
def parseR (t : List Nat) : List (List Nat) → Option (List Nat × List Nat)
  | [p, q] => parse2 t p q
  | _ => none
theorem parseR_no {t : List Nat} : ∀ {rows : List (List Nat)}, rows.length ≠ 2 → parseR t rows = none
  | [], _ => rfl
  | [_], _ => rfl
  | [_, _], h => absurd rfl h
  | _ :: _ :: _ :: _, _ => rfl
def parseP (t : List Nat) : Option (List Nat × List Nat) := if decide (t.length ≤ 8000) && t.all okc then parseR t (TL.spl [59, 32] 0 [] t) else none
theorem words_n {p : List Nat} : (words p).length ≤ p.length + 1 := by
  unfold words
  split
  · exact Nat.zero_le _
  · exact spl_n.1
theorem words_mem {p w : List Nat} {c : Nat} (h : w ∈ words p) (hc : c ∈ w) : c ∈ p := by
  unfold words at h
  split at h
  · cases h
  · rcases spl_mem h hc with h | h
    · cases h
    · exact h
theorem v_spl {s t : List Nat} {S : Hs} (ht : (!t.isEmpty && t.all (· < 256)) = true) (hs : s.length ≤ 8000) : splV s t S = .ok (.lst ((TL.spl t 0 [] s).map PV.str)) S := by
  unfold splV
  rw [ht, Bool.true_and, if_pos (decide_eq_true (by omega))]
  unfold newL
  have := (spl_n (t := t) (s := s) (acc := []) (k := 0)).1
  have hf : fits ((TL.spl t 0 [] s).map PV.str) = true := by
    unfold fits
    refine decide_eq_true ?_
    rw [List.length_map]
    omega
  rw [if_pos hf]
  rfl
theorem v_splE {f g : Loc → Hs → RE} {L : Loc} {S : Hs} {s t : List Nat} (hf : f L S = .ok (.str s) S) (hg : g L S = .ok (.str t) S) : splE f g L S = splV s t S := by
  show (f L S).bind _ = _
  rw [hf, v_re]
  show (g L S).bind _ = _
  rw [hg, v_re]
theorem v_digE {f : Loc → Hs → RE} {L : Loc} {S : Hs} {s : List Nat} (hf : f L S = .ok (.str s) S) (h : s.all (· < 128) = true) : digE f L S = .ok (.bl (!s.isEmpty && s.all isDig)) S := by
  show (f L S).bind _ = _
  rw [hf, v_re]
  show (if s.all (· < 128) then RE.ok (.bl (!s.isEmpty && s.all isDig)) S else .bad) = _
  rw [if_pos h]
theorem dv_lt {w : List Nat} (h : w.all isDig = true) : NumText.digitsVal w < 10 ^ w.length := by
  have key : ∀ (w : List Nat) (a : Nat), w.all isDig = true → w.foldl (fun t c => t * 10 + (c - 48)) a < (a + 1) * 10 ^ w.length := by
    intro w
    induction w with
    | nil => intro a _; simp
    | cons c w ih =>
      intro a hw
      rw [List.all_cons, Bool.and_eq_true] at hw
      have h1 := ih (a * 10 + (c - 48)) hw.2
      have hc := hw.1
      unfold isDig at hc
      rw [Bool.and_eq_true, decide_eq_true_eq, decide_eq_true_eq] at hc
      rw [List.foldl_cons, List.length_cons, Nat.pow_succ]
      refine Nat.lt_of_lt_of_le h1 ?_
      have : (a * 10 + (c - 48) + 1) ≤ (a + 1) * 10 := by omega
      calc (a * 10 + (c - 48) + 1) * 10 ^ w.length ≤ ((a + 1) * 10) * 10 ^ w.length := Nat.mul_le_mul_right _ this
        _ = (a + 1) * (10 ^ w.length * 10) := by rw [Nat.mul_assoc, Nat.mul_comm 10]
  have := key w 0 h
  simpa [NumText.digitsVal] using this
theorem sm_vals {p : List Nat} (hp : p.length ≤ 8000) (h : (words p).all wok = true) : Sm (vals p) := by
  refine ⟨?_, fun n hn => ?_⟩
  · unfold vals
    rw [List.length_map]
    have := words_n (p := p)
    omega
  · obtain ⟨w, hw, rfl⟩ := List.mem_map.mp hn
    have hk := List.all_eq_true.mp h w hw
    unfold wok at hk
    rw [Bool.and_eq_true, Bool.and_eq_true, Bool.and_eq_true, decide_eq_true_eq, decide_eq_true_eq] at hk
    refine Nat.lt_of_lt_of_le (dv_lt hk.2.2.2) ?_
    exact Nat.le_trans (Nat.pow_le_pow_right (by decide) hk.2.1) (by decide)
theorem q_eq {T : Tab} {c : CmpT} {s t : List Nat} {S : Hs} : eqD T c (.str s) (.str t) S = .ok (.bl (s == t)) S := rfl
theorem q_ne {T : Tab} {c : CmpT} {s t : List Nat} {S : Hs} : neD T c (.str s) (.str t) S = .ok (.bl (!(s == t))) S := rfl
/-! ### parse_run -/
def P7 (t : List Nat) (x1 x2 x3 x4 x5 x6 : Option PV) : Loc := [some (.str t), x1, x2, x3, x4, x5, x6]
theorem len_s {T : Tab} {w : List Nat} {S : Hs} (h : w.length ≤ 16777216) : lenD T ct [.str w] S = .ok (.int (w.length : Nat)) S := by
  show (if fits w then RE.ok (.int (w.length : Nat)) S else .bad) = _
  rw [if_pos (show fits w = true from decide_eq_true h)]
theorem words_len {p w : List Nat} (h : w ∈ words p) : w.length ≤ p.length := by
  unfold words at h
  split at h
  · cases h
  · have := (spl_n (t := [32]) (s := p) (acc := []) (k := 0)).2 w h
    rw [List.length_nil] at this
    omega
def wdsv (rows : List (List Nat)) : PV := .lst (rows.map fun p => .lst ((words p).map PV.str))
theorem wok_run {n : Nat} {w : List Nat} {x0 x1 x2 x3 x4 x5 : Option PV} (h : w.all (· < 128) = true) (hw : w.length ≤ 8000) : (andE (chainE (conE (.int 1)) (bltE (consA (varE 6) nilA) (lenD (TT (n + 4)) ct)) (conE (.int 10)) (cmpD2 (TT (n + 4)) ct .LtE) (cmpD2 (TT (n + 4)) ct .LtE)) (digE (varE 6))) [x0, x1, x2, x3, x4, x5, some (.str w)] [] = .ok (.bl (wok w)) [] := by
  have hd := v_digE (f := varE 6) (L := [x0, x1, x2, x3, x4, x5, some (.str w)]) (S := []) (s := w) rfl h
  have ln : ∀ T S, lenD T ct [.str w] S = .ok (.int (w.length : Nat)) S := fun _ _ => len_s (by omega)
  have e1 : decide ((1 : Int) ≤ (w.length : Nat)) = decide (1 ≤ w.length) := decide_eq_decide.mpr (by omega)
  have e2 : decide (((w.length : Nat) : Int) ≤ 10) = decide (w.length ≤ 10) := decide_eq_decide.mpr (by omega)
  unfold wok
  generalize (!w.isEmpty && w.all isDig) = b at *
  cases c1 : decide (1 ≤ w.length) <;> cases c2 : decide (w.length ≤ 10) <;> simp only [hd, ln, e1, e2, c1, c2, Bool.false_and, v_re, v_reA, v_reB, v_reS, v_ra, v_raA, v_rb, v_rbB, v_rbS, v_rs, v_rt, v_seq, v_nil, v_ret, v_exp, v_if, v_asg, v_only, v_con, v_var0, v_varS, v_nilA, v_consA, v_bin, v_call, v_blt, v_and, v_or, v_not, v_okT, v_okB, v_okO, v_truBl, v_truInt, v_truB, v_cmpB, v_asB, v_andB, v_orB, v_notB, v_ite, v_noX, v_chain, v_useT, v_useF, v_b_int, v_i_int, v_b_str, v_add, v_sub, v_band, v_bor, v_bxor, v_mul, v_mod, v_fdiv, v_shl, v_shr, v_le, v_lt, v_eqI, v_neI, v_eqB, v_neB, v_setf, v_lst, v_una, v_attr, v_aug, v_name, List.length_cons, List.length_nil, Nat.zero_add, Nat.reduceAdd, Nat.reduceSub, and_self, if_true, if_false, Bool.false_eq_true, Bool.not_true, Bool.not_false, Bool.and_true, Bool.true_and, Bool.and_self, decide_true, decide_false, List.set_cons_zero, List.set_cons_succ, List.cons_append, List.nil_append, List.append_nil, cmpD2, cmpD, cmpV, ordV, runB, List.map_cons, List.map_nil, List.replicate, Nat.sub_self]
theorem w128 {t p w : List Nat} (ht : t.all okc = true) (hp : p ∈ TL.spl [59, 32] 0 [] t) (hw : w ∈ words p) : w.all (· < 128) = true := by
  rw [List.all_eq_true]
  intro c hc
  refine decide_eq_true (okc_lt (List.all_eq_true.mp ht c ?_))
  rcases spl_mem hp (words_mem hw hc) with h | h
  · cases h
  · exact h
theorem v_int3 {w : List Nat} {S : Hs} (h : wok w = true) : intV3 [.str w] S = .ok (.int (NumText.digitsVal w : Nat)) S := by
  unfold wok at h
  rw [Bool.and_eq_true, Bool.and_eq_true, decide_eq_true_eq, decide_eq_true_eq] at h
  show (if !w.isEmpty && w.all isDig && decide (w.length ≤ 640) then RE.ok (.int (NumText.digitsVal w : Nat)) S else .bad) = _
  rw [if_pos (by rw [h.2.2, Bool.true_and]; exact decide_eq_true (by have := h.2.1; omega))]
theorem v_tupL {xs : List PV} {S : Hs} (h : xs.length ≤ 16777216) : tupleV [.lst xs] S = .ok (.tup xs) S := by
  show newT xs S = _
  unfold newT
  rw [if_pos (show fits xs = true from decide_eq_true h)]
section
variable {n : Nat} {t : List Nat} {x1 x2 x3 x4 x5 x6 : Option PV}
theorem pr_1 (ht : t.length ≤ 16777216) : (orB (notB (truB (bltE (consA (varE 0) (consA (conE (.ty "str")) nilA)) (isiA isa)))) (orB (cmpB (binE (bltE (consA (varE 0) nilA) (lenD (TT (n + 4)) ct)) (conE (.int (8000))) (cmpD2 (TT (n + 4)) ct .Gt))) (notB (truB (bltE (consA (lcE true [5] (valI (varE 0)) (nameT 5) trueB (binE (varE 5) (binE (conE (.str [48, 49, 50, 51, 52, 53, 54, 55, 56, 57])) (conE (.str [59, 32])) (binV .Add true)) (cmpD2 (TT (n + 4)) ct .In))) nilA) allV))))) (P7 t x1 x2 x3 x4 x5 x6) [] = .ok (!(decide (t.length ≤ 8000) && t.all okc)) [] := by
  have it : ∀ S, isiA isa [.str t, .ty "str"] S = .ok (.bl true) S := fun _ => rfl
  have ln : ∀ T S, lenD T ct [.str t] S = .ok (.int (t.length : Nat)) S := fun _ _ => len_s ht
  have e1 : decide ((8000 : Int) < (t.length : Nat)) = !decide (t.length ≤ 8000) := by
    by_cases h : t.length ≤ 8000
    · rw [decide_eq_true h, decide_eq_false (by omega)]; rfl
    · rw [decide_eq_false h, decide_eq_true (by omega)]; rfl
  cases c : decide (t.length ≤ 8000) with
  | false =>
    rw [c] at e1
    unfold P7
    simp only [it, ln, v_gt, e1, Bool.false_and, v_re, v_reA, v_reB, v_reS, v_ra, v_raA, v_rb, v_rbB, v_rbS, v_rs, v_rt, v_seq, v_nil, v_ret, v_exp, v_if, v_asg, v_only, v_con, v_var0, v_varS, v_nilA, v_consA, v_bin, v_call, v_blt, v_and, v_or, v_not, v_okT, v_okB, v_okO, v_truBl, v_truInt, v_truB, v_cmpB, v_asB, v_andB, v_orB, v_notB, v_ite, v_noX, v_chain, v_useT, v_useF, v_b_int, v_i_int, v_b_str, v_add, v_sub, v_band, v_bor, v_bxor, v_mul, v_mod, v_fdiv, v_shl, v_shr, v_le, v_lt, v_eqI, v_neI, v_eqB, v_neB, v_setf, v_lst, v_una, v_attr, v_aug, v_name, List.length_cons, List.length_nil, Nat.zero_add, Nat.reduceAdd, Nat.reduceSub, and_self, if_true, if_false, Bool.false_eq_true, Bool.not_true, Bool.not_false, Bool.and_true, Bool.true_and, Bool.and_self, decide_true, decide_false, List.set_cons_zero, List.set_cons_succ, List.cons_append, List.nil_append, List.append_nil, cmpD2, cmpD, cmpV, ordV, runB, List.map_cons, List.map_nil, List.replicate, Nat.sub_self]
  | true =>
    have hl := of_decide_eq_true c
    rw [c] at e1
    have c1 : (lcE true [5] (valI (varE 0)) (nameT 5) trueB (binE (varE 5) (binE (conE (.str [48, 49, 50, 51, 52, 53, 54, 55, 56, 57])) (conE (.str [59, 32])) (binV .Add true)) (cmpD2 (TT (n + 4)) ct .In))) (P7 t x1 x2 x3 x4 x5 x6) [] = .ok (.lst (t.map fun c => .bl (okc c))) [] :=
      lc_all (l := t) (d := .txt t) (fun c => .str [c]) (fun c => P7 t x1 x2 x3 x4 (some (.str [c])) x6) (fun c => .bl (okc c)) rfl (fun i => fetchX) (fun x _ => rfl) (fun x _ => rfl) (by omega)
    have ha := fun S => v_allO (l := t) (f := okc) (S := S)
    unfold P7 at *
    generalize (PV.lst (t.map fun c => .bl (okc c))) = q1 at *
    generalize (lcE true [5] (valI (varE 0)) (nameT 5) trueB (binE (varE 5) (binE (conE (.str [48, 49, 50, 51, 52, 53, 54, 55, 56, 57])) (conE (.str [59, 32])) (binV .Add true)) (cmpD2 (TT (n + 4)) ct .In))) = Xq at c1 ⊢
    simp only [it, ln, v_gt, e1, c1, ha, Bool.true_and, v_re, v_reA, v_reB, v_reS, v_ra, v_raA, v_rb, v_rbB, v_rbS, v_rs, v_rt, v_seq, v_nil, v_ret, v_exp, v_if, v_asg, v_only, v_con, v_var0, v_varS, v_nilA, v_consA, v_bin, v_call, v_blt, v_and, v_or, v_not, v_okT, v_okB, v_okO, v_truBl, v_truInt, v_truB, v_cmpB, v_asB, v_andB, v_orB, v_notB, v_ite, v_noX, v_chain, v_useT, v_useF, v_b_int, v_i_int, v_b_str, v_add, v_sub, v_band, v_bor, v_bxor, v_mul, v_mod, v_fdiv, v_shl, v_shr, v_le, v_lt, v_eqI, v_neI, v_eqB, v_neB, v_setf, v_lst, v_una, v_attr, v_aug, v_name, List.length_cons, List.length_nil, Nat.zero_add, Nat.reduceAdd, Nat.reduceSub, and_self, if_true, if_false, Bool.false_eq_true, Bool.not_true, Bool.not_false, Bool.and_true, Bool.true_and, Bool.and_self, decide_true, decide_false, List.set_cons_zero, List.set_cons_succ, List.cons_append, List.nil_append, List.append_nil, cmpD2, cmpD, cmpV, ordV, runB, List.map_cons, List.map_nil, List.replicate, Nat.sub_self]
theorem pr_2 (hl : t.length ≤ 8000) : (asgS (splE (varE 0) (conE (.str [59, 32]))) (nameT 1)) (P7 t x1 x2 x3 x4 x5 x6) [] = .nx (P7 t (some (.lst ((TL.spl [59, 32] 0 [] t).map PV.str))) x2 x3 x4 x5 x6) [] := by
  rw [v_asg, v_splE (s := t) (t := [59, 32]) rfl rfl, v_spl (by decide) hl]
  rfl
theorem pr_3 (hl : t.length ≤ 8000) {rows : List (List Nat)} (hr : rows = TL.spl [59, 32] 0 [] t) : (asgS (lcE true [4] (valI (varE 1)) (nameT 4) trueB (iteE (cmpB (binE (varE 4) (conE (.str [])) (cmpD2 (TT (n + 4)) ct .Eq))) (lstE true nilA) (splE (varE 4) (conE (.str [32]))))) (nameT 2)) (P7 t (some (.lst (rows.map PV.str))) x2 x3 x4 x5 x6) [] = .nx (P7 t (some (.lst (rows.map PV.str))) (some (wdsv rows)) x3 x4 x5 x6) [] := by
  subst hr
  have hn := spl_n (t := [59, 32]) (s := t) (acc := []) (k := 0)
  have c1 : (lcE true [4] (valI (varE 1)) (nameT 4) trueB (iteE (cmpB (binE (varE 4) (conE (.str [])) (cmpD2 (TT (n + 4)) ct .Eq))) (lstE true nilA) (splE (varE 4) (conE (.str [32]))))) (P7 t (some (.lst ((TL.spl [59, 32] 0 [] t).map PV.str))) x2 x3 x4 x5 x6) [] = .ok (wdsv (TL.spl [59, 32] 0 [] t)) [] :=
    lc_all (l := TL.spl [59, 32] 0 [] t) (d := .seq (.lst ((TL.spl [59, 32] 0 [] t).map PV.str))) PV.str (fun p => P7 t (some (.lst ((TL.spl [59, 32] 0 [] t).map PV.str))) x2 x3 (some (.str p)) x5 x6) (fun p => .lst ((words p).map PV.str)) (v_valI rfl) (fun i => fetchL) (fun x _ => rfl) (fun p hp => by
      have hpl : p.length ≤ 8000 := by
        have := hn.2 p hp
        rw [List.length_nil] at this
        omega
      have hs := v_splE (f := varE 4) (g := conE (.str [32])) (L := P7 t (some (.lst ((TL.spl [59, 32] 0 [] t).map PV.str))) x2 x3 (some (.str p)) x5 x6) (S := []) (s := p) (t := [32]) rfl rfl
      rw [v_spl (by decide) hpl] at hs
      unfold words
      generalize (PV.lst ((TL.spl [59, 32] 0 [] t).map PV.str)) = q0 at *
      unfold P7 at *
      cases c : (p == [])
      · simp only [hs, q_eq, c, v_re, v_reA, v_reB, v_reS, v_ra, v_raA, v_rb, v_rbB, v_rbS, v_rs, v_rt, v_seq, v_nil, v_ret, v_exp, v_if, v_asg, v_only, v_con, v_var0, v_varS, v_nilA, v_consA, v_bin, v_call, v_blt, v_and, v_or, v_not, v_okT, v_okB, v_okO, v_truBl, v_truInt, v_truB, v_cmpB, v_asB, v_andB, v_orB, v_notB, v_ite, v_noX, v_chain, v_useT, v_useF, v_b_int, v_i_int, v_b_str, v_add, v_sub, v_band, v_bor, v_bxor, v_mul, v_mod, v_fdiv, v_shl, v_shr, v_le, v_lt, v_eqI, v_neI, v_eqB, v_neB, v_setf, v_lst, v_una, v_attr, v_aug, v_name, List.length_cons, List.length_nil, Nat.zero_add, Nat.reduceAdd, Nat.reduceSub, and_self, if_true, if_false, Bool.false_eq_true, Bool.not_true, Bool.not_false, Bool.and_true, Bool.true_and, Bool.and_self, decide_true, decide_false, List.set_cons_zero, List.set_cons_succ, List.cons_append, List.nil_append, List.append_nil, cmpD2, cmpD, cmpV, ordV, runB, List.map_cons, List.map_nil, List.replicate, Nat.sub_self]
      · have f0 : fits ([] : List PV) = true := rfl
        simp only [q_eq, c, f0, v_re, v_reA, v_reB, v_reS, v_ra, v_raA, v_rb, v_rbB, v_rbS, v_rs, v_rt, v_seq, v_nil, v_ret, v_exp, v_if, v_asg, v_only, v_con, v_var0, v_varS, v_nilA, v_consA, v_bin, v_call, v_blt, v_and, v_or, v_not, v_okT, v_okB, v_okO, v_truBl, v_truInt, v_truB, v_cmpB, v_asB, v_andB, v_orB, v_notB, v_ite, v_noX, v_chain, v_useT, v_useF, v_b_int, v_i_int, v_b_str, v_add, v_sub, v_band, v_bor, v_bxor, v_mul, v_mod, v_fdiv, v_shl, v_shr, v_le, v_lt, v_eqI, v_neI, v_eqB, v_neB, v_setf, v_lst, v_una, v_attr, v_aug, v_name, List.length_cons, List.length_nil, Nat.zero_add, Nat.reduceAdd, Nat.reduceSub, and_self, if_true, if_false, Bool.false_eq_true, Bool.not_true, Bool.not_false, Bool.and_true, Bool.true_and, Bool.and_self, decide_true, decide_false, List.set_cons_zero, List.set_cons_succ, List.cons_append, List.nil_append, List.append_nil, cmpD2, cmpD, cmpV, ordV, runB, List.map_cons, List.map_nil, List.replicate, Nat.sub_self]) (by omega)
  rw [v_asg, c1]
  rfl
theorem pr_4n {rows : List (List Nat)} (h2 : rows.length ≠ 2) : (orB (cmpB (binE (bltE (consA (varE 1) nilA) (lenD (TT (n + 4)) ct)) (conE (.int 2)) (cmpD2 (TT (n + 4)) ct .NotEq))) (notB (truB (bltE (consA (lc2E true [4, 6] [6] (valI (varE 2)) (nameT 4) trueB (valI (varE 4)) (nameT 6) trueB (andE (chainE (conE (.int 1)) (bltE (consA (varE 6) nilA) (lenD (TT (n + 4)) ct)) (conE (.int 10)) (cmpD2 (TT (n + 4)) ct .LtE) (cmpD2 (TT (n + 4)) ct .LtE)) (digE (varE 6)))) nilA) allV)))) (P7 t (some (.lst (rows.map PV.str))) x2 x3 x4 x5 x6) [] = .ok true [] := by
  have ln : ∀ T S, lenD T ct [.lst (rows.map PV.str)] S = .ok (.int (rows.length : Nat)) S := fun T S => by
    show RE.ok (.int ((rows.map PV.str).length : Nat)) S = _
    rw [List.length_map]
  have nn : ∀ T S, neD T ct (.int (rows.length : Nat)) (.int 2) S = .ok (.bl true) S := fun T S => by rw [v_neI, decide_eq_false (by omega)]; rfl
  generalize (PV.lst (rows.map PV.str)) = q1 at *
  unfold P7
  simp only [ln, nn, v_re, v_reA, v_reB, v_reS, v_ra, v_raA, v_rb, v_rbB, v_rbS, v_rs, v_rt, v_seq, v_nil, v_ret, v_exp, v_if, v_asg, v_only, v_con, v_var0, v_varS, v_nilA, v_consA, v_bin, v_call, v_blt, v_and, v_or, v_not, v_okT, v_okB, v_okO, v_truBl, v_truInt, v_truB, v_cmpB, v_asB, v_andB, v_orB, v_notB, v_ite, v_noX, v_chain, v_useT, v_useF, v_b_int, v_i_int, v_b_str, v_add, v_sub, v_band, v_bor, v_bxor, v_mul, v_mod, v_fdiv, v_shl, v_shr, v_le, v_lt, v_eqI, v_neI, v_eqB, v_neB, v_setf, v_lst, v_una, v_attr, v_aug, v_name, List.length_cons, List.length_nil, Nat.zero_add, Nat.reduceAdd, Nat.reduceSub, and_self, if_true, if_false, Bool.false_eq_true, Bool.not_true, Bool.not_false, Bool.and_true, Bool.true_and, Bool.and_self, decide_true, decide_false, List.set_cons_zero, List.set_cons_succ, List.cons_append, List.nil_append, List.append_nil, cmpD2, cmpD, cmpV, ordV, runB, List.map_cons, List.map_nil, List.replicate, Nat.sub_self]
end
section
variable {n : Nat} {t p q : List Nat} {x1 x2 x3 x4 x5 x6 : Option PV}
theorem two_le (hl : t.length ≤ 8000) (hr : TL.spl [59, 32] 0 [] t = [p, q]) : p.length ≤ 8000 ∧ q.length ≤ 8000 := by
  have hn := (spl_n (t := [59, 32]) (s := t) (acc := []) (k := 0)).2
  rw [hr] at hn
  have h1 := hn p (by simp)
  have h2 := hn q (by simp)
  rw [List.length_nil] at h1 h2
  omega
theorem pr_4 (hl : t.length ≤ 8000) (ht : t.all okc = true) (hr : TL.spl [59, 32] 0 [] t = [p, q]) : (orB (cmpB (binE (bltE (consA (varE 1) nilA) (lenD (TT (n + 4)) ct)) (conE (.int 2)) (cmpD2 (TT (n + 4)) ct .NotEq))) (notB (truB (bltE (consA (lc2E true [4, 6] [6] (valI (varE 2)) (nameT 4) trueB (valI (varE 4)) (nameT 6) trueB (andE (chainE (conE (.int 1)) (bltE (consA (varE 6) nilA) (lenD (TT (n + 4)) ct)) (conE (.int 10)) (cmpD2 (TT (n + 4)) ct .LtE) (cmpD2 (TT (n + 4)) ct .LtE)) (digE (varE 6)))) nilA) allV)))) (P7 t (some (.lst ([p, q].map PV.str))) (some (wdsv [p, q])) x3 x4 x5 x6) [] = .ok (!((words p ++ words q).all wok)) [] := by
  have hlen := two_le hl hr
  have c2 : (lc2E true [4, 6] [6] (valI (varE 2)) (nameT 4) trueB (valI (varE 4)) (nameT 6) trueB (andE (chainE (conE (.int 1)) (bltE (consA (varE 6) nilA) (lenD (TT (n + 4)) ct)) (conE (.int 10)) (cmpD2 (TT (n + 4)) ct .LtE) (cmpD2 (TT (n + 4)) ct .LtE)) (digE (varE 6)))) (P7 t (some (.lst ([p, q].map PV.str))) (some (wdsv [p, q])) x3 x4 x5 x6) [] = .ok (.lst ([p, q].flatMap fun r => (words r).map fun w => .bl (wok w))) [] :=
    lc2_on (l := [p, q]) (g := words) (d := .seq (wdsv [p, q])) (fun r => .lst ((words r).map PV.str)) PV.str (fun _ w => .bl (wok w)) (fun r => .seq (.lst ((words r).map PV.str))) (v_valI rfl) (fun i => fetchL (l := [p, q]) (h := fun r => .lst ((words r).map PV.str))) (fun x _ => v_valI rfl) (fun x _ i => fetchL) (fun x hx w hw => by
      have hm : x ∈ TL.spl [59, 32] 0 [] t := by rw [hr]; exact hx
      have hx' : x.length ≤ 8000 := by
        simp only [List.mem_cons, List.not_mem_nil, or_false] at hx
        rcases hx with rfl | rfl
        · exact hlen.1
        · exact hlen.2
      exact wok_run (w128 ht hm hw) (Nat.le_trans (words_len hw) hx')) (fun x hx => by
      have := words_n (p := x)
      simp only [List.mem_cons, List.not_mem_nil, or_false] at hx
      rcases hx with rfl | rfl
      · have := hlen.1; omega
      · have := hlen.2; omega) (by
      have h1 := words_n (p := p)
      have h2 := words_n (p := q)
      have := hlen.1
      have := hlen.2
      show (words p).length + ((words q).length + 0) < 16777216
      omega) (by show 2 < 16777216; decide)
  rw [show ([p, q].flatMap fun r => (words r).map fun w => PV.bl (wok w)) = (([p, q].flatMap words).map fun w => PV.bl (wok w)) from flat_bl] at c2
  have al := fun S => v_allO (l := [p, q].flatMap words) (f := wok) (S := S)
  rw [show ([p, q].flatMap words) = words p ++ words q by simp] at c2 al
  have ln : ∀ T S, lenD T ct [.lst ([p, q].map PV.str)] S = .ok (.int 2) S := fun _ _ => rfl
  have nn : ∀ T S, neD T ct (.int 2) (.int 2) S = .ok (.bl false) S := fun _ _ => rfl
  generalize (words p ++ words q).all wok = bb at *
  generalize (PV.lst ((words p ++ words q).map fun w => .bl (wok w))) = q1 at *
  generalize (PV.lst ([p, q].map PV.str)) = q2 at *
  generalize wdsv [p, q] = q3 at *
  generalize (lc2E true [4, 6] [6] (valI (varE 2)) (nameT 4) trueB (valI (varE 4)) (nameT 6) trueB (andE (chainE (conE (.int 1)) (bltE (consA (varE 6) nilA) (lenD (TT (n + 4)) ct)) (conE (.int 10)) (cmpD2 (TT (n + 4)) ct .LtE) (cmpD2 (TT (n + 4)) ct .LtE)) (digE (varE 6)))) = Xq at c2 ⊢
  unfold P7 at *
  simp only [ln, nn, c2, al, v_re, v_reA, v_reB, v_reS, v_ra, v_raA, v_rb, v_rbB, v_rbS, v_rs, v_rt, v_seq, v_nil, v_ret, v_exp, v_if, v_asg, v_only, v_con, v_var0, v_varS, v_nilA, v_consA, v_bin, v_call, v_blt, v_and, v_or, v_not, v_okT, v_okB, v_okO, v_truBl, v_truInt, v_truB, v_cmpB, v_asB, v_andB, v_orB, v_notB, v_ite, v_noX, v_chain, v_useT, v_useF, v_b_int, v_i_int, v_b_str, v_add, v_sub, v_band, v_bor, v_bxor, v_mul, v_mod, v_fdiv, v_shl, v_shr, v_le, v_lt, v_eqI, v_neI, v_eqB, v_neB, v_setf, v_lst, v_una, v_attr, v_aug, v_name, List.length_cons, List.length_nil, Nat.zero_add, Nat.reduceAdd, Nat.reduceSub, and_self, if_true, if_false, Bool.false_eq_true, Bool.not_true, Bool.not_false, Bool.and_true, Bool.true_and, Bool.and_self, decide_true, decide_false, List.set_cons_zero, List.set_cons_succ, List.cons_append, List.nil_append, List.append_nil, cmpD2, cmpD, cmpV, ordV, runB, List.map_cons, List.map_nil, List.replicate, Nat.sub_self]
theorem rw_vals {r : List Nat} : rwv (vals r) = .tup ((words r).map fun w => .int (NumText.digitsVal w : Nat)) := by
  unfold rwv vals
  rw [List.map_map]
  rfl
theorem pr_5 (hl : t.length ≤ 8000) (hr : TL.spl [59, 32] 0 [] t = [p, q]) (hw : (words p ++ words q).all wok = true) : (asgS (bltE (consA (lcE true [4] (valI (varE 2)) (nameT 4) trueB (bltE (consA (lcE true [6] (valI (varE 4)) (nameT 6) trueB (bltE (consA (varE 6) nilA) intV3)) nilA) tupleV)) nilA) tupleV) (nameT 3)) (P7 t x1 (some (wdsv [p, q])) x3 x4 x5 x6) [] = .nx (P7 t x1 (some (wdsv [p, q])) (some (runv (vals p) (vals q))) x4 x5 x6) [] := by
  have hlen := two_le hl hr
  rw [List.all_append, Bool.and_eq_true] at hw
  have c1 : ∀ r, (r = p ∨ r = q) → (bltE (consA (lcE true [6] (valI (varE 4)) (nameT 6) trueB (bltE (consA (varE 6) nilA) intV3)) nilA) tupleV) (P7 t x1 (some (wdsv [p, q])) x3 (some (.lst ((words r).map PV.str))) x5 x6) [] = .ok (rwv (vals r)) [] := fun r hr' => by
    have hl' : r.length ≤ 8000 ∧ (words r).all wok = true := by
      rcases hr' with rfl | rfl
      · exact ⟨hlen.1, hw.1⟩
      · exact ⟨hlen.2, hw.2⟩
    have hn := words_n (p := r)
    have c : (lcE true [6] (valI (varE 4)) (nameT 6) trueB (bltE (consA (varE 6) nilA) intV3)) (P7 t x1 (some (wdsv [p, q])) x3 (some (.lst ((words r).map PV.str))) x5 x6) [] = .ok (.lst ((words r).map fun w => .int (NumText.digitsVal w : Nat))) [] :=
      lc_all (l := words r) (d := .seq (.lst ((words r).map PV.str))) PV.str (fun w => P7 t x1 (some (wdsv [p, q])) x3 (some (.lst ((words r).map PV.str))) x5 (some (.str w))) (fun w => .int (NumText.digitsVal w : Nat)) (v_valI rfl) (fun i => fetchL) (fun _ _ => rfl) (fun w hw' => by
        have h := fun S => v_int3 (S := S) (List.all_eq_true.mp hl'.2 w hw')
        show intV3 [.str w] [] = _
        exact h []) (by omega)
    rw [v_blt, v_consA, c, v_reA, v_nilA, v_raA, v_ra, v_tupL (by rw [List.length_map]; omega), rw_vals]
  have c2 : (lcE true [4] (valI (varE 2)) (nameT 4) trueB (bltE (consA (lcE true [6] (valI (varE 4)) (nameT 6) trueB (bltE (consA (varE 6) nilA) intV3)) nilA) tupleV)) (P7 t x1 (some (wdsv [p, q])) x3 x4 x5 x6) [] = .ok (.lst ([p, q].map fun r => rwv (vals r))) [] :=
    lc_all (l := [p, q]) (d := .seq (wdsv [p, q])) (fun r => .lst ((words r).map PV.str)) (fun r => P7 t x1 (some (wdsv [p, q])) x3 (some (.lst ((words r).map PV.str))) x5 x6) (fun r => rwv (vals r)) (v_valI rfl) (fun i => fetchL (l := [p, q]) (h := fun r => .lst ((words r).map PV.str))) (fun _ _ => rfl) (fun r hr' => by
      simp only [List.mem_cons, List.not_mem_nil, or_false] at hr'
      exact c1 r hr') (by show 2 < 16777216; decide)
  rw [v_asg, v_blt, v_consA, c2, v_reA, v_nilA, v_raA, v_ra, v_tupL (by show 2 ≤ 16777216; decide)]
  rfl
theorem pr_6 {a b : List Nat} (ha : Sm a) (hb : Sm b) : (orB (notB (truB (callE 1 0 (consA (varE 3) nilA) nilA fun vs qs => useC true ((TT (n + 4)).run 3) ((fun vs _ => vs) vs qs)))) (cmpB (binE (callE 1 0 (consA (varE 3) nilA) nilA fun vs qs => useC true ((TT (n + 4)).run 2) ((fun vs _ => vs) vs qs)) (varE 0) (cmpD2 (TT (n + 4)) ct .NotEq)))) (P7 t x1 x2 (some (runv a b)) x4 x5 x6) [] = .ok (!(inR a && inR b && (textOf a b == t))) [] := by
  have ir := fun S => i_isrun (n := n + 1) (S := S) ha hb
  have fm := fun S => i_fmt (n := n) (S := S) ha hb
  change ∀ S, isoC ((TT (n + 4)).run 3) _ S = _ at ir
  generalize runv a b = q1 at *
  unfold P7
  cases c : (inR a && inR b)
  · rw [c] at ir
    simp only [ir, Bool.false_and, v_re, v_reA, v_reB, v_reS, v_ra, v_raA, v_rb, v_rbB, v_rbS, v_rs, v_rt, v_seq, v_nil, v_ret, v_exp, v_if, v_asg, v_only, v_con, v_var0, v_varS, v_nilA, v_consA, v_bin, v_call, v_blt, v_and, v_or, v_not, v_okT, v_okB, v_okO, v_truBl, v_truInt, v_truB, v_cmpB, v_asB, v_andB, v_orB, v_notB, v_ite, v_noX, v_chain, v_useT, v_useF, v_b_int, v_i_int, v_b_str, v_add, v_sub, v_band, v_bor, v_bxor, v_mul, v_mod, v_fdiv, v_shl, v_shr, v_le, v_lt, v_eqI, v_neI, v_eqB, v_neB, v_setf, v_lst, v_una, v_attr, v_aug, v_name, List.length_cons, List.length_nil, Nat.zero_add, Nat.reduceAdd, Nat.reduceSub, and_self, if_true, if_false, Bool.false_eq_true, Bool.not_true, Bool.not_false, Bool.and_true, Bool.true_and, Bool.and_self, decide_true, decide_false, List.set_cons_zero, List.set_cons_succ, List.cons_append, List.nil_append, List.append_nil, cmpD2, cmpD, cmpV, ordV, runB, List.map_cons, List.map_nil, List.replicate, Nat.sub_self]
  · rw [c] at ir fm
    simp only [if_pos rfl] at fm
    cases c2 : (textOf a b == t) <;> simp only [ir, fm, q_ne, c2, v_re, v_reA, v_reB, v_reS, v_ra, v_raA, v_rb, v_rbB, v_rbS, v_rs, v_rt, v_seq, v_nil, v_ret, v_exp, v_if, v_asg, v_only, v_con, v_var0, v_varS, v_nilA, v_consA, v_bin, v_call, v_blt, v_and, v_or, v_not, v_okT, v_okB, v_okO, v_truBl, v_truInt, v_truB, v_cmpB, v_asB, v_andB, v_orB, v_notB, v_ite, v_noX, v_chain, v_useT, v_useF, v_b_int, v_i_int, v_b_str, v_add, v_sub, v_band, v_bor, v_bxor, v_mul, v_mod, v_fdiv, v_shl, v_shr, v_le, v_lt, v_eqI, v_neI, v_eqB, v_neB, v_setf, v_lst, v_una, v_attr, v_aug, v_name, List.length_cons, List.length_nil, Nat.zero_add, Nat.reduceAdd, Nat.reduceSub, and_self, if_true, if_false, Bool.false_eq_true, Bool.not_true, Bool.not_false, Bool.and_true, Bool.true_and, Bool.and_self, decide_true, decide_false, List.set_cons_zero, List.set_cons_succ, List.cons_append, List.nil_append, List.append_nil, cmpD2, cmpD, cmpV, ordV, runB, List.map_cons, List.map_nil, List.replicate, Nat.sub_self]
end
theorem solid_s {t : List Nat} : [PV.str t].all (solid dpF) = true := rfl
theorem i_parse {n : Nat} {t : List Nat} {S : Hs} (ht : t.length ≤ 16777216) : isoC ((TT (n + 5)).run 4) [.str t] S = match parseP t with
    | some (a, b) => .ok (runv a b) S
    | none => .ex 502 (.str t) S := by
  have rz : ∀ (x1 x2 x3 x4 x5 x6 : Option PV), raiseS 502 (varE 0) (P7 t x1 x2 x3 x4 x5 x6) [] = .ex 502 (.str t) (P7 t x1 x2 x3 x4 x5 x6) [] := fun _ _ _ _ _ _ => rfl
  have xs : ∀ (k : Nat) (v : PV) (L : Loc) (S : Hs) (f : Loc → Hs → RS), (RS.ex k v L S).bind f = .ex k v L S := fun _ _ _ _ _ => rfl
  have e0 : (TT (n + 5)).run 4 = runB 7 (e4 (TT (n + 4))) := rn4 (n := n + 4)
  have bad : ∀ L, e4 (TT (n + 4)) (P7 t none none none none none none) [] = .ex 502 (.str t) L [] → isoC ((TT (n + 5)).run 4) [.str t] S = .ex 502 (.str t) S := fun L h => by
    refine iso_ex solid_s ?_ rfl
    rw [e0]
    unfold runB
    rw [show ([PV.str t].map some ++ List.replicate (7 - [PV.str t].length) none) = P7 t none none none none none none from rfl, h]
  have good : ∀ a b, e4 (TT (n + 4)) (P7 t none none none none none none) [] = .rt (runv a b) [] → isoC ((TT (n + 5)).run 4) [.str t] S = .ok (runv a b) S := fun a b h => by
    refine iso_ok solid_s (S1 := []) ?_ (solid_run (n := 21))
    rw [e0]
    exact runB_rt h
  have p1 := pr_1 (n := n) (t := t) (x1 := none) (x2 := none) (x3 := none) (x4 := none) (x5 := none) (x6 := none) ht
  have i1 : ∀ (x y : RS), (if (!false) = true then x else y) = x := fun _ _ => rfl
  have i2 : ∀ (x y : RS), (if (!true) = true then x else y) = y := fun _ _ => rfl
  unfold parseP
  cases c0 : (decide (t.length ≤ 8000) && t.all okc) with
  | false =>
    rw [if_neg Bool.false_ne_true]
    refine bad (P7 t none none none none none none) ?_
    rw [c0] at p1
    unfold e4
    rw [v_seq, v_if, p1, v_rbS, i1, v_seq, rz, xs, xs]
  | true =>
    rw [if_pos rfl]
    rw [c0] at p1
    rw [Bool.and_eq_true, decide_eq_true_eq] at c0
    obtain ⟨hl, hk⟩ := c0
    have st : ∀ R, (R = e4 (TT (n + 4)) (P7 t none none none none none none) []) → True := fun _ _ => trivial
    have p2 := pr_2 (t := t) (x1 := none) (x2 := none) (x3 := none) (x4 := none) (x5 := none) (x6 := none) hl
    have p3 := pr_3 (n := n) (t := t) (x2 := none) (x3 := none) (x4 := none) (x5 := none) (x6 := none) hl rfl
    by_cases h2 : (TL.spl [59, 32] 0 [] t).length = 2
    · obtain ⟨p, q, hr⟩ : ∃ p q, TL.spl [59, 32] 0 [] t = [p, q] := by
        match h : TL.spl [59, 32] 0 [] t, h2 with
        | [p, q], _ => exact ⟨p, q, rfl⟩
      rw [hr] at p2 p3 ⊢
      rw [show parseR t [p, q] = parse2 t p q from rfl]
      have p4 := pr_4 (n := n) (x3 := none) (x4 := none) (x5 := none) (x6 := none) hl hk hr
      unfold parse2
      cases c1 : (words p ++ words q).all wok with
      | false =>
        rw [if_neg Bool.false_ne_true]
        refine bad (P7 t (some (.lst ([p, q].map PV.str))) (some (wdsv [p, q])) none none none none) ?_
        rw [c1] at p4
        unfold e4
        rw [v_seq, v_if, p1, v_rbS, i2, v_nil, v_rs, v_seq, p2, v_rs, v_seq, p3, v_rs, v_seq, v_if, p4, v_rbS, i1, v_seq, rz, xs, xs]
      | true =>
        rw [if_pos rfl]
        have p5 := pr_5 (x1 := some (.lst ([p, q].map PV.str))) (x3 := none) (x4 := none) (x5 := none) (x6 := none) hl hr c1
        rw [c1] at p4
        have hlen := two_le hl hr
        rw [List.all_append, Bool.and_eq_true] at c1
        have p6 := pr_6 (n := n) (t := t) (x1 := some (.lst ([p, q].map PV.str))) (x2 := some (wdsv [p, q])) (x4 := none) (x5 := none) (x6 := none) (sm_vals hlen.1 c1.1) (sm_vals hlen.2 c1.2)
        have key : ∀ b, (inR (vals p) && inR (vals q) && (textOf (vals p) (vals q) == t)) = b → (orB (notB (truB (callE 1 0 (consA (varE 3) nilA) nilA fun vs qs => useC true ((TT (n + 4)).run 3) ((fun vs _ => vs) vs qs)))) (cmpB (binE (callE 1 0 (consA (varE 3) nilA) nilA fun vs qs => useC true ((TT (n + 4)).run 2) ((fun vs _ => vs) vs qs)) (varE 0) (cmpD2 (TT (n + 4)) ct .NotEq)))) (P7 t (some (.lst ([p, q].map PV.str))) (some (wdsv [p, q])) (some (runv (vals p) (vals q))) none none none) [] = .ok (!b) [] := fun b hb => by rw [p6, hb]
        cases c2 : (inR (vals p) && inR (vals q)) with
        | false =>
          rw [if_neg Bool.false_ne_true]
          refine bad (P7 t (some (.lst ([p, q].map PV.str))) (some (wdsv [p, q])) (some (runv (vals p) (vals q))) none none none) ?_
          have k := key false (by rw [c2]; rfl)
          unfold e4
          rw [v_seq, v_if, p1, v_rbS, i2, v_nil, v_rs, v_seq, p2, v_rs, v_seq, p3, v_rs, v_seq, v_if, p4, v_rbS, i2, v_nil, v_rs, v_seq, p5, v_rs, v_seq, v_if, k, v_rbS, i1, v_seq, rz, xs, xs]
        | true =>
          rw [if_pos rfl]
          cases c3 : (textOf (vals p) (vals q) == t) with
          | false =>
            rw [if_neg Bool.false_ne_true]
            refine bad (P7 t (some (.lst ([p, q].map PV.str))) (some (wdsv [p, q])) (some (runv (vals p) (vals q))) none none none) ?_
            have k := key false (by rw [c2, c3]; rfl)
            unfold e4
            rw [v_seq, v_if, p1, v_rbS, i2, v_nil, v_rs, v_seq, p2, v_rs, v_seq, p3, v_rs, v_seq, v_if, p4, v_rbS, i2, v_nil, v_rs, v_seq, p5, v_rs, v_seq, v_if, k, v_rbS, i1, v_seq, rz, xs, xs]
          | true =>
            rw [if_pos rfl]
            refine good _ _ ?_
            have k := key true (by rw [c2, c3]; rfl)
            unfold e4
            rw [v_seq, v_if, p1, v_rbS, i2, v_nil, v_rs, v_seq, p2, v_rs, v_seq, p3, v_rs, v_seq, v_if, p4, v_rbS, i2, v_nil, v_rs, v_seq, p5, v_rs, v_seq, v_if, k, v_rbS, i2, v_nil, v_rs, v_seq, v_ret]
            rfl
    · rw [parseR_no h2]
      refine bad (P7 t (some (.lst ((TL.spl [59, 32] 0 [] t).map PV.str))) (some (wdsv (TL.spl [59, 32] 0 [] t))) none none none none) ?_
      have p4 := pr_4n (n := n) (t := t) (x2 := some (wdsv (TL.spl [59, 32] 0 [] t))) (x3 := none) (x4 := none) (x5 := none) (x6 := none) h2
      unfold e4
      rw [v_seq, v_if, p1, v_rbS, i2, v_nil, v_rs, v_seq, p2, v_rs, v_seq, p3, v_rs, v_seq, v_if, p4, v_rbS, if_pos rfl, v_seq, rz, xs, xs]
/-! ### what is written is read -/
theorem joinL_tl {s : List Nat} : ∀ {l : List (List Nat)}, joinL s l = TL.joinL s l
  | [] => rfl
  | [x] => List.append_nil x
  | x :: y :: r => by
    have ih := joinL_tl (s := s) (l := y :: r)
    show x ++ ((s ++ y) ++ (r.map fun p => s ++ p).flatten) = x ++ (s ++ TL.joinL s (y :: r))
    rw [← ih, List.append_assoc]
    rfl
theorem joinL_all {s : List Nat} {P : Nat → Prop} : ∀ {l : List (List Nat)}, (∀ c ∈ s, P c) → (∀ x ∈ l, ∀ c ∈ x, P c) → ∀ c ∈ joinL s l, P c
  | [], _, _, c, h => by cases h
  | x :: l, hs, hl, c, h => by
    have h' : c ∈ x ++ (l.map fun p => s ++ p).flatten := h
    rcases List.mem_append.mp h' with h | h
    · exact hl x List.mem_cons_self c h
    · rw [List.mem_flatten] at h
      obtain ⟨q, hq, hc⟩ := h
      obtain ⟨p, hp, rfl⟩ := List.mem_map.mp hq
      rcases List.mem_append.mp hc with h | h
      · exact hs c h
      · exact hl p (List.mem_cons_of_mem _ hp) c h
theorem txt_ch {r : List Nat} : ∀ c ∈ txt r, c = 32 ∨ (48 ≤ c ∧ c ≤ 57) := by
  refine joinL_all (fun c h => .inl (List.mem_singleton.mp h)) fun x hx c hc => ?_
  obtain ⟨n, _, rfl⟩ := List.mem_map.mp hx
  exact .inr (dig_num hc)
theorem okc_sep : okc 59 = true ∧ okc 32 = true := ⟨by decide, by decide⟩
theorem text_ok {a b : List Nat} : (textOf a b).all okc = true := by
  rw [List.all_eq_true]
  refine joinL_all (fun c h => ?_) fun x hx c hc => ?_
  · simp only [List.mem_cons, List.not_mem_nil, or_false] at h
    rcases h with rfl | rfl
    · exact okc_sep.1
    · exact okc_sep.2
  · have : c = 32 ∨ (48 ≤ c ∧ c ≤ 57) := by
      simp only [List.mem_cons, List.not_mem_nil, or_false] at hx
      rcases hx with rfl | rfl <;> exact txt_ch c hc
    rcases this with rfl | h
    · exact okc_sep.2
    · exact okc_dig h.1 h.2
theorem words_txt {r : List Nat} : words (txt r) = r.map TL.numL := by
  cases r with
  | nil => rfl
  | cons n r =>
    have hne : ¬ (txt (n :: r) == []) = true := by
      intro h
      have h2 : TL.numL n ++ ((r.map TL.numL).map fun p => [32] ++ p).flatten = [] := eq_of_beq h
      exact TL.numL_ne n (List.append_eq_nil_iff.mp h2).1
    unfold words
    rw [if_neg hne]
    unfold txt
    rw [joinL_tl]
    refine SX.spl_join (c := 32) (sep := []) (by simp) fun p hp => ?_
    obtain ⟨m, _, rfl⟩ := List.mem_map.mp hp
    exact TL.numL_free (.inl (by decide))
theorem wok_num {n : Nat} (h : n < 10000000000) : wok (TL.numL n) = true := by
  have hne := TL.numL_ne n
  have hl := num_len h
  have hd : (TL.numL n).all isDig = true := by
    rw [List.all_eq_true]
    intro c hc
    have := dig_num hc
    unfold isDig
    rw [Bool.and_eq_true, decide_eq_true_eq, decide_eq_true_eq]
    exact this
  unfold wok
  rw [hd]
  cases hw : TL.numL n with
  | nil => exact absurd hw hne
  | cons c r =>
    rw [hw] at hl
    rw [decide_eq_true hl, decide_eq_true (by rw [List.length_cons]; omega)]
    rfl
theorem vals_txt {r : List Nat} : vals (txt r) = r := by
  unfold vals
  rw [words_txt, List.map_map]
  have : ∀ r : List Nat, r.map (NumText.digitsVal ∘ TL.numL) = r := by
    intro r
    induction r with
    | nil => rfl
    | cons n r ih =>
      rw [List.map_cons, ih]
      show NumText.digitsVal (TL.numL n) :: r = _
      rw [TL.numL_val]
  exact this r
/-- a row as the law draws it -/
structure Rw (r : List Nat) : Prop where
  l : r.length ≤ 6
  v : inR r = true
theorem Rw.sm {r : List Nat} (h : Rw r) : Sm r := ⟨by have := h.l; omega, fun n hn => by
  have := List.all_eq_true.mp h.v n hn
  have := of_decide_eq_true this
  omega⟩
theorem text_len {a b : List Nat} (ha : Rw a) (hb : Rw b) : (textOf a b).length ≤ 140 := by
  have h1 := joinL_len (s := [59, 32]) (l := [txt a, txt b])
  have h2 := txt_len ha.sm.v
  have h3 := txt_len hb.sm.v
  have := ha.l
  have := hb.l
  have h4 : sumL [txt a, txt b] = (txt a).length + ((txt b).length + 0) := rfl
  have h5 : [txt a, txt b].length * ([59, 32] : List Nat).length = 4 := rfl
  unfold textOf
  omega
theorem parse_text {a b : List Nat} (ha : Rw a) (hb : Rw b) : parseP (textOf a b) = some (a, b) := by
  have hl := text_len ha hb
  unfold parseP
  rw [text_ok, Bool.and_true, if_pos (decide_eq_true (by omega))]
  have hs : TL.spl [59, 32] 0 [] (textOf a b) = [txt a, txt b] := by
    unfold textOf
    rw [joinL_tl]
    refine SX.spl_join (c := 59) (sep := [32]) (by simp) fun p hp hm => ?_
    simp only [List.mem_cons, List.not_mem_nil, or_false] at hp
    have : (59 : Nat) = 32 ∨ (48 ≤ 59 ∧ 59 ≤ 57) := by rcases hp with rfl | rfl <;> exact txt_ch 59 hm
    omega
  rw [hs]
  show parse2 (textOf a b) (txt a) (txt b) = _
  unfold parse2
  rw [words_txt, words_txt, vals_txt, vals_txt]
  have hw : (a.map TL.numL ++ b.map TL.numL).all wok = true := by
    rw [List.all_append, Bool.and_eq_true, List.all_eq_true, List.all_eq_true]
    constructor <;> intro x hx <;> obtain ⟨n, hn, rfl⟩ := List.mem_map.mp hx
    · exact wok_num (ha.sm.v n hn)
    · exact wok_num (hb.sm.v n hn)
  rw [if_pos hw, ha.v, hb.v, if_pos (show (true && true) = true from rfl), if_pos (beq_self_eq_true _)]
theorem parse_back {t a b : List Nat} (h : parseP t = some (a, b)) : textOf a b = t ∧ inR a = true ∧ inR b = true ∧ Sm a ∧ Sm b := by
  unfold parseP at h
  split at h
  · rename_i c0
    rw [Bool.and_eq_true, decide_eq_true_eq] at c0
    unfold parseR at h
    split at h
    · rename_i p q hr
      unfold parse2 at h
      split at h
      · rename_i c1
        split at h
        · rename_i c2
          split at h
          · rename_i c3
            have hlen := two_le c0.1 hr
            rw [List.all_append, Bool.and_eq_true] at c1
            rw [Bool.and_eq_true] at c2
            simp only [Option.some.injEq, Prod.mk.injEq] at h
            obtain ⟨rfl, rfl⟩ := h
            exact ⟨eq_of_beq c3, c2.1, c2.2, sm_vals hlen.1 c1.1, sm_vals hlen.2 c1.2⟩
          · cases h
        · cases h
      · cases h
    · cases h
  · cases h
/-! ### read, refused -/
abbrev sT : List Nat := [116, 101, 120, 116]
abbrev sR : List Nat := [114, 117, 110]
def told (t : List Nat) : PV := match parseP t with
  | some (a, b) => runv a b
  | none => .lst [.str sT, .str t]
theorem l_read {n : Nat} {t : List Nat} {S : Hs} (ht : t.length ≤ 16777216) : isoC ((TT (n + 6)).run 9) [.str t] S = .ok (told t) S := by
  have ip := fun S => i_parse (n := n) (S := S) ht
  have xe : ∀ (k : Nat) (v : PV) (L : Loc) (S : Hs) (f : PV → Hs → RS), (RE.ex k v S).bindS L f = .ex k v L S := fun _ _ _ _ _ => rfl
  have xs : ∀ (k : Nat) (v : PV) (L : Loc) (S : Hs) (f : Loc → Hs → RS), (RS.ex k v L S).bind f = .ex k v L S := fun _ _ _ _ _ => rfl
  unfold told
  cases hp : parseP t with
  | none =>
    rw [hp] at ip
    simp only at ip ⊢
    refine iso_ok solid_s (S1 := []) ?_ rfl
    rw [rn9]
    have et : (seqS (asgS (callE 1 0 (consA (varE 0) nilA) nilA fun vs qs => useC true ((TT (n + 5)).run 4) ((fun vs _ => vs) vs qs)) (nameT 1))
    nilS) [some (.str t), some .non, none] [] = .ex 502 (.str t) [some (.str t), some .non, none] [] := by
      simp only [ip, xe, xs, v_re, v_reA, v_reB, v_reS, v_ra, v_raA, v_rb, v_rbB, v_rbS, v_rs, v_rt, v_seq, v_nil, v_ret, v_exp, v_if, v_asg, v_only, v_con, v_var0, v_varS, v_nilA, v_consA, v_bin, v_call, v_blt, v_and, v_or, v_not, v_okT, v_okB, v_okO, v_truBl, v_truInt, v_truB, v_cmpB, v_asB, v_andB, v_orB, v_notB, v_ite, v_noX, v_chain, v_useT, v_useF, v_b_int, v_i_int, v_b_str, v_add, v_sub, v_band, v_bor, v_bxor, v_mul, v_mod, v_fdiv, v_shl, v_shr, v_le, v_lt, v_eqI, v_neI, v_eqB, v_neB, v_setf, v_lst, v_una, v_attr, v_aug, v_name, List.length_cons, List.length_nil, Nat.zero_add, Nat.reduceAdd, Nat.reduceSub, and_self, if_true, if_false, Bool.false_eq_true, Bool.not_true, Bool.not_false, Bool.and_true, Bool.true_and, Bool.and_self, decide_true, decide_false, List.set_cons_zero, List.set_cons_succ, List.cons_append, List.nil_append, List.append_nil, cmpD2, cmpD, cmpV, ordV, runB, List.map_cons, List.map_nil, List.replicate, Nat.sub_self]
    have e2 : (tryS (seqS (asgS (callE 1 0 (consA (varE 0) nilA) nilA fun vs qs => useC true ((TT (n + 5)).run 4) ((fun vs _ => vs) vs qs)) (nameT 1))
    nilS)
    [⟨look2 exmL 502, some 2, hdLst okx 1 [.con (.str [116, 101, 120, 116]), .val]⟩]) [some (.str t), some .non, none] [] = .nx [some (.str t), some (.lst [.str sT, .str t]), none] [] := by
      unfold tryS
      rw [et]
      rfl
    simp only [e9, e2, v_name, v_re, v_reA, v_reB, v_reS, v_ra, v_raA, v_rb, v_rbB, v_rbS, v_rs, v_rt, v_seq, v_nil, v_ret, v_exp, v_if, v_asg, v_only, v_con, v_var0, v_varS, v_nilA, v_consA, v_bin, v_call, v_blt, v_and, v_or, v_not, v_okT, v_okB, v_okO, v_truBl, v_truInt, v_truB, v_cmpB, v_asB, v_andB, v_orB, v_notB, v_ite, v_noX, v_chain, v_useT, v_useF, v_b_int, v_i_int, v_b_str, v_add, v_sub, v_band, v_bor, v_bxor, v_mul, v_mod, v_fdiv, v_shl, v_shr, v_le, v_lt, v_eqI, v_neI, v_eqB, v_neB, v_setf, v_lst, v_una, v_attr, v_aug, v_name, List.length_cons, List.length_nil, Nat.zero_add, Nat.reduceAdd, Nat.reduceSub, and_self, if_true, if_false, Bool.false_eq_true, Bool.not_true, Bool.not_false, Bool.and_true, Bool.true_and, Bool.and_self, decide_true, decide_false, List.set_cons_zero, List.set_cons_succ, List.cons_append, List.nil_append, List.append_nil, cmpD2, cmpD, cmpV, ordV, runB, List.map_cons, List.map_nil, List.replicate, Nat.sub_self]
  | some ab =>
    obtain ⟨a, b⟩ := ab
    rw [hp] at ip
    simp only at ip ⊢
    refine iso_ok solid_s (S1 := []) ?_ (solid_run (n := 21))
    rw [rn9]
    generalize runv a b = q1 at *
    have et : (seqS (asgS (callE 1 0 (consA (varE 0) nilA) nilA fun vs qs => useC true ((TT (n + 5)).run 4) ((fun vs _ => vs) vs qs)) (nameT 1))
    nilS) [some (.str t), some .non, none] [] = .nx [some (.str t), some q1, none] [] := by
      simp only [ip, v_name, v_re, v_reA, v_reB, v_reS, v_ra, v_raA, v_rb, v_rbB, v_rbS, v_rs, v_rt, v_seq, v_nil, v_ret, v_exp, v_if, v_asg, v_only, v_con, v_var0, v_varS, v_nilA, v_consA, v_bin, v_call, v_blt, v_and, v_or, v_not, v_okT, v_okB, v_okO, v_truBl, v_truInt, v_truB, v_cmpB, v_asB, v_andB, v_orB, v_notB, v_ite, v_noX, v_chain, v_useT, v_useF, v_b_int, v_i_int, v_b_str, v_add, v_sub, v_band, v_bor, v_bxor, v_mul, v_mod, v_fdiv, v_shl, v_shr, v_le, v_lt, v_eqI, v_neI, v_eqB, v_neB, v_setf, v_lst, v_una, v_attr, v_aug, v_name, List.length_cons, List.length_nil, Nat.zero_add, Nat.reduceAdd, Nat.reduceSub, and_self, if_true, if_false, Bool.false_eq_true, Bool.not_true, Bool.not_false, Bool.and_true, Bool.true_and, Bool.and_self, decide_true, decide_false, List.set_cons_zero, List.set_cons_succ, List.cons_append, List.nil_append, List.append_nil, cmpD2, cmpD, cmpV, ordV, runB, List.map_cons, List.map_nil, List.replicate, Nat.sub_self]
    have e2 : (tryS (seqS (asgS (callE 1 0 (consA (varE 0) nilA) nilA fun vs qs => useC true ((TT (n + 5)).run 4) ((fun vs _ => vs) vs qs)) (nameT 1))
    nilS)
    [⟨look2 exmL 502, some 2, hdLst okx 1 [.con (.str [116, 101, 120, 116]), .val]⟩]) [some (.str t), some .non, none] [] = .nx [some (.str t), some q1, none] [] := by
      unfold tryS
      rw [et]
    simp only [e9, e2, v_name, v_re, v_reA, v_reB, v_reS, v_ra, v_raA, v_rb, v_rbB, v_rbS, v_rs, v_rt, v_seq, v_nil, v_ret, v_exp, v_if, v_asg, v_only, v_con, v_var0, v_varS, v_nilA, v_consA, v_bin, v_call, v_blt, v_and, v_or, v_not, v_okT, v_okB, v_okO, v_truBl, v_truInt, v_truB, v_cmpB, v_asB, v_andB, v_orB, v_notB, v_ite, v_noX, v_chain, v_useT, v_useF, v_b_int, v_i_int, v_b_str, v_add, v_sub, v_band, v_bor, v_bxor, v_mul, v_mod, v_fdiv, v_shl, v_shr, v_le, v_lt, v_eqI, v_neI, v_eqB, v_neB, v_setf, v_lst, v_una, v_attr, v_aug, v_name, List.length_cons, List.length_nil, Nat.zero_add, Nat.reduceAdd, Nat.reduceSub, and_self, if_true, if_false, Bool.false_eq_true, Bool.not_true, Bool.not_false, Bool.and_true, Bool.true_and, Bool.and_self, decide_true, decide_false, List.set_cons_zero, List.set_cons_succ, List.cons_append, List.nil_append, List.append_nil, cmpD2, cmpD, cmpV, ordV, runB, List.map_cons, List.map_nil, List.replicate, Nat.sub_self]
theorem eqF_refl : ∀ {v : PV}, isFlat v = true → eqF v v = true
  | .non, _ => rfl
  | .bl _, _ => beq_self_eq_true _
  | .int _, _ => beq_self_eq_true _
  | .str _, _ => beq_self_eq_true _
theorem eqAll_refl {f : PV → PV → Bool} : ∀ {xs : List PV}, (∀ x ∈ xs, f x x = true) → eqAll f xs xs = true
  | [], _ => rfl
  | x :: xs, h => by
    show (f x x && eqAll f xs xs) = true
    rw [h x List.mem_cons_self, eqAll_refl fun y hy => h y (List.mem_cons_of_mem _ hy)]
    rfl
theorem eqB_refl {S : Hs} : ∀ {n : Nat} {v : PV}, isD S n v = true → eqB S n v v = true
  | 0, v, h => eqF_refl h
  | n + 1, v, h => by
    unfold isD at h
    unfold eqB
    rw [Bool.or_self]
    cases c : isFlat v with
    | true => rw [if_pos rfl]; exact eqF_refl c
    | false =>
      rw [c, if_neg Bool.false_ne_true] at h
      rw [if_neg Bool.false_ne_true]
      cases e : asQ S v with
      | none => rw [e] at h; cases h
      | some xs =>
        rw [e] at h
        simp only at h ⊢
        rw [beq_self_eq_true, Bool.true_and]
        exact eqAll_refl fun x hx => eqB_refl (List.all_eq_true.mp h x hx)
theorem ne_self {T : Tab} {xs : List PV} {S : Hs} (h : xs.all (isD S 11) = true) : neD T ct (.lst xs) (.lst xs) S = .ok (.bl false) S := by
  show (if isD S deep (.lst xs) && isD S deep (.lst xs) then RE.ok (.bl (!eqB S deep (.lst xs) (.lst xs))) S else .bad) = _
  have h1 : isD S deep (.lst xs) = true := h
  rw [h1, eqB_refl h1]
  rfl
theorem ne_selfT {T : Tab} {xs : List PV} {S : Hs} (h : xs.all (isD S 11) = true) : neD T ct (.tup xs) (.tup xs) S = .ok (.bl false) S := by
  show (if isD S deep (.tup xs) && isD S deep (.tup xs) then RE.ok (.bl (!eqB S deep (.tup xs) (.tup xs))) S else .bad) = _
  have h1 : isD S deep (.tup xs) = true := h
  rw [h1, eqB_refl h1]
  rfl
theorem isD_ints {r : List Nat} {n : Nat} {S : Hs} : (r.map fun m : Nat => PV.int (m : Nat)).all (isD S n) = true := by
  rw [List.all_eq_true]
  intro x hx
  obtain ⟨p, _, rfl⟩ := List.mem_map.mp hx
  cases n <;> rfl
theorem isD_rw {r : List Nat} {n : Nat} {S : Hs} : isD S (n + 1) (rwv r) = true := isD_ints (n := n)
/-! ### what is refused -/
structure OddR (o : PV) : Prop where
  rf : ∀ S, isoC ((TT 9).run 10) [o] S = .ok (.lst [.str sR, o]) S
  dd : ∀ S, isD S 11 o = true
theorem oddR_of {o : PV} (so : solid dpF o = true) (so23 : solid 23 o = true) (dd : ∀ S, isD S 11 o = true) (h : ∀ S, isoC ((TT 7).run 3) [o] S = .ok (.bl false) S) : OddR o := by
  have xe : ∀ (k : Nat) (v : PV) (L : Loc) (S : Hs) (f : PV → Hs → RS), (RE.ex k v S).bindS L f = .ex k v L S := fun _ _ _ _ _ => rfl
  have xs : ∀ (k : Nat) (v : PV) (L : Loc) (S : Hs) (f : Loc → Hs → RS), (RS.ex k v L S).bind f = .ex k v L S := fun _ _ _ _ _ => rfl
  have so1 : [o].all (solid dpF) = true := by rw [List.all_cons, so]; rfl
  have fm : ∀ S, isoC ((TT 8).run 2) [o] S = .ex 501 o S := fun S => by
    refine iso_ex so1 ?_ so
    rw [show (TT 8).run 2 = runB 3 (e2 (TT 7)) from rn2 (n := 7)]
    have rz : ∀ S, raiseS 501 (varE 0) [some o, none, none] S = .ex 501 o [some o, none, none] S := fun _ => rfl
    simp only [e2, h, rz, xs, v_re, v_reA, v_reB, v_reS, v_ra, v_raA, v_rb, v_rbB, v_rbS, v_rs, v_rt, v_seq, v_nil, v_ret, v_exp, v_if, v_asg, v_only, v_con, v_var0, v_varS, v_nilA, v_consA, v_bin, v_call, v_blt, v_and, v_or, v_not, v_okT, v_okB, v_okO, v_truBl, v_truInt, v_truB, v_cmpB, v_asB, v_andB, v_orB, v_notB, v_ite, v_noX, v_chain, v_useT, v_useF, v_b_int, v_i_int, v_b_str, v_add, v_sub, v_band, v_bor, v_bxor, v_mul, v_mod, v_fdiv, v_shl, v_shr, v_le, v_lt, v_eqI, v_neI, v_eqB, v_neB, v_setf, v_lst, v_una, v_attr, v_aug, v_name, List.length_cons, List.length_nil, Nat.zero_add, Nat.reduceAdd, Nat.reduceSub, and_self, if_true, if_false, Bool.false_eq_true, Bool.not_true, Bool.not_false, Bool.and_true, Bool.true_and, Bool.and_self, decide_true, decide_false, List.set_cons_zero, List.set_cons_succ, List.cons_append, List.nil_append, List.append_nil, cmpD2, cmpD, cmpV, ordV, runB, List.map_cons, List.map_nil, List.replicate, Nat.sub_self]
  refine ⟨fun S => ?_, dd⟩
  refine iso_ok so1 (S1 := []) ?_ (by
    show (true && (solid 23 o && true)) = true
    rw [so23]
    rfl)
  rw [show (TT 9).run 10 = runB 3 (e10 (TT 8)) from rn10 (n := 8)]
  have et : (seqS (asgS (callE 1 0 (consA (varE 0) nilA) nilA fun vs qs => useC true ((TT 8).run 2) ((fun vs _ => vs) vs qs)) (nameT 1))
    nilS) [some o, some .non, none] [] = .ex 501 o [some o, some .non, none] [] := by
    simp only [fm, xe, xs, v_re, v_reA, v_reB, v_reS, v_ra, v_raA, v_rb, v_rbB, v_rbS, v_rs, v_rt, v_seq, v_nil, v_ret, v_exp, v_if, v_asg, v_only, v_con, v_var0, v_varS, v_nilA, v_consA, v_bin, v_call, v_blt, v_and, v_or, v_not, v_okT, v_okB, v_okO, v_truBl, v_truInt, v_truB, v_cmpB, v_asB, v_andB, v_orB, v_notB, v_ite, v_noX, v_chain, v_useT, v_useF, v_b_int, v_i_int, v_b_str, v_add, v_sub, v_band, v_bor, v_bxor, v_mul, v_mod, v_fdiv, v_shl, v_shr, v_le, v_lt, v_eqI, v_neI, v_eqB, v_neB, v_setf, v_lst, v_una, v_attr, v_aug, v_name, List.length_cons, List.length_nil, Nat.zero_add, Nat.reduceAdd, Nat.reduceSub, and_self, if_true, if_false, Bool.false_eq_true, Bool.not_true, Bool.not_false, Bool.and_true, Bool.true_and, Bool.and_self, decide_true, decide_false, List.set_cons_zero, List.set_cons_succ, List.cons_append, List.nil_append, List.append_nil, cmpD2, cmpD, cmpV, ordV, runB, List.map_cons, List.map_nil, List.replicate, Nat.sub_self]
  have e2 : (tryS (seqS (asgS (callE 1 0 (consA (varE 0) nilA) nilA fun vs qs => useC true ((TT 8).run 2) ((fun vs _ => vs) vs qs)) (nameT 1))
    nilS)
    [⟨look2 exmL 501, some 2, hdLst okx 1 [.con (.str [114, 117, 110]), .val]⟩]) [some o, some .non, none] [] = .nx [some o, some (.lst [.str sR, o]), none] [] := by
    unfold tryS
    rw [et]
    rfl
  simp only [e10, e2, v_name, v_re, v_reA, v_reB, v_reS, v_ra, v_raA, v_rb, v_rbB, v_rbS, v_rs, v_rt, v_seq, v_nil, v_ret, v_exp, v_if, v_asg, v_only, v_con, v_var0, v_varS, v_nilA, v_consA, v_bin, v_call, v_blt, v_and, v_or, v_not, v_okT, v_okB, v_okO, v_truBl, v_truInt, v_truB, v_cmpB, v_asB, v_andB, v_orB, v_notB, v_ite, v_noX, v_chain, v_useT, v_useF, v_b_int, v_i_int, v_b_str, v_add, v_sub, v_band, v_bor, v_bxor, v_mul, v_mod, v_fdiv, v_shl, v_shr, v_le, v_lt, v_eqI, v_neI, v_eqB, v_neB, v_setf, v_lst, v_una, v_attr, v_aug, v_name, List.length_cons, List.length_nil, Nat.zero_add, Nat.reduceAdd, Nat.reduceSub, and_self, if_true, if_false, Bool.false_eq_true, Bool.not_true, Bool.not_false, Bool.and_true, Bool.true_and, Bool.and_self, decide_true, decide_false, List.set_cons_zero, List.set_cons_succ, List.cons_append, List.nil_append, List.append_nil, cmpD2, cmpD, cmpV, ordV, runB, List.map_cons, List.map_nil, List.replicate, Nat.sub_self]
def oddsR (t a b : List Nat) : List PV := [.non, .int 5, .str t, .tup [rwv a], .lst [rwv a, rwv b], .tup [rwv a, .lst (b.map fun n : Nat => .int (n : Nat))], .tup [.tup [.int (-1)], .tup []], .tup [.tup [.bl true], .tup []], .tup [.tup [.int 4294967296], .tup []]]
theorem solid_l {n : Nat} {r : List Nat} : solid (n + 2) (.lst (r.map fun n : Nat => .int (n : Nat))) = true := solid_rw (n := n) (r := r)
theorem oddsR_ok {t a b : List Nat} : ∀ o ∈ oddsR t a b, OddR o := by
  intro o ho
  unfold oddsR at ho
  simp only [List.mem_cons, List.not_mem_nil, or_false] at ho
  rcases ho with rfl | rfl | rfl | rfl | rfl | rfl | rfl | rfl | rfl
  · exact oddR_of rfl rfl (fun _ => rfl) fun S => iso_ok rfl (S1 := []) (by kernel_rfl) rfl
  · exact oddR_of rfl rfl (fun _ => rfl) fun S => iso_ok rfl (S1 := []) (by kernel_rfl) rfl
  · exact oddR_of rfl rfl (fun _ => rfl) fun S => iso_ok rfl (S1 := []) (by kernel_rfl) rfl
  · have h1 : ∀ n, solid (n + 3) (.tup [rwv a]) = true := fun n => by
      show (solid (n + 2) (rwv a) && true) = true
      rw [solid_rw]
      rfl
    exact oddR_of (h1 21) (h1 20) (fun S => by show (isD S 10 (rwv a) && true) = true; rw [isD_rw (n := 9)]; rfl) fun S => iso_ok (by rw [List.all_cons, show solid dpF _ = true from h1 21]; rfl) (S1 := []) (by kernel_rfl) rfl
  · have h1 : ∀ n, solid (n + 3) (.lst [rwv a, rwv b]) = true := fun n => solid_run (n := n) (a := a) (b := b)
    exact oddR_of (h1 21) (h1 20) (fun S => by show (isD S 10 (rwv a) && (isD S 10 (rwv b) && true)) = true; rw [isD_rw (n := 9), isD_rw (n := 9)]; rfl) fun S => iso_ok (by rw [List.all_cons, show solid dpF _ = true from h1 21]; rfl) (S1 := []) (by kernel_rfl) rfl
  · have h1 : ∀ n, solid (n + 3) (.tup [rwv a, .lst (b.map fun n : Nat => .int (n : Nat))]) = true := fun n => by
      show (solid (n + 2) (rwv a) && (solid (n + 2) (.lst (b.map fun n : Nat => .int (n : Nat))) && true)) = true
      rw [solid_rw, solid_l]
      rfl
    exact oddR_of (h1 21) (h1 20) (fun S => by show (isD S 10 (rwv a) && (isD S 10 (rwv b) && true)) = true; rw [isD_rw (n := 9), isD_rw (n := 9)]; rfl) fun S => iso_ok (by rw [List.all_cons, show solid dpF _ = true from h1 21]; rfl) (S1 := []) (by kernel_rfl) rfl
  · exact oddR_of rfl rfl (fun _ => rfl) fun S => iso_ok rfl (S1 := []) (by kernel_rfl) rfl
  · exact oddR_of rfl rfl (fun _ => rfl) fun S => iso_ok rfl (S1 := []) (by kernel_rfl) rfl
  · exact oddR_of rfl rfl (fun _ => rfl) fun S => iso_ok rfl (S1 := []) (by kernel_rfl) rfl
/-- what is no text of a run -/
structure OddT (o : PV) : Prop where
  rd : ∀ S, isoC ((TT 9).run 9) [o] S = .ok (.lst [.str sT, o]) S
  dd : ∀ S, isD S 11 o = true
theorem oddT_s {t : List Nat} (ht : t.length ≤ 16777216) (h : parseP t = none) : OddT (.str t) := ⟨fun S => by
  have e := l_read (n := 3) (t := t) (S := S) ht
  unfold told at e
  rw [h] at e
  exact e, fun _ => rfl⟩
def oddsT : List PV := [.non, .int 5, .str [], .str [32], .str [59], .str [53], .str [53, 59, 53], .str [48, 53, 59, 32], .str [52, 50, 57, 52, 57, 54, 55, 50, 57, 54, 59, 32], .str [45, 49, 59, 32], .str [97, 59, 32], .str [53, 59, 32, 53, 59, 32, 53], .lst [], .bl true]
theorem oddsT_ok : ∀ o ∈ oddsT, OddT o := by
  intro o ho
  unfold oddsT at ho
  simp only [List.mem_cons, List.not_mem_nil, or_false] at ho
  rcases ho with rfl | rfl | rfl | rfl | rfl | rfl | rfl | rfl | rfl | rfl | rfl | rfl | rfl | rfl
  · exact ⟨fun S => iso_ok rfl (S1 := []) (by kernel_rfl) rfl, fun _ => rfl⟩
  · exact ⟨fun S => iso_ok rfl (S1 := []) (by kernel_rfl) rfl, fun _ => rfl⟩
  · exact oddT_s (by decide) (by decide +kernel)
  · exact oddT_s (by decide) (by decide +kernel)
  · exact oddT_s (by decide) (by decide +kernel)
  · exact oddT_s (by decide) (by decide +kernel)
  · exact oddT_s (by decide) (by decide +kernel)
  · exact oddT_s (by decide) (by decide +kernel)
  · exact oddT_s (by decide) (by decide +kernel)
  · exact oddT_s (by decide) (by decide +kernel)
  · exact oddT_s (by decide) (by decide +kernel)
  · exact oddT_s (by decide) (by decide +kernel)
  · exact ⟨fun S => iso_ok rfl (S1 := []) (by kernel_rfl) rfl, fun _ => rfl⟩
  · exact ⟨fun S => iso_ok rfl (S1 := []) (by kernel_rfl) rfl, fun _ => rfl⟩
/-! ### what is drawn -/
theorem lcs_step {d : Desc} {L0 L2 : Loc} {tgt : TgF} {elt : Loc → Hs → RE} {fuel i : Nat} {acc : List PV} {S S' : Hs} {v y : PV} (h1 : fetch S i d = some (some v)) (h2 : tgt v L0 S = .nx L2 S) (h4 : elt L2 S = .ok y S') (hi : i < 16777216) : lcLoop d L0 tgt trueB elt (fuel + 1) i acc S = lcLoop d L0 tgt trueB elt fuel (i + 1) (y :: acc) S' := by
  rw [lcLoop, h1]
  simp only [h2, show trueB L2 S = .ok true S from rfl, h4]
  rw [if_pos hi]
theorem lcs_stop {d : Desc} {L0 : Loc} {tgt : TgF} {cond : Loc → Hs → RB} {elt : Loc → Hs → RE} {fuel i : Nat} {acc : List PV} {S : Hs} (h1 : fetch S i d = some none) : lcLoop d L0 tgt cond elt (fuel + 1) i acc S = some (acc, S) := by
  rw [lcLoop, h1]
theorem lc_drawn {β : Type} {N m : Nat} {L0 : Loc} {elt : Loc → Hs → RE} (pic : β → PV) (Ok : β → Prop) (St : Hs → Prop) (hN : N < 1000) (step : ∀ (i : Nat) S, St S → ∃ (p : β) (S' : Hs), Ok p ∧ St S' ∧ elt (L0.set m (some (.int (0 + (i : Int))))) S = .ok (pic p) S') :
    ∀ (k i fuel : Nat) (acc : List PV) (S : Hs), i + k = N → k < fuel → St S → ∃ (row : List β) (S' : Hs), row.length = k ∧ (∀ p ∈ row, Ok p) ∧ St S' ∧ lcLoop (.rng 0 N) L0 (nameT m) trueB elt fuel i acc S = some ((row.map pic).reverse ++ acc, S')
  | 0, i, 0, _, _, _, h, _ => absurd h (Nat.lt_irrefl _)
  | 0, i, fuel + 1, acc, S, hi, _, hs => ⟨[], S, rfl, fun _ h => (List.not_mem_nil h).elim, hs, by rw [lcs_stop (by rw [fetch_rng, if_neg (by omega)])]; rfl⟩
  | k + 1, i, 0, _, _, _, h, _ => by omega
  | k + 1, i, fuel + 1, acc, S, hi, hf, hs => by
    obtain ⟨p, S1, k1, h1, e1⟩ := step i S hs
    obtain ⟨row, S2, l2, k2, h2, e2⟩ := lc_drawn pic Ok St hN step k (i + 1) fuel (pic p :: acc) S1 (by omega) (by omega) h1
    refine ⟨p :: row, S2, by simp [l2], fun q hq => ?_, h2, ?_⟩
    · rcases List.mem_cons.mp hq with rfl | hq
      · exact k1
      · exact k2 q hq
    · rw [lcs_step (v := .int (0 + (i : Int))) (by rw [fetch_rng, if_pos (by omega)]) rfl e1 (by omega), e2]
      simp
theorem ixm {xs : List PV} {v : Int} (h0 : 0 ≤ v) (h1 : v < (xs.length : Nat)) : ∃ x, x ∈ xs ∧ ∀ S, ixV2 (.lst xs) (.int v) S = .ok x S := by
  obtain ⟨j, rfl⟩ : ∃ j : Nat, v = (j : Int) := ⟨v.toNat, by omega⟩
  have hj : j < xs.length := by omega
  refine ⟨xs[j], List.getElem_mem hj, fun S => ?_⟩
  rw [ix_lst2]
  unfold atI ixN
  rw [if_pos h0, if_pos (by omega)]
  simp only [Int.toNat_natCast]
  show okO xs[j]? S = _
  rw [List.getElem?_eq_getElem hj]
  rfl
theorem fit7 {v : Int} (h0 : 0 ≤ v) (h1 : v < 7) : fit62 v = true := by
  have : v = 0 ∨ v = 1 ∨ v = 2 ∨ v = 3 ∨ v = 4 ∨ v = 5 ∨ v = 6 := by omega
  rcases this with rfl | rfl | rfl | rfl | rfl | rfl | rfl <;> decide
theorem d_row {n : Nat} {S : Hs} {r : Nat} (h : HasPool S r) : ∃ row S', Rw row ∧ HasPool S' r ∧ (TT (n + 2)).run 7 [.loc r] S = .ok (rwv row) S' := by
  obtain ⟨u, S1, u0, u1, p1, e1⟩ := take1 (n := n) h (m := 4294967296) (by decide) (by decide)
  obtain ⟨k, S2, k0, k1, p2, e2⟩ := take1 (n := n) p1 (m := 7) (by decide) (by decide)
  have f6 : ∀ a b c d e f : PV, fits [a, b, c, d, e, f] = true := fun _ _ _ _ _ _ => rfl
  have eA : (asgS (lstE true (consA (conE (.int 0)) (consA (conE (.int 1)) (consA (conE (.int 9)) (consA (conE (.int 10)) (consA (conE (.int 4294967295)) (consA (callE 2 0 (consA (varE 0) (consA (conE (.int 4294967296)) nilA)) nilA fun vs qs => useC false ((TT (n + 1)).run 6) ((fun vs _ => vs) vs qs)) nilA))))))) (nameT 1)) [some (.loc r), none, none] S = .nx [some (.loc r), some (.lst [.int 0, .int 1, .int 9, .int 10, .int 4294967295, .int u]), none] S1 := by
    simp only [e1, f6, v_useF, v_name, v_re, v_reA, v_reB, v_reS, v_ra, v_raA, v_rb, v_rbB, v_rbS, v_rs, v_rt, v_seq, v_nil, v_ret, v_exp, v_if, v_asg, v_only, v_con, v_var0, v_varS, v_nilA, v_consA, v_bin, v_call, v_blt, v_and, v_or, v_not, v_okT, v_okB, v_okO, v_truBl, v_truInt, v_truB, v_cmpB, v_asB, v_andB, v_orB, v_notB, v_ite, v_noX, v_chain, v_useT, v_useF, v_b_int, v_i_int, v_b_str, v_add, v_sub, v_band, v_bor, v_bxor, v_mul, v_mod, v_fdiv, v_shl, v_shr, v_le, v_lt, v_eqI, v_neI, v_eqB, v_neB, v_setf, v_lst, v_una, v_attr, v_aug, v_name, List.length_cons, List.length_nil, Nat.zero_add, Nat.reduceAdd, Nat.reduceSub, and_self, if_true, if_false, Bool.false_eq_true, Bool.not_true, Bool.not_false, Bool.and_true, Bool.true_and, Bool.and_self, decide_true, decide_false, List.set_cons_zero, List.set_cons_succ, List.cons_append, List.nil_append, List.append_nil, cmpD2, cmpD, cmpV, ordV, runB, List.map_cons, List.map_nil, List.replicate, Nat.sub_self]
  have src : (rngI (consA (callE 2 0 (consA (varE 0) (consA (conE (.int 7)) nilA)) nilA fun vs qs => useC false ((TT (n + 1)).run 6) ((fun vs _ => vs) vs qs)) nilA)) [some (.loc r), some (.lst [.int 0, .int 1, .int 9, .int 10, .int 4294967295, .int u]), none] S1 = .ok (.rng 0 k.toNat) S2 := by
    refine v_rng1 (j := k) ?_ (fit7 k0 k1)
    simp only [e2, v_useF, v_re, v_reA, v_reB, v_reS, v_ra, v_raA, v_rb, v_rbB, v_rbS, v_rs, v_rt, v_seq, v_nil, v_ret, v_exp, v_if, v_asg, v_only, v_con, v_var0, v_varS, v_nilA, v_consA, v_bin, v_call, v_blt, v_and, v_or, v_not, v_okT, v_okB, v_okO, v_truBl, v_truInt, v_truB, v_cmpB, v_asB, v_andB, v_orB, v_notB, v_ite, v_noX, v_chain, v_useT, v_useF, v_b_int, v_i_int, v_b_str, v_add, v_sub, v_band, v_bor, v_bxor, v_mul, v_mod, v_fdiv, v_shl, v_shr, v_le, v_lt, v_eqI, v_neI, v_eqB, v_neB, v_setf, v_lst, v_una, v_attr, v_aug, v_name, List.length_cons, List.length_nil, Nat.zero_add, Nat.reduceAdd, Nat.reduceSub, and_self, if_true, if_false, Bool.false_eq_true, Bool.not_true, Bool.not_false, Bool.and_true, Bool.true_and, Bool.and_self, decide_true, decide_false, List.set_cons_zero, List.set_cons_succ, List.cons_append, List.nil_append, List.append_nil, cmpD2, cmpD, cmpV, ordV, runB, List.map_cons, List.map_nil, List.replicate, Nat.sub_self]
  obtain ⟨row, S3, l3, o3, p3, e3⟩ := lc_drawn (N := k.toNat) (m := 2) (L0 := wipeL [some (.loc r), some (.lst [.int 0, .int 1, .int 9, .int 10, .int 4294967295, .int u]), none] [2]) (elt := (binE (varE 1) (callE 2 0 (consA (varE 0) (consA (conE (.int 6)) nilA)) nilA fun vs qs => useC false ((TT (n + 1)).run 6) ((fun vs _ => vs) vs qs)) ixV2)) (fun m : Nat => PV.int (m : Nat)) (fun m => m ≤ 4294967295) (fun S => HasPool S r) (by omega) (fun i S hS => by
    obtain ⟨v, S', v0, v1, p', et⟩ := take1 (n := n) hS (m := 6) (by decide) (by decide)
    obtain ⟨x, hx, ex⟩ := ixm (xs := [.int 0, .int 1, .int 9, .int 10, .int 4294967295, .int u]) v0 v1
    obtain ⟨m, rfl, hm⟩ : ∃ m : Nat, x = .int (m : Nat) ∧ m ≤ 4294967295 := by
      simp only [List.mem_cons, List.not_mem_nil, or_false] at hx
      rcases hx with rfl | rfl | rfl | rfl | rfl | rfl
      · exact ⟨0, rfl, by decide⟩
      · exact ⟨1, rfl, by decide⟩
      · exact ⟨9, rfl, by decide⟩
      · exact ⟨10, rfl, by decide⟩
      · exact ⟨4294967295, rfl, by decide⟩
      · exact ⟨u.toNat, by rw [Int.toNat_of_nonneg u0], by omega⟩
    refine ⟨m, S', hm, p', ?_⟩
    show (binE (varE 1) (callE 2 0 (consA (varE 0) (consA (conE (.int 6)) nilA)) nilA fun vs qs => useC false ((TT (n + 1)).run 6) ((fun vs _ => vs) vs qs)) ixV2) [some (.loc r), some (.lst [.int 0, .int 1, .int 9, .int 10, .int 4294967295, .int u]), some (.int (0 + (i : Int)))] S = _
    simp only [et, ex, v_useF, v_re, v_reA, v_reB, v_reS, v_ra, v_raA, v_rb, v_rbB, v_rbS, v_rs, v_rt, v_seq, v_nil, v_ret, v_exp, v_if, v_asg, v_only, v_con, v_var0, v_varS, v_nilA, v_consA, v_bin, v_call, v_blt, v_and, v_or, v_not, v_okT, v_okB, v_okO, v_truBl, v_truInt, v_truB, v_cmpB, v_asB, v_andB, v_orB, v_notB, v_ite, v_noX, v_chain, v_useT, v_useF, v_b_int, v_i_int, v_b_str, v_add, v_sub, v_band, v_bor, v_bxor, v_mul, v_mod, v_fdiv, v_shl, v_shr, v_le, v_lt, v_eqI, v_neI, v_eqB, v_neB, v_setf, v_lst, v_una, v_attr, v_aug, v_name, List.length_cons, List.length_nil, Nat.zero_add, Nat.reduceAdd, Nat.reduceSub, and_self, if_true, if_false, Bool.false_eq_true, Bool.not_true, Bool.not_false, Bool.and_true, Bool.true_and, Bool.and_self, decide_true, decide_false, List.set_cons_zero, List.set_cons_succ, List.cons_append, List.nil_append, List.append_nil, cmpD2, cmpD, cmpV, ordV, runB, List.map_cons, List.map_nil, List.replicate, Nat.sub_self]) k.toNat 0 turns [] S2 (by omega) (by unfold turns; omega) p2
  have ec : (lcE true [2] (rngI (consA (callE 2 0 (consA (varE 0) (consA (conE (.int 7)) nilA)) nilA fun vs qs => useC false ((TT (n + 1)).run 6) ((fun vs _ => vs) vs qs)) nilA)) (nameT 2) trueB (binE (varE 1) (callE 2 0 (consA (varE 0) (consA (conE (.int 6)) nilA)) nilA fun vs qs => useC false ((TT (n + 1)).run 6) ((fun vs _ => vs) vs qs)) ixV2)) [some (.loc r), some (.lst [.int 0, .int 1, .int 9, .int 10, .int 4294967295, .int u]), none] S1 = .ok (.lst (row.map fun m : Nat => PV.int (m : Nat))) S3 := by
    unfold lcE
    rw [src]
    simp only
    rw [e3, List.append_nil]
    unfold lcEnd
    simp
  refine ⟨row, S3, ⟨by omega, List.all_eq_true.mpr fun m hm => decide_eq_true (o3 m hm)⟩, p3, ?_⟩
  rw [rn7]
  refine runB_rt ?_
  show e7 (TT (n + 1)) [some (.loc r), none, none] S = _
  unfold e7
  rw [v_seq, eA, v_rs, v_seq, v_ret, v_blt, v_consA, ec, v_reA, v_nilA, v_raA, v_ra, v_tupL (by rw [List.length_map]; omega)]
  rfl
/-! texts bent -/
theorem s_add {a b : List Nat} {S : Hs} (h : a.length + b.length ≤ 16777216) : binV .Add true (.str a) (.str b) S = .ok (.str (a ++ b)) S := by
  show (if fits (a ++ b) then RE.ok (.str (a ++ b)) S else .bad) = _
  rw [if_pos (show fits (a ++ b) = true from decide_eq_true (by rw [List.length_append]; exact h))]
theorem v_sls {s : List Nat} {lo hi : Option Int} {S : Hs} (h : s.length ≤ 16777216) : slV true (.str s) lo hi S = .ok (.str (cutP s lo hi)) S := by
  show (if fits s then RE.ok (.str (cutP s lo hi)) S else .bad) = _
  rw [if_pos (show fits s = true from decide_eq_true h)]
theorem cut_len {s : List Nat} {lo hi : Option Int} : (cutP s lo hi).length ≤ s.length := by
  unfold cutP
  rw [List.length_take, List.length_drop]
  omega
theorem pt_no {L : Loc} {S : Hs} {k : Option Int → Hs → RE} : partO none L S k = k none S := rfl
theorem pt_so {f : Loc → Hs → RE} {L : Loc} {S : Hs} {k : Option Int → Hs → RE} : partO (some f) L S k = (f L S).bind fun v S1 => match v with
  | .int i => k (some i) S1
  | _ => .bad := rfl
def repL (s y z : List Nat) : List Nat := (Txt.replace ⟨s.toArray⟩ ⟨y.toArray⟩ ⟨z.toArray⟩).cps.toList
theorem v_rep {f : Loc → Hs → RE} {y z s : List Nat} {L : Loc} {S : Hs} (hf : f L S = .ok (.str s) S) (hs : s.all okc = true) (hl : s.length ≤ 140) (hz : z.length ≤ 2) (hz2 : z.all (· < 1114112) = true) : repE f y z L S = .ok (.str (repL s y z)) S := by
  show (f L S).bind _ = _
  rw [hf, v_re]
  show repV s y z S = _
  unfold repV
  have h1 : s.length + (s.length + 1) * z.length ≤ 16777216 := by
    have : (s.length + 1) * z.length ≤ (s.length + 1) * 2 := Nat.mul_le_mul_left _ hz
    omega
  have h2 : s.all (· < 1114112) = true := by
    rw [List.all_eq_true]
    intro c hc
    have := okc_lt (List.all_eq_true.mp hs c hc)
    exact decide_eq_true (by omega)
  rw [decide_eq_true h1, h2, hz2]
  rfl
theorem rep_len {s y z : List Nat} (hl : s.length ≤ 140) (hz : z.length ≤ 2) : (repL s y z).length ≤ 1000 := by
  have h := TK.replace_len ⟨s.toArray⟩ ⟨y.toArray⟩ ⟨z.toArray⟩
  have e1 : Str.length ⟨s.toArray⟩ = s.length := List.size_toArray ..
  have e2 : Str.length ⟨z.toArray⟩ = z.length := List.size_toArray ..
  rw [e1, e2] at h
  have : (s.length + 1) * z.length ≤ (s.length + 1) * 2 := Nat.mul_le_mul_left _ hz
  unfold repL
  rw [Array.length_toList]
  have e3 : (Txt.replace ⟨s.toArray⟩ ⟨y.toArray⟩ ⟨z.toArray⟩).cps.size = Str.length (Txt.replace ⟨s.toArray⟩ ⟨y.toArray⟩ ⟨z.toArray⟩) := rfl
  omega
theorem d_bent {n : Nat} {S : Hs} {r : Nat} {t : List Nat} (hk : t.all okc = true) (hl : t.length ≤ 140) (h : HasPool S r) : ∃ (l : List (List Nat)) (S' : Hs), l.length ≤ 10 ∧ (∀ x ∈ l, x.length ≤ 1000) ∧ HasPool S' r ∧ (TT (n + 2)).run 11 [.loc r, .str t] S = .ok (.lst (l.map PV.str)) S' := by
  obtain ⟨a, S1, a0, a1, p1, e1⟩ := take1 (n := n) h (m := (t.length : Int) + 1) (by omega) (Nat.lt_of_le_of_lt (show ((t.length : Int) + 1).natAbs ≤ 141 by omega) (by decide))
  obtain ⟨k, S2, k0, k1, p2, e2⟩ := take1 (n := n) p1 (m := 9) (by decide) (by decide)
  obtain ⟨y, hy, ex⟩ := ixm (xs := [.str [32], .str [59], .str [59, 32], .str [48], .str [57], .str [45], .str [97], .str [10], .str [43]]) k0 k1
  obtain ⟨x, rfl, hx⟩ : ∃ x : List Nat, y = .str x ∧ x.length ≤ 2 := by
    simp only [List.mem_cons, List.not_mem_nil, or_false] at hy
    rcases hy with rfl | rfl | rfl | rfl | rfl | rfl | rfl | rfl | rfl <;> exact ⟨_, rfl, by decide⟩
  have ln : ∀ T S, lenD T ct [.str t] S = .ok (.int (t.length : Nat)) S := fun _ _ => len_s (by omega)
  have s1 : ∀ S, slV true (.str t) none (some a) S = .ok (.str (cutP t none (some a))) S := fun _ => v_sls (by omega)
  have s2 : ∀ S, slV true (.str t) (some a) none S = .ok (.str (cutP t (some a) none)) S := fun _ => v_sls (by omega)
  have s3 : ∀ S, slV true (.str t) (some (a + 1)) none S = .ok (.str (cutP t (some (a + 1)) none)) S := fun _ => v_sls (by omega)
  have l1 := cut_len (s := t) (lo := none) (hi := some a)
  have l2 := cut_len (s := t) (lo := some a) (hi := none)
  have l3 := cut_len (s := t) (lo := some (a + 1)) (hi := none)
  have r1 := v_rep (f := varE 1) (y := [59, 32]) (z := [59]) (L := [some (.loc r), some (.str t), some (.int a), some (.str x), some (.lst [.str (cutP t none (some a) ++ x ++ cutP t (some a) none), .str (cutP t none (some a) ++ cutP t (some (a + 1)) none), .str (cutP t none (some a) ++ x ++ cutP t (some (a + 1)) none), .str (t ++ [32])])]) (S := S2) rfl hk hl (by decide) (by decide)
  have r2 := v_rep (f := varE 1) (y := [32]) (z := [32, 32]) (L := [some (.loc r), some (.str t), some (.int a), some (.str x), some (.lst [.str (cutP t none (some a) ++ x ++ cutP t (some a) none), .str (cutP t none (some a) ++ cutP t (some (a + 1)) none), .str (cutP t none (some a) ++ x ++ cutP t (some (a + 1)) none), .str (t ++ [32])])]) (S := S2) rfl hk hl (by decide) (by decide)
  have q1 := rep_len (s := t) (y := [59, 32]) (z := [59]) hl (by decide)
  have q2 := rep_len (s := t) (y := [32]) (z := [32, 32]) hl (by decide)
  generalize repL t [59, 32] [59] = w1 at *
  generalize repL t [32] [32, 32] = w2 at *
  generalize cutP t none (some a) = c1 at *
  generalize cutP t (some a) none = c2 at *
  generalize cutP t (some (a + 1)) none = c3 at *
  have b1 : ∀ S, binV .Add true (.str c1) (.str x) S = .ok (.str (c1 ++ x)) S := fun _ => s_add (by omega)
  have b2 : ∀ S, binV .Add true (.str (c1 ++ x)) (.str c2) S = .ok (.str (c1 ++ x ++ c2)) S := fun _ => s_add (by rw [List.length_append]; omega)
  have b3 : ∀ S, binV .Add true (.str c1) (.str c3) S = .ok (.str (c1 ++ c3)) S := fun _ => s_add (by omega)
  have b4 : ∀ S, binV .Add true (.str (c1 ++ x)) (.str c3) S = .ok (.str (c1 ++ x ++ c3)) S := fun _ => s_add (by rw [List.length_append]; omega)
  have b5 : ∀ S, binV .Add true (.str t) (.str [32]) S = .ok (.str (t ++ [32])) S := fun _ => s_add (by show t.length + 1 ≤ _; omega)
  have b6 : ∀ S, binV .Add true (.str [32]) (.str t) S = .ok (.str ([32] ++ t)) S := fun _ => s_add (by show 1 + t.length ≤ _; omega)
  have b7 : ∀ S, binV .Add true (.str t) (.str [10]) S = .ok (.str (t ++ [10])) S := fun _ => s_add (by show t.length + 1 ≤ _; omega)
  have b8 : ∀ S, binV .Add true (.str t) (.str [59, 32, 53]) S = .ok (.str (t ++ [59, 32, 53])) S := fun _ => s_add (by show t.length + 3 ≤ _; omega)
  refine ⟨[c1 ++ x ++ c2, c1 ++ c3, c1 ++ x ++ c3, t ++ [32], [32] ++ t, w1, t ++ [10], c1, t ++ [59, 32, 53], w2], S2, Nat.le_refl 10, fun z hz => ?_, p2, ?_⟩
  · simp only [List.mem_cons, List.not_mem_nil, or_false] at hz
    rcases hz with rfl | rfl | rfl | rfl | rfl | rfl | rfl | rfl | rfl | rfl <;> first | omega | (simp only [List.length_append, List.length_cons, List.length_nil]; omega)
  · have f9 : ∀ a b c d e f g h i : PV, fits [a, b, c, d, e, f, g, h, i] = true := fun _ _ _ _ _ _ _ _ _ => rfl
    have f4 : ∀ a b c d : PV, fits [a, b, c, d] = true := fun _ _ _ _ => rfl
    have f6 : ∀ a b c d e f : PV, fits [a, b, c, d, e, f] = true := fun _ _ _ _ _ _ => rfl
    have ad : ∀ (a b c d e f g h i j : PV) S, binV .Add true (.lst [a, b, c, d]) (.lst [e, f, g, h, i, j]) S = .ok (.lst [a, b, c, d, e, f, g, h, i, j]) S := fun _ _ _ _ _ _ _ _ _ _ _ => rfl
    have eA : (asgS (callE 2 0 (consA (varE 0) (consA (binE (bltE (consA (varE 1) nilA) (lenD (TT (n + 1)) ct)) (conE (.int 1)) (binV .Add true)) nilA)) nilA fun vs qs => useC false ((TT (n + 1)).run 6) ((fun vs _ => vs) vs qs)) (nameT 2)) [some (.loc r), some (.str t), none, none, none] S = .nx [some (.loc r), some (.str t), some (.int a), none, none] S1 := by
      simp only [ln, e1, v_useF, v_name, v_re, v_reA, v_reB, v_reS, v_ra, v_raA, v_rb, v_rbB, v_rbS, v_rs, v_rt, v_seq, v_nil, v_ret, v_exp, v_if, v_asg, v_only, v_con, v_var0, v_varS, v_nilA, v_consA, v_bin, v_call, v_blt, v_and, v_or, v_not, v_okT, v_okB, v_okO, v_truBl, v_truInt, v_truB, v_cmpB, v_asB, v_andB, v_orB, v_notB, v_ite, v_noX, v_chain, v_useT, v_useF, v_b_int, v_i_int, v_b_str, v_add, v_sub, v_band, v_bor, v_bxor, v_mul, v_mod, v_fdiv, v_shl, v_shr, v_le, v_lt, v_eqI, v_neI, v_eqB, v_neB, v_setf, v_lst, v_una, v_attr, v_aug, v_name, List.length_cons, List.length_nil, Nat.zero_add, Nat.reduceAdd, Nat.reduceSub, and_self, if_true, if_false, Bool.false_eq_true, Bool.not_true, Bool.not_false, Bool.and_true, Bool.true_and, Bool.and_self, decide_true, decide_false, List.set_cons_zero, List.set_cons_succ, List.cons_append, List.nil_append, List.append_nil, cmpD2, cmpD, cmpV, ordV, runB, List.map_cons, List.map_nil, List.replicate, Nat.sub_self]
    have eB : (asgS (binE (lstE true (consA (conE (.str [32])) (consA (conE (.str [59])) (consA (conE (.str [59, 32])) (consA (conE (.str [48])) (consA (conE (.str [57])) (consA (conE (.str [45])) (consA (conE (.str [97])) (consA (conE (.str [10])) (consA (conE (.str [43])) nilA)))))))))) (callE 2 0 (consA (varE 0) (consA (conE (.int 9)) nilA)) nilA fun vs qs => useC false ((TT (n + 1)).run 6) ((fun vs _ => vs) vs qs)) ixV2) (nameT 3)) [some (.loc r), some (.str t), some (.int a), none, none] S1 = .nx [some (.loc r), some (.str t), some (.int a), some (.str x), none] S2 := by
      simp only [e2, ex, f9, v_useF, v_name, v_re, v_reA, v_reB, v_reS, v_ra, v_raA, v_rb, v_rbB, v_rbS, v_rs, v_rt, v_seq, v_nil, v_ret, v_exp, v_if, v_asg, v_only, v_con, v_var0, v_varS, v_nilA, v_consA, v_bin, v_call, v_blt, v_and, v_or, v_not, v_okT, v_okB, v_okO, v_truBl, v_truInt, v_truB, v_cmpB, v_asB, v_andB, v_orB, v_notB, v_ite, v_noX, v_chain, v_useT, v_useF, v_b_int, v_i_int, v_b_str, v_add, v_sub, v_band, v_bor, v_bxor, v_mul, v_mod, v_fdiv, v_shl, v_shr, v_le, v_lt, v_eqI, v_neI, v_eqB, v_neB, v_setf, v_lst, v_una, v_attr, v_aug, v_name, List.length_cons, List.length_nil, Nat.zero_add, Nat.reduceAdd, Nat.reduceSub, and_self, if_true, if_false, Bool.false_eq_true, Bool.not_true, Bool.not_false, Bool.and_true, Bool.true_and, Bool.and_self, decide_true, decide_false, List.set_cons_zero, List.set_cons_succ, List.cons_append, List.nil_append, List.append_nil, cmpD2, cmpD, cmpV, ordV, runB, List.map_cons, List.map_nil, List.replicate, Nat.sub_self]
    have eC : (asgS (lstE true (consA (binE (binE (slE true (varE 1) none (some (varE 2))) (varE 3) (binV .Add true)) (slE true (varE 1) (some (varE 2)) none) (binV .Add true)) (consA (binE (slE true (varE 1) none (some (varE 2))) (slE true (varE 1) (some (binE (varE 2) (conE (.int 1)) (binV .Add true))) none) (binV .Add true)) (consA (binE (binE (slE true (varE 1) none (some (varE 2))) (varE 3) (binV .Add true)) (slE true (varE 1) (some (binE (varE 2) (conE (.int 1)) (binV .Add true))) none) (binV .Add true)) (consA (binE (varE 1) (conE (.str [32])) (binV .Add true)) nilA))))) (nameT 4)) [some (.loc r), some (.str t), some (.int a), some (.str x), none] S2 = .nx [some (.loc r), some (.str t), some (.int a), some (.str x), some (.lst [.str (c1 ++ x ++ c2), .str (c1 ++ c3), .str (c1 ++ x ++ c3), .str (t ++ [32])])] S2 := by
      generalize hc : c1 ++ x = d1 at *
      generalize d1 ++ c2 = d2 at *
      generalize c1 ++ c3 = d3 at *
      generalize d1 ++ c3 = d4 at *
      generalize t ++ [32] = d5 at *
      simp only [v_slE, pt_no, pt_so, s1, s2, s3, b1, b2, b3, b4, b5, f4, v_name, v_re, v_reA, v_reB, v_reS, v_ra, v_raA, v_rb, v_rbB, v_rbS, v_rs, v_rt, v_seq, v_nil, v_ret, v_exp, v_if, v_asg, v_only, v_con, v_var0, v_varS, v_nilA, v_consA, v_bin, v_call, v_blt, v_and, v_or, v_not, v_okT, v_okB, v_okO, v_truBl, v_truInt, v_truB, v_cmpB, v_asB, v_andB, v_orB, v_notB, v_ite, v_noX, v_chain, v_useT, v_useF, v_b_int, v_i_int, v_b_str, v_add, v_sub, v_band, v_bor, v_bxor, v_mul, v_mod, v_fdiv, v_shl, v_shr, v_le, v_lt, v_eqI, v_neI, v_eqB, v_neB, v_setf, v_lst, v_una, v_attr, v_aug, v_name, List.length_cons, List.length_nil, Nat.zero_add, Nat.reduceAdd, Nat.reduceSub, and_self, if_true, if_false, Bool.false_eq_true, Bool.not_true, Bool.not_false, Bool.and_true, Bool.true_and, Bool.and_self, decide_true, decide_false, List.set_cons_zero, List.set_cons_succ, List.cons_append, List.nil_append, List.append_nil, cmpD2, cmpD, cmpV, ordV, runB, List.map_cons, List.map_nil, List.replicate, Nat.sub_self]
    rw [rn11]
    refine runB_rt ?_
    show e11 (TT (n + 1)) [some (.loc r), some (.str t), none, none, none] S = _
    unfold e11
    rw [v_seq, eA, v_rs, v_seq, eB, v_rs, v_seq, eC, v_rs]
    simp only [List.map_cons, List.map_nil]
    generalize c1 ++ x ++ c2 = d2 at *
    generalize c1 ++ c3 = d3 at *
    generalize c1 ++ x ++ c3 = d4 at *
    generalize t ++ [32] = d5 at *
    generalize [32] ++ t = d6 at *
    generalize t ++ [10] = d7 at *
    generalize t ++ [59, 32, 53] = d8 at *
    generalize repE (varE 1) [59, 32] [59] = R1 at *
    generalize repE (varE 1) [32] [32, 32] = R2 at *
    simp only [v_slE, pt_no, pt_so, s1, r1, r2, b6, b7, b8, f6, ad, v_re, v_reA, v_reB, v_reS, v_ra, v_raA, v_rb, v_rbB, v_rbS, v_rs, v_rt, v_seq, v_nil, v_ret, v_exp, v_if, v_asg, v_only, v_con, v_var0, v_varS, v_nilA, v_consA, v_bin, v_call, v_blt, v_and, v_or, v_not, v_okT, v_okB, v_okO, v_truBl, v_truInt, v_truB, v_cmpB, v_asB, v_andB, v_orB, v_notB, v_ite, v_noX, v_chain, v_useT, v_useF, v_b_int, v_i_int, v_b_str, v_add, v_sub, v_band, v_bor, v_bxor, v_mul, v_mod, v_fdiv, v_shl, v_shr, v_le, v_lt, v_eqI, v_neI, v_eqB, v_neB, v_setf, v_lst, v_una, v_attr, v_aug, v_name, List.length_cons, List.length_nil, Nat.zero_add, Nat.reduceAdd, Nat.reduceSub, and_self, if_true, if_false, Bool.false_eq_true, Bool.not_true, Bool.not_false, Bool.and_true, Bool.true_and, Bool.and_self, decide_true, decide_false, List.set_cons_zero, List.set_cons_succ, List.cons_append, List.nil_append, List.append_nil, cmpD2, cmpD, cmpV, ordV, runB, List.map_cons, List.map_nil, List.replicate, Nat.sub_self]
/-! ### the law -/
def B0 : Loc → Hs → RS :=
    (seqS (asgS (callE 1 0 (consA (varE 6) nilA) nilA fun vs qs => useC true ((TT 9).run 9) ((fun vs _ => vs) vs qs)) (nameT 7))
    (seqS (ifS (truB (bltE (consA (varE 7) (consA (conE (.ty "tuple")) nilA)) (isiA isa)))
    (seqS (ifS (cmpB (binE (callE 1 0 (consA (varE 7) nilA) nilA fun vs qs => useC true ((TT 9).run 8) ((fun vs _ => vs) vs qs)) (varE 6) (cmpD2 (TT 9) ct .NotEq)))
    (seqS (retS (conE (.bl false)))
    nilS)
    nilS)
    nilS)
    (seqS (ifS (cmpB (binE (varE 7) (lstE true (consA (conE (.str [116, 101, 120, 116])) (consA (varE 6) nilA))) (cmpD2 (TT 9) ct .NotEq)))
    (seqS (retS (conE (.bl false)))
    nilS)
    nilS)
    nilS))
    nilS))
def U0 : Loc → Hs → RS :=
    (seqS (forS (valI (callE 2 0 (consA (varE 2) (consA (varE 4) nilA)) nilA fun vs qs => useC false ((TT 9).run 11) ((fun vs _ => vs) vs qs))) (nameT 6)
    B0)
    nilS)
def T0 : Loc → Hs → RS :=
    (seqS (ifS (cmpB (binE (callE 1 0 (consA (varE 8) nilA) nilA fun vs qs => useC true ((TT 9).run 9) ((fun vs _ => vs) vs qs)) (lstE true (consA (conE (.str [116, 101, 120, 116])) (consA (varE 8) nilA))) (cmpD2 (TT 9) ct .NotEq)))
    (seqS (retS (conE (.bl false)))
    nilS)
    nilS)
    nilS)
def O0 : Loc → Hs → RS :=
    (seqS (ifS (cmpB (binE (callE 1 0 (consA (varE 10) nilA) nilA fun vs qs => useC true ((TT 9).run 10) ((fun vs _ => vs) vs qs)) (lstE true (consA (conE (.str [114, 117, 110])) (consA (varE 10) nilA))) (cmpD2 (TT 9) ct .NotEq)))
    (seqS (retS (conE (.bl false)))
    nilS)
    nilS)
    nilS)
def K0 : Loc → Hs → RS :=
    (seqS (asgS (callE 2 0 (consA (varE 0) (consA (varE 1) nilA)) nilA fun vs qs => useC false ((TT 9).run 5) ((fun vs _ => vs) vs qs)) (nameT 2))
    (seqS (asgS (tupE (consA (callE 1 0 (consA (varE 2) nilA) nilA fun vs qs => useC false ((TT 9).run 7) ((fun vs _ => vs) vs qs)) (consA (callE 1 0 (consA (varE 2) nilA) nilA fun vs qs => useC false ((TT 9).run 7) ((fun vs _ => vs) vs qs)) nilA))) (nameT 3))
    (seqS (asgS (callE 1 0 (consA (varE 3) nilA) nilA fun vs qs => useC true ((TT 9).run 8) ((fun vs _ => vs) vs qs)) (nameT 4))
    (seqS (ifS (orB (cmpB (binE (callE 1 0 (consA (varE 3) nilA) nilA fun vs qs => useC true ((TT 9).run 2) ((fun vs _ => vs) vs qs)) (varE 4) (cmpD2 (TT 9) ct .NotEq))) (orB (cmpB (binE (callE 1 0 (consA (varE 4) nilA) nilA fun vs qs => useC true ((TT 9).run 4) ((fun vs _ => vs) vs qs)) (varE 3) (cmpD2 (TT 9) ct .NotEq))) (notB (truB (bltE (consA (callE 1 0 (consA (varE 4) nilA) nilA fun vs qs => useC true ((TT 9).run 4) ((fun vs _ => vs) vs qs)) (consA (conE (.ty "tuple")) nilA)) (isiA isa))))))
    (seqS (retS (conE (.bl false)))
    nilS)
    nilS)
    (seqS (forS (rngI (consA (conE (.int 4)) nilA)) (nameT 5)
    U0)
    (seqS (forS (valI (lstE true (consA (conE .non) (consA (conE (.int 5)) (consA (conE (.str [])) (consA (conE (.str [32])) (consA (conE (.str [59])) (consA (conE (.str [53])) (consA (conE (.str [53, 59, 53])) (consA (conE (.str [48, 53, 59, 32])) (consA (conE (.str [52, 50, 57, 52, 57, 54, 55, 50, 57, 54, 59, 32])) (consA (conE (.str [45, 49, 59, 32])) (consA (conE (.str [97, 59, 32])) (consA (conE (.str [53, 59, 32, 53, 59, 32, 53])) (consA (lstE true nilA) (consA (conE (.bl true)) nilA)))))))))))))))) (nameT 8)
    T0)
    (seqS (ifS (orB (cmpB (binE (callE 1 0 (consA (binE (binE (conE (.str [53, 32])) (conE (.int 5000)) (mulX true)) (conE (.str [59, 32])) (binV .Add true)) nilA) nilA fun vs qs => useC true ((TT 9).run 9) ((fun vs _ => vs) vs qs)) (lstE true (consA (conE (.str [116, 101, 120, 116])) (consA (binE (binE (conE (.str [53, 32])) (conE (.int 5000)) (mulX true)) (conE (.str [59, 32])) (binV .Add true)) nilA))) (cmpD2 (TT 9) ct .NotEq))) (cmpB (binE (callE 1 0 (consA (conE (.str [59, 32])) nilA) nilA fun vs qs => useC true ((TT 9).run 4) ((fun vs _ => vs) vs qs)) (tupE (consA (tupE nilA) (consA (tupE nilA) nilA))) (cmpD2 (TT 9) ct .NotEq))))
    (seqS (retS (conE (.bl false)))
    nilS)
    nilS)
    (seqS (asgS (lstE true (consA (conE .non) (consA (conE (.int 5)) (consA (varE 4) (consA (slE true (varE 3) none (some (conE (.int 1)))) (consA (bltE (consA (varE 3) nilA) (listV2 true)) (consA (tupE (consA (binE (varE 3) (conE (.int 0)) ixV2) (consA (bltE (consA (binE (varE 3) (conE (.int 1)) ixV2) nilA) (listV2 true)) nilA))) (consA (tupE (consA (tupE (consA (unaE .USub (conE (.int 1))) nilA)) (consA (tupE nilA) nilA))) (consA (tupE (consA (tupE (consA (conE (.bl true)) nilA)) (consA (tupE nilA) nilA))) nilA))))))))) (nameT 9))
    (seqS (forS (valI (binE (varE 9) (lstE true (consA (tupE (consA (tupE (consA (conE (.int 4294967296)) nilA)) (consA (tupE nilA) nilA))) nilA)) (binV .Add true))) (nameT 10)
    O0)
    nilS)))))))))
def EL : Loc → Hs → RS :=
    (seqS (forS (rngI (consA (bltE (consA (conE (.int 1)) (consA (bltE (consA (bltE (consA (varE 0) nilA) (lenD (TT 9) ct)) (consA (conE (.int 5)) nilA)) min2V) nilA)) max2V) nilA)) (nameT 1)
    K0)
    (seqS (retS (conE (.bl true)))
    nilS))
def F11 (ns : List Int) (x1 x2 x3 x4 x5 x6 x7 x8 x9 x10 : Option PV) : Loc := [some (.scr ns), x1, x2, x3, x4, x5, x6, x7, x8, x9, x10]
theorem f2 {a b : PV} : fits [a, b] = true := rfl
section
variable {ns : List Int} {a b t : List Nat} {o : PV} {S : Hs} {x1 x2 x3 x4 x5 x6 x7 x8 x9 x10 : Option PV} {r : Nat}
theorem bt0 (ht : t.length ≤ 16777216) : B0 (F11 ns x1 x2 x3 x4 x5 (some (.str t)) x7 x8 x9 x10) S = .nx (F11 ns x1 x2 x3 x4 x5 (some (.str t)) (some (told t)) x8 x9 x10) S := by
  have rd := fun S => l_read (n := 3) (t := t) (S := S) ht
  change ∀ S, isoC ((TT 9).run 9) _ S = _ at rd
  cases hp : parseP t with
  | none =>
    have et : told t = .lst [.str sT, .str t] := by unfold told; rw [hp]
    rw [et] at rd ⊢
    have it : ∀ S, isiA isa [.lst [.str sT, .str t], .ty "tuple"] S = .ok (.bl false) S := fun _ => rfl
    have ne : ∀ S, neD (TT 9) ct (.lst [.str sT, .str t]) (.lst [.str sT, .str t]) S = .ok (.bl false) S := fun S => ne_self rfl
    unfold B0 F11
    simp only [rd, it, ne, f2, v_name, v_re, v_reA, v_reB, v_reS, v_ra, v_raA, v_rb, v_rbB, v_rbS, v_rs, v_rt, v_seq, v_nil, v_ret, v_exp, v_if, v_asg, v_only, v_con, v_var0, v_varS, v_nilA, v_consA, v_bin, v_call, v_blt, v_and, v_or, v_not, v_okT, v_okB, v_okO, v_truBl, v_truInt, v_truB, v_cmpB, v_asB, v_andB, v_orB, v_notB, v_ite, v_noX, v_chain, v_useT, v_useF, v_b_int, v_i_int, v_b_str, v_add, v_sub, v_band, v_bor, v_bxor, v_mul, v_mod, v_fdiv, v_shl, v_shr, v_le, v_lt, v_eqI, v_neI, v_eqB, v_neB, v_setf, v_lst, v_una, v_attr, v_aug, v_name, List.length_cons, List.length_nil, Nat.zero_add, Nat.reduceAdd, Nat.reduceSub, and_self, if_true, if_false, Bool.false_eq_true, Bool.not_true, Bool.not_false, Bool.and_true, Bool.true_and, Bool.and_self, decide_true, decide_false, List.set_cons_zero, List.set_cons_succ, List.cons_append, List.nil_append, List.append_nil, cmpD2, cmpD, cmpV, ordV, runB, List.map_cons, List.map_nil, List.replicate, Nat.sub_self]
  | some ab =>
    obtain ⟨a, b⟩ := ab
    have et : told t = runv a b := by unfold told; rw [hp]
    obtain ⟨e1, ia, ib, sa, sb⟩ := parse_back hp
    rw [et] at rd ⊢
    have lt := fun S => l_text (n := 8) (S := S) sa sb
    change ∀ S, isoC ((TT 9).run 8) _ S = _ at lt
    rw [e1] at lt
    have it : ∀ S, isiA isa [runv a b, .ty "tuple"] S = .ok (.bl true) S := fun _ => rfl
    have ne : ∀ S, neD (TT 9) ct (.str t) (.str t) S = .ok (.bl false) S := fun S => by rw [q_ne, beq_self_eq_true]; rfl
    generalize runv a b = q1 at *
    unfold B0 F11
    simp only [rd, it, lt, ne, v_name, v_re, v_reA, v_reB, v_reS, v_ra, v_raA, v_rb, v_rbB, v_rbS, v_rs, v_rt, v_seq, v_nil, v_ret, v_exp, v_if, v_asg, v_only, v_con, v_var0, v_varS, v_nilA, v_consA, v_bin, v_call, v_blt, v_and, v_or, v_not, v_okT, v_okB, v_okO, v_truBl, v_truInt, v_truB, v_cmpB, v_asB, v_andB, v_orB, v_notB, v_ite, v_noX, v_chain, v_useT, v_useF, v_b_int, v_i_int, v_b_str, v_add, v_sub, v_band, v_bor, v_bxor, v_mul, v_mod, v_fdiv, v_shl, v_shr, v_le, v_lt, v_eqI, v_neI, v_eqB, v_neB, v_setf, v_lst, v_una, v_attr, v_aug, v_name, List.length_cons, List.length_nil, Nat.zero_add, Nat.reduceAdd, Nat.reduceSub, and_self, if_true, if_false, Bool.false_eq_true, Bool.not_true, Bool.not_false, Bool.and_true, Bool.true_and, Bool.and_self, decide_true, decide_false, List.set_cons_zero, List.set_cons_succ, List.cons_append, List.nil_append, List.append_nil, cmpD2, cmpD, cmpV, ordV, runB, List.map_cons, List.map_nil, List.replicate, Nat.sub_self]
theorem u0 (hk : t.all okc = true) (hl : t.length ≤ 140) (hp : HasPool S r) : ∃ k6 k7 S', HasPool S' r ∧ U0 (F11 ns x1 (some (.loc r)) x3 (some (.str t)) x5 x6 x7 x8 x9 x10) S = .nx (F11 ns x1 (some (.loc r)) x3 (some (.str t)) x5 k6 k7 x8 x9 x10) S' := by
  obtain ⟨l, S1, ll, lx, p1, e1⟩ := d_bent (n := 7) hk hl hp
  change (TT 9).run 11 _ _ = _ at e1
  have src : (valI (callE 2 0 (consA (varE 2) (consA (varE 4) nilA)) nilA fun vs qs => useC false ((TT 9).run 11) ((fun vs _ => vs) vs qs))) (F11 ns x1 (some (.loc r)) x3 (some (.str t)) x5 x6 x7 x8 x9 x10) S = .ok (.seq (.lst (l.map PV.str))) S1 := by
    have e : (callE 2 0 (consA (varE 2) (consA (varE 4) nilA)) nilA fun vs qs => useC false ((TT 9).run 11) ((fun vs _ => vs) vs qs)) (F11 ns x1 (some (.loc r)) x3 (some (.str t)) x5 x6 x7 x8 x9 x10) S = .ok (.lst (l.map PV.str)) S1 := by
      generalize (PV.lst (l.map PV.str)) = q1 at *
      unfold F11
      simp only [e1, v_useF, v_re, v_reA, v_reB, v_reS, v_ra, v_raA, v_rb, v_rbB, v_rbS, v_rs, v_rt, v_seq, v_nil, v_ret, v_exp, v_if, v_asg, v_only, v_con, v_var0, v_varS, v_nilA, v_consA, v_bin, v_call, v_blt, v_and, v_or, v_not, v_okT, v_okB, v_okO, v_truBl, v_truInt, v_truB, v_cmpB, v_asB, v_andB, v_orB, v_notB, v_ite, v_noX, v_chain, v_useT, v_useF, v_b_int, v_i_int, v_b_str, v_add, v_sub, v_band, v_bor, v_bxor, v_mul, v_mod, v_fdiv, v_shl, v_shr, v_le, v_lt, v_eqI, v_neI, v_eqB, v_neB, v_setf, v_lst, v_una, v_attr, v_aug, v_name, List.length_cons, List.length_nil, Nat.zero_add, Nat.reduceAdd, Nat.reduceSub, and_self, if_true, if_false, Bool.false_eq_true, Bool.not_true, Bool.not_false, Bool.and_true, Bool.true_and, Bool.and_self, decide_true, decide_false, List.set_cons_zero, List.set_cons_succ, List.cons_append, List.nil_append, List.append_nil, cmpD2, cmpD, cmpV, ordV, runB, List.map_cons, List.map_nil, List.replicate, Nat.sub_self]
    exact v_valI e
  have loop := for_ok (src := (valI (callE 2 0 (consA (varE 2) (consA (varE 4) nilA)) nilA fun vs qs => useC false ((TT 9).run 11) ((fun vs _ => vs) vs qs)))) (tgt := nameT 6) (body := B0) (L := F11 ns x1 (some (.loc r)) x3 (some (.str t)) x5 x6 x7 x8 x9 x10) (n := l.length) (d := .seq (.lst (l.map PV.str))) (S := S) (S1 := S1) (fun _ L' S' => S' = S1 ∧ ∃ k6 k7, L' = F11 ns x1 (some (.loc r)) x3 (some (.str t)) x5 k6 k7 x8 x9 x10) src (by
    rintro q L S' hq ⟨rfl, k6, k7, rfl⟩
    exact ⟨.str l[q], _, _, _, _, by rw [fetchL, List.getElem?_eq_getElem hq]; rfl, rfl, bt0 (by have := lx _ (List.getElem_mem hq); omega), rfl, _, _, rfl⟩) (fun L S _ => by rw [fetchL, List.getElem?_eq_none (Nat.le_refl _)]; rfl) (by omega) ⟨rfl, _, _, rfl⟩
  obtain ⟨L', S', el, rfl, k6, k7, rfl⟩ := loop
  refine ⟨k6, k7, S', p1, ?_⟩
  unfold U0
  rw [v_seq, el, v_rs, v_nil]
theorem t0 (h : OddT o) : T0 (F11 ns x1 x2 x3 x4 x5 x6 x7 (some o) x9 x10) S = .nx (F11 ns x1 x2 x3 x4 x5 x6 x7 (some o) x9 x10) S := by
  have rd := h.rd
  have ne : ∀ S, neD (TT 9) ct (.lst [.str sT, o]) (.lst [.str sT, o]) S = .ok (.bl false) S := fun S => ne_self (by
    show (isD S 11 (.str sT) && (isD S 11 o && true)) = true
    rw [h.dd]
    rfl)
  unfold T0 F11
  simp only [rd, ne, f2, v_re, v_reA, v_reB, v_reS, v_ra, v_raA, v_rb, v_rbB, v_rbS, v_rs, v_rt, v_seq, v_nil, v_ret, v_exp, v_if, v_asg, v_only, v_con, v_var0, v_varS, v_nilA, v_consA, v_bin, v_call, v_blt, v_and, v_or, v_not, v_okT, v_okB, v_okO, v_truBl, v_truInt, v_truB, v_cmpB, v_asB, v_andB, v_orB, v_notB, v_ite, v_noX, v_chain, v_useT, v_useF, v_b_int, v_i_int, v_b_str, v_add, v_sub, v_band, v_bor, v_bxor, v_mul, v_mod, v_fdiv, v_shl, v_shr, v_le, v_lt, v_eqI, v_neI, v_eqB, v_neB, v_setf, v_lst, v_una, v_attr, v_aug, v_name, List.length_cons, List.length_nil, Nat.zero_add, Nat.reduceAdd, Nat.reduceSub, and_self, if_true, if_false, Bool.false_eq_true, Bool.not_true, Bool.not_false, Bool.and_true, Bool.true_and, Bool.and_self, decide_true, decide_false, List.set_cons_zero, List.set_cons_succ, List.cons_append, List.nil_append, List.append_nil, cmpD2, cmpD, cmpV, ordV, runB, List.map_cons, List.map_nil, List.replicate, Nat.sub_self]
theorem o0 (h : OddR o) : O0 (F11 ns x1 x2 x3 x4 x5 x6 x7 x8 x9 (some o)) S = .nx (F11 ns x1 x2 x3 x4 x5 x6 x7 x8 x9 (some o)) S := by
  have rd := h.rf
  have ne : ∀ S, neD (TT 9) ct (.lst [.str sR, o]) (.lst [.str sR, o]) S = .ok (.bl false) S := fun S => ne_self (by
    show (isD S 11 (.str sR) && (isD S 11 o && true)) = true
    rw [h.dd]
    rfl)
  unfold O0 F11
  simp only [rd, ne, f2, v_re, v_reA, v_reB, v_reS, v_ra, v_raA, v_rb, v_rbB, v_rbS, v_rs, v_rt, v_seq, v_nil, v_ret, v_exp, v_if, v_asg, v_only, v_con, v_var0, v_varS, v_nilA, v_consA, v_bin, v_call, v_blt, v_and, v_or, v_not, v_okT, v_okB, v_okO, v_truBl, v_truInt, v_truB, v_cmpB, v_asB, v_andB, v_orB, v_notB, v_ite, v_noX, v_chain, v_useT, v_useF, v_b_int, v_i_int, v_b_str, v_add, v_sub, v_band, v_bor, v_bxor, v_mul, v_mod, v_fdiv, v_shl, v_shr, v_le, v_lt, v_eqI, v_neI, v_eqB, v_neB, v_setf, v_lst, v_una, v_attr, v_aug, v_name, List.length_cons, List.length_nil, Nat.zero_add, Nat.reduceAdd, Nat.reduceSub, and_self, if_true, if_false, Bool.false_eq_true, Bool.not_true, Bool.not_false, Bool.and_true, Bool.true_and, Bool.and_self, decide_true, decide_false, List.set_cons_zero, List.set_cons_succ, List.cons_append, List.nil_append, List.append_nil, cmpD2, cmpD, cmpV, ordV, runB, List.map_cons, List.map_nil, List.replicate, Nat.sub_self]
def big : List Nat := repN [53, 32] 5000 ++ [59, 32]
theorem big_len : big.length = 10002 := by
  unfold big repN
  simp
theorem big_v : ∀ S, mulX true (.str [53, 32]) (.int 5000) S = .ok (.str (repN [53, 32] 5000)) S := fun S => by
  have h : mulX true (.str [53, 32]) (.int 5000) S = (if decide ((2 : Int) ≤ 5000) && decide ((5000 : Int) ≤ 10000) && decide (1 ≤ ([53, 32] : List Nat).length) && decide (([53, 32] : List Nat).length ≤ 1000) then RE.ok (.str (repN [53, 32] (5000 : Int).toNat)) S else if decide ((5000 : Int) = 0) then RE.ok (.str []) S else if decide ((5000 : Int) = 1) then RE.ok (.str [53, 32]) S else .bad) := rfl
  rw [h, if_pos (by decide)]
  rfl
theorem tt1 : slV true (runv a b) none (some 1) S = .ok (.tup [rwv a]) S := rfl
theorem tt2 : listV2 true [runv a b] S = .ok (.lst [rwv a, rwv b]) S := rfl
theorem tt3 (hb : b.length ≤ 9000) : listV2 true [rwv b] S = .ok (.lst (b.map fun n : Nat => .int (n : Nat))) S := by
  show newL true (b.map fun n : Nat => PV.int (n : Nat)) S = _
  unfold newL
  rw [if_pos (show fits (b.map fun n : Nat => PV.int (n : Nat)) = true from decide_eq_true (by rw [List.length_map]; omega))]
  rfl
theorem tt4 : ixV2 (runv a b) (.int 0) S = .ok (rwv a) S := rfl
theorem tt5 : ixV2 (runv a b) (.int 1) S = .ok (rwv b) S := rfl
theorem tt6 {L : Loc} : unaE .USub (conE (.int 1)) L S = .ok (.int (-1)) S := rfl
theorem k0 {k : Nat} (hk : k < 64) : ∃ k2 k3 k4 k5 k6 k7 k8 k9 k10 S', K0 (F11 ns (some (.int k)) x2 x3 x4 x5 x6 x7 x8 x9 x10) S = .nx (F11 ns (some (.int k)) k2 k3 k4 k5 k6 k7 k8 k9 k10) S' := by
  obtain ⟨r, S0, p0, e0⟩ := pool1 (n := 8) (S := S) (ns := ns) hk
  obtain ⟨a, S1, ra, p1, e1⟩ := d_row (n := 7) p0
  obtain ⟨b, S2, rb, p2, e2⟩ := d_row (n := 7) p1
  change (TT 9).run _ _ _ = _ at e0 e1 e2
  have lt := fun S => l_text (n := 8) (S := S) ra.sm rb.sm
  have fm := fun S => i_fmt (n := 5) (S := S) ra.sm rb.sm
  rw [ra.v, rb.v] at fm
  simp only [Bool.and_self, if_true] at fm
  have pl := text_len ra rb
  have ip := fun S => i_parse (n := 4) (t := textOf a b) (S := S) (by omega)
  rw [parse_text ra rb] at ip
  simp only at ip
  change ∀ S, isoC ((TT 9).run 8) _ S = _ at lt
  change ∀ S, isoC ((TT 9).run 2) _ S = _ at fm
  change ∀ S, isoC ((TT 9).run 4) _ S = _ at ip
  have hok := text_ok (a := a) (b := b)
  have nt : ∀ S, neD (TT 9) ct (.str (textOf a b)) (.str (textOf a b)) S = .ok (.bl false) S := fun S => by rw [q_ne, beq_self_eq_true]; rfl
  have nr : ∀ S, neD (TT 9) ct (runv a b) (runv a b) S = .ok (.bl false) S := fun S => ne_selfT (by
    show (isD S 11 (rwv a) && (isD S 11 (rwv b) && true)) = true
    rw [isD_rw (n := 10), isD_rw (n := 10)]
    rfl)
  have it : ∀ S, isiA isa [runv a b, .ty "tuple"] S = .ok (.bl true) S := fun _ => rfl
  have v2 : ∀ {f : Loc → Hs → RA} {L : Loc} {S : Hs}, tupE f L S = (f L S).bind fun vs S1 => if fits vs then .ok (.tup vs) S1 else .bad := rfl
  have eA : (asgS (callE 2 0 (consA (varE 0) (consA (varE 1) nilA)) nilA fun vs qs => useC false ((TT 9).run 5) ((fun vs _ => vs) vs qs)) (nameT 2)) (F11 ns (some (.int k)) x2 x3 x4 x5 x6 x7 x8 x9 x10) S = .nx (F11 ns (some (.int k)) (some (.loc r)) x3 x4 x5 x6 x7 x8 x9 x10) S0 := by
    unfold F11
    simp only [e0, v_useF, v_name, v_re, v_reA, v_reB, v_reS, v_ra, v_raA, v_rb, v_rbB, v_rbS, v_rs, v_rt, v_seq, v_nil, v_ret, v_exp, v_if, v_asg, v_only, v_con, v_var0, v_varS, v_nilA, v_consA, v_bin, v_call, v_blt, v_and, v_or, v_not, v_okT, v_okB, v_okO, v_truBl, v_truInt, v_truB, v_cmpB, v_asB, v_andB, v_orB, v_notB, v_ite, v_noX, v_chain, v_useT, v_useF, v_b_int, v_i_int, v_b_str, v_add, v_sub, v_band, v_bor, v_bxor, v_mul, v_mod, v_fdiv, v_shl, v_shr, v_le, v_lt, v_eqI, v_neI, v_eqB, v_neB, v_setf, v_lst, v_una, v_attr, v_aug, v_name, List.length_cons, List.length_nil, Nat.zero_add, Nat.reduceAdd, Nat.reduceSub, and_self, if_true, if_false, Bool.false_eq_true, Bool.not_true, Bool.not_false, Bool.and_true, Bool.true_and, Bool.and_self, decide_true, decide_false, List.set_cons_zero, List.set_cons_succ, List.cons_append, List.nil_append, List.append_nil, cmpD2, cmpD, cmpV, ordV, runB, List.map_cons, List.map_nil, List.replicate, Nat.sub_self]
  have eB : (asgS (tupE (consA (callE 1 0 (consA (varE 2) nilA) nilA fun vs qs => useC false ((TT 9).run 7) ((fun vs _ => vs) vs qs)) (consA (callE 1 0 (consA (varE 2) nilA) nilA fun vs qs => useC false ((TT 9).run 7) ((fun vs _ => vs) vs qs)) nilA))) (nameT 3)) (F11 ns (some (.int k)) (some (.loc r)) x3 x4 x5 x6 x7 x8 x9 x10) S0 = .nx (F11 ns (some (.int k)) (some (.loc r)) (some (runv a b)) x4 x5 x6 x7 x8 x9 x10) S2 := by
    unfold runv
    generalize rwv a = q1 at *
    generalize rwv b = q2 at *
    unfold F11
    simp only [e1, e2, v2, f2, v_useF, v_name, v_re, v_reA, v_reB, v_reS, v_ra, v_raA, v_rb, v_rbB, v_rbS, v_rs, v_rt, v_seq, v_nil, v_ret, v_exp, v_if, v_asg, v_only, v_con, v_var0, v_varS, v_nilA, v_consA, v_bin, v_call, v_blt, v_and, v_or, v_not, v_okT, v_okB, v_okO, v_truBl, v_truInt, v_truB, v_cmpB, v_asB, v_andB, v_orB, v_notB, v_ite, v_noX, v_chain, v_useT, v_useF, v_b_int, v_i_int, v_b_str, v_add, v_sub, v_band, v_bor, v_bxor, v_mul, v_mod, v_fdiv, v_shl, v_shr, v_le, v_lt, v_eqI, v_neI, v_eqB, v_neB, v_setf, v_lst, v_una, v_attr, v_aug, v_name, List.length_cons, List.length_nil, Nat.zero_add, Nat.reduceAdd, Nat.reduceSub, and_self, if_true, if_false, Bool.false_eq_true, Bool.not_true, Bool.not_false, Bool.and_true, Bool.true_and, Bool.and_self, decide_true, decide_false, List.set_cons_zero, List.set_cons_succ, List.cons_append, List.nil_append, List.append_nil, cmpD2, cmpD, cmpV, ordV, runB, List.map_cons, List.map_nil, List.replicate, Nat.sub_self]
  have eC : (asgS (callE 1 0 (consA (varE 3) nilA) nilA fun vs qs => useC true ((TT 9).run 8) ((fun vs _ => vs) vs qs)) (nameT 4)) (F11 ns (some (.int k)) (some (.loc r)) (some (runv a b)) x4 x5 x6 x7 x8 x9 x10) S2 = .nx (F11 ns (some (.int k)) (some (.loc r)) (some (runv a b)) (some (.str (textOf a b))) x5 x6 x7 x8 x9 x10) S2 := by
    generalize runv a b = q1 at *
    unfold F11
    simp only [lt, v_name, v_re, v_reA, v_reB, v_reS, v_ra, v_raA, v_rb, v_rbB, v_rbS, v_rs, v_rt, v_seq, v_nil, v_ret, v_exp, v_if, v_asg, v_only, v_con, v_var0, v_varS, v_nilA, v_consA, v_bin, v_call, v_blt, v_and, v_or, v_not, v_okT, v_okB, v_okO, v_truBl, v_truInt, v_truB, v_cmpB, v_asB, v_andB, v_orB, v_notB, v_ite, v_noX, v_chain, v_useT, v_useF, v_b_int, v_i_int, v_b_str, v_add, v_sub, v_band, v_bor, v_bxor, v_mul, v_mod, v_fdiv, v_shl, v_shr, v_le, v_lt, v_eqI, v_neI, v_eqB, v_neB, v_setf, v_lst, v_una, v_attr, v_aug, v_name, List.length_cons, List.length_nil, Nat.zero_add, Nat.reduceAdd, Nat.reduceSub, and_self, if_true, if_false, Bool.false_eq_true, Bool.not_true, Bool.not_false, Bool.and_true, Bool.true_and, Bool.and_self, decide_true, decide_false, List.set_cons_zero, List.set_cons_succ, List.cons_append, List.nil_append, List.append_nil, cmpD2, cmpD, cmpV, ordV, runB, List.map_cons, List.map_nil, List.replicate, Nat.sub_self]
  have eD : (ifS (orB (cmpB (binE (callE 1 0 (consA (varE 3) nilA) nilA fun vs qs => useC true ((TT 9).run 2) ((fun vs _ => vs) vs qs)) (varE 4) (cmpD2 (TT 9) ct .NotEq))) (orB (cmpB (binE (callE 1 0 (consA (varE 4) nilA) nilA fun vs qs => useC true ((TT 9).run 4) ((fun vs _ => vs) vs qs)) (varE 3) (cmpD2 (TT 9) ct .NotEq))) (notB (truB (bltE (consA (callE 1 0 (consA (varE 4) nilA) nilA fun vs qs => useC true ((TT 9).run 4) ((fun vs _ => vs) vs qs)) (consA (conE (.ty "tuple")) nilA)) (isiA isa))))))
    (seqS (retS (conE (.bl false)))
    nilS)
    nilS) (F11 ns (some (.int k)) (some (.loc r)) (some (runv a b)) (some (.str (textOf a b))) x5 x6 x7 x8 x9 x10) S2 = .nx (F11 ns (some (.int k)) (some (.loc r)) (some (runv a b)) (some (.str (textOf a b))) x5 x6 x7 x8 x9 x10) S2 := by
    generalize runv a b = q1 at *
    generalize textOf a b = q2 at *
    unfold F11
    simp only [fm, ip, nt, nr, it, v_re, v_reA, v_reB, v_reS, v_ra, v_raA, v_rb, v_rbB, v_rbS, v_rs, v_rt, v_seq, v_nil, v_ret, v_exp, v_if, v_asg, v_only, v_con, v_var0, v_varS, v_nilA, v_consA, v_bin, v_call, v_blt, v_and, v_or, v_not, v_okT, v_okB, v_okO, v_truBl, v_truInt, v_truB, v_cmpB, v_asB, v_andB, v_orB, v_notB, v_ite, v_noX, v_chain, v_useT, v_useF, v_b_int, v_i_int, v_b_str, v_add, v_sub, v_band, v_bor, v_bxor, v_mul, v_mod, v_fdiv, v_shl, v_shr, v_le, v_lt, v_eqI, v_neI, v_eqB, v_neB, v_setf, v_lst, v_una, v_attr, v_aug, v_name, List.length_cons, List.length_nil, Nat.zero_add, Nat.reduceAdd, Nat.reduceSub, and_self, if_true, if_false, Bool.false_eq_true, Bool.not_true, Bool.not_false, Bool.and_true, Bool.true_and, Bool.and_self, decide_true, decide_false, List.set_cons_zero, List.set_cons_succ, List.cons_append, List.nil_append, List.append_nil, cmpD2, cmpD, cmpV, ordV, runB, List.map_cons, List.map_nil, List.replicate, Nat.sub_self]
  have lu := for_ok (src := (rngI (consA (conE (.int 4)) nilA))) (tgt := nameT 5) (body := U0) (L := F11 ns (some (.int k)) (some (.loc r)) (some (runv a b)) (some (.str (textOf a b))) x5 x6 x7 x8 x9 x10) (n := 4) (d := .rng 0 4) (S := S2) (S1 := S2)
    (fun _ L' S' => HasPool S' r ∧ ∃ k5 k6 k7, L' = F11 ns (some (.int k)) (some (.loc r)) (some (runv a b)) (some (.str (textOf a b))) k5 k6 k7 x8 x9 x10) rfl (by
    rintro q L S' hq ⟨hp, k5, k6, k7, rfl⟩
    obtain ⟨k6', k7', S'', hp', e⟩ := u0 (ns := ns) (x1 := some (.int k)) (x3 := some (runv a b)) (x5 := some (.int (0 + (q : Int)))) (x6 := k6) (x7 := k7) (x8 := x8) (x9 := x9) (x10 := x10) hok pl hp
    exact ⟨.int (0 + (q : Int)), _, _, _, _, by rw [fetch_rng, if_pos hq], rfl, e, hp', _, _, _, rfl⟩) (fun L S _ => by rw [fetch_rng, if_neg (Nat.lt_irrefl _)]) (by omega) ⟨p2, _, _, _, rfl⟩
  obtain ⟨L1, S3, eU, p3, m5, m6, m7, rfl⟩ := lu
  have lt' := for_ok (src := (valI (lstE true (consA (conE .non) (consA (conE (.int 5)) (consA (conE (.str [])) (consA (conE (.str [32])) (consA (conE (.str [59])) (consA (conE (.str [53])) (consA (conE (.str [53, 59, 53])) (consA (conE (.str [48, 53, 59, 32])) (consA (conE (.str [52, 50, 57, 52, 57, 54, 55, 50, 57, 54, 59, 32])) (consA (conE (.str [45, 49, 59, 32])) (consA (conE (.str [97, 59, 32])) (consA (conE (.str [53, 59, 32, 53, 59, 32, 53])) (consA (lstE true nilA) (consA (conE (.bl true)) nilA))))))))))))))))) (tgt := nameT 8) (body := T0) (L := F11 ns (some (.int k)) (some (.loc r)) (some (runv a b)) (some (.str (textOf a b))) m5 m6 m7 x8 x9 x10) (n := oddsT.length) (d := .seq (.lst oddsT)) (S := S3) (S1 := S3)
    (fun _ L' S' => S' = S3 ∧ ∃ k8, L' = F11 ns (some (.int k)) (some (.loc r)) (some (runv a b)) (some (.str (textOf a b))) m5 m6 m7 k8 x9 x10) (v_valI rfl) (by
    rintro q L S' hq ⟨rfl, k8, rfl⟩
    exact ⟨oddsT[q], _, _, _, _, by rw [fetch_lst, List.getElem?_eq_getElem hq], rfl, t0 (oddsT_ok _ (List.getElem_mem hq)), rfl, _, rfl⟩) (fun L S _ => by rw [fetch_lst, List.getElem?_eq_none (Nat.le_refl _)]) (by show 14 < 1000000000; decide) ⟨rfl, _, rfl⟩
  obtain ⟨L2, S4, eT, rfl, m8, rfl⟩ := lt'
  have bad : parseP big = none := by
    unfold parseP
    rw [big_len]
    rfl
  have ob := (oddT_s (t := big) (by rw [big_len]; decide) bad).rd
  have nb : ∀ S, neD (TT 9) ct (.lst [.str sT, .str big]) (.lst [.str sT, .str big]) S = .ok (.bl false) S := fun S => ne_self rfl
  have adb : ∀ S, binV .Add true (.str (repN [53, 32] 5000)) (.str [59, 32]) S = .ok (.str big) S := fun S => s_add (by
    have := big_len
    unfold big at this
    rw [List.length_append] at this
    omega)
  have pe := fun S => i_parse (n := 4) (t := [59, 32]) (S := S) (by decide)
  rw [show parseP [59, 32] = some ([], []) by decide +kernel] at pe
  simp only at pe
  change ∀ S, isoC ((TT 9).run 4) _ S = .ok (.tup [.tup [], .tup []]) S at pe
  have np : ∀ S, neD (TT 9) ct (.tup [.tup [], .tup []]) (.tup [.tup [], .tup []]) S = .ok (.bl false) S := fun S => ne_selfT rfl
  have f0 : fits ([] : List PV) = true := rfl
  have eE : (ifS (orB (cmpB (binE (callE 1 0 (consA (binE (binE (conE (.str [53, 32])) (conE (.int 5000)) (mulX true)) (conE (.str [59, 32])) (binV .Add true)) nilA) nilA fun vs qs => useC true ((TT 9).run 9) ((fun vs _ => vs) vs qs)) (lstE true (consA (conE (.str [116, 101, 120, 116])) (consA (binE (binE (conE (.str [53, 32])) (conE (.int 5000)) (mulX true)) (conE (.str [59, 32])) (binV .Add true)) nilA))) (cmpD2 (TT 9) ct .NotEq))) (cmpB (binE (callE 1 0 (consA (conE (.str [59, 32])) nilA) nilA fun vs qs => useC true ((TT 9).run 4) ((fun vs _ => vs) vs qs)) (tupE (consA (tupE nilA) (consA (tupE nilA) nilA))) (cmpD2 (TT 9) ct .NotEq))))
    (seqS (retS (conE (.bl false)))
    nilS)
    nilS) (F11 ns (some (.int k)) (some (.loc r)) (some (runv a b)) (some (.str (textOf a b))) m5 m6 m7 m8 x9 x10) S4 = .nx (F11 ns (some (.int k)) (some (.loc r)) (some (runv a b)) (some (.str (textOf a b))) m5 m6 m7 m8 x9 x10) S4 := by
    have bv := big_v
    generalize repN [53, 32] 5000 = g1 at *
    generalize big = g2 at *
    generalize runv a b = q1 at *
    generalize textOf a b = q2 at *
    unfold F11
    simp only [bv, adb, ob, nb, pe, np, v2, f0, f2, v_re, v_reA, v_reB, v_reS, v_ra, v_raA, v_rb, v_rbB, v_rbS, v_rs, v_rt, v_seq, v_nil, v_ret, v_exp, v_if, v_asg, v_only, v_con, v_var0, v_varS, v_nilA, v_consA, v_bin, v_call, v_blt, v_and, v_or, v_not, v_okT, v_okB, v_okO, v_truBl, v_truInt, v_truB, v_cmpB, v_asB, v_andB, v_orB, v_notB, v_ite, v_noX, v_chain, v_useT, v_useF, v_b_int, v_i_int, v_b_str, v_add, v_sub, v_band, v_bor, v_bxor, v_mul, v_mod, v_fdiv, v_shl, v_shr, v_le, v_lt, v_eqI, v_neI, v_eqB, v_neB, v_setf, v_lst, v_una, v_attr, v_aug, v_name, List.length_cons, List.length_nil, Nat.zero_add, Nat.reduceAdd, Nat.reduceSub, and_self, if_true, if_false, Bool.false_eq_true, Bool.not_true, Bool.not_false, Bool.and_true, Bool.true_and, Bool.and_self, decide_true, decide_false, List.set_cons_zero, List.set_cons_succ, List.cons_append, List.nil_append, List.append_nil, cmpD2, cmpD, cmpV, ordV, runB, List.map_cons, List.map_nil, List.replicate, Nat.sub_self]
  have eF : (asgS (lstE true (consA (conE .non) (consA (conE (.int 5)) (consA (varE 4) (consA (slE true (varE 3) none (some (conE (.int 1)))) (consA (bltE (consA (varE 3) nilA) (listV2 true)) (consA (tupE (consA (binE (varE 3) (conE (.int 0)) ixV2) (consA (bltE (consA (binE (varE 3) (conE (.int 1)) ixV2) nilA) (listV2 true)) nilA))) (consA (tupE (consA (tupE (consA (unaE .USub (conE (.int 1))) nilA)) (consA (tupE nilA) nilA))) (consA (tupE (consA (tupE (consA (conE (.bl true)) nilA)) (consA (tupE nilA) nilA))) nilA))))))))) (nameT 9)) (F11 ns (some (.int k)) (some (.loc r)) (some (runv a b)) (some (.str (textOf a b))) m5 m6 m7 m8 x9 x10) S4 = .nx (F11 ns (some (.int k)) (some (.loc r)) (some (runv a b)) (some (.str (textOf a b))) m5 m6 m7 m8 (some (.lst [.non, .int 5, .str (textOf a b), .tup [rwv a], .lst [rwv a, rwv b], .tup [rwv a, .lst (b.map fun n : Nat => .int (n : Nat))], .tup [.tup [.int (-1)], .tup []], .tup [.tup [.bl true], .tup []]])) x10) S4 := by
    have g1 := fun S => tt1 (a := a) (b := b) (S := S)
    have g2 := fun S => tt2 (a := a) (b := b) (S := S)
    have g3 := fun S => tt3 (b := b) (S := S) rb.sm.l
    have g4 := fun S => tt4 (a := a) (b := b) (S := S)
    have g5 := fun S => tt5 (a := a) (b := b) (S := S)
    have g6 := fun L S => tt6 (L := L) (S := S)
    have f8 : ∀ a b c d e f g h : PV, fits [a, b, c, d, e, f, g, h] = true := fun _ _ _ _ _ _ _ _ => rfl
    have f1 : ∀ a : PV, fits [a] = true := fun _ => rfl
    generalize (PV.lst (b.map fun n : Nat => .int (n : Nat))) = q5 at *
    generalize runv a b = q1 at *
    generalize rwv a = q2 at *
    generalize rwv b = q3 at *
    generalize textOf a b = q4 at *
    unfold F11
    simp only [v_slE, pt_no, pt_so, g1, g2, g3, g4, g5, g6, f8, f1, f2, f0, v2, v_name, v_re, v_reA, v_reB, v_reS, v_ra, v_raA, v_rb, v_rbB, v_rbS, v_rs, v_rt, v_seq, v_nil, v_ret, v_exp, v_if, v_asg, v_only, v_con, v_var0, v_varS, v_nilA, v_consA, v_bin, v_call, v_blt, v_and, v_or, v_not, v_okT, v_okB, v_okO, v_truBl, v_truInt, v_truB, v_cmpB, v_asB, v_andB, v_orB, v_notB, v_ite, v_noX, v_chain, v_useT, v_useF, v_b_int, v_i_int, v_b_str, v_add, v_sub, v_band, v_bor, v_bxor, v_mul, v_mod, v_fdiv, v_shl, v_shr, v_le, v_lt, v_eqI, v_neI, v_eqB, v_neB, v_setf, v_lst, v_una, v_attr, v_aug, v_name, List.length_cons, List.length_nil, Nat.zero_add, Nat.reduceAdd, Nat.reduceSub, and_self, if_true, if_false, Bool.false_eq_true, Bool.not_true, Bool.not_false, Bool.and_true, Bool.true_and, Bool.and_self, decide_true, decide_false, List.set_cons_zero, List.set_cons_succ, List.cons_append, List.nil_append, List.append_nil, cmpD2, cmpD, cmpV, ordV, runB, List.map_cons, List.map_nil, List.replicate, Nat.sub_self]
  have so : (valI (binE (varE 9) (lstE true (consA (tupE (consA (tupE (consA (conE (.int 4294967296)) nilA)) (consA (tupE nilA) nilA))) nilA)) (binV .Add true))) (F11 ns (some (.int k)) (some (.loc r)) (some (runv a b)) (some (.str (textOf a b))) m5 m6 m7 m8 (some (.lst [.non, .int 5, .str (textOf a b), .tup [rwv a], .lst [rwv a, rwv b], .tup [rwv a, .lst (b.map fun n : Nat => .int (n : Nat))], .tup [.tup [.int (-1)], .tup []], .tup [.tup [.bl true], .tup []]])) x10) S4 = .ok (.seq (.lst (oddsR (textOf a b) a b))) S4 := v_valI rfl
  have lo := for_ok (src := (valI (binE (varE 9) (lstE true (consA (tupE (consA (tupE (consA (conE (.int 4294967296)) nilA)) (consA (tupE nilA) nilA))) nilA)) (binV .Add true)))) (tgt := nameT 10) (body := O0) (n := (oddsR (textOf a b) a b).length) (d := .seq (.lst (oddsR (textOf a b) a b))) (S := S4) (S1 := S4)
    (fun _ L' S' => S' = S4 ∧ ∃ k9 k10, L' = F11 ns (some (.int k)) (some (.loc r)) (some (runv a b)) (some (.str (textOf a b))) m5 m6 m7 m8 k9 k10) so (by
    rintro q L S' hq ⟨rfl, k9, k10, rfl⟩
    exact ⟨(oddsR (textOf a b) a b)[q], _, _, _, _, by rw [fetch_lst, List.getElem?_eq_getElem hq], rfl, o0 (oddsR_ok _ (List.getElem_mem hq)), rfl, _, _, rfl⟩) (fun L S _ => by rw [fetch_lst, List.getElem?_eq_none (Nat.le_refl _)]) (by show 9 < 1000000000; decide) ⟨rfl, _, _, rfl⟩
  obtain ⟨L3, S5, eO, rfl, m9, m10, rfl⟩ := lo
  refine ⟨some (.loc r), some (runv a b), some (.str (textOf a b)), m5, m6, m7, m8, m9, m10, S5, ?_⟩
  unfold K0
  rw [v_seq, eA, v_rs, v_seq, eB, v_rs, v_seq, eC, v_rs, v_seq, eD, v_rs, v_seq, eU, v_rs, v_seq, eT, v_rs, v_seq, eE, v_rs, v_seq, eF, v_rs, v_seq, eO, v_rs, v_nil]
end
theorem eval_gen {T : Tab} {ns : List Int} {S : Hs} (hl : ns.length ≤ 63) (e : T.run 12 = runB 11 EL) : ∃ S', T.run 12 [.scr ns] S = .ok (.bl true) S' := by
  obtain ⟨N, hN, es⟩ := cells_src (T := TT 9) (ct := ct) (ns := ns) (r := [none, none, none, none, none, none, none, none, none, none]) (S := S) (c := 5) (by decide) hl
  have loop := for_ok (src := rngI (consA (bltE (consA (conE (.int 1)) (consA (bltE (consA (bltE (consA (varE 0) nilA) (lenD (TT 9) ct)) (consA (conE (.int 5)) nilA)) min2V) nilA)) max2V) nilA)) (tgt := nameT 1) (body := K0) (L := F11 ns none none none none none none none none none none) (n := N) (d := .rng 0 N) (S := S) (S1 := S)
    (fun _ L' S' => ∃ j1 j2 j3 j4 j5 j6 j7 j8 j9 j10, L' = F11 ns j1 j2 j3 j4 j5 j6 j7 j8 j9 j10) es (by
    rintro q L S' hq ⟨j1, j2, j3, j4, j5, j6, j7, j8, j9, j10, rfl⟩
    obtain ⟨m2, m3, m4, m5, m6, m7, m8, m9, m10, S2, e⟩ := k0 (ns := ns) (k := q) (x2 := j2) (x3 := j3) (x4 := j4) (x5 := j5) (x6 := j6) (x7 := j7) (x8 := j8) (x9 := j9) (x10 := j10) (S := S') (by omega)
    refine ⟨.int (0 + (q : Int)), F11 ns (some (.int (0 + (q : Int)))) j2 j3 j4 j5 j6 j7 j8 j9 j10, S', F11 ns (some (.int (q : Int))) m2 m3 m4 m5 m6 m7 m8 m9 m10, S2, by rw [fetch_rng, if_pos hq], rfl, ?_, _, _, _, _, _, _, _, _, _, _, rfl⟩
    rw [Int.zero_add]
    exact e) (fun L S _ => by rw [fetch_rng, if_neg (Nat.lt_irrefl _)]) (by omega) ⟨_, _, _, _, _, _, _, _, _, _, rfl⟩
  obtain ⟨L2, S2, el2, _⟩ := loop
  refine ⟨S2, ?_⟩
  rw [e]
  refine runB_rt ?_
  show EL (F11 ns none none none none none none none none none none) S = _
  unfold EL
  rw [v_seq, el2, v_rs]
  rfl
theorem elq : e12 (TT 9) = EL := rfl
theorem eval_ok (ns : List Int) (hl : ns.length ≤ 63) : ∃ S, (tabOf tbl mems arrs 10).run 12 [.scr ns] [] = .ok (.bl true) S := by
  refine eval_gen hl ?_
  have e : (TT (9 + 1)).run 12 = runB 11 (e12 (TT 9)) := rn12 (n := 9)
  rw [elq] at e
  exact e
--HEAD
/-! ### the head -/
theorem fn_inj (i j : Nat) (e : FNof names i = FNof names j) : i = j := FNof_inj (by decide +kernel) (by decide +kernel) i j e
def sta (P : Program) (w : World) (K : Fr) (mg : Str → Option Value) (base : Heap) : Sta := ⟨P, w, K, mg, base, GofK da ca K, FNof names, fn_inj, fun _ => (0, Str.empty)⟩
theorem facts {P : Program} {w : World} {K : Fr} {h : Heap} {mg : Str → Option Value} {f : Addr} (X : K.In h) (G : h.Ns mainGlobals mg) (hfa : mg ("law" : Str) = some (.ref f)) (s : SaysM exL dsL txL w K) (hP : SupP P fileL) :
    ∃ fd : FuncData, (∀ (s : Shared) (v : Value), BindsTo s fd ⟨[v], []⟩ [("_law_script", v)]) ∧ ∀ base : Heap, K.In base → base.Ns mainGlobals mg → FnOk P w K mg base CXa 60 f fd ["_law_script"] (spLaw K) := by
  have c0 : ∀ base : Heap, C (sta P w K mg base) := fun base => ⟨⟨⟨h, X, G⟩, s.ex, s.ds, s.tx, rfl, rfl⟩, hP⟩
  have e : f = aG "law" K := by
    have := hfa.symm.trans ((c0 h).glo (a := aG "law") 0 rfl)
    injection this with this
    injection this
  subst e
  obtain ⟨fd, F⟩ := (s.ds md12 (List.mem_of_getElem? (i := 12) rfl)).fd rfl
  have ef : fd = fdAt K (aG "law" K) := F.fd
  have b := FunD.bindsA (ps := ["_law_script"]) F.f fun _ _ _ _ _ _ us hl => match us, hl with | [_], _ => rfl
  exact ⟨fd, fun s v => b s [v] rfl, fun base _ _ => law_of (Z := sta P w K mg base) rfl (tabs (c0 base) 10) rfl rfl (by rw [ef]; rfl) eval_ok⟩
end MP.LW
open PySem PySem.W PySem.Calls PyProof.Rows
theorem PySem.Challenge.cw_signskept_k31_runs_as_text_holds : PySem.Challenge.rw_signskept_k31_runs_as_text.Holds := by
  w_on; o_law
  refine HandSHeadRun.head_any (r := OpenLaw.row PySem.Challenge.rw_signskept_k31_runs_as_text) (q := view (OpenLaw.row PySem.Challenge.rw_signskept_k31_runs_as_text).prog [22]) (H := MP.LW.hk) (ob := MP.LW.ob) (M := 20000) (loose := MP.LW.looseL) (d := HandSHeadRun.topDef (OpenLaw.row PySem.Challenge.rw_signskept_k31_runs_as_text).prog 22) (kwd := []) MP.LW.ob_eq
    (by kernel_rfl) (fun s => by kernel_rfl) MP.LW.run (by kernel_rfl) (by kernel_rfl) (by kernel_rfl) (by rfl) (by first | assumption | decide +kernel) (by decide +kernel) ⟨rfl, rfl, rfl, rfl, rfl, by decide +kernel⟩ ?hw ?hc
  case hw => w_witness2
  case hc =>
    refine L2.walk_ofE (l := PySem.Challenge.rw_signskept_k31_runs_as_text) (n := 63) (k := 60) (x := "_law_script") (CX := MP.CXa) rfl (by decide) (by kernel_rfl) ⟨rfl, by decide, by decide⟩ ?F MP.cxa_no
    intro w mg fa h Y G hmg0
    obtain ⟨K, KX, c⟩ := Y
    have hmg : mg ("law" : PySem.Str) = some (.ref fa) := by
      have e : (HandSHeadRun.topDef (OpenLaw.row PySem.Challenge.rw_signskept_k31_runs_as_text).prog 22).name = ("law" : PySem.Str) := by kernel_rfl
      rw [← e]
      exact hmg0
    obtain ⟨fd, hb, hF⟩ := MP.LW.facts (P := (PySem.Challenge.rw_signskept_k31_runs_as_text).prog) (w := w) KX G hmg c ⟨by exact beq_self_eq_true _, by kernel_rfl⟩
    exact ⟨K, fd, MP.spLaw K, KX, hb, fun H a ns hl _ hS => ⟨a, ns, rfl, hl, hS, fun _ => rfl⟩, hF⟩
