import PyProof.Rows.All
import HandS.ForMost
import HandS.ForExc
import HandS.CallSlots
import HandS.SetKeys
import HandS.DictComp
import KE.KDictCopyH
import HandS.TupAny
import HandS.Wide
import HandS.IsInst
import HandS.FStr
import HandS.RaiseMore
import HandS.Flow
import HandS.ExcInit
import HandS.ExcField
import HandS.Zip
import HandS.Style
import HandS.OwnEq
import PyProof.InstNe
import HandS.Text
import HandS.Strs
import HandS.ClsMeth
import KE.DataCmp
import HandS.Defaults
import HandS.MakeKw
import HandS.SuiteRaise
import HandS.RaiseFrom
import HandS.ExcInitHot
import HandS.Finally
import KE.GoesEnum
import KE.GoesMore
import PyProof.Draws
import HandS.DictEq
import KE.KCallOwn
import PyProof.RulesMatch
import HandS.Deep
import KE.KOpsOwn
import PyProof.EqKinds
import PyProof.StrLawsTight
import PyProof.StrLawsChain
import HandS.Small
import HandS.Conv
import HandS.WordsDict
import HandS.SortInts
import HandS.MakeKwOnly
import HandS.Iter
import HandS.Property
import KE.SortData
import HandS.NoneIn
import PyProof.NeKinds
import Pk47e5
import Wide.All
import OpenK.AllK
import Wide.FinOn
set_option Elab.async false
set_option linter.all false
set_option maxRecDepth 100000
set_option maxHeartbeats 2000000
namespace Mi
open PySem PySem.Spec PyProof.Rows L2

/-! values and objects of the mirror -/
inductive IV where
  | non | bl (b : Bool) | int (i : Int) | str (x : Str) | ty (n : String)
  | ref (l : Nat) | tup (xs : List IV) | lst (xs : List IV) | ptp (xs : List IV)
inductive IO where
  | dead | lst (xs : List IV) | ins (c : Str) (fs : List (Str × IV)) | dic (kvs : List (Key × IV)) | xd (fs : List (Str × IV)) | dct (kvs : List (List Key × IV)) | set (ks : List Key) | nod (x : IV) | fdic (kvs : List (Key × IV))
inductive SV where
  | v (x : IV) | own (xs : List IV) | exn (l : Nat)
abbrev Sto := List IO
abbrev Slots := List (Option SV)

structure Gd where
  K : PySem.W.Frag
  mg : Str → Option Value
  P : Program
  w : World
abbrev gd (X : Cx) : Gd := ⟨X.K, X.mg, X.prog, X.w⟩
def kI : Key → IV
  | .inl i => .int i
  | .inr x => .str x
/-- a dict whose keys are tuples of ints and texts, by its own object alone -/
def DHo (P : Program) (w : World) (a : Addr) (xs : List (List Key × Addr × Value)) : HO := .ext fun h => ∃ o es ep, h.get? a = some o ∧ o.ExactDict ∧ o.data = .dict es ep ∧ es.toList = xs.map (entryOfKey (tupleKind (mixKind P w))) ∧ (xs.map (·.1)).Nodup

/-- a dict with the one key None -/
def NHo (P : Program) (w : World) (a : Addr) (u : Value) : HO := .ext fun h => h.DictOf (leafKind P w) a [(Leaf.none, u)]
@[simp] def IO.frz : IO → Bool
  | .dead => true
  | .fdic _ => true
  | _ => false
/-- may be changed -/
@[simp] def ND (o : IO) : Prop := o.frz = true → False
def Lv (m : List Addr) (st : Sto) (a : Addr) : Prop := ∃ (l : Nat) (o : IO), m[l]? = some a ∧ st[l]? = some o ∧ ND o
/-- an inline thing may stand here -/
def Fz (m bs : List Addr) (st : Sto) (a : Addr) : Prop := ¬ Lv m st a ∧ a ∉ bs
def H0 : Hp := fun _ => none
def TupAt (G : Gd) (m bs : List Addr) (st : Sto) (H : Hp) (a : Addr) (vs : List V) : Prop := (Rd H a (.tup vs) ∧ Fz m bs st a) ∨ SqT G.K H0 a vs
def LstAt (G : Gd) (m bs : List Addr) (st : Sto) (H : Hp) (a : Addr) (vs : List V) : Prop := (Rd H a (.lst vs) ∧ Fz m bs st a) ∨ SqL G.K H0 a vs

/-- a tuple whose record has no dict: methods may be called -/
def PtAt (m bs : List Addr) (st : Sto) (H : Hp) (a : Addr) (vs : List V) : Prop := ∃ o, H a = some (.frz o (.tup vs)) ∧ o.dict = none ∧ Fz m bs st a
mutual
def RV (G : Gd) (m bs : List Addr) (st : Sto) (H : Hp) : IV → V → Prop
  | .non, v => v = .non
  | .bl b, v => v = .bl b
  | .int i, v => v = .int i
  | .str x, v => v = .str x
  | .ty n, v => v = .ty n
  | .ref l, v => ∃ a, v = .ref a ∧ m[l]? = some a
  | .tup xs, v => ∃ a vs, v = .ref a ∧ TupAt G m bs st H a vs ∧ RVs G m bs st H xs vs
  | .lst xs, v => ∃ a vs, v = .ref a ∧ LstAt G m bs st H a vs ∧ RVs G m bs st H xs vs
  | .ptp xs, v => ∃ a vs, v = .ref a ∧ PtAt m bs st H a vs ∧ RVs G m bs st H xs vs
def RVs (G : Gd) (m bs : List Addr) (st : Sto) (H : Hp) : List IV → List V → Prop
  | [], vs => vs = []
  | x :: xs, vs => ∃ v r, vs = v :: r ∧ RV G m bs st H x v ∧ RVs G m bs st H xs r
end

theorem h0_rd {a : Addr} {u : HO} : ¬ Rd H0 a u := fun h => by
  rcases h with h | ⟨o, h⟩ <;> cases h
theorem sqt0 {K : PySem.W.Frag} {H : Hp} {a : Addr} {vs : List V} (h : SqT K H0 a vs) : SqT K H a vs := by
  rcases h with h | h
  · exact (h0_rd h).elim
  · exact .inr h
theorem sql0 {K : PySem.W.Frag} {H : Hp} {a : Addr} {vs : List V} (h : SqL K H0 a vs) : SqL K H a vs := by
  rcases h with h | h
  · exact (h0_rd h).elim
  · exact .inr h
theorem sqt_split {K : PySem.W.Frag} {H : Hp} {a : Addr} {vs : List V} (h : SqT K H a vs) : Rd H a (.tup vs) ∨ SqT K H0 a vs := by
  rcases h with h | h
  · exact .inl h
  · exact .inr (.inr h)
theorem sql_split {K : PySem.W.Frag} {H : Hp} {a : Addr} {vs : List V} (h : SqL K H a vs) : Rd H a (.lst vs) ∨ SqL K H0 a vs := by
  rcases h with h | h
  · exact .inl h
  · exact .inr (.inr h)
theorem TupAt.sq {G : Gd} {m bs : List Addr} {st : Sto} {H : Hp} {a : Addr} {vs : List V} (h : TupAt G m bs st H a vs) : SqT G.K H a vs := by
  rcases h with ⟨h, _⟩ | h
  · exact .inl h
  · exact sqt0 h
theorem LstAt.sq {G : Gd} {m bs : List Addr} {st : Sto} {H : Hp} {a : Addr} {vs : List V} (h : LstAt G m bs st H a vs) : SqL G.K H a vs := by
  rcases h with ⟨h, _⟩ | h
  · exact .inl h
  · exact sql0 h

/-- no dict of an exception -/
def NX (o : HO) : Prop := ∀ fs, o ≠ .xd fs
theorem nxl {xs : List V} : NX (.lst xs) := fun _ h => by cases h
theorem nxt {xs : List V} : NX (.tup xs) := fun _ h => by cases h
theorem nxf {o : Obj} {u : HO} : NX (.frz o u) := fun _ h => by cases h
/-- what is kept: all that is neither live nor in os -/
structure Grow (m : List Addr) (st : Sto) (os : List Addr) (H : Hp) (m' : List Addr) (st' : Sto) (os' : List Addr) (H' : Hp) : Prop where
  pre : m <+: m'
  keep : ∀ a o, H a = some o → ¬ Lv m st a → a ∉ os → NX o → H' a = some o ∧ ¬ Lv m' st' a ∧ a ∉ os'
  stay : ∀ a, H' a = none → H a = none
theorem Grow.refl {m st os H} : Grow m st os H m st os H := ⟨List.prefix_refl _, fun _ _ h n q _ => ⟨h, n, q⟩, fun _ h => h⟩
theorem Grow.trans {m st os H m1 st1 os1 H1 m2 st2 os2 H2} (a : Grow m st os H m1 st1 os1 H1) (b : Grow m1 st1 os1 H1 m2 st2 os2 H2) : Grow m st os H m2 st2 os2 H2 :=
  ⟨a.pre.trans b.pre, fun x o h n q nx => let ⟨h1, n1, q1⟩ := a.keep x o h n q nx; b.keep x o h1 n1 q1 nx, fun x h => a.stay x (b.stay x h)⟩
/-- of expressions: nothing but what is live changes -/
abbrev GrowE (m : List Addr) (st : Sto) (H : Hp) (m' : List Addr) (st' : Sto) (H' : Hp) : Prop := Grow m st [] H m' st' [] H'
theorem Grow.ofE {m st H m' st' H'} {os : List Addr} (g : GrowE m st H m' st' H') : Grow m st os H m' st' os H' :=
  ⟨g.pre, fun a o h n q nx => let ⟨h1, n1, _⟩ := g.keep a o h n (by simp) nx; ⟨h1, n1, q⟩, g.stay⟩
theorem Grow.at {m st os H m' st' os' H'} (g : Grow m st os H m' st' os' H') {l : Nat} {a : Addr} (h : m[l]? = some a) : m'[l]? = some a := by
  obtain ⟨t, e⟩ := g.pre
  rw [← e]
  have hl : l < m.length := (List.getElem?_eq_some_iff.mp h).1
  rw [List.getElem?_append_left hl]; exact h

section
variable {G : Gd} {m m' bs os os' rs : List Addr} {st st' : Sto} {H H' : Hp}
theorem rd_grow {a : Addr} {u : HO} (nx : NX u) (g : Grow m st os H m' st' os' H') (n : ¬ Lv m st a) (q : a ∉ os) (h : Rd H a u) : Rd H' a u ∧ ¬ Lv m' st' a ∧ a ∉ os' := by
  rcases h with h | ⟨o, h⟩
  · obtain ⟨h1, n1, q1⟩ := g.keep a _ h n q nx; exact ⟨.inl h1, n1, q1⟩
  · obtain ⟨h1, n1, q1⟩ := g.keep a _ h n q nxf; exact ⟨.inr ⟨o, h1⟩, n1, q1⟩
theorem tupAt_mono {a : Addr} {vs : List V} (g : Grow m st os H m' st' os' H') (h : TupAt G m (os ++ rs) st H a vs) : TupAt G m' (os' ++ rs) st' H' a vs := by
  rcases h with ⟨h, n, q⟩ | h
  · obtain ⟨h1, n1, q1⟩ := rd_grow nxt g n (fun z => q (List.mem_append_left _ z)) h
    refine .inl ⟨h1, n1, fun z => ?_⟩
    rcases List.mem_append.mp z with z | z
    · exact q1 z
    · exact q (List.mem_append_right _ z)
  · exact .inr h
theorem lstAt_mono {a : Addr} {vs : List V} (g : Grow m st os H m' st' os' H') (h : LstAt G m (os ++ rs) st H a vs) : LstAt G m' (os' ++ rs) st' H' a vs := by
  rcases h with ⟨h, n, q⟩ | h
  · obtain ⟨h1, n1, q1⟩ := rd_grow nxl g n (fun z => q (List.mem_append_left _ z)) h
    refine .inl ⟨h1, n1, fun z => ?_⟩
    rcases List.mem_append.mp z with z | z
    · exact q1 z
    · exact q (List.mem_append_right _ z)
  · exact .inr h
/-- relations that differ in what may be said of addresses alone -/
structure Fits0 (G : Gd) (m bs : List Addr) (st : Sto) (H : Hp) (m' bs' : List Addr) (st' : Sto) (H' : Hp) : Prop where
  at_ : ∀ (l : Nat) a, m[l]? = some a → m'[l]? = some a
  tup : ∀ a vs, TupAt G m bs st H a vs → TupAt G m' bs' st' H' a vs
  lst : ∀ a vs, LstAt G m bs st H a vs → LstAt G m' bs' st' H' a vs
  ptp : ∀ a vs, PtAt m bs st H a vs → PtAt m' bs' st' H' a vs
structure Fits (G : Gd) (m bs : List Addr) (st : Sto) (H : Hp) (m' bs' : List Addr) (st' : Sto) (H' : Hp) : Prop where
  at_ : ∀ (l : Nat) a, m[l]? = some a → m'[l]? = some a
  tup : ∀ a vs, TupAt G m bs st H a vs → TupAt G m' bs' st' H' a vs
  lst : ∀ a vs, LstAt G m bs st H a vs → LstAt G m' bs' st' H' a vs
  frz : ∀ a (o : Obj) (u : HO), H a = some (.frz o u) ∧ Fz m bs st a → H' a = some (.frz o u) ∧ Fz m' bs' st' a
theorem Fits.ptp {bs' : List Addr} (f : Fits G m bs st H m' bs' st' H') (a : Addr) (vs : List V) (h : PtAt m bs st H a vs) : PtAt m' bs' st' H' a vs := by
  obtain ⟨o, h, d, n⟩ := h
  obtain ⟨h, n⟩ := f.frz a o _ ⟨h, n⟩
  exact ⟨o, h, d, n⟩
theorem Fits.z {bs' : List Addr} (f : Fits G m bs st H m' bs' st' H') : Fits0 G m bs st H m' bs' st' H' := ⟨f.at_, f.tup, f.lst, f.ptp⟩
mutual
theorem RV.fits0 {bs' : List Addr} (f : Fits0 G m bs st H m' bs' st' H') : ∀ (x : IV) (v : V), RV G m bs st H x v → RV G m' bs' st' H' x v
  | .non, v, h => by simp only [RV] at h ⊢; exact h
  | .bl b, v, h => by simp only [RV] at h ⊢; exact h
  | .int i, v, h => by simp only [RV] at h ⊢; exact h
  | .str x, v, h => by simp only [RV] at h ⊢; exact h
  | .ty n, v, h => by simp only [RV] at h ⊢; exact h
  | .ref l, v, h => by
    simp only [RV] at h ⊢
    obtain ⟨a, e, h⟩ := h
    exact ⟨a, e, f.at_ l a h⟩
  | .tup xs, v, h => by
    simp only [RV] at h ⊢
    obtain ⟨a, vs, e, h, r⟩ := h
    exact ⟨a, vs, e, f.tup a vs h, RVs.fits0 f xs vs r⟩
  | .lst xs, v, h => by
    simp only [RV] at h ⊢
    obtain ⟨a, vs, e, h, r⟩ := h
    exact ⟨a, vs, e, f.lst a vs h, RVs.fits0 f xs vs r⟩
  | .ptp xs, v, h => by
    simp only [RV] at h ⊢
    obtain ⟨a, vs, e, h, r⟩ := h
    exact ⟨a, vs, e, f.ptp a vs h, RVs.fits0 f xs vs r⟩
theorem RVs.fits0 {bs' : List Addr} (f : Fits0 G m bs st H m' bs' st' H') : ∀ (xs : List IV) (vs : List V), RVs G m bs st H xs vs → RVs G m' bs' st' H' xs vs
  | [], vs, h => by simp only [RVs] at h ⊢; exact h
  | x :: xs, vs, h => by
    simp only [RVs] at h ⊢
    obtain ⟨v, r, e, h1, h2⟩ := h
    exact ⟨v, r, e, RV.fits0 f x v h1, RVs.fits0 f xs r h2⟩
end
theorem RV.fits {bs' : List Addr} (f : Fits G m bs st H m' bs' st' H') (x : IV) (v : V) (h : RV G m bs st H x v) : RV G m' bs' st' H' x v := RV.fits0 f.z x v h
theorem RVs.fits {bs' : List Addr} (f : Fits G m bs st H m' bs' st' H') (x : List IV) (v : List V) (h : RVs G m bs st H x v) : RVs G m' bs' st' H' x v := RVs.fits0 f.z x v h
theorem frzAt_mono {a : Addr} {o : Obj} {u : HO} (g : Grow m st os H m' st' os' H') (h : H a = some (.frz o u) ∧ Fz m (os ++ rs) st a) : H' a = some (.frz o u) ∧ Fz m' (os' ++ rs) st' a := by
  obtain ⟨h, n, q⟩ := h
  obtain ⟨h1, n1, q1⟩ := g.keep a _ h n (fun z => q (List.mem_append_left _ z)) nxf
  refine ⟨h1, n1, fun z => ?_⟩
  rcases List.mem_append.mp z with z | z
  · exact q1 z
  · exact q (List.mem_append_right _ z)
theorem Grow.fits (g : Grow m st os H m' st' os' H') : Fits G m (os ++ rs) st H m' (os' ++ rs) st' H' :=
  ⟨fun l a h => g.at h, fun a vs => tupAt_mono g, fun a vs => lstAt_mono g, fun a o u => frzAt_mono g⟩
theorem Grow.fitsE (g : GrowE m st H m' st' H') : Fits G m bs st H m' bs st' H' := Grow.fits (os := []) (os' := []) (rs := bs) g

/-! objects -/
def RFs (G : Gd) (m bs : List Addr) (st : Sto) (H : Hp) : List (Str × IV) → List (Str × V) → Prop
  | [], gs => gs = []
  | (f, x) :: r, gs => ∃ v t, gs = (f, v) :: t ∧ RV G m bs st H x v ∧ RFs G m bs st H r t
def RKs (G : Gd) (m bs : List Addr) (st : Sto) (H : Hp) : List (Key × IV) → List (Key × V) → Prop
  | [], gs => gs = []
  | (f, x) :: r, gs => ∃ v t, gs = (f, v) :: t ∧ RV G m bs st H x v ∧ RKs G m bs st H r t
def RDs (G : Gd) (m bs : List Addr) (st : Sto) (H : Hp) : List (List Key × IV) → List (List Key × Addr × Value) → Prop
  | [], gs => gs = []
  | (k, x) :: r, gs => ∃ b u v t, gs = (k, b, u) :: t ∧ RV G m bs st H (.tup (k.map kI)) (.ref b) ∧ RelV v u ∧ RV G m bs st H x v ∧ RDs G m bs st H r t
def OR (G : Gd) (m bs : List Addr) (st : Sto) (H : Hp) : IO → Addr → Prop
  | .dead, a => ∃ u, H a = some u
  | .lst xs, a => ∃ vs, H a = some (.lst vs) ∧ RVs G m bs st H xs vs
  | .ins c fs, a => ∃ C dx gs, G.mg c = some (.ref C) ∧ H a = some (.ins C dx gs) ∧ RFs G m bs st H fs gs
  | .dic kvs, a => ∃ ws, H a = some (.dK ws) ∧ RKs G m bs st H kvs ws
  | .xd fs, a => ∃ gs, H a = some (.xd gs) ∧ RFs G m bs st H fs gs
  | .dct kvs, a => (a == sysModules) = false ∧ kvs.length ≤ 100000 ∧ ∃ xs, H a = some (DHo G.P G.w a xs) ∧ RDs G m bs st H kvs xs
  | .set ks, a => ∃ S n, H a = some (SetK G.P G.w a S n) ∧ n ≤ ks.length ∧ ∀ k, S k = true ↔ k ∈ ks
  | .nod x, a => (a == sysModules) = false ∧ ∃ u v, H a = some (NHo G.P G.w a u) ∧ RelV v u ∧ RV G m bs st H x v
  | .fdic kvs, a => ∃ od ws, H a = some (.frz od (.dK ws)) ∧ RKs G m bs st H kvs ws
theorem RFs.fits0 {bs' : List Addr} (f : Fits0 G m bs st H m' bs' st' H') : ∀ (fs : List (Str × IV)) (gs : List (Str × V)), RFs G m bs st H fs gs → RFs G m' bs' st' H' fs gs
  | [], gs, h => h
  | (n, x) :: r, gs, h => by
    obtain ⟨v, t, e, h1, h2⟩ := h
    exact ⟨v, t, e, RV.fits0 f x v h1, RFs.fits0 f r t h2⟩
theorem RFs.fits {bs' : List Addr} (f : Fits G m bs st H m' bs' st' H') : ∀ (fs : List (Str × IV)) (gs : List (Str × V)), RFs G m bs st H fs gs → RFs G m' bs' st' H' fs gs
  | fs, gs, h => RFs.fits0 f.z fs gs h

theorem RKs.fits0 {bs' : List Addr} (f : Fits0 G m bs st H m' bs' st' H') : ∀ (fs : List (Key × IV)) (gs : List (Key × V)), RKs G m bs st H fs gs → RKs G m' bs' st' H' fs gs
  | [], gs, h => h
  | (n, x) :: r, gs, h => by
    obtain ⟨v, t, e, h1, h2⟩ := h
    exact ⟨v, t, e, RV.fits0 f x v h1, RKs.fits0 f r t h2⟩
theorem RKs.fits {bs' : List Addr} (f : Fits G m bs st H m' bs' st' H') : ∀ (fs : List (Key × IV)) (gs : List (Key × V)), RKs G m bs st H fs gs → RKs G m' bs' st' H' fs gs
  | fs, gs, h => RKs.fits0 f.z fs gs h

theorem RDs.fits0 {bs' : List Addr} (f : Fits0 G m bs st H m' bs' st' H') : ∀ (fs : List (List Key × IV)) (gs : List (List Key × Addr × Value)), RDs G m bs st H fs gs → RDs G m' bs' st' H' fs gs
  | [], gs, h => h
  | (n, x) :: r, gs, h => by
    obtain ⟨b, u, v, t, e, h0, h1, h2, h3⟩ := h
    exact ⟨b, u, v, t, e, RV.fits0 f _ _ h0, h1, RV.fits0 f x v h2, RDs.fits0 f r t h3⟩
theorem RDs.fits {bs' : List Addr} (f : Fits G m bs st H m' bs' st' H') : ∀ (fs : List (List Key × IV)) (gs : List (List Key × Addr × Value)), RDs G m bs st H fs gs → RDs G m' bs' st' H' fs gs
  | fs, gs, h => RDs.fits0 f.z fs gs h

structure Rel (G : Gd) (m bs : List Addr) (st : Sto) (H : Hp) : Prop where
  len : m.length = st.length
  nd : ∀ (i j : Nat) a, m[i]? = some a → m[j]? = some a → i = j
  obj : ∀ (l : Nat) o a, st[l]? = some o → m[l]? = some a → OR G m bs st H o a
  bsd : ∀ a ∈ bs, a ∉ m ∧ ∃ o, H a = some o
theorem OR.has {o : IO} {a : Addr} (h : OR G m bs st H o a) : ∃ u, H a = some u := by
  cases o with
  | dead => exact h
  | lst xs => obtain ⟨vs, e, _⟩ := h; exact ⟨_, e⟩
  | ins c fs => obtain ⟨C, dx, gs, _, e, _⟩ := h; exact ⟨_, e⟩
  | dic kvs => obtain ⟨ws, e, _⟩ := h; exact ⟨_, e⟩
  | xd fs => obtain ⟨ws, e, _⟩ := h; exact ⟨_, e⟩
  | dct fs => obtain ⟨_, _, ws, e, _⟩ := h; exact ⟨_, e⟩
  | set fs => obtain ⟨S, n, e, _⟩ := h; exact ⟨_, e⟩
  | nod x => obtain ⟨_, u, v, e, _⟩ := h; exact ⟨_, e⟩
  | fdic kvs => obtain ⟨_, ws, e, _⟩ := h; exact ⟨_, e⟩
theorem Rel.has (R : Rel G m bs st H) {l : Nat} {a : Addr} (h : m[l]? = some a) : ∃ u, H a = some u := by
  have hl : l < st.length := by rw [← R.len]; exact (List.getElem?_eq_some_iff.mp h).1
  exact (R.obj l _ a (List.getElem?_eq_getElem hl) h).has
theorem Rel.fresh (R : Rel G m bs st H) {p : Addr} (h : H p = none) : p ∉ m ∧ p ∉ bs := by
  refine ⟨fun z => ?_, fun z => ?_⟩
  · obtain ⟨l, hl, e⟩ := List.mem_iff_getElem.mp z
    obtain ⟨u, q⟩ := R.has (l := l) (a := p) (by rw [List.getElem?_eq_getElem hl, e])
    rw [h] at q; cases q
  · obtain ⟨_, o, q⟩ := R.bsd p z
    rw [h] at q; cases q
theorem Lv.mem {a : Addr} (h : Lv m st a) : a ∈ m := by
  obtain ⟨l, o, h1, _⟩ := h
  exact List.mem_of_getElem? h1
theorem Rel.fz (R : Rel G m bs st H) {p : Addr} (h : H p = none) : Fz m bs st p := ⟨fun z => (R.fresh h).1 z.mem, (R.fresh h).2⟩
/-- objects but for the changed ones -/
theorem OR.fits0 {bs' : List Addr} (f : Fits0 G m bs st H m' bs' st' H') {o : IO} {a : Addr} (k : ∀ u, H a = some u → H' a = some u) (h : OR G m bs st H o a) : OR G m' bs' st' H' o a := by
  cases o with
  | dead => obtain ⟨u, e⟩ := h; exact ⟨u, k u e⟩
  | lst xs => obtain ⟨vs, e, r⟩ := h; exact ⟨vs, k _ e, RVs.fits0 f _ _ r⟩
  | ins c fs => obtain ⟨C, dx, gs, q, e, r⟩ := h; exact ⟨C, dx, gs, q, k _ e, RFs.fits0 f _ _ r⟩
  | dic kvs => obtain ⟨ws, e, r⟩ := h; exact ⟨ws, k _ e, RKs.fits0 f _ _ r⟩
  | xd fs => obtain ⟨ws, e, r⟩ := h; exact ⟨ws, k _ e, RFs.fits0 f _ _ r⟩
  | dct fs => obtain ⟨z1, z2, ws, e, r⟩ := h; exact ⟨z1, z2, ws, k _ e, RDs.fits0 f _ _ r⟩
  | set fs => obtain ⟨S, n, e, r⟩ := h; exact ⟨S, n, k _ e, r⟩
  | nod x => obtain ⟨z, u, v, e, r1, r2⟩ := h; exact ⟨z, u, v, k _ e, r1, RV.fits0 f _ _ r2⟩
  | fdic kvs => obtain ⟨od, ws, e, r⟩ := h; exact ⟨od, ws, k _ e, RKs.fits0 f _ _ r⟩
theorem OR.fits {bs' : List Addr} (f : Fits G m bs st H m' bs' st' H') {o : IO} {a : Addr} (k : ∀ u, H a = some u → H' a = some u) (h : OR G m bs st H o a) : OR G m' bs' st' H' o a := OR.fits0 f.z k h

/-! a new thing is laid -/
theorem upd_stay {p a : Addr} {u : HO} (e : upd H p u a = none) : H a = none := by
  by_cases h : a = p
  · rw [h, upd_same] at e; cases e
  · rw [upd_ne h] at e; exact e
theorem grow_new {p : Addr} {u : HO} (h : H p = none) : GrowE m st H m st (upd H p u) :=
  ⟨List.prefix_refl _, fun a o e n q _ => ⟨by rw [upd_ne (ne_of_none e h)]; exact e, n, q⟩, fun a e => upd_stay e⟩
theorem Rel.new (R : Rel G m bs st H) {p : Addr} {u : HO} (h : H p = none) : Rel G m bs st (upd H p u) := by
  have g : GrowE m st H m st (upd H p u) := grow_new h
  refine ⟨R.len, R.nd, fun l o a e1 e2 => (R.obj l o a e1 e2).fits g.fitsE fun w e => ?_, fun a z => ⟨(R.bsd a z).1, ?_⟩⟩
  · rw [upd_ne (ne_of_none e h)]; exact e
  · obtain ⟨o, e⟩ := (R.bsd a z).2
    exact ⟨o, by rw [upd_ne (ne_of_none e h)]; exact e⟩
theorem tupAt_new (R : Rel G m bs st H) {p : Addr} {vs : List V} (h : H p = none) : TupAt G m bs st (upd H p (.tup vs)) p vs := .inl ⟨.inl upd_same, R.fz h⟩
theorem lstAt_new (R : Rel G m bs st H) {p : Addr} {vs : List V} (h : H p = none) : LstAt G m bs st (upd H p (.lst vs)) p vs := .inl ⟨.inl upd_same, R.fz h⟩
theorem getElem?_snoc {α : Type} {l : List α} {x : α} {i : Nat} {y : α} (h : (l ++ [x])[i]? = some y) : l[i]? = some y ∨ (i = l.length ∧ y = x) := by
  by_cases hi : i < l.length
  · rw [List.getElem?_append_left hi] at h; exact .inl h
  · rw [List.getElem?_append_right (by omega)] at h
    have : i - l.length = 0 := by
      cases q : i - l.length with
      | zero => rfl
      | succ n => rw [q] at h; simp at h
    rw [this] at h
    have e : x = y := by simpa using h
    exact .inr ⟨by omega, e.symm⟩
theorem lv_snoc (hl : m.length = st.length) {p a : Addr} {o : IO} (h : Lv (m ++ [p]) (st ++ [o]) a) : Lv m st a ∨ a = p := by
  obtain ⟨l, u, h1, h2, h3⟩ := h
  rcases getElem?_snoc h1 with h1 | ⟨_, e⟩
  · have hlt : l < st.length := by rw [← hl]; exact (List.getElem?_eq_some_iff.mp h1).1
    rw [List.getElem?_append_left hlt] at h2
    exact .inl ⟨l, u, h1, h2, h3⟩
  · exact .inr e
/-- a new live object -/
theorem grow_live (R : Rel G m bs st H) {p : Addr} {u : HO} {o : IO} (h : H p = none) : GrowE m st H (m ++ [p]) (st ++ [o]) (upd H p u) :=
  ⟨List.prefix_append _ _, fun a w e n q _ => ⟨by rw [upd_ne (ne_of_none e h)]; exact e, fun z => (lv_snoc R.len z).elim n (fun z => by rw [z, h] at e; cases e), q⟩, fun a e => upd_stay e⟩
theorem Rel.live (R : Rel G m bs st H) {p : Addr} {u : HO} {o : IO} (h : H p = none) (ho : OR G (m ++ [p]) bs (st ++ [o]) (upd H p u) o p) : Rel G (m ++ [p]) bs (st ++ [o]) (upd H p u) := by
  have g : GrowE m st H (m ++ [p]) (st ++ [o]) (upd H p u) := grow_live R h
  have hp := R.fresh h
  refine ⟨by simp [R.len], fun i j a e1 e2 => ?_, fun l w a e1 e2 => ?_, fun a z => ⟨fun y => ?_, ?_⟩⟩
  · rcases getElem?_snoc e1 with e1 | ⟨i1, e1⟩
    · rcases getElem?_snoc e2 with e2 | ⟨i2, e2⟩
      · exact R.nd i j a e1 e2
      · exact absurd (List.mem_of_getElem? e1) (by rw [e2]; exact hp.1)
    · rcases getElem?_snoc e2 with e2 | ⟨i2, e2⟩
      · exact absurd (List.mem_of_getElem? e2) (by rw [e1]; exact hp.1)
      · omega
  · rcases getElem?_snoc e2 with e2 | ⟨i2, e2⟩
    · have hlt : l < st.length := by rw [← R.len]; exact (List.getElem?_eq_some_iff.mp e2).1
      rw [List.getElem?_append_left hlt] at e1
      refine (R.obj l w a e1 e2).fits g.fitsE fun w e => ?_
      rw [upd_ne (ne_of_none e h)]; exact e
    · subst e2
      rw [R.len] at i2; subst i2
      rw [List.getElem?_append_right (Nat.le_refl _)] at e1
      have e : o = w := by simpa using e1
      rw [← e]; exact ho
  · rcases List.mem_append.mp y with y | y
    · exact (R.bsd a z).1 y
    · have : a = p := by simpa using y
      exact hp.2 (this ▸ z)
  · obtain ⟨o, e⟩ := (R.bsd a z).2
    exact ⟨o, by rw [upd_ne (ne_of_none e h)]; exact e⟩
/-- a live object changed -/
theorem lv_set {l : Nat} {o : IO} {a : Addr} (hl : ∃ u, st[l]? = some u ∧ ND u) : Lv m (st.set l o) a → Lv m st a := fun ⟨i, u, h1, h2, h3⟩ => by
  by_cases e : l = i
  · subst e
    obtain ⟨w, e1, e2⟩ := hl
    exact ⟨l, w, h1, e1, e2⟩
  · rw [List.getElem?_set_ne e] at h2
    exact ⟨i, u, h1, h2, h3⟩
theorem grow_set {l : Nat} {p : Addr} {u : HO} {o o' : IO} (hm : m[l]? = some p) (hs : st[l]? = some o) (hd : ND o) : GrowE m st H m (st.set l o') (upd H p u) :=
  ⟨List.prefix_refl _, fun a w e n q _ => by
    have ne : a ≠ p := fun z => n ⟨l, o, by rw [z]; exact hm, hs, hd⟩
    exact ⟨by rw [upd_ne ne]; exact e, fun z => n (lv_set ⟨o, hs, hd⟩ z), q⟩, fun a e => upd_stay e⟩
theorem Rel.set (R : Rel G m bs st H) {l : Nat} {p : Addr} {u : HO} {o o' : IO} (hm : m[l]? = some p) (hs : st[l]? = some o) (hd : ND o) (ho : OR G m bs (st.set l o') (upd H p u) o' p) : Rel G m bs (st.set l o') (upd H p u) := by
  have g : GrowE m st H m (st.set l o') (upd H p u) := grow_set hm hs hd
  refine ⟨by simp [R.len], R.nd, fun i w a e1 e2 => ?_, fun a z => ⟨(R.bsd a z).1, ?_⟩⟩
  · by_cases e : l = i
    · subst e
      have ea : p = a := Option.some.inj (hm.symm.trans e2)
      subst ea
      rw [List.getElem?_set_self (List.getElem?_eq_some_iff.mp hs).1] at e1
      have ew : o' = w := by simpa using e1
      rw [← ew]; exact ho
    · rw [List.getElem?_set_ne e] at e1
      have ne : a ≠ p := fun z => e (R.nd _ _ _ hm (by rw [← z]; exact e2))
      refine (R.obj i w a e1 e2).fits g.fitsE fun w e => ?_
      rw [upd_ne ne]; exact e
  · obtain ⟨o, e⟩ := (R.bsd a z).2
    by_cases e' : a = p
    · exact ⟨u, by rw [e']; exact upd_same⟩
    · exact ⟨o, by rw [upd_ne e']; exact e⟩
/-- a live object dies: it may be read for ever -/
theorem lv_kill {l : Nat} {a : Addr} : Lv m (st.set l .dead) a → Lv m st a := fun ⟨i, u, h1, h2, h3⟩ => by
  by_cases e : l = i
  · subst e
    by_cases hl : l < st.length
    · rw [List.getElem?_set_self hl] at h2
      rw [← Option.some.inj h2] at h3; exact absurd rfl h3
    · rw [List.getElem?_eq_none (by simpa using hl)] at h2; cases h2
  · rw [List.getElem?_set_ne e] at h2
    exact ⟨i, u, h1, h2, h3⟩
theorem grow_kill {l : Nat} : GrowE m st H m (st.set l .dead) H := ⟨List.prefix_refl _, fun a w e n q _ => ⟨e, fun z => n (lv_kill z), q⟩, fun _ h => h⟩
theorem Rel.kill (R : Rel G m bs st H) {l : Nat} : Rel G m bs (st.set l .dead) H := by
  have g : GrowE m st H m (st.set l .dead) H := grow_kill
  refine ⟨by simp [R.len], R.nd, fun i w a e1 e2 => ?_, R.bsd⟩
  by_cases e : l = i
  · subst e
    by_cases hl : l < st.length
    · rw [List.getElem?_set_self hl] at e1
      have ew : IO.dead = w := by simpa using e1
      rw [← ew]; exact R.has e2
    · rw [List.getElem?_eq_none (by simpa using hl)] at e1; cases e1
  · rw [List.getElem?_set_ne e] at e1
    exact (R.obj i w a e1 e2).fits g.fitsE fun w e => e
end
end Mi
set_option Elab.async false
set_option linter.all false
set_option maxRecDepth 100000
set_option maxHeartbeats 2000000
namespace Mi
open PySem PySem.Spec PyProof.Rows L2

inductive R (α : Type) where
  | ok (a : α) (st : Sto) | exc (c : Str) (fs : List (Str × IV)) (st : Sto) | bad
def R.bind {α β : Type} : R α → (α → Sto → R β) → R β
  | .ok a st, k => k a st
  | .exc c fs st, _ => .exc c fs st
  | .bad, _ => .bad
inductive RS where
  | nx (ρ : Slots) (st : Sto) | rt (v : IV) (st : Sto) | bk (ρ : Slots) (st : Sto) | ct (ρ : Slots) (st : Sto) | exc (c : Str) (fs : List (Str × IV)) (ρ : Slots) (st : Sto) | bad
abbrev IE := Slots → Sto → R IV
abbrev IT := Slots → Sto → R Bool
abbrev IA := Slots → Sto → R (List IV)
abbrev IS := Slots → Sto → RS
abbrev Xa := Option (Addr × Addr)

/-- an exception with its fields -/
def XR (G : Gd) (m bs : List Addr) (st : Sto) (H : Hp) (c : Str) (fs : List (Str × IV)) (cls : Value) (d : Option Addr) : Prop :=
  ∃ C, G.mg c = some (.ref C) ∧ cls = .ref C ∧ (fs = [] ∨ ∃ dd gs, d = some dd ∧ H dd = some (.xd gs) ∧ dd ∉ m ∧ dd ∉ bs ∧ RFs G m bs st H fs gs)

def RE1 (G : Gd) (m bs : List Addr) (st : Sto) (H : Hp) (xa : Xa) : SV → V → Prop
  | .v x, v => RV G m bs st H x v
  | .own xs, v => ∃ a vs, v = .ref a ∧ H a = some (.lst vs) ∧ RVs G m bs st H xs vs ∧ a ∈ bs
  | .exn l, v => ∃ a d, xa = some (a, d) ∧ v = .ref a ∧ m[l]? = some d
structure RE (G : Gd) (m os rs : List Addr) (st : Sto) (H : Hp) (xa : Xa) (ρ : Slots) (σ : L2.St) : Prop where
  len : ρ.length = σ.length
  at_ : ∀ (i : Nat) x, ρ[i]? = some (some x) → ∃ v, σ[i]? = some (some v) ∧ RE1 G m (os ++ rs) st H xa x v
  own : ∀ (i : Nat) xs, ρ[i]? = some (some (.own xs)) → ∃ a, σ[i]? = some (some (.ref a)) ∧ a ∈ os ∧ a ∉ rs
  uniq : ∀ (i j : Nat) xs ys v, ρ[i]? = some (some (.own xs)) → ρ[j]? = some (some (.own ys)) → σ[i]? = some (some v) → σ[j]? = some (some v) → i = j
structure Pre (G : Gd) (xa : Xa) (σ : L2.St) (H : Hp) (m os rs : List Addr) (ρ : Slots) (st : Sto) : Prop where
  rel : Rel G m (os ++ rs) st H
  re : RE G m os rs st H xa ρ σ

def Pst {α : Type} (G : Gd) (m bs : List Addr) (st : Sto) (H : Hp) (W : Value → Option Addr → Hp → Prop) (r : R α) (P : α → List Addr → Sto → Hp → Prop) : Prop :=
  match r with
  | .ok a st' => ∀ m' H', GrowE m st H m' st' H' → Rel G m' bs st' H' → P a m' st' H'
  | .exc c fs st' => ∀ m' H' cls d, GrowE m st H m' st' H' → Rel G m' bs st' H' → XR G m' bs st' H' c fs cls d → W cls d H'
  | .bad => False

section
variable {G : Gd} {m os rs bs : List Addr} {st : Sto} {H : Hp} {xa : Xa} {σ : L2.St} {ρ : Slots} {W W' : Value → Option Addr → Hp → Prop} {α β : Type}
theorem Pst.mono {r : R α} {P P' : α → List Addr → Sto → Hp → Prop} (h : Pst G m bs st H W r P) (k : ∀ a m' st' H', GrowE m st H m' st' H' → Rel G m' bs st' H' → P a m' st' H' → P' a m' st' H') : Pst G m bs st H W r P' := by
  cases r with
  | ok a st' => exact fun m' H' g R => k a m' st' H' g R (h m' H' g R)
  | exc c fs st' => exact h
  | bad => exact h
theorem Pst.shift {r : R α} {P : α → List Addr → Sto → Hp → Prop} {m1 : List Addr} {st1 : Sto} {H1 : Hp} (g : GrowE m st H m1 st1 H1) (h : Pst G m bs st H W r P) : Pst G m1 bs st1 H1 W r P := by
  cases r with
  | ok a st' => exact fun m' H' g' R => h m' H' (g.trans g') R
  | exc c fs st' => exact fun m' H' cls d g' R x => h m' H' cls d (g.trans g') R x
  | bad => exact h
theorem Pst.bind {r : R α} {k : α → Sto → R β} {P : β → List Addr → Sto → Hp → Prop} (h : Pst G m bs st H W (r.bind k) P) : Pst G m bs st H W r (fun a m1 st1 H1 => Pst G m1 bs st1 H1 W (k a st1) P) := by
  cases r with
  | ok a st' =>
    have h' : Pst G m bs st H W (k a st') P := h
    exact fun m' H' g R => h'.shift g
  | exc c fs st' => exact h
  | bad => exact h
theorem Pst.ok {a : α} {P : α → List Addr → Sto → Hp → Prop} (R : Rel G m bs st H) (h : Pst G m bs st H W (.ok a st) P) : P a m st H := h m H .refl R
theorem RE1.grow {x : SV} {v : V} {m' : List Addr} {st' : Sto} {H' : Hp} (R : Rel G m bs st H) (g : GrowE m st H m' st' H') (h : RE1 G m bs st H xa x v) : RE1 G m' bs st' H' xa x v := by
  cases x with
  | v x => exact RV.fits g.fitsE _ _ h
  | own xs =>
    obtain ⟨a, vs, e, ha, r, hb⟩ := h
    exact ⟨a, vs, e, (g.keep a _ ha (fun z => (R.bsd a hb).1 z.mem) (by simp) nxl).1, RVs.fits g.fitsE _ _ r, hb⟩
  | exn l =>
    obtain ⟨a, d, e, e2, e3⟩ := h
    exact ⟨a, d, e, e2, g.at e3⟩
theorem Pre.grow {m' : List Addr} {st' : Sto} {H' : Hp} (P : Pre G xa σ H m os rs ρ st) (g : GrowE m st H m' st' H') (R : Rel G m' (os ++ rs) st' H') : Pre G xa σ H' m' os rs ρ st' :=
  ⟨R, P.re.len, fun i x e => let ⟨v, e1, r⟩ := P.re.at_ i x e; ⟨v, e1, r.grow P.rel g⟩, P.re.own, P.re.uniq⟩
end

def rd {α β : Type} (rv : List Addr → List Addr → Sto → Hp → α → β → Prop) (G : Gd) (W : WX) (xa : Xa) (A : Slots → Sto → R α) : L2.St → Hp → (β → Hp → Prop) → Prop := fun σ H Q =>
  ∃ m os rs ρ st, Pre G xa σ H m os rs ρ st ∧ Pst G m (os ++ rs) st H (fun cls d H' => W cls d σ H') (A ρ st) (fun v m' st' H' => ∀ u, rv m' (os ++ rs) st' H' v u → Q u H')
abbrev teOf (G : Gd) (W : WX) (xa : Xa) (A : IE) : TE := rd (RV G) G W xa A
abbrev ttOf (G : Gd) (W : WX) (xa : Xa) (A : IT) : TT := rd (fun _ _ _ _ a b => a = b) G W xa A
abbrev taOf (G : Gd) (W : WX) (xa : Xa) (A : IA) : TA := rd (RVs G) G W xa A

/-- the judgements -/
abbrev ME (X : Cx) (W : WX) (xa : Xa) (e : Expr) (A : IE) : Prop := PE X e (teOf (gd X) W xa A)
abbrev MT (X : Cx) (W : WX) (xa : Xa) (e : Expr) (A : IT) : Prop := PT X e (ttOf (gd X) W xa A)
abbrev MA (X : Cx) (W : WX) (xa : Xa) (es : List Expr) (A : IA) : Prop := PA X es (taOf (gd X) W xa A)
theorem PE.weak {X : Cx} {e : Expr} {t t' : TE} (h : PE X e t) (k : ∀ σ H Q, t' σ H Q → t σ H Q) : PE X e t' := ⟨fun pins s σ H Q I q => h.run pins s σ H Q I (k σ H Q q)⟩
theorem PT.weak {X : Cx} {e : Expr} {t t' : TT} (h : PT X e t) (k : ∀ σ H Q, t' σ H Q → t σ H Q) : PT X e t' := ⟨fun pins s σ H Q I q => h.run pins s σ H Q I (k σ H Q q)⟩
theorem PW.weak {X : Cx} {e : Expr} {t t' : TT} (h : PW X e t) (k : ∀ σ H Q, t' σ H Q → t σ H Q) : PW X e t' := ⟨fun wh pins s σ H Q I q => h.run wh pins s σ H Q I (k σ H Q q)⟩
theorem PA.weak {X : Cx} {e : List Expr} {t t' : TA} (h : PA X e t) (k : ∀ σ H Q, t' σ H Q → t σ H Q) : PA X e t' := ⟨fun pos pins s σ H Q I q => h.run pos pins s σ H Q I (k σ H Q q)⟩
theorem PS.weak {X : Cx} {e : Stmt} {t t' : TS} (h : PS X e t) (k : ∀ D σ H, t' D σ H → t D σ H) : PS X e t' := ⟨fun pins s σ H D I q => h.run pins s σ H D I (k D σ H q)⟩
theorem PSs.weak {X : Cx} {e : List Stmt} {t t' : TS} (h : PSs X e t) (k : ∀ D σ H, t' D σ H → t D σ H) : PSs X e t' := ⟨fun pins s σ H D I q => h.run pins s σ H D I (k D σ H q)⟩
theorem PG.weak {X : Cx} {e : Expr} {t t' : TG} (h : PG X e t) (k : ∀ v σ H Q, t' v σ H Q → t v σ H Q) : PG X e t' := ⟨fun pins s σ H v u Q I r q => h.run pins s σ H v u Q I r (k v σ H Q q)⟩
theorem PI.weak {X : Cx} {tg e : Expr} {t t' : TI} (h : PI X tg e t) (k : ∀ σ H Q, t' σ H Q → t σ H Q) : PI X tg e t' := ⟨fun pins s σ H Q I q => h.run pins s σ H Q I (k σ H Q q)⟩

section
variable {X : Cx} {W : WX} {xa : Xa} {a b e : Expr} {A B : IE} {pos : Pos}

/-! ### names, constants -/
def iVar (i : Nat) : IE := fun ρ st => match ρ[i]? with
  | some (some (.v x)) => .ok x st
  | _ => .bad
def iC (x : IV) : IE := fun _ st => .ok x st
theorem me_var {i : Nat} (h : PE X e (tVar i)) : ME X W xa e (iVar i) := by
  refine PE.weak h fun σ H Q h => ?_
  obtain ⟨m, os, rs, ρ, st, P, h⟩ := h
  unfold iVar at h
  split at h
  · rename_i x e
    obtain ⟨v, e1, r⟩ := P.re.at_ _ _ e
    exact ⟨v, e1, h.ok P.rel v r⟩
  · exact h.elim
theorem me_c {x : IV} {v : V} (h : PE X e (tC v)) (hv : ∀ m bs st H, RV (gd X) m bs st H x v) : ME X W xa e (iC x) := by
  refine PE.weak h fun σ H Q h => ?_
  obtain ⟨m, os, rs, ρ, st, P, h⟩ := h
  exact Pst.ok P.rel h v (hv _ _ _ _)
theorem me_int {i : Int} {j : Nat} : ME X W xa (.Constant (.int i) j pos) (iC (.int i)) := me_c pe_int fun _ _ _ _ => by simp only [RV]
theorem me_bl {b : Bool} {j : Nat} : ME X W xa (.Constant (.bool b) j pos) (iC (.bl b)) := me_c pe_bl fun _ _ _ _ => by simp only [RV]
theorem me_non {j : Nat} : ME X W xa (.Constant .none j pos) (iC .non) := me_c pe_non fun _ _ _ _ => by simp only [RV]
theorem me_str {x : Str} {j : Nat} : ME X W xa (.Constant (.str x) j pos) (iC (.str x)) := me_c pe_str fun _ _ _ _ => by simp only [RV]

/-! ### operators by values -/
/-- what a two-place operation does: it raises nothing -/
def OpM (X : Cx) (f : Value → Value → Sem Value) (g : IV → IV → Sto → R IV) : Prop :=
  ∃ r, OpR X f r ∧ ∀ m bs st H x y x' y' (Q : VK) W, Rel (gd X) m bs st H → RV (gd X) m bs st H x x' → RV (gd X) m bs st H y y' →
    Pst (gd X) m bs st H W (g x y st) (fun v m' st' H' => ∀ u, RV (gd X) m' bs st' H' v u → Q u H') → r x' y' H Q
def iBin (g : IV → IV → Sto → R IV) (A B : IE) : IE := fun ρ st => (A ρ st).bind fun x st => (B ρ st).bind fun y st => g x y st
theorem me_bin {op : Operator} {g : IV → IV → Sto → R IV} (ho : OpM X (binaryOp op) g) (ha : ME X W xa a A) (hb : ME X W xa b B) : ME X W xa (.BinOp a op b pos) (iBin g A B) := by
  obtain ⟨r, hr, k⟩ := ho
  refine PE.weak (pe_op hr ha hb) fun σ H Q h => ?_
  obtain ⟨m, os, rs, ρ, st, P, h⟩ := h
  exact ⟨m, os, rs, ρ, st, P, h.bind.mono fun x m1 st1 H1 g1 R1 h1 x' rx => ⟨m1, os, rs, ρ, st1, P.grow g1 R1, h1.bind.mono fun y m2 st2 H2 g2 R2 h2 y' ry =>
    k m2 _ st2 H2 x y x' y' Q _ R2 (RV.fits g2.fitsE _ _ rx) ry h2⟩⟩
theorem me_cmp {op : CmpOp} {g : IV → IV → Sto → R IV} (ho : OpM X (compareOp op) g) (ha : ME X W xa a A) (hb : ME X W xa b B) (hm : behindInMarks op b = false) : ME X W xa (.Compare a [op] [b] pos) (iBin g A B) := by
  obtain ⟨r, hr, k⟩ := ho
  refine PE.weak (pe_cmpR hr ha hb hm) fun σ H Q h => ?_
  obtain ⟨m, os, rs, ρ, st, P, h⟩ := h
  exact ⟨m, os, rs, ρ, st, P, h.bind.mono fun x m1 st1 H1 g1 R1 h1 x' rx => ⟨m1, os, rs, ρ, st1, P.grow g1 R1, h1.bind.mono fun y m2 st2 H2 g2 R2 h2 y' ry =>
    k m2 _ st2 H2 x y x' y' Q _ R2 (RV.fits g2.fitsE _ _ rx) ry h2⟩⟩
/-- a value that is a bool, as a test -/
def asB : IV → Sto → R Bool
  | .bl b, st => .ok b st
  | _, _ => .bad
def iTest (A : IE) : IT := fun ρ st => (A ρ st).bind asB
theorem asB_post {G : Gd} {m bs : List Addr} {st : Sto} {H : Hp} {W : Value → Option Addr → Hp → Prop} {x : IV} {x' : V} {Q : Bool → Hp → Prop} (R : Rel G m bs st H) (rx : RV G m bs st H x x')
    (h : Pst G m bs st H W (asB x st) (fun v m' st' H' => ∀ u, v = u → Q u H')) : ∃ c, x' = .bl c ∧ Q c H := by
  cases x with
  | bl b =>
    simp only [RV] at rx
    exact ⟨b, rx, h.ok R b rfl⟩
  | _ => exact h.elim
theorem mt_cmp {op : CmpOp} {g : IV → IV → Sto → R IV} (ho : OpM X (compareOp op) g) (ha : ME X W xa a A) (hb : ME X W xa b B) (hm : behindInMarks op b = false) : MT X W xa (.Compare a [op] [b] pos) (iTest (iBin g A B)) := by
  obtain ⟨r, hr, k⟩ := ho
  refine PT.weak (pt_cmpR hr ha hb hm) fun σ H Q h => ?_
  obtain ⟨m, os, rs, ρ, st, P, h⟩ := h
  have h := h.bind
  exact ⟨m, os, rs, ρ, st, P, h.bind.mono fun x m1 st1 H1 g1 R1 h1 x' rx => ⟨m1, os, rs, ρ, st1, P.grow g1 R1, h1.bind.mono fun y m2 st2 H2 g2 R2 h2 y' ry =>
    k m2 _ st2 H2 x y x' y' _ _ R2 (RV.fits g2.fitsE _ _ rx) ry (h2.mono fun v m3 st3 H3 g3 R3 h3 u ru => asB_post R3 ru h3)⟩⟩
theorem mt_val (he : ME X W xa e A) (hs : ∀ whole, isTrue e X.env whole = (do let v ← whole; standAt e.pos; holding [v] (truthy v)) := by intro _; rfl) : MT X W xa e (iTest A) := by
  refine PT.weak (pt_val he hs) fun σ H Q h => ?_
  obtain ⟨m, os, rs, ρ, st, P, h⟩ := h
  exact ⟨m, os, rs, ρ, st, P, h.bind.mono fun v m3 st3 H3 g3 R3 h3 u ru => asB_post R3 ru h3⟩
/-- chains a < b < c -/
def iChain (g g' : IV → IV → Sto → R IV) (A B C : IE) : IE := fun ρ st => (A ρ st).bind fun x st => (B ρ st).bind fun y st => (g x y st).bind fun z st => (asB z st).bind fun k st => if k = true then (C ρ st).bind fun c st => g' y c st else .ok (.bl false) st
end
end Mi
set_option Elab.async false
set_option linter.all false
set_option maxRecDepth 100000
set_option maxHeartbeats 4000000
namespace Mi
open PySem PySem.Spec PyProof.Rows L2

theorem szl {n : Nat} (h : n ≤ 100000) : n ≤ sizeLine := Nat.le_trans h (by decide)
theorem szlt {n : Nat} (h : n < 100000) : n < sizeLine := Nat.lt_of_lt_of_le h (by decide)
/-- lists, tuples as they stand -/
def asL (st : Sto) : IV → Option (List IV)
  | .lst xs => some xs
  | .ref l => match st[l]? with
    | some (.lst xs) => some xs
    | _ => none
  | _ => none
def asT : IV → Option (List IV)
  | .tup xs => some xs
  | _ => none
/-- both -/
def asS (st : Sto) : IV → Option (List IV)
  | .tup xs => some xs
  | x => asL st x
section
variable {G : Gd} {m bs : List Addr} {st : Sto} {H : Hp}
theorem asL_sq (R : Rel G m bs st H) {x : IV} {v : V} {xs : List IV} (e : asL st x = some xs) (r : RV G m bs st H x v) : ∃ a vs, v = .ref a ∧ SqL G.K H a vs ∧ RVs G m bs st H xs vs := by
  cases x with
  | lst ys =>
    cases e
    simp only [RV] at r
    obtain ⟨a, vs, e, h, r⟩ := r
    exact ⟨a, vs, e, h.sq, r⟩
  | ref l =>
    simp only [RV] at r
    obtain ⟨a, ea, h⟩ := r
    simp only [asL] at e
    split at e
    · rename_i ys e1
      cases e
      obtain ⟨vs, e2, r2⟩ := R.obj l _ a e1 h
      exact ⟨a, vs, ea, .of e2, r2⟩
    · cases e
  | _ => cases e
theorem asT_sq {x : IV} {v : V} {xs : List IV} (e : asT x = some xs) (r : RV G m bs st H x v) : ∃ a vs, v = .ref a ∧ SqT G.K H a vs ∧ RVs G m bs st H xs vs := by
  cases x with
  | tup ys =>
    cases e
    simp only [RV] at r
    obtain ⟨a, vs, e, h, r⟩ := r
    exact ⟨a, vs, e, h.sq, r⟩
  | _ => cases e
theorem asS_sq (R : Rel G m bs st H) {x : IV} {v : V} {xs : List IV} (e : asS st x = some xs) (r : RV G m bs st H x v) : ∃ a vs, v = .ref a ∧ (SqL G.K H a vs ∨ SqT G.K H a vs) ∧ RVs G m bs st H xs vs := by
  cases x with
  | tup ys =>
    obtain ⟨a, vs, e, h, r⟩ := asT_sq (x := .tup ys) e r
    exact ⟨a, vs, e, .inr h, r⟩
  | lst ys =>
    obtain ⟨a, vs, e, h, r⟩ := asL_sq (x := .lst ys) R e r
    exact ⟨a, vs, e, .inl h, r⟩
  | ref l =>
    obtain ⟨a, vs, e, h, r⟩ := asL_sq (x := .ref l) R e r
    exact ⟨a, vs, e, .inl h, r⟩
  | _ => cases e
theorem RVs.length : ∀ {xs : List IV} {vs : List V}, RVs G m bs st H xs vs → xs.length = vs.length
  | [], vs, h => by simp only [RVs] at h; rw [h]; rfl
  | x :: xs, vs, h => by
    simp only [RVs] at h
    obtain ⟨v, r, e, _, h⟩ := h
    rw [e, List.length_cons, List.length_cons, RVs.length h]
theorem RVs.get : ∀ {xs : List IV} {vs : List V} {i : Nat} {x : IV}, RVs G m bs st H xs vs → xs[i]? = some x → ∃ v, vs[i]? = some v ∧ RV G m bs st H x v
  | [], vs, i, x, h, e => by simp at e
  | y :: xs, vs, 0, x, h, e => by
    simp only [RVs] at h
    obtain ⟨v, r, e1, h1, h⟩ := h
    have : y = x := by simpa using e
    subst this
    exact ⟨v, by rw [e1]; rfl, h1⟩
  | y :: xs, vs, i + 1, x, h, e => by
    simp only [RVs] at h
    obtain ⟨v, r, e1, h1, h⟩ := h
    obtain ⟨w, e2, h2⟩ := RVs.get (i := i) (x := x) h (by simpa using e)
    exact ⟨w, by rw [e1]; simpa using e2, h2⟩
theorem RVs.append : ∀ {xs ys : List IV} {vs ws : List V}, RVs G m bs st H xs vs → RVs G m bs st H ys ws → RVs G m bs st H (xs ++ ys) (vs ++ ws)
  | [], ys, vs, ws, h, h' => by simp only [RVs] at h; rw [h]; exact h'
  | x :: xs, ys, vs, ws, h, h' => by
    simp only [RVs] at h
    obtain ⟨v, r, e, h1, h⟩ := h
    rw [e]
    simp only [List.cons_append, RVs]
    exact ⟨v, _, rfl, h1, RVs.append h h'⟩
theorem RVs.take : ∀ {xs : List IV} {vs : List V} (n : Nat), RVs G m bs st H xs vs → RVs G m bs st H (xs.take n) (vs.take n)
  | _, _, 0, _ => by simp [RVs]
  | [], vs, n + 1, h => by simp only [RVs] at h; rw [h]; simp [RVs]
  | x :: xs, vs, n + 1, h => by
    simp only [RVs] at h
    obtain ⟨v, r, e, h1, h⟩ := h
    rw [e]
    simp only [List.take_succ_cons, RVs]
    exact ⟨v, _, rfl, h1, RVs.take n h⟩
theorem RVs.drop : ∀ {xs : List IV} {vs : List V} (n : Nat), RVs G m bs st H xs vs → RVs G m bs st H (xs.drop n) (vs.drop n)
  | _, _, 0, h => by simpa using h
  | [], vs, n + 1, h => by simp only [RVs] at h; rw [h]; simp [RVs]
  | x :: xs, vs, n + 1, h => by
    simp only [RVs] at h
    obtain ⟨v, r, e, h1, h⟩ := h
    rw [e]
    simpa using RVs.drop n h
theorem RVs.set : ∀ {xs : List IV} {vs : List V} (n : Nat) {x : IV} {v : V}, RVs G m bs st H xs vs → RV G m bs st H x v → RVs G m bs st H (xs.set n x) (vs.set n v)
  | [], vs, n, _, _, h, _ => by simp only [RVs] at h; rw [h]; simp [RVs]
  | y :: xs, vs, 0, x, v, h, q => by
    simp only [RVs] at h
    obtain ⟨w, r, e, h1, h⟩ := h
    rw [e]
    simp only [List.set_cons_zero, RVs]
    exact ⟨v, r, rfl, q, h⟩
  | y :: xs, vs, n + 1, x, v, h, q => by
    simp only [RVs] at h
    obtain ⟨w, r, e, h1, h⟩ := h
    rw [e]
    simp only [List.set_cons_succ, RVs]
    exact ⟨w, _, rfl, h1, RVs.set n h q⟩
theorem RVs.eraseIdx : ∀ {xs : List IV} {vs : List V} (n : Nat), RVs G m bs st H xs vs → RVs G m bs st H (xs.eraseIdx n) (vs.eraseIdx n)
  | [], vs, n, h => by simp only [RVs] at h; rw [h]; simp [RVs]
  | x :: xs, vs, 0, h => by
    simp only [RVs] at h
    obtain ⟨v, r, e, h1, h⟩ := h
    rw [e]; exact h
  | x :: xs, vs, n + 1, h => by
    simp only [RVs] at h
    obtain ⟨v, r, e, h1, h⟩ := h
    rw [e]
    simp only [List.eraseIdx_cons_succ, RVs]
    exact ⟨v, _, rfl, h1, RVs.eraseIdx n h⟩
theorem RVs.nil_iff {xs : List IV} {vs : List V} (h : RVs G m bs st H xs vs) : vs = [] ↔ xs = [] := by
  have e := RVs.length h
  cases xs <;> cases vs <;> simp at e ⊢
/-- an inline thing made at a fresh place: its reading -/
theorem Pst.newT {W : Value → Option Addr → Hp → Prop} {xs : List IV} {vs : List V} {Q : VK} (R : Rel G m bs st H) (r : RVs G m bs st H xs vs) (h : Pst G m bs st H W (.ok (.tup xs) st) (fun v m' st' H' => ∀ u, RV G m' bs st' H' v u → Q u H'))
    {p : Addr} (hp : H p = none) : Q (.ref p) (upd H p (.tup vs)) := by
  refine h m _ (grow_new hp) (R.new hp) (.ref p) ?_
  simp only [RV]
  exact ⟨p, vs, rfl, tupAt_new R hp, RVs.fits (grow_new hp).fitsE _ _ r⟩
theorem Pst.newL {W : Value → Option Addr → Hp → Prop} {xs : List IV} {vs : List V} {Q : VK} (R : Rel G m bs st H) (r : RVs G m bs st H xs vs) (h : Pst G m bs st H W (.ok (.lst xs) st) (fun v m' st' H' => ∀ u, RV G m' bs st' H' v u → Q u H'))
    {p : Addr} (hp : H p = none) : Q (.ref p) (upd H p (.lst vs)) := by
  refine h m _ (grow_new hp) (R.new hp) (.ref p) ?_
  simp only [RV]
  exact ⟨p, vs, rfl, lstAt_new R hp, RVs.fits (grow_new hp).fitsE _ _ r⟩
theorem Pst.v {W : Value → Option Addr → Hp → Prop} {x : IV} {v : V} {Q : VK} (R : Rel G m bs st H) (r : RV G m bs st H x v) (h : Pst G m bs st H W (.ok x st) (fun v m' st' H' => ∀ u, RV G m' bs st' H' v u → Q u H')) : Q v H := h.ok R v r
end

/-! ### arithmetic -/
def gAdd : IV → IV → Sto → R IV
  | .int i, .int j, st => .ok (.int (i + j)) st
  | .str i, .str j, st => if i.length + j.length ≤ 100000 then .ok (.str (i ++ j)) st else .bad
  | .tup xs, .tup ys, st => if xs.length + ys.length ≤ 100000 then .ok (.tup (xs ++ ys)) st else .bad
  | x, y, st => match asL st x, asL st y with
    | some xs, some ys => if xs.length + ys.length ≤ 100000 then .ok (.lst (xs ++ ys)) st else .bad
    | _, _ => .bad
def gSub : IV → IV → Sto → R IV
  | .int i, .int j, st => .ok (.int (i - j)) st
  | _, _, _ => .bad
/-- one factor below 2 ^ 64 -/
def gMul : IV → IV → Sto → R IV
  | .int i, .int j, st => if i.natAbs < 18446744073709551616 ∨ j.natAbs < 18446744073709551616 then .ok (.int (i * j)) st else .bad
  | _, _, _ => .bad
/-- a divisor of at most forty digits -/
def gDiv : IV → IV → Sto → R IV
  | .int i, .int j, st => if 0 < j ∧ j ≤ 10000000000000000000000000000000000000000 then .ok (.int (i / j)) st else .bad
  | _, _, _ => .bad
def gMod : IV → IV → Sto → R IV
  | .int i, .int j, st => if 0 < j then .ok (.int (i % j)) st else .bad
  | _, _, _ => .bad
def gPow : IV → IV → Sto → R IV
  | .int i, .int j, st => if 0 ≤ j ∧ j ≤ 1000000 ∧ i.natAbs < 18446744073709551616 then .ok (.int (i ^ j.toNat)) st else .bad
  | _, _, _ => .bad
section
variable {X : Cx}
theorem OpM.eq {f : Value → Value → Sem Value} {g g' : IV → IV → Sto → R IV} (h : OpM X f g) (e : ∀ x y st, g x y st = g' x y st) : OpM X f g' := by
  have : g = g' := funext fun x => funext fun y => funext fun st => e x y st
  rw [← this]; exact h
/-- list + list -/
def rCatL (K : PySem.W.Frag) : R2 := fun x y H Q => ∃ l b xs zs, x = .ref l ∧ y = .ref b ∧ SqL K H l xs ∧ SqL K H b zs ∧ xs.length + zs.length ≤ sizeLine ∧ ∀ p, H p = none → Q (.ref p) (upd H p (.lst (xs ++ zs)))
theorem op_catL : OpR X (binaryOp .Add) (rCatL X.K) := by
  intro pins s σ H x y v u Q I rx ry h
  obtain ⟨l, b, xs, zs, rfl, rfl, hH, hB, hz, q⟩ := h
  cases rx
  cases ry
  obtain ⟨its, r, ⟨o, n, e, c, d, dd⟩, _⟩ := I.list hH
  obtain ⟨its2, r2, ⟨o2, n2, e2, c2, d2, dd2⟩, _⟩ := I.list hB
  obtain ⟨oc, od, dt, sl⟩ := o
  obtain ⟨oc2, od2, dt2, sl2⟩ := o2
  simp only at c d dd c2 d2 dd2
  subst c d dd c2 d2 dd2
  have l1 := r.length
  have l2 := r2.length
  have ea : its.toArray ++ its2.toArray = (its ++ its2).toArray := by simp
  refine concat_meets ⟨_, e, rfl⟩ ⟨_, e2, rfl⟩ noFill_list_add seq_list_add PySem.F.slot_list_add PySem.F.entry_list_add (PySem.F.args_list_add_2 _ _) (list_addW l b its.toArray its2.toArray n n2 none none sl sl2 (by rw [List.size_toArray, List.size_toArray]; omega)) ⟨e, e2, ?_⟩
  rw [ea]
  exact ⟨.ref _, _, I.lnew (t' := s.toks) (r.append r2) (by rw [List.length_append]; omega), rfl, q _ I.fresh⟩
theorem opm_add : OpM X (binaryOp .Add) gAdd := by
  refine ⟨_, op_add.or (op_add_str.or (op_catA.or op_catL)), fun m bs st H x y x' y' Q W R rx ry h => ?_⟩
  unfold gAdd at h
  split at h
  · simp only [RV] at rx ry
    exact .inl ⟨_, _, rx, ry, h.v R (by simp only [RV])⟩
  · simp only [RV] at rx ry
    split at h
    · rename_i c
      exact .inr (.inl ⟨_, _, rx, ry, szl c, h.v R (by simp only [RV])⟩)
    · exact h.elim
  · split at h
    · rename_i xs ys c
      obtain ⟨a, vs, ea, h1, r1⟩ := asT_sq (x := .tup xs) rfl rx
      obtain ⟨b, ws, eb, h2, r2⟩ := asT_sq (x := .tup ys) rfl ry
      refine .inr (.inr (.inl ⟨a, b, vs, ws, ea, eb, h1, h2, by rw [← r1.length, ← r2.length]; exact szl c, fun z => ?_, fun z1 z2 => ?_, fun z1 z2 p hp => ?_⟩))
      · have e := r1.nil_iff.mp z
        subst e
        rw [← eb]
        exact h.v R ry
      · have e := r2.nil_iff.mp z2
        subst e
        rw [List.append_nil] at h
        rw [← ea]
        exact h.v R rx
      · exact h.newT R (r1.append r2) hp
    · exact h.elim
  · split at h
    · rename_i xs ys e1 e2
      split at h
      · rename_i c
        obtain ⟨a, vs, ea, h1, r1⟩ := asL_sq R e1 rx
        obtain ⟨b, ws, eb, h2, r2⟩ := asL_sq R e2 ry
        exact .inr (.inr (.inr ⟨a, b, vs, ws, ea, eb, h1, h2, by rw [← r1.length, ← r2.length]; exact szl c, fun p hp => h.newL R (r1.append r2) hp⟩))
      · exact h.elim
    · exact h.elim
theorem opm_sub : OpM X (binaryOp .Sub) gSub := by
  refine ⟨_, op_sub, fun m bs st H x y x' y' Q W R rx ry h => ?_⟩
  unfold gSub at h
  split at h
  · simp only [RV] at rx ry
    exact ⟨_, _, rx, ry, h.v R (by simp only [RV])⟩
  · exact h.elim
theorem opm_mul : OpM X (binaryOp .Mult) gMul := by
  refine ⟨_, op_mul, fun m bs st H x y x' y' Q W R rx ry h => ?_⟩
  unfold gMul at h
  split at h
  · simp only [RV] at rx ry
    split at h
    · rename_i c
      refine ⟨_, _, rx, ry, ?_, h.v R (by simp only [RV])⟩
      have e : (2 : Int) ^ 64 = 18446744073709551616 := by decide
      unfold CMul
      rw [e]
      rcases c with c | c
      · exact .inl (by omega)
      · exact .inr (by omega)
    · exact h.elim
  · exact h.elim
theorem log2_dig {j : Int} (h0 : 0 < j) (h : j ≤ 10000000000000000000000000000000000000000) : CDivW 0 j :=
  wide_div (b := 140) h0 (by have : (2 : Nat) ^ 140 = 1393796574908163946345982392040522594123776 := by decide +kernel
                             omega) (by decide) (by decide)
theorem opm_div : OpM X (binaryOp .FloorDiv) gDiv := by
  refine ⟨_, op_fdivW, fun m bs st H x y x' y' Q W R rx ry h => ?_⟩
  unfold gDiv at h
  split at h
  · simp only [RV] at rx ry
    split at h
    · rename_i c
      exact ⟨_, _, rx, ry, log2_dig c.1 c.2, h.v R (by simp only [RV])⟩
    · exact h.elim
  · exact h.elim
theorem opm_mod : OpM X (binaryOp .Mod) gMod := by
  refine ⟨_, op_mod, fun m bs st H x y x' y' Q W R rx ry h => ?_⟩
  unfold gMod at h
  split at h
  · simp only [RV] at rx ry
    split at h
    · rename_i c
      exact ⟨_, _, rx, ry, c, h.v R (by simp only [RV])⟩
    · exact h.elim
  · exact h.elim
theorem opm_pow : OpM X (binaryOp .Pow) gPow := by
  refine ⟨_, op_pow, fun m bs st H x y x' y' Q W R rx ry h => ?_⟩
  unfold gPow at h
  split at h
  · simp only [RV] at rx ry
    split at h
    · rename_i c
      refine ⟨_, _, rx, ry, ⟨c.1, c.2.1, ?_⟩, h.v R (by simp only [RV])⟩
      have e : (2 : Nat) ^ 64 = 18446744073709551616 := by decide
      rw [e]; exact c.2.2
    · exact h.elim
  · exact h.elim

/-! ### comparisons -/
def gRel (p : Int → Int → Bool) : IV → IV → Sto → R IV
  | .int i, .int j, st => .ok (.bl (p i j)) st
  | _, _, _ => .bad
theorem opm_rel {op : CmpOp} {p : Int → Int → Bool} (ho : OpR X (compareOp op) (rI0 fun i j => .bl (p i j))) : OpM X (compareOp op) (gRel p) := by
  refine ⟨_, ho, fun m bs st H x y x' y' Q W R rx ry h => ?_⟩
  unfold gRel at h
  split at h
  · simp only [RV] at rx ry
    exact ⟨_, _, rx, ry, h.v R (by simp only [RV])⟩
  · exact h.elim
abbrev gLt := gRel fun i j => decide (i < j)
abbrev gLe := gRel fun i j => decide (i ≤ j)
abbrev gGt := gRel fun i j => decide (j < i)
abbrev gGe := gRel fun i j => decide (j ≤ i)
theorem opm_lt : OpM X (compareOp .Lt) gLt := opm_rel op_lt
theorem opm_le : OpM X (compareOp .LtE) gLe := opm_rel op_le
theorem opm_gt : OpM X (compareOp .Gt) gGt := opm_rel op_gt
theorem opm_ge : OpM X (compareOp .GtE) gGe := opm_rel op_ge

/-- data that == compares -/
def toDs (toD : IV → Option PyData) : List IV → Option (List PyData)
  | [] => some []
  | x :: xs => (toD x).bind fun d => (toDs toD xs).map fun ds => d :: ds
mutual
def toD0 : IV → Option PyData
  | .non => some .none
  | .bl b => some (.bool b)
  | .int i => some (.int i)
  | .str x => some (.str x)
  | .tup xs => (toD0s xs).map .tuple
  | .lst xs => (toD0s xs).map .list
  | _ => none
def toD0s : List IV → Option (List PyData)
  | [] => some []
  | x :: xs => (toD0 x).bind fun d => (toD0s xs).map fun ds => d :: ds
end
/-- a live list on top -/
def toD (st : Sto) : IV → Option PyData
  | .ref l => match st[l]? with
    | some (.lst xs) => (toD0s xs).map .list
    | _ => none
  | x => toD0 x
mutual
theorem toD0_dp {G : Gd} {m bs : List Addr} {st : Sto} {H : Hp} : ∀ (x : IV) (v : V) (d : PyData), toD0 x = some d → RV G m bs st H x v → Dp G.K H v d
  | .non, v, d, e, r => by simp only [RV] at r; simp only [toD0] at e; cases e; rw [r]; exact .non
  | .bl b, v, d, e, r => by simp only [RV] at r; simp only [toD0] at e; cases e; rw [r]; exact .bl b
  | .int i, v, d, e, r => by simp only [RV] at r; simp only [toD0] at e; cases e; rw [r]; exact .int i
  | .str x, v, d, e, r => by simp only [RV] at r; simp only [toD0] at e; cases e; rw [r]; exact .str x
  | .ty n, v, d, e, r => by simp [toD0] at e
  | .ref l, v, d, e, r => by simp [toD0] at e
  | .ptp l, v, d, e, r => by simp [toD0] at e
  | .tup xs, v, d, e, r => by
    simp only [toD0, Option.map_eq_some_iff] at e
    obtain ⟨ds, e1, e2⟩ := e
    subst e2
    simp only [RV] at r
    obtain ⟨a, vs, ea, h, r⟩ := r
    rw [ea]
    exact .tup h.sq (toD0s_dp xs vs ds e1 r)
  | .lst xs, v, d, e, r => by
    simp only [toD0, Option.map_eq_some_iff] at e
    obtain ⟨ds, e1, e2⟩ := e
    subst e2
    simp only [RV] at r
    obtain ⟨a, vs, ea, h, r⟩ := r
    rw [ea]
    exact .lst h.sq (toD0s_dp xs vs ds e1 r)
theorem toD0s_dp {G : Gd} {m bs : List Addr} {st : Sto} {H : Hp} : ∀ (xs : List IV) (vs : List V) (ds : List PyData), toD0s xs = some ds → RVs G m bs st H xs vs → DpAll G.K H vs ds
  | [], vs, ds, e, r => by simp only [RVs] at r; simp only [toD0s] at e; cases e; rw [r]; exact .nil
  | x :: xs, vs, ds, e, r => by
    simp only [toD0s, Option.bind_eq_some_iff, Option.map_eq_some_iff] at e
    obtain ⟨d, e1, ds', e2, e3⟩ := e
    subst e3
    simp only [RVs] at r
    obtain ⟨v, t, ev, r1, r2⟩ := r
    rw [ev]
    exact .cons (toD0_dp x v d e1 r1) (toD0s_dp xs t ds' e2 r2)
end
theorem toD_dp {G : Gd} {m bs : List Addr} {st : Sto} {H : Hp} (R : Rel G m bs st H) {x : IV} {v : V} {d : PyData} (e : toD st x = some d) (r : RV G m bs st H x v) : Dp G.K H v d := by
  unfold toD at e
  split at e
  · rename_i l
    split at e
    · rename_i xs e1
      obtain ⟨a, vs, ea, h1, r1⟩ := asL_sq (x := .ref l) (xs := xs) R (by simp only [asL, e1]) r
      simp only [Option.map_eq_some_iff] at e
      obtain ⟨ds, e2, e3⟩ := e
      subst e3
      rw [ea]
      exact .lst h1 (toD0s_dp xs vs ds e2 r1)
    · cases e
  · exact toD0_dp _ _ _ e r
/-- x == y, as far as it is data -/
def eqB (st : Sto) (x y : IV) : Option Bool := match x, y with
  | .int i, .int j => some (decide (i = j))
  | .str i, .str j => some (decide (i = j))
  | x, y => match toD st x, toD st y with
    | some d, some e => if SeqAt.shaped d = true ∧ SeqAt.shaped e = true then some (PyData.eqv d e) else none
    | _, _ => none
def gEq : IV → IV → Sto → R IV := fun x y st => match eqB st x y with
  | some b => .ok (.bl b) st
  | none => .bad
def gNe : IV → IV → Sto → R IV := fun x y st => match eqB st x y with
  | some b => .ok (.bl (!b)) st
  | none => .bad
theorem opm_eq (hu : X.A.units + 64 < cLine) : OpM X (compareOp .Eq) gEq := by
  refine ⟨_, op_eq.or (op_eqD hu), fun m bs st H x y x' y' Q W R rx ry h => ?_⟩
  unfold gEq at h
  split at h
  · rename_i b e
    unfold eqB at e
    split at e
    · cases e
      simp only [RV] at rx ry
      subst rx ry
      refine .inl ⟨rfl, ?_⟩
      rename_i i j
      have := h.v R (v := .bl (decide (i = j))) (by simp only [RV])
      simpa using this
    · cases e
      simp only [RV] at rx ry
      subst rx ry
      refine .inl ⟨rfl, ?_⟩
      rename_i i j
      have := h.v R (v := .bl (decide (i = j))) (by simp only [RV])
      simpa using this
    · split at e
      · rename_i d e' h1 h2
        split at e
        · rename_i c
          cases e
          exact .inr ⟨d, e', toD_dp R h1 rx, toD_dp R h2 ry, c.1, c.2, h.v R (by simp only [RV])⟩
        · cases e
      · cases e
  · exact h.elim
theorem opm_ne (hu : X.A.units + 64 < cLine) : OpM X (compareOp .NotEq) gNe := by
  refine ⟨_, op_ne.or (op_neD hu), fun m bs st H x y x' y' Q W R rx ry h => ?_⟩
  unfold gNe at h
  split at h
  · rename_i b e
    unfold eqB at e
    split at e
    · cases e
      simp only [RV] at rx ry
      subst rx ry
      refine .inl ⟨rfl, ?_⟩
      rename_i i j
      have := h.v R (v := .bl (!decide (i = j))) (by simp only [RV])
      simpa using this
    · cases e
      simp only [RV] at rx ry
      subst rx ry
      refine .inl ⟨rfl, ?_⟩
      rename_i i j
      have := h.v R (v := .bl (!decide (i = j))) (by simp only [RV])
      simpa using this
    · split at e
      · rename_i d e' h1 h2
        split at e
        · rename_i c
          cases e
          exact .inr ⟨d, e', toD_dp R h1 rx, toD_dp R h2 ry, c.1, c.2, h.v R (by simp only [RV])⟩
        · cases e
      · cases e
  · exact h.elim
def isNon : IV → Bool
  | .non => true
  | _ => false
/-- is None -/
def gIsN (neg : Bool) : IV → IV → Sto → R IV
  | x, .non, st => .ok (.bl (neg != (isNon x))) st
  | _, _, _ => .bad
theorem rv_non {G : Gd} {m bs : List Addr} {st : Sto} {H : Hp} {x : IV} {v : V} (r : RV G m bs st H x v) : decide (v = .non) = (isNon x) := by
  cases x <;> simp only [RV] at r
  · rw [r]; rfl
  · rw [r]; rfl
  · rw [r]; rfl
  · rw [r]; rfl
  · rw [r]; rfl
  · obtain ⟨a, e, _⟩ := r; rw [e]; rfl
  · obtain ⟨a, _, e, _⟩ := r; rw [e]; rfl
  · obtain ⟨a, _, e, _⟩ := r; rw [e]; rfl
  · obtain ⟨a, _, e, _⟩ := r; rw [e]; rfl
theorem opm_isN : OpM X (compareOp .Is) (gIsN false) := by
  refine ⟨_, op_isN, fun m bs st H x y x' y' Q W R rx ry h => ?_⟩
  cases y with
  | non =>
    simp only [gIsN] at h
    simp only [RV] at ry
    refine ⟨ry, ?_⟩
    rw [rv_non rx]
    have := h.v R (v := .bl (false != isNon x)) (by simp only [RV])
    simpa using this
  | _ => exact h.elim
theorem opm_notN : OpM X (compareOp .IsNot) (gIsN true) := by
  refine ⟨_, op_notN, fun m bs st H x y x' y' Q W R rx ry h => ?_⟩
  cases y with
  | non =>
    simp only [gIsN] at h
    simp only [RV] at ry
    refine ⟨ry, ?_⟩
    rw [rv_non rx]
    have := h.v R (v := .bl (true != isNon x)) (by simp only [RV])
    simpa using this
  | _ => exact h.elim
/-- in -/
def flatI : IV → Bool
  | .non => true
  | .bl _ => true
  | .int _ => true
  | .str _ => true
  | _ => false
def eqI : IV → IV → Bool
  | .non, .non => true
  | .bl a, .bl b => a == b
  | .bl a, .int b => (if a then 1 else 0) == b
  | .int a, .bl b => a == (if b then 1 else 0)
  | .int a, .int b => a == b
  | .str a, .str b => a == b
  | _, _ => false
def inI (x : IV) (xs : List IV) : Bool := xs.any fun y => eqI y x
def vOf : IV → V
  | .bl a => .bl a
  | .int a => .int a
  | .str a => .str a
  | _ => .non
theorem rv_flat {G : Gd} {m bs : List Addr} {st : Sto} {H : Hp} {x : IV} {v : V} (f : flatI x = true) (r : RV G m bs st H x v) : v = vOf x ∧ flatV v = true := by
  cases x <;> simp only [RV] at r <;> first | (subst r; exact ⟨rfl, rfl⟩) | cases f
theorem rvs_flat {G : Gd} {m bs : List Addr} {st : Sto} {H : Hp} : ∀ {xs : List IV} {vs : List V}, xs.all flatI = true → RVs G m bs st H xs vs → vs = xs.map vOf ∧ vs.all flatV = true
  | [], vs, f, r => by simp only [RVs] at r; subst r; exact ⟨rfl, rfl⟩
  | x :: xs, vs, f, r => by
    simp only [RVs] at r
    obtain ⟨v, t, e, r1, r2⟩ := r
    rw [List.all_cons, Bool.and_eq_true] at f
    obtain ⟨e1, f1⟩ := rv_flat f.1 r1
    obtain ⟨e2, f2⟩ := rvs_flat f.2 r2
    subst e
    exact ⟨by rw [List.map_cons, e1, e2], by rw [List.all_cons, f1, f2]; rfl⟩
theorem eqV_of {x y : IV} (fx : flatI x = true) (fy : flatI y = true) : eqV (vOf y) (vOf x) = eqI y x := by
  cases x <;> cases y <;> first | rfl | (simp [flatI] at fx; done) | (simp [flatI] at fy; done)
theorem inV_of {x : IV} (fx : flatI x = true) : ∀ {xs : List IV}, xs.all flatI = true → inV (vOf x) (xs.map vOf) = inI x xs
  | [], _ => rfl
  | y :: ys, f => by
    rw [List.all_cons, Bool.and_eq_true] at f
    have ih := inV_of fx f.2
    unfold inV inI at ih ⊢
    rw [List.map_cons, List.any_cons, List.any_cons, ih, eqV_of fx f.1]
def inB (st : Sto) (x y : IV) : Option Bool := match x, y with
  | .str c, .str z => match c.cps.toList with
    | [k] => some (decide (k ∈ z.cps.toList))
    | _ => none
  | x, y => match asS st y with
    | some ys => if flatI x = true ∧ ys.all flatI = true then some (inI x ys) else none
    | none => none
def gIn (neg : Bool) : IV → IV → Sto → R IV := fun x y st => match inB st x y with
  | some b => .ok (.bl (if neg then !b else b)) st
  | none => .bad
theorem one_cps {c : Str} {k : Nat} (h : c.cps.toList = [k]) : c = ⟨#[k]⟩ := by
  obtain ⟨a⟩ := c
  have : a = #[k] := by
    apply Array.toList_inj.mp
    simpa using h
  rw [this]
theorem opm_in : OpM X (compareOp .In) (gIn false) := by
  refine ⟨_, op_in_sign.or op_in_seq, fun m bs st H x y x' y' Q W R rx ry h => ?_⟩
  unfold gIn at h
  split at h
  · rename_i b e
    unfold inB at e
    split at e
    · split at e
      · rename_i _ c z _ k hk
        cases e
        simp only [RV] at rx ry
        rw [one_cps hk] at rx
        exact .inl ⟨k, z, rx, ry, h.v R (by simp only [RV]; rfl)⟩
      · cases e
    · split at e
      · rename_i ys hy
        split at e
        · rename_i c
          cases e
          obtain ⟨a, vs, ea, hs, r⟩ := asS_sq R hy ry
          obtain ⟨ex, fx⟩ := rv_flat c.1 rx
          obtain ⟨ev, fv⟩ := rvs_flat c.2 r
          refine .inr ⟨a, vs, ea, hs, fx, fv, ?_⟩
          rw [ex, ev, inV_of c.1 c.2]
          exact h.v R (by simp only [RV])
        · cases e
      · cases e
  · exact h.elim
theorem opm_notIn : OpM X (compareOp .NotIn) (gIn true) := by
  refine ⟨_, op_notIn_sign.or op_notIn_seq, fun m bs st H x y x' y' Q W R rx ry h => ?_⟩
  unfold gIn at h
  split at h
  · rename_i b e
    unfold inB at e
    split at e
    · split at e
      · rename_i _ c z _ k hk
        cases e
        simp only [RV] at rx ry
        rw [one_cps hk] at rx
        exact .inl ⟨k, z, rx, ry, h.v R (by simp only [RV]; rfl)⟩
      · cases e
    · split at e
      · rename_i ys hy
        split at e
        · rename_i c
          cases e
          obtain ⟨a, vs, ea, hs, r⟩ := asS_sq R hy ry
          obtain ⟨ex, fx⟩ := rv_flat c.1 rx
          obtain ⟨ev, fv⟩ := rvs_flat c.2 r
          refine .inr ⟨a, vs, ea, hs, fx, fv, ?_⟩
          rw [ex, ev, inV_of c.1 c.2]
          exact h.v R (by simp only [RV])
        · cases e
      · cases e
  · exact h.elim
end
end Mi
set_option Elab.async false
set_option linter.all false
set_option maxRecDepth 100000
set_option maxHeartbeats 4000000
namespace Mi
open PySem PySem.Spec PyProof.Rows L2

section
variable {X : Cx} {W : WX} {xa : Xa} {a b c e : Expr} {A B C : IE} {S T : IT} {pos : Pos} {es rest : List Expr} {As : IA}

/-! ### tests -/
theorem me_chain {op op' : CmpOp} {g g' : IV → IV → Sto → R IV} (ho : OpM X (compareOp op) g) (ho' : OpM X (compareOp op') g') (ha : ME X W xa a A) (hb : ME X W xa b B) (hc : ME X W xa c C)
    (hm : lastMarks [op, op'] [b, c] = false := by with_unfolding_all rfl) : ME X W xa (.Compare a [op, op'] [b, c] pos) (iChain g g' A B C) := by
  obtain ⟨r, hr, k⟩ := ho
  obtain ⟨r', hr', k'⟩ := ho'
  refine PE.weak (pe_chain hr hr' ha hb hc hm) fun σ H Q h => ?_
  obtain ⟨m, os, rs, ρ, st, P, h⟩ := h
  refine ⟨m, os, rs, ρ, st, P, h.bind.mono fun x m1 st1 H1 g1 R1 h1 x' rx => ⟨m1, os, rs, ρ, st1, P.grow g1 R1, h1.bind.mono fun y m2 st2 H2 g2 R2 h2 y' ry =>
    k m2 _ st2 H2 x y x' y' _ _ R2 (RV.fits g2.fitsE _ _ rx) ry (h2.bind.mono fun z m3 st3 H3 g3 R3 h3 z' rz => asB_post (Q := fun k H3 => if k = true then teOf (gd X) W xa C σ H3 fun w' H4 => r' y' w' H4 Q else Q (.bl false) H3) R3 rz (h3.bind.mono fun q m4 st4 H4 g4 R4 h4 q' e => ?_))⟩⟩
  subst e
  cases q with
  | false => exact h4.v R4 (by simp only [RV])
  | true => exact ⟨m4, os, rs, ρ, st4, ((P.grow g1 R1).grow g2 R2 |>.grow g3 R3).grow g4 R4, Pst.mono (Pst.bind h4) fun w m5 st5 H5 g5 R5 h5 w' rw' =>
      k' m5 _ st5 H5 y w y' w' Q _ R5 (RV.fits (((g3.trans g4).trans g5)).fitsE _ _ ry) rw' h5⟩
theorem mt_chain {op op' : CmpOp} {g g' : IV → IV → Sto → R IV} (ho : OpM X (compareOp op) g) (ho' : OpM X (compareOp op') g') (ha : ME X W xa a A) (hb : ME X W xa b B) (hc : ME X W xa c C)
    (hm : lastMarks [op, op'] [b, c] = false := by with_unfolding_all rfl) : MT X W xa (.Compare a [op, op'] [b, c] pos) (iTest (iChain g g' A B C)) := by
  obtain ⟨r, hr, k⟩ := ho
  obtain ⟨r', hr', k'⟩ := ho'
  refine PT.weak (pt_chain hr hr' ha hb hc hm) fun σ H Q h => ?_
  obtain ⟨m, os, rs, ρ, st, P, h⟩ := h
  have h := h.bind
  refine ⟨m, os, rs, ρ, st, P, h.bind.mono fun x m1 st1 H1 g1 R1 h1 x' rx => ⟨m1, os, rs, ρ, st1, P.grow g1 R1, h1.bind.mono fun y m2 st2 H2 g2 R2 h2 y' ry =>
    k m2 _ st2 H2 x y x' y' _ _ R2 (RV.fits g2.fitsE _ _ rx) ry (h2.bind.mono fun z m3 st3 H3 g3 R3 h3 z' rz => asB_post (Q := fun k H3 => if k = true then teOf (gd X) W xa C σ H3 fun w' H4 => r' y' w' H4 fun x H' => ∃ k, x = V.bl k ∧ Q k H' else (fun x H' => ∃ k, x = V.bl k ∧ Q k H') (.bl false) H3) R3 rz (h3.bind.mono fun q m4 st4 H4 g4 R4 h4 q' e => ?_))⟩⟩
  subst e
  cases q with
  | false =>
    show ∃ k, V.bl false = V.bl k ∧ Q k H4
    exact asB_post R4 (x := .bl false) (by simp only [RV]) (h4.ok R4)
  | true => exact ⟨m4, os, rs, ρ, st4, ((P.grow g1 R1).grow g2 R2 |>.grow g3 R3).grow g4 R4, Pst.mono (Pst.bind h4) fun w m5 st5 H5 g5 R5 h5 w' rw' =>
      k' m5 _ st5 H5 y w y' w' _ _ R5 (RV.fits (((g3.trans g4).trans g5)).fitsE _ _ ry) rw' (h5.mono fun v m6 st6 H6 g6 R6 h6 u ru => asB_post R6 ru h6)⟩
abbrev MW (X : Cx) (W : WX) (xa : Xa) (e : Expr) (A : IT) : Prop := PW X e (ttOf (gd X) W xa A)
def iAnd (S T : IT) : IT := fun ρ st => (S ρ st).bind fun c st => if c = true then T ρ st else .ok false st
def iOr (S T : IT) : IT := fun ρ st => (S ρ st).bind fun c st => if c = true then .ok true st else T ρ st
def iNot (S : IT) : IT := fun ρ st => (S ρ st).bind fun c st => .ok (!c) st
theorem mw_and1 (h : MT X W xa a S) : MW X W xa (.BoolOp .And [a] pos) S := pw_and1 h
theorem mw_or1 (h : MT X W xa a S) : MW X W xa (.BoolOp .Or [a] pos) S := pw_or1 h
theorem mw_and (ha : MT X W xa a S) (hb : MW X W xa (.BoolOp .And (b :: rest) pos) T) : MW X W xa (.BoolOp .And (a :: b :: rest) pos) (iAnd S T) := by
  refine PW.weak (pw_and ha hb) fun σ H Q h => ?_
  obtain ⟨m, os, rs, ρ, st, P, h⟩ := h
  refine ⟨m, os, rs, ρ, st, P, h.bind.mono fun x m1 st1 H1 g1 R1 h1 x' e => ?_⟩
  subst e
  cases x with
  | true => exact ⟨m1, os, rs, ρ, st1, P.grow g1 R1, h1⟩
  | false => exact h1.ok R1 _ rfl
theorem mw_or (ha : MT X W xa a S) (hb : MW X W xa (.BoolOp .Or (b :: rest) pos) T) : MW X W xa (.BoolOp .Or (a :: b :: rest) pos) (iOr S T) := by
  refine PW.weak (pw_or ha hb) fun σ H Q h => ?_
  obtain ⟨m, os, rs, ρ, st, P, h⟩ := h
  refine ⟨m, os, rs, ρ, st, P, h.bind.mono fun x m1 st1 H1 g1 R1 h1 x' e => ?_⟩
  subst e
  cases x with
  | true => exact h1.ok R1 _ rfl
  | false => exact ⟨m1, os, rs, ρ, st1, P.grow g1 R1, h1⟩
theorem MW.pt (h : MW X W xa e S) : MT X W xa e S := PW.pt h
theorem mt_not (ha : MT X W xa a S) : MT X W xa (.UnaryOp .Not a pos) (iNot S) := by
  refine PT.weak (pt_not ha) fun σ H Q h => ?_
  obtain ⟨m, os, rs, ρ, st, P, h⟩ := h
  refine ⟨m, os, rs, ρ, st, P, h.bind.mono fun x m1 st1 H1 g1 R1 h1 x' e => ?_⟩
  subst e
  exact h1.ok R1 _ rfl
/-- values: bools -/
def iAndV (A B : IE) : IE := fun ρ st => (A ρ st).bind fun x st => (asB x st).bind fun c st => if c = true then B ρ st else .ok (.bl false) st
def iOrV (A B : IE) : IE := fun ρ st => (A ρ st).bind fun x st => (asB x st).bind fun c st => if c = true then .ok (.bl true) st else B ρ st
def iNotV (A : IE) : IE := fun ρ st => (A ρ st).bind fun x st => (asB x st).bind fun c st => .ok (.bl (!c)) st
theorem me_one {op} (h : ME X W xa a A) : ME X W xa (.BoolOp op [a] pos) A := pe_one h
theorem me_and (ha : ME X W xa a A) (hb : ME X W xa (.BoolOp .And (b :: rest) pos) B) : ME X W xa (.BoolOp .And (a :: b :: rest) pos) (iAndV A B) := by
  refine PE.weak (pe_and ha hb) fun σ H Q h => ?_
  obtain ⟨m, os, rs, ρ, st, P, h⟩ := h
  refine ⟨m, os, rs, ρ, st, P, h.bind.mono fun x m1 st1 H1 g1 R1 h1 x' rx => asB_post (Q := fun c H1 => if c = true then teOf (gd X) W xa B σ H1 Q else Q (.bl false) H1) R1 rx (h1.bind.mono fun c m2 st2 H2 g2 R2 h2 c' e => ?_)⟩
  subst e
  cases c with
  | true => exact ⟨m2, os, rs, ρ, st2, (P.grow g1 R1).grow g2 R2, h2⟩
  | false => exact h2.v R2 (by simp only [RV])
theorem me_or (ha : ME X W xa a A) (hb : ME X W xa (.BoolOp .Or (b :: rest) pos) B) : ME X W xa (.BoolOp .Or (a :: b :: rest) pos) (iOrV A B) := by
  refine PE.weak (pe_or ha hb) fun σ H Q h => ?_
  obtain ⟨m, os, rs, ρ, st, P, h⟩ := h
  refine ⟨m, os, rs, ρ, st, P, h.bind.mono fun x m1 st1 H1 g1 R1 h1 x' rx => asB_post (Q := fun c H1 => if c = true then Q (.bl true) H1 else teOf (gd X) W xa B σ H1 Q) R1 rx (h1.bind.mono fun c m2 st2 H2 g2 R2 h2 c' e => ?_)⟩
  subst e
  cases c with
  | true => exact h2.v R2 (by simp only [RV])
  | false => exact ⟨m2, os, rs, ρ, st2, (P.grow g1 R1).grow g2 R2, h2⟩
theorem me_not (ha : ME X W xa a A) : ME X W xa (.UnaryOp .Not a pos) (iNotV A) := by
  refine PE.weak (pe_not ha) fun σ H Q h => ?_
  obtain ⟨m, os, rs, ρ, st, P, h⟩ := h
  refine ⟨m, os, rs, ρ, st, P, h.bind.mono fun x m1 st1 H1 g1 R1 h1 x' rx => asB_post R1 rx (h1.bind.mono fun c m2 st2 H2 g2 R2 h2 c' e => ?_)⟩
  subst e
  exact h2.v R2 (by simp only [RV])
def iNeg (A : IE) : IE := fun ρ st => (A ρ st).bind fun x st => match x with | .int i => .ok (.int (-i)) st | _ => .bad
theorem me_neg (ha : ME X W xa a A) : ME X W xa (.UnaryOp .USub a pos) (iNeg A) := by
  refine PE.weak (pe_un un_neg ha) fun σ H Q h => ?_
  obtain ⟨m, os, rs, ρ, st, P, h⟩ := h
  refine ⟨m, os, rs, ρ, st, P, h.bind.mono fun x m1 st1 H1 g1 R1 h1 x' rx => ?_⟩
  cases x with
  | int i =>
    simp only [RV] at rx
    exact ⟨i, rx, h1.v R1 (by simp only [RV])⟩
  | _ => exact h1.elim
def iIf (S : IT) (A B : IE) : IE := fun ρ st => (S ρ st).bind fun c st => if c = true then A ρ st else B ρ st
theorem me_if (hc : MT X W xa c S) (ha : ME X W xa a A) (hb : ME X W xa b B) : ME X W xa (.IfExp c a b pos) (iIf S A B) := by
  refine PE.weak (pe_ifExp hc ha hb) fun σ H Q h => ?_
  obtain ⟨m, os, rs, ρ, st, P, h⟩ := h
  refine ⟨m, os, rs, ρ, st, P, h.bind.mono fun x m1 st1 H1 g1 R1 h1 x' e => ?_⟩
  subst e
  cases x with
  | true => exact ⟨m1, os, rs, ρ, st1, P.grow g1 R1, h1⟩
  | false => exact ⟨m1, os, rs, ρ, st1, P.grow g1 R1, h1⟩
/-- truth of a value -/
def truI (st : Sto) : IV → Option Bool
  | .non => some false
  | .bl b => some b
  | .int i => some (i != 0)
  | .str x => if x.length ≤ 100000 then some (x.length != 0) else none
  | x => (asS st x).map fun xs => !xs.isEmpty
def iTru (A : IE) : IT := fun ρ st => (A ρ st).bind fun x st => match truI st x with | some b => .ok b st | none => .bad

/-! ### arguments, displays -/
def iNil : IA := fun _ st => .ok [] st
def iCons (A : IE) (As : IA) : IA := fun ρ st => (A ρ st).bind fun x st => (As ρ st).bind fun xs st => .ok (x :: xs) st
theorem ma_nil : MA X W xa [] iNil := by
  refine PA.weak pa_nil fun σ H Q h => ?_
  obtain ⟨m, os, rs, ρ, st, P, h⟩ := h
  exact Pst.ok P.rel h [] (by simp only [RVs])
theorem ma_cons (ha : ME X W xa a A) (hr : MA X W xa es As) (hs : starEach (a :: es) X.env = (false, eval a X.env) :: starEach es X.env := by rfl) : MA X W xa (a :: es) (iCons A As) := by
  refine PA.weak (pa_cons ha hr hs) fun σ H Q h => ?_
  obtain ⟨m, os, rs, ρ, st, P, h⟩ := h
  refine ⟨m, os, rs, ρ, st, P, h.bind.mono fun x m1 st1 H1 g1 R1 h1 x' rx => ⟨m1, os, rs, ρ, st1, P.grow g1 R1, h1.bind.mono fun xs m2 st2 H2 g2 R2 h2 xs' rxs => ?_⟩⟩
  refine h2.ok R2 _ ?_
  simp only [RVs]
  exact ⟨x', xs', rfl, RV.fits g2.fitsE _ _ rx, rxs⟩
def iTup (As : IA) : IE := fun ρ st => (As ρ st).bind fun xs st => if xs.length ≤ 100000 then .ok (.tup xs) st else .bad
def iLst (As : IA) : IE := fun ρ st => (As ρ st).bind fun xs st => if xs.length ≤ 100000 then .ok (.lst xs) st else .bad
/-- a list that will change -/
def iLstS (As : IA) : IE := fun ρ st => (As ρ st).bind fun xs st => if xs.length ≤ 100000 then .ok (.ref st.length) (st ++ [.lst xs]) else .bad
theorem me_tup {k : Nat} (h : MA X W xa es As) : ME X W xa (.Tuple es k pos) (iTup As) := by
  refine PE.weak (pe_tup h) fun σ H Q h => ?_
  obtain ⟨m, os, rs, ρ, st, P, h⟩ := h
  refine ⟨m, os, rs, ρ, st, P, h.bind.mono fun xs m1 st1 H1 g1 R1 h1 xs' rx => ?_⟩
  split at h1
  · rename_i c
    exact ⟨by rw [← rx.length]; exact szl c, fun p hp => h1.newT R1 rx hp⟩
  · exact h1.elim
theorem me_lst (h : MA X W xa es As) : ME X W xa (.List es pos) (iLst As) := by
  refine PE.weak (pe_lst h) fun σ H Q h => ?_
  obtain ⟨m, os, rs, ρ, st, P, h⟩ := h
  refine ⟨m, os, rs, ρ, st, P, h.bind.mono fun xs m1 st1 H1 g1 R1 h1 xs' rx => ?_⟩
  split at h1
  · rename_i c
    exact ⟨by rw [← rx.length]; exact szl c, fun p hp => h1.newL R1 rx hp⟩
  · exact h1.elim
theorem Pst.newS {G : Gd} {m bs : List Addr} {st : Sto} {H : Hp} {W : Value → Option Addr → Hp → Prop} {o : IO} {u : HO} {Q : VK} (R : Rel G m bs st H) {p : Addr} (hp : H p = none)
    (r : ∀ m' st' H', GrowE m st H m' st' H' → H' p = some u → OR G m' bs st' H' o p)
    (h : Pst G m bs st H W (.ok (.ref st.length) (st ++ [o])) (fun v m' st' H' => ∀ u, RV G m' bs st' H' v u → Q u H')) : Q (.ref p) (upd H p u) := by
  refine h (m ++ [p]) _ (grow_live R hp) (R.live hp (r _ _ _ (grow_live R hp) upd_same)) (.ref p) ?_
  simp only [RV]
  exact ⟨p, rfl, by rw [← R.len, List.getElem?_append_right (Nat.le_refl _)]; simp⟩
theorem me_lstS (h : MA X W xa es As) : ME X W xa (.List es pos) (iLstS As) := by
  refine PE.weak (pe_lst h) fun σ H Q h => ?_
  obtain ⟨m, os, rs, ρ, st, P, h⟩ := h
  refine ⟨m, os, rs, ρ, st, P, h.bind.mono fun xs m1 st1 H1 g1 R1 h1 xs' rx => ?_⟩
  split at h1
  · rename_i c
    exact ⟨by rw [← rx.length]; exact szl c, fun p hp => h1.newS (o := .lst xs) R1 hp fun m' st' H' g e => ⟨_, e, RVs.fits g.fitsE _ _ rx⟩⟩
  · exact h1.elim

/-! ### built-ins by their names -/
def CallM (X : Cx) (f : Value) (g : List IV → Sto → R IV) : Prop :=
  ∃ r, CallR X f r ∧ ∀ m bs st H xs xs' (Q : VK) W, Rel (gd X) m bs st H → RVs (gd X) m bs st H xs xs' → Pst (gd X) m bs st H W (g xs st) (fun v m' st' H' => ∀ u, RV (gd X) m' bs st' H' v u → Q u H') → r xs' H Q
def iCallB (g : List IV → Sto → R IV) (As : IA) : IE := fun ρ st => (As ρ st).bind g
theorem me_callB {g : List IV → Sto → R IV} {id : String} {x : Str} {p : Pos} (hc : CallM X (.builtin id) g) (hg : Gl X x) (hm : X.mg x = none) (hv : bootBuiltins x = some (.builtin id)) (ha : MA X W xa (e :: es) As)
    (hn : x ≠ "__name__" := by decide) (hdb : (x == ("__debug__" : Str)) = false := by decide) (he : starEach (e :: es) X.env = (false, eval e X.env) :: starEach es X.env := by rfl) (hpl : (backTo pos (starEach es X.env)).any (·.1) = false := by rfl) :
    ME X W xa (.Call (.Name x p) (e :: es) [] pos) (iCallB g As) := by
  obtain ⟨r, hr, k⟩ := hc
  refine PE.weak (pe_callB hr hg hm hv ha hn hdb he hpl) fun σ H Q h => ?_
  obtain ⟨m, os, rs, ρ, st, P, h⟩ := h
  exact ⟨m, os, rs, ρ, st, P, h.bind.mono fun xs m1 st1 H1 g1 R1 h1 xs' rx => k m1 _ st1 H1 xs xs' Q _ R1 rx h1⟩
theorem me_callTy {g : List IV → Sto → R IV} {T : String} {x : Str} {p : Pos} (hc : CallM X (.type T) g) (hg : Gl X x) (hm : X.mg x = none) (hv : bootBuiltins x = some (.type T)) (ha : MA X W xa (e :: es) As)
    (hn : x ≠ "__name__" := by decide) (hdb : (x == ("__debug__" : Str)) = false := by decide) (he : starEach (e :: es) X.env = (false, eval e X.env) :: starEach es X.env := by rfl) (hpl : (backTo pos (starEach es X.env)).any (·.1) = false := by rfl) :
    ME X W xa (.Call (.Name x p) (e :: es) [] pos) (iCallB g As) := by
  obtain ⟨r, hr, k⟩ := hc
  refine PE.weak (pe_callTy hr hg hm hv ha hn hdb he hpl) fun σ H Q h => ?_
  obtain ⟨m, os, rs, ρ, st, P, h⟩ := h
  exact ⟨m, os, rs, ρ, st, P, h.bind.mono fun xs m1 st1 H1 g1 R1 h1 xs' rx => k m1 _ st1 H1 xs xs' Q _ R1 rx h1⟩
theorem rvs1 {G : Gd} {m bs : List Addr} {st : Sto} {H : Hp} {x : IV} {vs : List V} (r : RVs G m bs st H [x] vs) : ∃ v, vs = [v] ∧ RV G m bs st H x v := by
  simp only [RVs] at r
  obtain ⟨v, t, e, h, e2⟩ := r
  subst e2
  exact ⟨v, e, h⟩
theorem rvs2 {G : Gd} {m bs : List Addr} {st : Sto} {H : Hp} {x y : IV} {vs : List V} (r : RVs G m bs st H [x, y] vs) : ∃ v w, vs = [v, w] ∧ RV G m bs st H x v ∧ RV G m bs st H y w := by
  simp only [RVs] at r
  obtain ⟨v, t, e, h, w, t2, e2, h2, e3⟩ := r
  subst e3 e2
  exact ⟨v, w, e, h, h2⟩
def gAbs : List IV → Sto → R IV
  | [.int i], st => .ok (.int i.natAbs) st
  | _, _ => .bad
theorem cm_abs : CallM X (.builtin "abs") gAbs := by
  refine ⟨_, call_abs, fun m bs st H xs xs' Q W R rx h => ?_⟩
  unfold gAbs at h
  split at h
  · rename_i i
    obtain ⟨v, e, r⟩ := rvs1 rx
    simp only [RV] at r
    subst r
    refine ⟨i, e, ?_⟩
    have e : (if i < 0 then -i else i) = (i.natAbs : Int) := by split <;> omega
    rw [e]
    exact h.v R (by simp only [RV])
  · exact h.elim
def gMax : List IV → Sto → R IV
  | [.int i, .int j], st => .ok (.int (max i j)) st
  | _, _ => .bad
def gMin : List IV → Sto → R IV
  | [.int i, .int j], st => .ok (.int (min i j)) st
  | _, _ => .bad
theorem cm_max (hc : X.calm = true) : CallM X (.builtin "max") gMax := by
  refine ⟨_, call_max2 hc, fun m bs st H xs xs' Q W R rx h => ?_⟩
  unfold gMax at h
  split at h
  · rename_i i j
    obtain ⟨v, w, e, r1, r2⟩ := rvs2 rx
    simp only [RV] at r1 r2
    subst r1 r2
    refine ⟨i, j, e, ?_⟩
    have e : (if j > i then j else i) = max i j := by split <;> omega
    rw [e]
    exact h.v R (by simp only [RV])
  · exact h.elim
theorem cm_min (hc : X.calm = true) : CallM X (.builtin "min") gMin := by
  refine ⟨_, call_min2 hc, fun m bs st H xs xs' Q W R rx h => ?_⟩
  unfold gMin at h
  split at h
  · rename_i i j
    obtain ⟨v, w, e, r1, r2⟩ := rvs2 rx
    simp only [RV] at r1 r2
    subst r1 r2
    refine ⟨i, j, e, ?_⟩
    have e : (if j < i then j else i) = min i j := by split <;> omega
    rw [e]
    exact h.v R (by simp only [RV])
  · exact h.elim
def gInt : List IV → Sto → R IV
  | [.int i], st => .ok (.int i) st
  | [.bl b], st => .ok (.int (if b then 1 else 0)) st
  | _, _ => .bad
theorem cm_int : CallM X (.type "int") gInt := by
  refine ⟨_, call_int1, fun m bs st H xs xs' Q W R rx h => ?_⟩
  unfold gInt at h
  split at h
  · obtain ⟨v, e, r⟩ := rvs1 rx
    simp only [RV] at r
    subst r
    exact .inl ⟨_, e, h.v R (by simp only [RV])⟩
  · obtain ⟨v, e, r⟩ := rvs1 rx
    simp only [RV] at r
    subst r
    exact .inr ⟨_, e, h.v R (by simp only [RV])⟩
  · exact h.elim
/-- str of an int of at most 560 digits, of a text -/
def gStr : List IV → Sto → R IV
  | [.int i], st => if i.natAbs ≤ 10000000000000000000000000000000000000000000000000000000000000000 then .ok (.str (toString i : String)) st else .bad
  | [.str x], st => .ok (.str x) st
  | _, _ => .bad
theorem log2_str {i : Int} (h : i.natAbs ≤ 10000000000000000000000000000000000000000000000000000000000000000) : i.natAbs.log2 < 1920 := by
  have h2 : i.natAbs < 2 ^ 250 := Nat.lt_of_le_of_lt h (by decide +kernel)
  exact Nat.lt_of_lt_of_le (PySem.Flt.log2_lt_of (by decide) h2) (by decide)
def gLen : List IV → Sto → R IV
  | [.str x], st => if x.length ≤ 100000 then .ok (.int x.length) st else .bad
  | [x], st => match asS st x with
    | some xs => .ok (.int xs.length) st
    | none => .bad
  | _, _ => .bad
theorem cm_len : CallM X (.builtin "len") gLen := by
  refine ⟨_, call_len_str.or call_len_seq, fun m bs st H xs xs' Q W R rx h => ?_⟩
  unfold gLen at h
  split at h
  · obtain ⟨v, e, r⟩ := rvs1 rx
    simp only [RV] at r
    subst r
    split at h
    · rename_i c
      exact .inl ⟨_, e, szl c, h.v R (by simp only [RV])⟩
    · exact h.elim
  · split at h
    · rename_i ys hy
      obtain ⟨v, e, r⟩ := rvs1 rx
      obtain ⟨a, vs, ea, hs, r2⟩ := asS_sq R hy r
      subst ea
      refine .inr ⟨a, vs, e, hs, ?_⟩
      rw [← r2.length]
      exact h.v R (by simp only [RV])
    · exact h.elim
  · exact h.elim
def gList : List IV → Sto → R IV
  | [x], st => match asS st x with
    | some xs => .ok (.lst xs) st
    | none => .bad
  | _, _ => .bad
def gListS : List IV → Sto → R IV
  | [x], st => match asS st x with
    | some xs => .ok (.ref st.length) (st ++ [.lst xs])
    | none => .bad
  | _, _ => .bad
theorem cm_list : CallM X (.type "list") gList := by
  refine ⟨_, call_list_of, fun m bs st H xs xs' Q W R rx h => ?_⟩
  unfold gList at h
  split at h
  · split at h
    · rename_i ys hy
      obtain ⟨v, e, r⟩ := rvs1 rx
      obtain ⟨a, vs, ea, hs, r2⟩ := asS_sq R hy r
      subst ea
      exact ⟨a, vs, e, hs, fun l hl => h.newL R r2 hl⟩
    · exact h.elim
  · exact h.elim
theorem cm_listS : CallM X (.type "list") gListS := by
  refine ⟨_, call_list_of, fun m bs st H xs xs' Q W R rx h => ?_⟩
  unfold gListS at h
  split at h
  · split at h
    · rename_i ys hy
      obtain ⟨v, e, r⟩ := rvs1 rx
      obtain ⟨a, vs, ea, hs, r2⟩ := asS_sq R hy r
      subst ea
      exact ⟨a, vs, e, hs, fun l hl => h.newS (o := .lst ys) R hl fun m' st' H' g e => ⟨_, e, RVs.fits g.fitsE _ _ r2⟩⟩
    · exact h.elim
  · exact h.elim
def gTuple : List IV → Sto → R IV
  | [x], st => match asS st x with
    | some xs => .ok (.tup xs) st
    | none => .bad
  | _, _ => .bad
theorem cm_tuple : CallM X (.type "tuple") gTuple := by
  refine ⟨_, call_tuple_of, fun m bs st H xs xs' Q W R rx h => ?_⟩
  unfold gTuple at h
  split at h
  · rename_i x
    split at h
    · rename_i ys hy
      obtain ⟨v, e, r⟩ := rvs1 rx
      cases x with
      | tup zs =>
        cases hy
        obtain ⟨a, vs, ea, hs, r'⟩ := asT_sq (x := .tup ys) rfl r
        subst ea
        exact ⟨a, vs, e, .inr ⟨hs, h.v R r⟩⟩
      | lst zs =>
        obtain ⟨a, vs, ea, hs, r'⟩ := asL_sq (x := .lst zs) R hy r
        subst ea
        exact ⟨a, vs, e, .inl ⟨hs, fun l hl => h.newT R r' hl⟩⟩
      | ref l =>
        obtain ⟨a, vs, ea, hs, r'⟩ := asL_sq (x := .ref l) R hy r
        subst ea
        exact ⟨a, vs, e, .inl ⟨hs, fun l hl => h.newT R r' hl⟩⟩
      | _ => cases hy
    · exact h.elim
  · exact h.elim
def blsOf : List IV → Option (List Bool)
  | [] => some []
  | .bl b :: r => (blsOf r).map fun t => b :: t
  | _ => none
theorem blsOf_vs {G : Gd} {m bs : List Addr} {st : Sto} {H : Hp} : ∀ {xs : List IV} {vs : List V} {ks : List Bool}, blsOf xs = some ks → RVs G m bs st H xs vs → vs = ks.map V.bl
  | [], vs, ks, e, r => by cases e; simp only [RVs] at r; exact r
  | .bl b :: xs, vs, ks, e, r => by
    simp only [blsOf, Option.map_eq_some_iff] at e
    obtain ⟨t, e1, e2⟩ := e
    subst e2
    simp only [RVs, RV] at r
    obtain ⟨v, w, e3, e4, r⟩ := r
    rw [e3, e4, blsOf_vs e1 r]; rfl
def gAll : List IV → Sto → R IV
  | [x], st => match (asL st x).bind blsOf with
    | some ks => .ok (.bl (ks.all id)) st
    | none => .bad
  | _, _ => .bad
def gAny : List IV → Sto → R IV
  | [x], st => match (asL st x).bind blsOf with
    | some ks => .ok (.bl (ks.any id)) st
    | none => .bad
  | _, _ => .bad
theorem cm_all (hc : X.calm = true) : CallM X (.builtin "all") gAll := by
  refine ⟨_, cr_all hc, fun m bs st H xs xs' Q W R rx h => ?_⟩
  unfold gAll at h
  split at h
  · split at h
    · rename_i ks hk
      simp only [Option.bind_eq_some_iff] at hk
      obtain ⟨ys, h1, h2⟩ := hk
      obtain ⟨v, e, r⟩ := rvs1 rx
      obtain ⟨a, vs, ea, hs, r2⟩ := asL_sq R h1 r
      subst ea
      exact ⟨a, ks, e, by rw [← blsOf_vs h2 r2]; exact hs, h.v R (by simp only [RV])⟩
    · exact h.elim
  · exact h.elim
theorem cm_any (hc : X.calm = true) : CallM X (.builtin "any") gAny := by
  refine ⟨_, cr_any hc, fun m bs st H xs xs' Q W R rx h => ?_⟩
  unfold gAny at h
  split at h
  · split at h
    · rename_i ks hk
      simp only [Option.bind_eq_some_iff] at hk
      obtain ⟨ys, h1, h2⟩ := hk
      obtain ⟨v, e, r⟩ := rvs1 rx
      obtain ⟨a, vs, ea, hs, r2⟩ := asL_sq R h1 r
      subst ea
      exact ⟨a, ks, e, by rw [← blsOf_vs h2 r2]; exact hs, h.v R (by simp only [RV])⟩
    · exact h.elim
  · exact h.elim
theorem cm_str : CallM X (.type "str") gStr := by
  refine ⟨_, call_str_int.or SkE.call_str_str, fun m bs st H xs xs' Q W R rx h => ?_⟩
  unfold gStr at h
  split at h
  · obtain ⟨v, e, r⟩ := rvs1 rx
    simp only [RV] at r
    subst r
    split at h
    · rename_i c
      exact .inl ⟨_, e, log2_str c, h.v R (by simp only [RV])⟩
    · exact h.elim
  · obtain ⟨v, e, r⟩ := rvs1 rx
    simp only [RV] at r
    subst r
    exact .inr ⟨_, e, h.v R (by simp only [RV])⟩
  · exact h.elim

/-! ### items, slices -/
def gIx : IV → IV → Sto → R IV
  | x, .int i, st => match x with
    | .str z => if z.length ≤ 100000 then (match atI z.cps.toList i with | some c => .ok (.str ⟨#[c]⟩) st | none => .bad) else .bad
    | x => match asS st x with
      | some xs => (match atI xs i with | some v => .ok v st | none => .bad)
      | none => .bad
  | _, _, _ => .bad
theorem atI_rel {G : Gd} {m bs : List Addr} {st : Sto} {H : Hp} {xs : List IV} {vs : List V} {i : Int} {x : IV} (r : RVs G m bs st H xs vs) (e : atI xs i = some x) : ∃ v, atI vs i = some v ∧ RV G m bs st H x v := by
  unfold atI at e ⊢
  rw [← r.length]
  cases hn : ixN xs.length i with
  | none => rw [hn] at e; cases e
  | some j =>
    rw [hn] at e
    exact r.get e
def iIx (A B : IE) : IE := fun ρ st => (A ρ st).bind fun x st => (B ρ st).bind fun y st => gIx x y st
theorem me_ix (ha : ME X W xa a A) (hb : ME X W xa b B) (hs : PlainIx b := by exact fun _ _ => rfl) : ME X W xa (.Subscript a b pos) (iIx A B) := by
  refine PE.weak (pe_ix ix_seq ha hb hs) fun σ H Q h => ?_
  obtain ⟨m, os, rs, ρ, st, P, h⟩ := h
  refine ⟨m, os, rs, ρ, st, P, h.bind.mono fun x m1 st1 H1 g1 R1 h1 x' rx => ⟨m1, os, rs, ρ, st1, P.grow g1 R1, h1.bind.mono fun y m2 st2 H2 g2 R2 h2 y' ry => ?_⟩⟩
  have rx := RV.fits g2.fitsE _ _ rx
  unfold gIx at h2
  split at h2
  · simp only [RV] at ry
    split at h2
    · simp only [RV] at rx
      split at h2
      · rename_i c
        split at h2
        · rename_i k hk
          exact .inr (.inr ⟨_, _, k, rx, ry, szl c, hk, h2.v R2 (by simp only [RV])⟩)
        · exact h2.elim
      · exact h2.elim
    · split at h2
      · rename_i xs hx
        split at h2
        · rename_i v hv
          obtain ⟨p, vs, ep, hs, r⟩ := asS_sq R2 hx rx
          obtain ⟨w, e1, e2⟩ := atI_rel r hv
          rcases hs with hs | hs
          · exact .inl ⟨p, vs, _, w, ep, ry, hs, e1, h2.v R2 e2⟩
          · exact .inr (.inl ⟨p, vs, _, w, ep, ry, hs, e1, h2.v R2 e2⟩)
        · exact h2.elim
      · exact h2.elim
  · exact h2.elim
abbrev IO' := Slots → Sto → R (Option Int)
def iNoPart : IO' := fun _ st => .ok none st
def iPart (A : IE) : IO' := fun ρ st => (A ρ st).bind fun x st => match x with | .int i => .ok (some i) st | _ => .bad
abbrev MO (X : Cx) (W : WX) (xa : Xa) (e : Option Expr) (A : IO') : Prop := PO X e (rd (fun _ _ _ _ a b => a = b) (gd X) W xa A)
theorem PO.weak {X : Cx} {e : Option Expr} {t t' : TO} (h : PO X e t) (k : ∀ σ H Q, t' σ H Q → t σ H Q) : PO X e t' := ⟨fun pins s σ H Q I q => h.run pins s σ H Q I (k σ H Q q)⟩
theorem mo_none : MO X W xa none iNoPart := by
  refine PO.weak po_none fun σ H Q h => ?_
  obtain ⟨m, os, rs, ρ, st, P, h⟩ := h
  exact Pst.ok P.rel h _ rfl
theorem mo_some (ha : ME X W xa a A) : MO X W xa (some a) (iPart A) := by
  refine PO.weak (po_some ha) fun σ H Q h => ?_
  obtain ⟨m, os, rs, ρ, st, P, h⟩ := h
  refine ⟨m, os, rs, ρ, st, P, h.bind.mono fun x m1 st1 H1 g1 R1 h1 x' rx => ?_⟩
  cases x with
  | int i =>
    simp only [RV] at rx
    exact ⟨i, rx, h1.ok R1 _ rfl⟩
  | _ => exact h1.elim
def cutI {α : Type} (xs : List α) (lo hi : Option Int) : List α := (xs.drop (HT.sIx xs.length 0 lo)).take (HT.sIx xs.length xs.length hi - HT.sIx xs.length 0 lo)
theorem cutI_rel {G : Gd} {m bs : List Addr} {st : Sto} {H : Hp} {xs : List IV} {vs : List V} (r : RVs G m bs st H xs vs) (lo hi : Option Int) : RVs G m bs st H (cutI xs lo hi) (cutV vs lo hi) := by
  unfold cutI cutV
  rw [← r.length]
  exact (r.drop _).take _
def gCut : IV → Option Int → Option Int → Sto → R IV
  | .str z, lo, hi, st => if z.length ≤ 100000 then .ok (.str (cutS z lo hi)) st else .bad
  | .tup xs, lo, hi, st => .ok (.tup (cutI xs lo hi)) st
  | x, lo, hi, st => match asL st x with
    | some xs => .ok (.lst (cutI xs lo hi)) st
    | none => .bad
def iCut (A : IE) (L U : IO') : IE := fun ρ st => (A ρ st).bind fun x st => (L ρ st).bind fun lo st => (U ρ st).bind fun hi st => gCut x lo hi st
theorem me_cut {lo hi : Option Expr} {L U : IO'} {p2 : Pos} (ha : ME X W xa a A) (hl : MO X W xa lo L) (hh : MO X W xa hi U) : ME X W xa (.Subscript a (.Slice lo hi none p2) pos) (iCut A L U) := by
  refine PE.weak (pe_slice (sl_str.or (sl_tupA.or sl_list)) ha hl hh) fun σ H Q h => ?_
  obtain ⟨m, os, rs, ρ, st, P, h⟩ := h
  refine ⟨m, os, rs, ρ, st, P, h.bind.mono fun x m1 st1 H1 g1 R1 h1 x' rx => ⟨m1, os, rs, ρ, st1, P.grow g1 R1, h1.bind.mono fun l m2 st2 H2 g2 R2 h2 l' el =>
    ⟨m2, os, rs, ρ, st2, (P.grow g1 R1).grow g2 R2, h2.bind.mono fun u m3 st3 H3 g3 R3 h3 u' eu => ?_⟩⟩⟩
  subst el eu
  have rx := RV.fits (g2.trans g3).fitsE _ _ rx
  have fin : ∀ {xs : List IV}, asL st3 x = some xs → Pst (gd X) m3 (os ++ rs) st3 H3 (fun cls d H' => W cls d σ H') (.ok (.lst (cutI xs l u)) st3) (fun v m' st' H' => ∀ u, RV (gd X) m' (os ++ rs) st' H' v u → Q u H') → rSlL X.K x' l u H3 Q := fun {xs} hx h3 => by
    obtain ⟨p, vs, ep, hs, r⟩ := asL_sq R3 hx rx
    exact ⟨p, vs, ep, hs, fun p hp => h3.newL R3 (cutI_rel r _ _) hp⟩
  cases x with
  | str z =>
    simp only [gCut] at h3
    simp only [RV] at rx
    split at h3
    · rename_i c
      exact .inl ⟨_, rx, szl c, h3.v R3 (by simp only [RV])⟩
    · exact h3.elim
  | tup xs =>
    simp only [gCut] at h3
    obtain ⟨p, vs, ep, hs, r⟩ := asT_sq (x := .tup xs) rfl rx
    refine .inr (.inl ⟨p, vs, ep, hs, fun z => ?_, fun z p hp => h3.newT R3 (cutI_rel r _ _) hp⟩)
    have e : cutI xs l u = xs := by
      unfold cutI
      rw [r.length, z.1, z.2, List.drop_zero, Nat.sub_zero, ← r.length, List.take_length]
    rw [e] at h3
    rw [← ep]
    exact h3.v R3 rx
  | lst ys => exact .inr (.inr (fin rfl h3))
  | ref n =>
    simp only [gCut] at h3
    split at h3
    · rename_i xs hx
      exact .inr (.inr (fin hx h3))
    · exact h3.elim
  | _ => exact h3.elim
end
end Mi
set_option Elab.async false
set_option linter.all false
set_option maxRecDepth 100000
set_option maxHeartbeats 4000000
namespace Mi
open PySem PySem.Spec PyProof.Rows L2

def RS.ofR {α : Type} (r : R α) (ρ : Slots) (k : α → Sto → RS) : RS := match r with
  | .ok a st => k a st
  | .exc c fs st => .exc c fs ρ st
  | .bad => .bad
def RS.seq (r : RS) (B : IS) : RS := match r with
  | .nx ρ st => B ρ st
  | r => r
def PstS (G : Gd) (xa : Xa) (m os rs : List Addr) (st : Sto) (H : Hp) (W : WX) (D : Ends) (r : RS) : Prop := match r with
  | .nx ρ' st' => ∀ m' os' H' σ', Grow m st os H m' st' os' H' → Pre G xa σ' H' m' os' rs ρ' st' → D.nx σ' H'
  | .bk ρ' st' => ∀ m' os' H' σ', Grow m st os H m' st' os' H' → Pre G xa σ' H' m' os' rs ρ' st' → D.bk σ' H'
  | .ct ρ' st' => ∀ m' os' H' σ', Grow m st os H m' st' os' H' → Pre G xa σ' H' m' os' rs ρ' st' → D.ct σ' H'
  | .rt v st' => ∀ m' os' H' u, Grow m st os H m' st' os' H' → Rel G m' (os' ++ rs) st' H' → RV G m' (os' ++ rs) st' H' v u → D.rt u H'
  | .exc c fs ρ' st' => ∀ m' os' H' σ' cls d, Grow m st os H m' st' os' H' → Pre G xa σ' H' m' os' rs ρ' st' → XR G m' (os' ++ rs) st' H' c fs cls d → W cls d σ' H'
  | .bad => False
def tsOf (G : Gd) (W : WX) (xa : Xa) (A : IS) : TS := fun D σ H => ∃ m os rs ρ st, Pre G xa σ H m os rs ρ st ∧ PstS G xa m os rs st H W D (A ρ st)
abbrev MS (X : Cx) (W : WX) (xa : Xa) (s : Stmt) (A : IS) : Prop := PS X s (tsOf (gd X) W xa A)
abbrev MSs (X : Cx) (W : WX) (xa : Xa) (s : List Stmt) (A : IS) : Prop := PSs X s (tsOf (gd X) W xa A)

section
variable {G : Gd} {xa : Xa} {m os rs bs : List Addr} {st : Sto} {H : Hp} {W W' : WX} {D D' : Ends} {σ : L2.St} {ρ : Slots} {α : Type}
theorem PstS.shift {r : RS} {m1 os1 : List Addr} {st1 : Sto} {H1 : Hp} (g : Grow m st os H m1 st1 os1 H1) (h : PstS G xa m os rs st H W D r) : PstS G xa m1 os1 rs st1 H1 W D r := by
  cases r with
  | nx ρ' st' => exact fun m' os' H' σ' g' P => h m' os' H' σ' (g.trans g') P
  | bk ρ' st' => exact fun m' os' H' σ' g' P => h m' os' H' σ' (g.trans g') P
  | ct ρ' st' => exact fun m' os' H' σ' g' P => h m' os' H' σ' (g.trans g') P
  | rt v st' => exact fun m' os' H' u g' R r => h m' os' H' u (g.trans g') R r
  | exc c fs ρ' st' => exact fun m' os' H' σ' cls d g' P x => h m' os' H' σ' cls d (g.trans g') P x
  | bad => exact h
theorem PstS.mono {r : RS} (h : PstS G xa m os rs st H W D r) (hn : ∀ σ H, D.nx σ H → D'.nx σ H) (hr : ∀ v H, D.rt v H → D'.rt v H) (hb : ∀ σ H, D.bk σ H → D'.bk σ H) (hc : ∀ σ H, D.ct σ H → D'.ct σ H) : PstS G xa m os rs st H W D' r := by
  cases r with
  | nx ρ' st' => exact fun m' os' H' σ' g' P => hn _ _ (h m' os' H' σ' g' P)
  | bk ρ' st' => exact fun m' os' H' σ' g' P => hb _ _ (h m' os' H' σ' g' P)
  | ct ρ' st' => exact fun m' os' H' σ' g' P => hc _ _ (h m' os' H' σ' g' P)
  | rt v st' => exact fun m' os' H' u g' R r => hr _ _ (h m' os' H' u g' R r)
  | exc c fs ρ' st' => exact h
  | bad => exact h
theorem PstS.ofR {r : R α} {k : α → Sto → RS} (P : Pre G xa σ H m os rs ρ st) (h : PstS G xa m os rs st H W D (RS.ofR r ρ k)) :
    Pst G m (os ++ rs) st H (fun cls d H' => W cls d σ H') r (fun a m1 st1 H1 => PstS G xa m1 os rs st1 H1 W D (k a st1)) := by
  cases r with
  | ok a st' =>
    have h' : PstS G xa m os rs st H W D (k a st') := h
    exact fun m' H' g R => h'.shift (.ofE g)
  | exc c fs st' => exact fun m' H' cls d g R x => h m' os H' σ cls d (.ofE g) (P.grow g R) x
  | bad => exact h
theorem PstS.here {ρ' : Slots} {σ' : L2.St} (h : PstS G xa m os rs st H W D (.nx ρ' st)) (P : Pre G xa σ' H m os rs ρ' st) : D.nx σ' H := h m os H σ' .refl P

theorem Pre.set {x : IV} {v : V} {i : Nat} (P : Pre G xa σ H m os rs ρ st) (r : RV G m (os ++ rs) st H x v) : Pre G xa (σ.set i (some v)) H m os rs (ρ.set i (some (.v x))) st := by
  refine ⟨P.rel, by simp [P.re.len], fun j y e => ?_, fun j xs e => ?_, fun j k xs ys w e1 e2 e3 e4 => ?_⟩
  · by_cases hj : i = j
    · subst hj
      have hl : i < ρ.length := by
        have := (List.getElem?_eq_some_iff.mp e).1
        simpa using this
      rw [List.getElem?_set_self hl] at e
      cases e
      exact ⟨v, by rw [List.getElem?_set_self (by rw [← P.re.len]; exact hl)], r⟩
    · rw [List.getElem?_set_ne hj] at e
      obtain ⟨w, e1, r1⟩ := P.re.at_ j y e
      exact ⟨w, by rw [List.getElem?_set_ne hj]; exact e1, r1⟩
  · by_cases hj : i = j
    · subst hj
      have hl : i < ρ.length := by
        have := (List.getElem?_eq_some_iff.mp e).1
        simpa using this
      rw [List.getElem?_set_self hl] at e
      cases e
    · rw [List.getElem?_set_ne hj] at e
      obtain ⟨a, e1, r1⟩ := P.re.own j xs e
      exact ⟨a, by rw [List.getElem?_set_ne hj]; exact e1, r1⟩
  · have key : ∀ {j : Nat} {xs : List IV}, (ρ.set i (some (.v x)))[j]? = some (some (.own xs)) → i ≠ j := fun {j xs} e hj => by
      subst hj
      have hl : i < ρ.length := by
        have := (List.getElem?_eq_some_iff.mp e).1
        simpa using this
      rw [List.getElem?_set_self hl] at e
      cases e
    have n1 := key e1
    have n2 := key e2
    rw [List.getElem?_set_ne n1] at e1 e3
    rw [List.getElem?_set_ne n2] at e2 e4
    exact P.re.uniq j k xs ys w e1 e2 e3 e4
theorem Pre.setN {i : Nat} (P : Pre G xa σ H m os rs ρ st) {w : Option V} : Pre G xa (σ.set i w) H m os rs (ρ.set i none) st := by
  have key : ∀ {j : Nat} {y : SV}, (ρ.set i none)[j]? = some (some y) → i ≠ j := fun {j y} e hj => by
    subst hj
    have hl : i < ρ.length := by
      have := (List.getElem?_eq_some_iff.mp e).1
      simpa using this
    rw [List.getElem?_set_self hl] at e
    cases e
  refine ⟨P.rel, by simp [P.re.len], fun j y e => ?_, fun j xs e => ?_, fun j k xs ys w e1 e2 e3 e4 => ?_⟩
  · have hj := key e
    rw [List.getElem?_set_ne hj] at e
    obtain ⟨w, e1, r1⟩ := P.re.at_ j y e
    exact ⟨w, by rw [List.getElem?_set_ne hj]; exact e1, r1⟩
  · have hj := key e
    rw [List.getElem?_set_ne hj] at e
    obtain ⟨a, e1, r1⟩ := P.re.own j xs e
    exact ⟨a, by rw [List.getElem?_set_ne hj]; exact e1, r1⟩
  · have n1 := key e1
    have n2 := key e2
    rw [List.getElem?_set_ne n1] at e1 e3
    rw [List.getElem?_set_ne n2] at e2 e4
    exact P.re.uniq j k xs ys _ e1 e2 e3 e4
end

section
variable {X : Cx} {W : WX} {xa : Xa} {a b c e : Expr} {A B C : IE} {S T : IT} {pos : Pos} {es rest : List Expr} {As : IA} {s : Stmt} {ss us : List Stmt} {I J : IS}

/-! ### blocks -/
def iSkip : IS := fun ρ st => .nx ρ st
def iSeq (I J : IS) : IS := fun ρ st => (I ρ st).seq J
theorem mss_nil : MSs X W xa [] iSkip := by
  refine PSs.weak pss_nil fun D σ H h => ?_
  obtain ⟨m, os, rs, ρ, st, P, h⟩ := h
  exact h.here P
theorem seq_weak {D : Ends} {σ : L2.St} {H : Hp} (h : tsOf (gd X) W xa (iSeq I J) D σ H) : tsOf (gd X) W xa I { D with nx := tsOf (gd X) W xa J D } σ H := by
  obtain ⟨m, os, rs, ρ, st, P, h⟩ := h
  refine ⟨m, os, rs, ρ, st, P, ?_⟩
  unfold iSeq RS.seq at h
  cases r : I ρ st with
  | nx ρ' st' =>
    rw [r] at h
    exact fun m' os' H' σ' g P' => ⟨m', os', rs, ρ', st', P', PstS.shift g h⟩
  | bk ρ' st' => rw [r] at h; exact h
  | ct ρ' st' => rw [r] at h; exact h
  | rt v st' => rw [r] at h; exact h
  | exc c fs ρ' st' => rw [r] at h; exact h
  | bad => rw [r] at h; exact h
theorem mss_cons (h1 : MS X W xa s I) (h2 : MSs X W xa ss J) : MSs X W xa (s :: ss) (iSeq I J) := PSs.weak (pss_cons h1 h2) fun D σ H h => seq_weak h
theorem mss_one (h1 : MS X W xa s I) : MSs X W xa [s] I := pss_one h1
theorem ms_pass : MS X W xa (.Pass pos) iSkip := by
  refine PS.weak ps_pass fun D σ H h => ?_
  obtain ⟨m, os, rs, ρ, st, P, h⟩ := h
  exact h.here P
def iBreak : IS := fun ρ st => .bk ρ st
def iCont : IS := fun ρ st => .ct ρ st
theorem ms_break : MS X W xa (.Break pos) iBreak := by
  refine PS.weak ps_break fun D σ H h => ?_
  obtain ⟨m, os, rs, ρ, st, P, h⟩ := h
  exact h m os H σ .refl P
theorem ms_continue : MS X W xa (.Continue pos) iCont := by
  refine PS.weak ps_continue fun D σ H h => ?_
  obtain ⟨m, os, rs, ρ, st, P, h⟩ := h
  exact h m os H σ .refl P
def iDrop (A : IE) : IS := fun ρ st => RS.ofR (A ρ st) ρ fun _ st => .nx ρ st
theorem ms_expr (ha : ME X W xa a A) (hs : swapsWith a none pos.line X.env = pure false := by rfl) : MS X W xa (.Expr a pos) (iDrop A) := by
  refine PS.weak (ps_expr ha hs) fun D σ H h => ?_
  obtain ⟨m, os, rs, ρ, st, P, h⟩ := h
  exact ⟨m, os, rs, ρ, st, P, (h.ofR P).mono fun v m1 st1 H1 g1 R1 h1 u ru => h1.here (P.grow g1 R1)⟩
def iRet (A : IE) : IS := fun ρ st => RS.ofR (A ρ st) ρ fun v st => .rt v st
theorem ms_ret (ha : ME X W xa a A) : MS X W xa (.Return (some a) pos) (iRet A) := by
  refine PS.weak (ps_ret ha) fun D σ H h => ?_
  obtain ⟨m, os, rs, ρ, st, P, h⟩ := h
  exact ⟨m, os, rs, ρ, st, P, (h.ofR P).mono fun v m1 st1 H1 g1 R1 h1 u ru => h1 m1 os H1 u .refl R1 ru⟩
def iRetN : IS := fun _ st => .rt .non st
theorem ms_retN : MS X W xa (.Return none pos) iRetN := by
  refine PS.weak ps_retN fun D σ H h => ?_
  obtain ⟨m, os, rs, ρ, st, P, h⟩ := h
  exact h m os H .non .refl P.rel (by simp only [RV])
def iIfS (S : IT) (I J : IS) : IS := fun ρ st => RS.ofR (S ρ st) ρ fun b st => if b = true then I ρ st else J ρ st
theorem ms_if (hc : MT X W xa c S) (h1 : MSs X W xa ss I) (h2 : MSs X W xa us J) : MS X W xa (.If c ss us pos) (iIfS S I J) := by
  refine PS.weak (ps_if hc h1 h2) fun D σ H h => ?_
  obtain ⟨m, os, rs, ρ, st, P, h⟩ := h
  refine ⟨m, os, rs, ρ, st, P, (h.ofR P).mono fun b m1 st1 H1 g1 R1 h1 b' e => ?_⟩
  subst e
  cases b with
  | true => exact ⟨m1, os, rs, ρ, st1, P.grow g1 R1, h1⟩
  | false => exact ⟨m1, os, rs, ρ, st1, P.grow g1 R1, h1⟩
def iSet (i : Nat) (A : IE) : IS := fun ρ st => RS.ofR (A ρ st) ρ fun v st => .nx (ρ.set i (some (.v v))) st
theorem set_weak {i : Nat} {D : Ends} {σ : L2.St} {H : Hp} (h : tsOf (gd X) W xa (iSet i A) D σ H) : tAsg (teOf (gd X) W xa A) (gName i) D σ H := by
  obtain ⟨m, os, rs, ρ, st, P, h⟩ := h
  exact ⟨m, os, rs, ρ, st, P, (h.ofR P).mono fun v m1 st1 H1 g1 R1 h1 u ru => h1.here ((P.grow g1 R1).set ru)⟩
theorem ms_set {i : Nat} {x : Str} {pos' : Pos} (hN : X.N.Nodup) (hi : X.N[i]? = some x) (hx : Loc X.env.scope x) (ha : ME X W xa a A) (hs : swapsWith a (some (.Name x pos')) pos.line X.env = pure false := by rfl)
    (hf : X.fn x = true ∨ X.env.scope.names.lookup x = some .local := by first | exact .inl rfl | exact .inr rfl | assumption) : MS X W xa (.Assign [.Name x pos'] a pos) (iSet i A) :=
  PS.weak (ps_set hN hi hx ha hs hf) fun D σ H h => set_weak h
/-- name op= e, ints and texts -/
def iAug (g : IV → IV → Sto → R IV) (i : Nat) (A : IE) : IS := fun ρ st => match ρ[i]? with
  | some (some (.v x)) => RS.ofR ((A ρ st).bind fun y st => g x y st) ρ fun v st => .nx (ρ.set i (some (.v v))) st
  | _ => .bad
def IpM (X : Cx) (op : Operator) (g : IV → IV → Sto → R IV) : Prop :=
  ∃ r, PIp X op r ∧ ∀ m bs st H x y x' y' (Q : VK) W, Rel (gd X) m bs st H → RV (gd X) m bs st H x x' → RV (gd X) m bs st H y y' →
    Pst (gd X) m bs st H W (g x y st) (fun v m' st' H' => ∀ u, RV (gd X) m' bs st' H' v u → Q u H') → r x' y' H Q
theorem ms_aug {op : Operator} {g : IV → IV → Sto → R IV} {i : Nat} {x : Str} {pos' : Pos} (hN : X.N.Nodup) (hi : X.N[i]? = some x) (hx : Loc X.env.scope x) (ha : ME X W xa a A) (ho : IpM X op g)
    (hf : X.fn x = true ∨ X.env.scope.names.lookup x = some .local := by first | exact .inl rfl | exact .inr rfl | assumption) : MS X W xa (.AugAssign (.Name x pos') op a pos) (iAug g i A) := by
  obtain ⟨r, hr, k⟩ := ho
  refine PS.weak (ps_aug hN hi hx ha hr hf) fun D σ H h => ?_
  obtain ⟨m, os, rs, ρ, st, P, h⟩ := h
  unfold iAug at h
  split at h
  · rename_i x e
    obtain ⟨v, e1, r1⟩ := P.re.at_ _ _ e
    exact ⟨v, e1, m, os, rs, ρ, st, P, (h.ofR P).bind.mono fun y m1 st1 H1 g1 R1 h1 u ru => k m1 _ st1 H1 x y v u _ _ R1 (RV.fits g1.fitsE _ _ r1) ru
      (h1.mono fun z m2 st2 H2 g2 R2 h2 z' rz => h2.here (((P.grow g1 R1).grow g2 R2).set rz))⟩
  · exact h.elim
def gIAdd : IV → IV → Sto → R IV
  | .int i, .int j, st => .ok (.int (i + j)) st
  | _, _, _ => .bad
theorem ipm_add : IpM X .Add gIAdd := by
  refine ⟨_, ip_add, fun m bs st H x y x' y' Q W R rx ry h => ?_⟩
  unfold gIAdd at h
  split at h
  · simp only [RV] at rx ry
    exact ⟨_, _, rx, ry, h.v R (by simp only [RV])⟩
  · exact h.elim
theorem ipm_sub : IpM X .Sub gSub := by
  refine ⟨_, ip_sub, fun m bs st H x y x' y' Q W R rx ry h => ?_⟩
  unfold gSub at h
  split at h
  · simp only [RV] at rx ry
    exact ⟨_, _, rx, ry, h.v R (by simp only [RV])⟩
  · exact h.elim

/-! ### targets -/
abbrev ITg := IV → Slots → Sto → RS
abbrev ITgs := List IV → Slots → Sto → RS
def tgOf (G : Gd) (xa : Xa) (T : ITg) : TG := fun v σ H Q => ∃ m os rs ρ st x, Pre G xa σ H m os rs ρ st ∧ RV G m (os ++ rs) st H x v ∧ PstS G xa m os rs st H (fun _ _ _ _ => False) ⟨Q, fun _ _ => False, fun _ _ => False, fun _ _ => False⟩ (T x ρ st)
def tgsOf (G : Gd) (xa : Xa) (T : ITgs) : TGs := fun v σ H Q => ∃ m os rs ρ st x, Pre G xa σ H m os rs ρ st ∧ RVs G m (os ++ rs) st H x v ∧ PstS G xa m os rs st H (fun _ _ _ _ => False) ⟨Q, fun _ _ => False, fun _ _ => False, fun _ _ => False⟩ (T x ρ st)
abbrev MG (X : Cx) (xa : Xa) (t : Expr) (T : ITg) : Prop := PG X t (tgOf (gd X) xa T)
abbrev MGs (X : Cx) (xa : Xa) (t : List Expr) (T : ITgs) : Prop := PGs X t (tgsOf (gd X) xa T)
theorem PGs.weak {X : Cx} {e : List Expr} {t t' : TGs} (h : PGs X e t) (k : ∀ v σ H Q, t' v σ H Q → t v σ H Q) : PGs X e t' := ⟨fun pins s σ H v u Q I r q => h.run pins s σ H v u Q I r (k v σ H Q q)⟩
def tgName (i : Nat) : ITg := fun x ρ st => .nx (ρ.set i (some (.v x))) st
def tgNil : ITgs := fun xs ρ st => match xs with | [] => .nx ρ st | _ => .bad
def tgCons (T : ITg) (Ts : ITgs) : ITgs := fun xs ρ st => match xs with | x :: r => (T x ρ st).seq (Ts r) | _ => .bad
def tgTup (n : Nat) (Ts : ITgs) : ITg := fun x ρ st => match x with | .tup xs => if xs.length = n then Ts xs ρ st else .bad | _ => .bad
theorem mg_name {i : Nat} {x : Str} (hN : X.N.Nodup) (hi : X.N[i]? = some x) (hx : Loc X.env.scope x) (hf : X.fn x = true ∨ X.env.scope.names.lookup x = some .local := by first | exact .inl rfl | exact .inr rfl | assumption) : MG X xa (.Name x pos) (tgName i) := by
  refine PG.weak (pg_name hN hi hx hf) fun v σ H Q h => ?_
  obtain ⟨m, os, rs, ρ, st, x, P, r, h⟩ := h
  exact h.here (P.set r)
theorem mgs_nil : MGs X xa [] tgNil := by
  refine PGs.weak pgs_nil fun v σ H Q h => ?_
  obtain ⟨m, os, rs, ρ, st, xs, P, r, h⟩ := h
  cases xs with
  | nil =>
    simp only [RVs] at r
    exact ⟨r, h.here P⟩
  | cons _ _ => exact h.elim
theorem mgs_cons {T : ITg} {Ts : ITgs} (h1 : MG X xa e T) (h2 : MGs X xa es Ts) (hs : (assignEach (e :: es) X.env).map (·.2) = assign e X.env :: (assignEach es X.env).map (·.2) := by rfl) : MGs X xa (e :: es) (tgCons T Ts) := by
  refine PGs.weak (pgs_cons h1 h2 hs) fun v σ H Q h => ?_
  obtain ⟨m, os, rs, ρ, st, xs, P, r, h⟩ := h
  cases xs with
  | nil => exact h.elim
  | cons x xs =>
    simp only [RVs] at r
    obtain ⟨u, t, e, r1, r2⟩ := r
    refine ⟨u, t, e, m, os, rs, ρ, st, x, P, r1, ?_⟩
    unfold tgCons RS.seq at h
    cases q : T x ρ st with
    | nx ρ' st' =>
      simp only [q] at h
      exact fun m' os' H' σ' g P' => ⟨m', os', rs, ρ', st', xs, P', RVs.fits g.fits _ _ r2, PstS.shift g h⟩
    | bk ρ' st' => simp only [q] at h; exact fun _ _ _ _ g P' => (h _ _ _ _ g P').elim
    | ct ρ' st' => simp only [q] at h; exact fun _ _ _ _ g P' => (h _ _ _ _ g P').elim
    | rt v st' => simp only [q] at h; exact fun _ _ _ _ g P' r => (h _ _ _ _ g P' r).elim
    | exc c fs ρ' st' => simp only [q] at h; exact fun _ _ _ _ _ _ g P' x => (h _ _ _ _ _ _ g P' x).elim
    | bad => simp only [q] at h; exact h
theorem mg_tup {Ts : ITgs} {k n : Nat} (hc : X.calm = true) (h : MGs X xa es Ts) (hn : (assignEach es X.env).length = n := by rfl) (hst : (assignEach es X.env).findIdx? (·.1) = none := by rfl) : MG X xa (.Tuple es k pos) (tgTup n Ts) := by
  refine PG.weak (pg_tup hc h hn hst) fun v σ H Q h => ?_
  obtain ⟨m, os, rs, ρ, st, x, P, r, h⟩ := h
  cases x with
  | tup xs =>
    simp only [tgTup] at h
    split at h
    · rename_i hl
      obtain ⟨p, vs, ep, hs, r2⟩ := asT_sq (x := .tup xs) rfl r
      exact ⟨p, vs, ep, hs, by rw [← r2.length]; exact hl, m, os, rs, ρ, st, xs, P, r2, h⟩
    · exact h.elim
  | _ => exact h.elim
def iAsg (A : IE) (T : ITg) : IS := fun ρ st => RS.ofR (A ρ st) ρ fun v st => T v ρ st
theorem ms_asg {t : Expr} {T : ITg} (ha : ME X W xa a A) (hg : MG X xa t T) (hs : swapsWithSole [t] a pos.line X.env = pure false := by rfl) (hw : swappedStores [t] a X.env = pure none := by rfl)
    (h1 : (assignEach [t] X.env).map (·.2) = [assign t X.env] := by rfl) (hT : ∀ x ρ st, match T x ρ st with | .nx _ _ => True | .bad => True | _ => False) : MS X W xa (.Assign [t] a pos) (iAsg A T) := by
  refine PS.weak (ps_asg ha hg hs hw h1) fun D σ H h => ?_
  obtain ⟨m, os, rs, ρ, st, P, h⟩ := h
  refine ⟨m, os, rs, ρ, st, P, (h.ofR P).mono fun v m1 st1 H1 g1 R1 h1 u ru => ⟨m1, os, rs, ρ, st1, v, P.grow g1 R1, ru, ?_⟩⟩
  have z := hT v ρ st1
  cases q : T v ρ st1 with
  | nx ρ' st' => rw [q] at h1; exact h1
  | bad => rw [q] at h1; exact h1
  | _ => rw [q] at z; exact z.elim
/-- o[i] = v -/
def gSetL : IV → IV → IV → Sto → Option Sto
  | .ref l, .int i, x, st => match st[l]? with
    | some (.lst xs) => (ixN xs.length i).map fun j => st.set l (.lst (xs.set j x))
    | _ => none
  | _, _, _, _ => none
def tgSub (A B : IE) : ITg := fun x ρ st => match A ρ st with
  | .ok o st1 => match B ρ st1 with
    | .ok i st2 => match gSetL o i x st2 with
      | some st3 => .nx ρ st3
      | none => .bad
    | _ => .bad
  | _ => .bad
theorem mg_sub {o i : Expr} (ho : ME X (fun _ _ _ _ => False) xa o A) (hi : ME X (fun _ _ _ _ => False) xa i B)
    (ha : ∀ v, assign (.Subscript o i pos) X.env v = (do
      let ov ← holding [v] (eval o X.env)
      let iv ← holding [v, ov] (eval i X.env)
      standAt pos
      holding [v, ov, iv] (setItem ov iv v)
      release [v, ov, iv] []) := by intro _; rfl) : MG X xa (.Subscript o i pos) (tgSub A B) := by
  refine PG.weak (pg_sub ho hi set_list ha) fun v σ H Q h => ?_
  obtain ⟨m, os, rs, ρ, st, x, P, r, h⟩ := h
  refine ⟨m, os, rs, ρ, st, P, ?_⟩
  unfold tgSub at h
  cases q1 : A ρ st with
  | ok o st1 =>
    simp only [q1] at h
    intro m1 H1 g1 R1 u1 ru1
    refine ⟨m1, os, rs, ρ, st1, P.grow g1 R1, ?_⟩
    cases q2 : B ρ st1 with
    | ok i st2 =>
      simp only [q2] at h
      intro m2 H2 g2 R2 u2 ru2
      cases q3 : gSetL o i x st2 with
      | none => simp only [q3] at h; exact h.elim
      | some st3 =>
        simp only [q3] at h
        unfold gSetL at q3
        split at q3
        · rename_i l k
          split at q3
          · rename_i xs hx
            simp only [Option.map_eq_some_iff] at q3
            obtain ⟨j, hj, e3⟩ := q3
            subst e3
            simp only [RV] at ru1 ru2
            obtain ⟨p, ep, hp⟩ := ru1
            have hp2 := g2.at hp
            obtain ⟨vs, hv, rv⟩ := R2.obj l _ p hx hp2
            refine ⟨p, vs, k, j, ep, ru2, hv, by rw [← rv.length]; exact hj, ?_⟩
            have g3 : GrowE m2 st2 H2 m2 (st2.set l (.lst (xs.set j x))) (upd H2 p (.lst (vs.set j v))) := grow_set hp2 hx (by simp)
            have R3 := R2.set (o' := .lst (xs.set j x)) (u := .lst (vs.set j v)) hp2 hx (by simp) ⟨_, upd_same, RVs.fits g3.fitsE _ _ (rv.set j (RV.fits (g1.trans g2).fitsE _ _ r))⟩
            exact h m2 os _ σ (.ofE ((g1.trans g2).trans g3)) (((P.grow g1 R1).grow g2 R2).grow g3 R3)
          · cases q3
        · cases q3
    | exc c fs st2 => simp only [q2] at h; exact h.elim
    | bad => simp only [q2] at h; exact h.elim
  | exc c fs st1 => simp only [q1] at h; exact h.elim
  | bad => simp only [q1] at h; exact h.elim
end
end Mi
set_option Elab.async false
set_option linter.all false
set_option maxRecDepth 100000
set_option maxHeartbeats 4000000
namespace Mi
open PySem PySem.Spec PyProof.Rows L2

/-! ### targets that end plainly -/
def RS.plain : RS → Bool
  | .nx _ _ => true
  | .bad => true
  | _ => false
def TgOk (T : ITg) : Prop := ∀ x ρ st, (T x ρ st).plain = true
def TgsOk (T : ITgs) : Prop := ∀ x ρ st, (T x ρ st).plain = true
theorem TgOk.use {T : ITg} (h : TgOk T) : ∀ x ρ st, match T x ρ st with | .nx _ _ => True | .bad => True | _ => False := fun x ρ st => by
  have z := h x ρ st
  cases q : T x ρ st <;> first | exact trivial | (rw [q] at z; cases z)
theorem tgok_name {i : Nat} : TgOk (tgName i) := fun _ _ _ => rfl
theorem tgsok_nil : TgsOk tgNil := fun x _ _ => by cases x <;> rfl
theorem tgsok_cons {T : ITg} {Ts : ITgs} (h : TgOk T) (h2 : TgsOk Ts) : TgsOk (tgCons T Ts) := fun x ρ st => by
  cases x with
  | nil => rfl
  | cons y r =>
    have z := h y ρ st
    unfold tgCons RS.seq
    cases q : T y ρ st with
    | nx ρ' st' => simp only [q]; exact h2 r ρ' st'
    | bad => simp only [q]; rfl
    | _ => rw [q] at z; cases z
theorem tgok_tup {n : Nat} {Ts : ITgs} (h : TgsOk Ts) : TgOk (tgTup n Ts) := fun x ρ st => by
  cases x with
  | tup xs =>
    by_cases hl : xs.length = n
    · simp only [tgTup, hl, if_true]; exact h xs ρ st
    · simp only [tgTup, hl, if_false]; rfl
  | _ => rfl
theorem tgok_sub {A B : IE} : TgOk (tgSub A B) := fun x ρ st => by
  unfold tgSub
  cases A ρ st with
  | ok o st1 =>
    cases q : B ρ st1 with
    | ok i st2 =>
      simp only [q]
      cases gSetL o i x st2 <;> rfl
    | _ => simp only [q]; rfl
  | _ => rfl

/-! ### defs -/
abbrev Fn := List IV → Sto → R IV
def spOf (G : Gd) (n : Nat) (F : Fn) : Sp := fun vs H Q E => vs.length = n ∧ ∃ m bs st args, Rel G m bs st H ∧ RVs G m bs st H args vs ∧ Pst G m bs st H E (F args st) (fun v m' st' H' => ∀ u, RV G m' bs st' H' v u → Q u H')
def fnOf (k : Nat) (B : IS) : Fn := fun args st => match B (args.map (fun x => some (.v x)) ++ List.replicate k none) st with
  | .nx _ st' => .ok .non st'
  | .rt v st' => .ok v st'
  | .exc c fs _ st' => .exc c fs st'
  | _ => .bad
theorem Rel.less {G : Gd} {m os rs : List Addr} {st : Sto} {H : Hp} (R : Rel G m (os ++ rs) st H) : Rel G m rs st H := by
  have f : Fits G m (os ++ rs) st H m rs st H := ⟨fun _ _ h => h, fun a vs h => by
    rcases h with ⟨h, n, q⟩ | h
    · exact .inl ⟨h, n, fun z => q (List.mem_append_right _ z)⟩
    · exact .inr h, fun a vs h => by
    rcases h with ⟨h, n, q⟩ | h
    · exact .inl ⟨h, n, fun z => q (List.mem_append_right _ z)⟩
    · exact .inr h, fun a o u h => by
    obtain ⟨h, n, q⟩ := h
    exact ⟨h, n, fun z => q (List.mem_append_right _ z)⟩⟩
  exact ⟨R.len, R.nd, fun l o a e1 e2 => (R.obj l o a e1 e2).fits f fun _ e => e, fun a h => R.bsd a (List.mem_append_right _ h)⟩
theorem fits_less {G : Gd} {m os rs : List Addr} {st : Sto} {H : Hp} : Fits G m (os ++ rs) st H m rs st H := ⟨fun _ _ h => h, fun a vs h => by
    rcases h with ⟨h, n, q⟩ | h
    · exact .inl ⟨h, n, fun z => q (List.mem_append_right _ z)⟩
    · exact .inr h, fun a vs h => by
    rcases h with ⟨h, n, q⟩ | h
    · exact .inl ⟨h, n, fun z => q (List.mem_append_right _ z)⟩
    · exact .inr h, fun a o u h => by
    obtain ⟨h, n, q⟩ := h
    exact ⟨h, n, fun z => q (List.mem_append_right _ z)⟩⟩
theorem XR.less {G : Gd} {m os rs : List Addr} {st : Sto} {H : Hp} {c : Str} {fs : List (Str × IV)} {cls : Value} {d : Option Addr} (h : XR G m (os ++ rs) st H c fs cls d) : XR G m rs st H c fs cls d := by
  obtain ⟨C, h1, h2, h3⟩ := h
  refine ⟨C, h1, h2, ?_⟩
  rcases h3 with h3 | ⟨dd, gs, e1, e2, e3, e4, r⟩
  · exact .inl h3
  · exact .inr ⟨dd, gs, e1, e2, e3, fun z => e4 (List.mem_append_right _ z), RFs.fits fits_less _ _ r⟩
theorem Grow.toE {m st H m' st' os' H'} (g : Grow m st [] H m' st' os' H') : GrowE m st H m' st' H' := ⟨g.pre, fun a o h n q nx => let ⟨h1, n1, _⟩ := g.keep a o h n q nx; ⟨h1, n1, by simp⟩, g.stay⟩
/-- a def's start -/
theorem re_start {G : Gd} {m bs : List Addr} {st : Sto} {H : Hp} {args : List IV} {vs : List V} {N : List Str} {k : Nat} (R : Rel G m bs st H) (r : RVs G m bs st H args vs) (hk : N.length - vs.length = k) :
    Pre G none (L2.start N vs) H m [] bs (args.map (fun x => some (.v x)) ++ List.replicate k none) st := by
  have key : ∀ (i : Nat) y, (args.map (fun x => some (SV.v x)) ++ List.replicate k none)[i]? = some (some y) → ∃ x, y = .v x ∧ args[i]? = some x := fun i y e => by
    by_cases hi : i < args.length
    · rw [List.getElem?_append_left (by simpa using hi), List.getElem?_map, List.getElem?_eq_getElem hi] at e
      simp at e
      exact ⟨args[i], e.symm, List.getElem?_eq_getElem hi⟩
    · rw [List.getElem?_append_right (by simpa using hi), List.getElem?_replicate] at e
      split at e <;> simp at e
  refine ⟨R, by simp [L2.start, r.length, hk], fun i y e => ?_, fun i xs e => ?_, fun i j xs ys v e1 e2 e3 e4 => ?_⟩
  · obtain ⟨x, rfl, e1⟩ := key i y e
    obtain ⟨v, e2, r2⟩ := r.get e1
    refine ⟨v, ?_, r2⟩
    unfold L2.start
    rw [List.getElem?_append_left (by simpa using (List.getElem?_eq_some_iff.mp e2).1), List.getElem?_map, e2]; rfl
  · obtain ⟨x, h, _⟩ := key i _ e; cases h
  · obtain ⟨x, h, _⟩ := key i _ e1; cases h
section
variable {P : Program} {w : World} {K : PySem.W.Frag} {mg : Str → Option Value} {base : Heap}
theorem fn_ok {x qual : Str} {st : Stmt} {f : Addr} {fd : FuncData} {N ps : List Str} {k j : Nat} {B : IS} (F : L2.Fun K x qual st f fd) (S : FnScope N ps (defScope st)) (hj : N.length - ps.length = j)
    (hb : ∀ (cdv : Value) (A : Around) (outer : List Env) (s : Shared) (H : Hp) (E : XK), Room k (A.deeper (envOfC qual (defScope st) s.heap.objs.size f cdv)) →
      MSs (cxOf (L2.CX P w) P w K mg base N qual (defScope st) f cdv A outer s H E) (fun cls d _ H => E cls d H) none (defBody st) B) : FnOk P w K mg base (L2.CX P w) (k + 1) f fd ps (spOf ⟨K, mg, P, w⟩ ps.length (fnOf j B)) := by
  refine F.okX S (fun vs H Q E h => h.1) (fun cdv A outer s H vs Q E hr h => ⟨_, hb cdv A outer s H E hr, ?_⟩)
  obtain ⟨hl, m, bs, st, args, R, r, h⟩ := h
  have P0 := re_start (k := j) (N := N) R r (by rw [hl, hj])
  show tsOf ⟨K, mg, P, w⟩ (fun cls d _ H => E cls d H) none B _ _ _
  refine ⟨m, [], bs, _, st, P0, ?_⟩
  unfold fnOf at h
  cases q : B (args.map (fun x => some (.v x)) ++ List.replicate j none) st with
  | nx ρ' st' =>
    rw [q] at h
    exact fun m' os' H' σ' g P' => h m' H' g.toE P'.rel.less .non (by simp only [RV])
  | rt v st' =>
    rw [q] at h
    exact fun m' os' H' u g R' ru => h m' H' g.toE R'.less u (RV.fits fits_less _ _ ru)
  | exc c fs ρ' st' =>
    rw [q] at h
    exact fun m' os' H' σ' cls d g P' x => h m' H' cls d g.toE P'.rel.less x.less
  | bk ρ' st' => rw [q] at h; exact h.elim
  | ct ρ' st' => rw [q] at h; exact h.elim
  | bad => rw [q] at h; exact h.elim
/-- a def of the module with its function -/
def FnM (P : Program) (w : World) (K : PySem.W.Frag) (mg : Str → Option Value) (base : Heap) (x : Str) (k n : Nat) (F : Fn) : Prop :=
  ∃ f fd ps, mg x = some (.ref f) ∧ PySem.W.keepIn K (.ref f) = true ∧ Binds K fd ps [] ∧ FnOk P w K mg base (L2.CX P w) k f fd ps (spOf ⟨K, mg, P, w⟩ n F)
end

section
variable {X : Cx} {W : WX} {xa : Xa} {a b c e o : Expr} {A B C : IE} {S T : IT} {pos p apos : Pos} {es rest : List Expr} {As : IA} {k n : Nat} {F : Fn} {x : Str}
def iCall (F : Fn) (As : IA) : IE := fun ρ st => (As ρ st).bind F
theorem wish_of (tk : Takes X W) (σ : L2.St) : PassesAt (L2.CX X.prog X.w) X σ (fun cls d H => W cls d σ H) := passAt tk σ
theorem RVs.len_eq {G : Gd} {m bs : List Addr} {st : Sto} {H : Hp} {xs : List IV} {vs : List V} {n : Nat} (r : RVs G m bs st H xs vs) (h : xs.length = n) : vs.length = n := by rw [← r.length]; exact h
/-- the function wants its own number of arguments -/
def arity (n : Nat) (F : Fn) : Fn := fun args st => if args.length = n then F args st else .bad
theorem me_call (h : FnM X.prog X.w X.K X.mg X.base x k n F) (hr : Room k X.A) (tk : Takes X W) (hg : Gl X x) (ha : MA X W xa (e :: es) As)
    (hdb : (x == ("__debug__" : Str)) = false := by decide) (he : starEach (e :: es) X.env = (false, eval e X.env) :: starEach es X.env := by rfl) (hpl : (backTo pos (starEach es X.env)).any (·.1) = false := by rfl) :
    ME X W xa (.Call (.Name x p) (e :: es) [] pos) (iCall (arity n F) As) := by
  obtain ⟨f, fd, ps, hm, hk, hb, hf⟩ := h
  refine PE.weak (pe_callSD hf hr hg hm hk hb .nil (E := fun σ cls d H => W cls d σ H) (fun σ => wish_of tk σ) ha hdb he hpl) fun σ H Q h => ?_
  obtain ⟨m, os, rs, ρ, st, P, h⟩ := h
  refine ⟨m, os, rs, ρ, st, P, h.bind.mono fun args m1 st1 H1 g1 R1 h1 vs rv => ?_⟩
  unfold arity at h1
  split at h1
  · rename_i hl
    rw [List.append_nil]
    exact ⟨rv.len_eq hl, m1, _, st1, args, R1, rv, h1⟩
  · exact h1.elim
end
end Mi
set_option Elab.async false
set_option linter.all false
set_option maxRecDepth 100000
set_option maxHeartbeats 4000000
namespace Mi
open PySem PySem.Spec PyProof.Rows L2

/-! ### values are compared -/
mutual
def IV.beq : IV → IV → Bool
  | .non, .non => true
  | .bl a, .bl b => a == b
  | .int a, .int b => a == b
  | .str a, .str b => decide (a = b)
  | .ty a, .ty b => a == b
  | .ref a, .ref b => a == b
  | .tup a, .tup b => IVs.beq a b
  | .lst a, .lst b => IVs.beq a b
  | .ptp a, .ptp b => IVs.beq a b
  | _, _ => false
def IVs.beq : List IV → List IV → Bool
  | [], [] => true
  | x :: xs, y :: ys => IV.beq x y && IVs.beq xs ys
  | _, _ => false
end
mutual
theorem IV.beq_eq : ∀ {a b : IV}, IV.beq a b = true → a = b
  | .non, b, h => by cases b <;> simp [IV.beq] at h <;> rfl
  | .bl _, b, h => by cases b <;> simp [IV.beq] at h; rw [h]
  | .int _, b, h => by cases b <;> simp [IV.beq] at h; rw [h]
  | .str _, b, h => by cases b <;> simp [IV.beq] at h; rw [h]
  | .ty _, b, h => by cases b <;> simp [IV.beq] at h; rw [h]
  | .ref _, b, h => by cases b <;> simp [IV.beq] at h; rw [h]
  | .tup xs, b, h => by cases b <;> simp [IV.beq] at h; rw [IVs.beq_eq h]
  | .lst xs, b, h => by cases b <;> simp [IV.beq] at h; rw [IVs.beq_eq h]
  | .ptp xs, b, h => by cases b <;> simp [IV.beq] at h; rw [IVs.beq_eq h]
theorem IVs.beq_eq : ∀ {a b : List IV}, IVs.beq a b = true → a = b
  | [], b, h => by cases b <;> simp [IVs.beq] at h <;> rfl
  | x :: xs, b, h => by
    cases b with
    | nil => simp [IVs.beq] at h
    | cons y ys =>
      simp [IVs.beq] at h
      rw [IV.beq_eq h.1, IVs.beq_eq h.2]
end
mutual
theorem IV.beq_refl : ∀ a : IV, IV.beq a a = true
  | .non => rfl
  | .bl _ => by simp [IV.beq]
  | .int _ => by simp [IV.beq]
  | .str _ => by simp [IV.beq]
  | .ty _ => by simp [IV.beq]
  | .ref _ => by simp [IV.beq]
  | .tup xs => by simp [IV.beq, IVs.beq_refl xs]
  | .lst xs => by simp [IV.beq, IVs.beq_refl xs]
  | .ptp xs => by simp [IV.beq, IVs.beq_refl xs]
theorem IVs.beq_refl : ∀ a : List IV, IVs.beq a a = true
  | [] => rfl
  | x :: xs => by simp [IVs.beq, IV.beq_refl x, IVs.beq_refl xs]
end
abbrev GI := Option (Nat × List IV)
/-- the list that is walked is as it was -/
def gokB (g : GI) (st : Sto) (_xs : List IV) : Bool := match g with
  | none => true
  | some (l, xs) => match st[l]? with
    | some (.lst ys) => IVs.beq ys xs
    | _ => false
theorem gokB_none {st : Sto} {xs : List IV} : gokB none st xs = true := rfl
theorem gokB_some {l : Nat} {st : Sto} {xs zs : List IV} (h : st[l]? = some (.lst xs)) : gokB (some (l, xs)) st zs = true := by
  simp [gokB, h, IVs.beq_refl]
theorem gokB_at {l : Nat} {st : Sto} {xs zs : List IV} (h : gokB (some (l, xs)) st zs = true) : st[l]? = some (.lst xs) := by
  simp only [gokB] at h
  split at h
  · rename_i ys e; rw [e, IVs.beq_eq h]
  · cases h

/-! ### what is walked -/
abbrev IIt := Slots → Sto → R (List IV × GI)
def Walks (G : Gd) (m0 bs0 : List Addr) (st0 : Sto) (H0 : Hp) (xs : List IV) (g : GI) (J : It) : Prop :=
  ∀ (i : Nat) m bs st H, Fits G m0 bs0 st0 H0 m bs st H → Rel G m bs st H → gokB g st xs = true →
    (∀ x, xs[i]? = some x → J.go i H ∧ ∀ v H', J.yld i H v H' → GrowE m st H m st H' ∧ Rel G m bs st H' ∧ RV G m bs st H' x v) ∧ (xs.length ≤ i → J.stop i H)
def tiOf (G : Gd) (W : WX) (xa : Xa) (A : IIt) : TI := fun σ H R => ∃ m os rs ρ st, Pre G xa σ H m os rs ρ st ∧
  Pst G m (os ++ rs) st H (fun cls d H' => W cls d σ H') (A ρ st) (fun p m' st' H' => ∀ J, Walks G m' (os ++ rs) st' H' p.1 p.2 J → R J H')
abbrev MI (X : Cx) (W : WX) (xa : Xa) (tg e : Expr) (A : IIt) : Prop := PI X tg e (tiOf (gd X) W xa A)

section
variable {X : Cx} {tg l : Expr} {tl : TE} {pins : List (Addr × Obj)} {s : Shared} {σ : L2.St} {H : Hp} {R : It → Hp → Prop} {E : Value → Shared → Prop}
theorem iter_list (I1 : L2.Inv X pins σ H s) {a : Addr} {xs : List V} (hq : SqL X.K H a xs) (q : R (Itl X.K a) H) : wpAny (model X.prog X.w) X.A (pyIter (.ref a)) (PIE X pins σ tg R) E s := by
  obtain ⟨its, rv, p, hz⟩ := I1.list hq
  refine wpAny_pyIter_list p.isList ?_
  refine ⟨s.heap.objs.size, [s.heap.objs.size], _, _, H, rfl, I1.kept (t' := s.toks) fun b o e => Heap.get?_push_of_some _ e, turn_list a _, ⟨_, Heap.get?_push_size _ rfl, rfl, rfl⟩, fun b hb => ?_, q⟩
  have e : b = s.heap.objs.size := by simpa using hb
  subst e
  exact I1.fpOk (Nat.le_refl _) (I1.hok.fresh (Nat.le_refl _))
theorem iter_tup (I1 : L2.Inv X pins σ H s) {a : Addr} {xs : List V} (hq : SqT X.K H a xs) (q : R (Itt X.K a) H) : wpAny (model X.prog X.w) X.A (pyIter (.ref a)) (PIE X pins σ tg R) E s := by
  obtain ⟨its, rv, p, hz⟩ := I1.tuple hq
  refine wpAny_pyIter_tuple (show s.heap.IsTuple a its.toArray from p) ?_
  refine ⟨s.heap.objs.size, [s.heap.objs.size], _, _, H, rfl, I1.kept (t' := s.toks) fun b o e => Heap.get?_push_of_some _ e, turn_tuple a _, ⟨_, Heap.get?_push_size _ rfl, rfl, rfl⟩, fun b hb => ?_, q⟩
  have e : b = s.heap.objs.size := by simpa using hb
  subst e
  exact I1.fpOk (Nat.le_refl _) (I1.hok.fresh (Nat.le_refl _))
theorem iter_str (I1 : L2.Inv X pins σ H s) {x : Str} {t : Tok} (q : R (Its x) H) : wpAny (model X.prog X.w) X.A (pyIter (.str x t)) (PIE X pins σ tg R) E s := by
  cases ha : x.cps.all (· < 128)
  · exact wpAny_pyIter_wide ha (pi_one (tk := s.toks) I1 _ (turn_str _ x t "str_iterator" (.inr rfl)) ⟨_, Heap.get?_push_size _ rfl, rfl, rfl⟩ q)
  · exact wpAny_pyIter_ascii ha (pi_one (tk := s.toks) I1 _ (turn_str _ x t "str_ascii_iterator" (.inl rfl)) ⟨_, Heap.get?_push_size _ rfl, rfl, rfl⟩ q)
end

/-! the items of a thing -/
def itemsI (st : Sto) : IV → Option (List IV × GI)
  | .tup xs => some (xs, none)
  | .lst xs => some (xs, none)
  | .ref l => match st[l]? with
    | some (.lst xs) => some (xs, some (l, xs))
    | _ => none
  | .str x => some (x.cps.toList.map fun c => .str ⟨#[c]⟩, none)
  | _ => none
def iOver (A : IE) : IIt := fun ρ st => (A ρ st).bind fun x st => match itemsI st x with | some p => .ok p st | none => .bad
section
variable {G : Gd} {m0 bs0 : List Addr} {st0 : Sto} {H0 : Hp}
theorem at_end {α : Type} {l : List α} {i : Nat} (h : l.length ≤ i) : l[i]? = none := List.getElem?_eq_none h
theorem walks_l {a : Addr} {vs : List V} {xs : List IV} (h : LstAt G m0 bs0 st0 H0 a vs) (r : RVs G m0 bs0 st0 H0 xs vs) : Walks G m0 bs0 st0 H0 xs none (Itl G.K a) := by
  intro i m bs st H g R _
  have h1 := (g.lst _ _ h).sq
  have r1 := RVs.fits g _ _ r
  refine ⟨fun x hx => ?_, fun hl => ⟨vs, h1, by rw [← r.length]; exact hl⟩⟩
  obtain ⟨v, hv, rv⟩ := r1.get hx
  exact ⟨⟨vs, v, h1, hv⟩, fun w H' y => by
    obtain ⟨e, y⟩ := y
    subst e
    have : w = v := Option.some.inj ((y vs h1).symm.trans hv)
    subst this
    exact ⟨.refl, R, rv⟩⟩
theorem walks_t {a : Addr} {vs : List V} {xs : List IV} (h : TupAt G m0 bs0 st0 H0 a vs) (r : RVs G m0 bs0 st0 H0 xs vs) : Walks G m0 bs0 st0 H0 xs none (Itt G.K a) := by
  intro i m bs st H g R _
  have h1 := (g.tup _ _ h).sq
  have r1 := RVs.fits g _ _ r
  refine ⟨fun x hx => ?_, fun hl => ⟨vs, h1, by rw [← r.length]; exact hl⟩⟩
  obtain ⟨v, hv, rv⟩ := r1.get hx
  exact ⟨⟨vs, v, h1, hv⟩, fun w H' y => by
    obtain ⟨e, y⟩ := y
    subst e
    have : w = v := Option.some.inj ((y vs h1).symm.trans hv)
    subst this
    exact ⟨.refl, R, rv⟩⟩
theorem sql_fun {K : PySem.W.Frag} {H : Hp} {a : Addr} {xs ys : List V} (h : H a = some (.lst xs)) (h2 : Rd H a (.lst ys)) : ys = xs := by
  rcases h2 with h2 | ⟨o, h2⟩
  · rw [h] at h2; cases h2; rfl
  · rw [h] at h2; cases h2
theorem walks_s {x : Str} : Walks G m0 bs0 st0 H0 (x.cps.toList.map fun c => .str ⟨#[c]⟩) none (Its x) := by
  intro i m os st H g R _
  refine ⟨fun y hy => ?_, fun hl => ?_⟩
  · rw [List.getElem?_map, Option.map_eq_some_iff] at hy
    obtain ⟨c, hc, e⟩ := hy
    subst e
    refine ⟨?_, fun w H' z => ?_⟩
    · have := (List.getElem?_eq_some_iff.mp hc).1
      show i < x.cps.size
      simpa using this
    · obtain ⟨e, c', h1, h2⟩ := z
      subst e
      have e : c' = c := by
        have h3 : x.cps.toList[i]? = some c' := by simpa using h1
        rw [hc] at h3
        exact (Option.some.inj h3).symm
      subst e
      exact ⟨.refl, R, by simp only [RV]; exact h2⟩
  · show x.cps.size ≤ i
    simpa using hl
end
section
variable {X : Cx} {W : WX} {xa : Xa} {tg e : Expr} {A : IE} {G : Gd}
/-- for x in e: a list, a tuple, a text -/
theorem mi_over (he : ME X W xa e A) : MI X W xa tg e (iOver A) := by
  refine ⟨fun pins s σ H R I h => ?_⟩
  obtain ⟨m, os, rs, ρ, st, P, h⟩ := h
  refine thn (he.run pins s σ H (fun u H1 => ∃ m1 st1 x, GrowE m st H m1 st1 H1 ∧ Rel (gd X) m1 (os ++ rs) st1 H1 ∧ RV (gd X) m1 (os ++ rs) st1 H1 x u ∧
    Pst (gd X) m1 (os ++ rs) st1 H1 (fun cls d H' => W cls d σ H') (match itemsI st1 x with | some p => .ok p st1 | none => .bad) (fun p m' st' H' => ∀ J, Walks (gd X) m' (os ++ rs) st' H' p.1 p.2 J → R J H')) I
    ⟨m, os, rs, ρ, st, P, h.bind.mono fun x m1 st1 H1 g1 R1 h1 u ru => ⟨m1, st1, x, g1, R1, ru, h1⟩⟩) fun u s1 ⟨v, H1, I1, rv, m1, st1, x, g1, R1, rx, h1⟩ => ?_
  cases x with
  | tup xs =>
    obtain ⟨a, vs, ea, ht, r⟩ := (show ∃ a vs, v = .ref a ∧ TupAt (gd X) m1 (os ++ rs) st1 H1 a vs ∧ RVs (gd X) m1 (os ++ rs) st1 H1 xs vs by simpa only [RV] using rx)
    subst ea
    cases rv
    exact iter_tup I1 ht.sq (h1.ok R1 _ (walks_t ht r))
  | lst xs =>
    obtain ⟨a, vs, ea, ht, r⟩ := (show ∃ a vs, v = .ref a ∧ LstAt (gd X) m1 (os ++ rs) st1 H1 a vs ∧ RVs (gd X) m1 (os ++ rs) st1 H1 xs vs by simpa only [RV] using rx)
    subst ea
    cases rv
    exact iter_list I1 ht.sq (h1.ok R1 _ (walks_l ht r))
  | ref l =>
    obtain ⟨a, ea, hm⟩ := (show ∃ a, v = .ref a ∧ m1[l]? = some a by simpa only [RV] using rx)
    subst ea
    cases rv
    simp only [itemsI] at h1
    cases q : st1[l]? with
    | none => rw [q] at h1; exact h1.elim
    | some o =>
      cases o with
      | lst xs =>
        rw [q] at h1
        obtain ⟨vs, hv, r⟩ := R1.obj l _ a q hm
        refine iter_list I1 (.of hv) (h1.ok R1 _ ?_)
        intro i m2 bs2 st2 H2 g R gk
        have hs := gokB_at gk
        have hm1 := g.at_ _ _ hm
        obtain ⟨vs, hv, rv⟩ := R.obj l _ a hs hm1
        refine ⟨fun x hx => ?_, fun hl => ⟨vs, .of hv, by rw [← rv.length]; exact hl⟩⟩
        obtain ⟨v, hv1, r1⟩ := rv.get hx
        exact ⟨⟨vs, v, .of hv, hv1⟩, fun w H' y => by
          obtain ⟨e, y⟩ := y
          subst e
          have : w = v := Option.some.inj ((y vs (.of hv)).symm.trans hv1)
          subst this
          exact ⟨.refl, R, r1⟩⟩
      | _ => rw [q] at h1; exact h1.elim
  | str z =>
    simp only [RV] at rx
    subst rx
    obtain ⟨t, rfl⟩ := rv
    exact iter_str I1 (h1.ok R1 _ walks_s)
  | _ => exact h1.elim
/-- range -/
def rngI (lo : Int) (n : Nat) : List IV := (List.range n).map fun (i : Nat) => IV.int (lo + i)
theorem walks_rng {m0 bs0 : List Addr} {st0 : Sto} {H0 : Hp} {lo : Int} {n : Nat} : Walks G m0 bs0 st0 H0 (rngI lo n) none (Itr lo n) := by
  intro i m os st H g R _
  refine ⟨fun y hy => ?_, fun hl => ?_⟩
  · unfold rngI at hy
    rw [List.getElem?_map, Option.map_eq_some_iff] at hy
    obtain ⟨c, hc, e⟩ := hy
    have hi := (List.getElem?_eq_some_iff.mp hc).1
    rw [List.length_range] at hi
    rw [List.getElem?_range hi] at hc
    cases hc
    subst e
    refine ⟨hi, fun w H' z => ?_⟩
    obtain ⟨e, h1⟩ := z
    subst e h1
    exact ⟨.refl, R, by simp only [RV]⟩
  · show n ≤ i
    simpa [rngI] using hl
def gRng1 : List IV → Sto → R (List IV × GI)
  | [.int j], st => if j ≤ 1000000000000000000 ∧ -1000000000000000000 ≤ j then .ok (rngI 0 j.toNat, none) st else .bad
  | _, _ => .bad
def gRng2 : List IV → Sto → R (List IV × GI)
  | [.int i, .int j], st => if j ≤ 1000000000000000000 ∧ -1000000000000000000 ≤ j ∧ i ≤ 1000000000000000000 ∧ -1000000000000000000 ≤ i then .ok (rngI i (j - i).toNat, none) st else .bad
  | _, _ => .bad
def iRng (g : List IV → Sto → R (List IV × GI)) (As : IA) : IIt := fun ρ st => (As ρ st).bind g
theorem PI.mi {tg e : Expr} {wi : TI} {A : IIt} (h : PI X tg e wi) (k : ∀ σ H R, tiOf (gd X) W xa A σ H R → wi σ H R) : MI X W xa tg e A := ⟨fun pins s σ H R I q => h.run pins s σ H R I (k σ H R q)⟩
theorem mi_range1 {a : Expr} {As : IA} {p pos : Pos} (hg : Gl X "range") (hm : X.mg "range" = none) (ha : MA X W xa [a] As) (hs : starEach [a] X.env = [(false, eval a X.env)] := by rfl) : MI X W xa tg (.Call (.Name "range" p) [a] [] pos) (iRng gRng1 As) := by
  refine PI.mi (pi_range1 hg hm ha hs) fun σ H R h => ?_
  obtain ⟨m, os, rs, ρ, st, P, h⟩ := h
  refine ⟨m, os, rs, ρ, st, P, h.bind.mono fun xs m1 st1 H1 g1 R1 h1 vs rv => ?_⟩
  unfold gRng1 at h1
  split at h1
  · split at h1
    · rename_i j c
      obtain ⟨v, e, r⟩ := rvs1 rv
      simp only [RV] at r
      subst r
      exact ⟨j, e, by omega, by omega, h1.ok R1 _ walks_rng⟩
    · exact h1.elim
  · exact h1.elim
theorem mi_range2 {a b : Expr} {As : IA} {p pos : Pos} (hg : Gl X "range") (hm : X.mg "range" = none) (ha : MA X W xa [a, b] As) (hs : starEach [a, b] X.env = [(false, eval a X.env), (false, eval b X.env)] := by rfl) (hs2 : starEach [b] X.env = [(false, eval b X.env)] := by rfl) :
    MI X W xa tg (.Call (.Name "range" p) [a, b] [] pos) (iRng gRng2 As) := by
  refine PI.mi (pi_range2 hg hm ha hs hs2) fun σ H R h => ?_
  obtain ⟨m, os, rs, ρ, st, P, h⟩ := h
  refine ⟨m, os, rs, ρ, st, P, h.bind.mono fun xs m1 st1 H1 g1 R1 h1 vs rv => ?_⟩
  unfold gRng2 at h1
  split at h1
  · split at h1
    · rename_i i j c
      obtain ⟨v, w, e, r, r2⟩ := rvs2 rv
      simp only [RV] at r r2
      subst r r2
      exact ⟨i, j, e, by omega, h1.ok R1 _ walks_rng⟩
    · exact h1.elim
  · exact h1.elim
/-- enumerate of a list, zip of two lists or two tuples: inline ones -/
theorem rv_pair {m bs : List Addr} {st : Sto} {H : Hp} {x y : IV} {v w : V} {T : Addr} (R : Rel G m bs st H) (hT : H T = none) (rx : RV G m bs st H x v) (ry : RV G m bs st H y w) :
    GrowE m st H m st (upd H T (.tup [v, w])) ∧ Rel G m bs st (upd H T (.tup [v, w])) ∧ RV G m bs st (upd H T (.tup [v, w])) (.tup [x, y]) (.ref T) := by
  have g : GrowE m st H m st (upd H T (.tup [v, w])) := grow_new hT
  refine ⟨g, R.new hT, ?_⟩
  simp only [RV]
  exact ⟨T, _, rfl, tupAt_new R hT, by simp only [RVs]; exact ⟨v, _, rfl, RV.fits g.fitsE _ _ rx, w, _, rfl, RV.fits g.fitsE _ _ ry, rfl⟩⟩
def enumI (i : Nat) : List IV → List IV
  | [] => []
  | x :: xs => .tup [.int i, x] :: enumI (i + 1) xs
theorem enumI_len : ∀ (xs : List IV) (i : Nat), (enumI i xs).length = xs.length
  | [], _ => rfl
  | x :: xs, i => by simp [enumI, enumI_len xs]
theorem enumI_get : ∀ (xs : List IV) (k i : Nat) (y : IV), (enumI k xs)[i]? = some y → ∃ x, xs[i]? = some x ∧ y = .tup [.int ((k + i : Nat) : Int), x]
  | [], _, _, _, h => by simp [enumI] at h
  | x :: xs, k, 0, y, h => by simp [enumI] at h; exact ⟨x, rfl, h.symm⟩
  | x :: xs, k, i + 1, y, h => by
    simp only [enumI, List.getElem?_cons_succ] at h
    obtain ⟨z, e1, e2⟩ := enumI_get xs (k + 1) i y h
    exact ⟨z, by simpa using e1, by rw [e2]; congr 3; omega⟩
def gEnum : List IV → Sto → R (List IV × GI)
  | [.lst xs], st => .ok (enumI 0 xs, none) st
  | [.ref l], st => match st[l]? with
    | some (.lst xs) => .ok (enumI 0 xs, some (l, xs)) st
    | _ => .bad
  | _, _ => .bad
theorem mi_enum {a : Expr} {As : IA} {p pos tpos : Pos} {elts : List Expr} {kk : Nat} (hg : Gl X "enumerate") (hm : X.mg "enumerate" = none) (ha : MA X W xa [a] As) (hs : starEach [a] X.env = [(false, eval a X.env)] := by rfl) :
    MI X W xa (.Tuple elts kk tpos) (.Call (.Name "enumerate" p) [a] [] pos) (iRng gEnum As) := by
  refine PI.mi (pi_enum hg hm ha hs) fun σ H R h => ?_
  obtain ⟨m, os, rs, ρ, st, P, h⟩ := h
  refine ⟨m, os, rs, ρ, st, P, h.bind.mono fun xs m1 st1 H1 g1 R1 h1 vs rv => ?_⟩
  unfold gEnum at h1
  split at h1
  · rename_i ys
    obtain ⟨v, e, r⟩ := rvs1 rv
    simp only [RV] at r
    obtain ⟨a, ws, ea, hl, rs1⟩ := r
    subst ea
    refine ⟨a, ws, e, hl.sq, h1.ok R1 _ ?_⟩
    intro i m2 bs2 st2 H2 g R _
    have hl1 := (g.lst _ _ hl).sq
    have r1 := RVs.fits g _ _ rs1
    refine ⟨fun x hx => ?_, fun hl => ⟨ws, hl1, by rw [← rs1.length]; simpa [enumI_len] using hl⟩⟩
    obtain ⟨z, hz, ez⟩ := enumI_get _ _ _ _ hx
    subst ez
    obtain ⟨v, hv, rv⟩ := r1.get hz
    refine ⟨⟨ws, v, hl1, hv⟩, fun w H' y => ?_⟩
    obtain ⟨T, u, e1, hT, e2, hu⟩ := y
    subst e1 e2
    have e : u = v := Option.some.inj ((hu ws hl1).symm.trans hv)
    subst e
    have := rv_pair (x := .int ((i : Nat) : Int)) (v := .int ((i : Nat) : Int)) R hT (by simp only [RV]) rv
    simpa using this
  · rename_i l
    split at h1
    · rename_i ys eo
      obtain ⟨v, e, r⟩ := rvs1 rv
      simp only [RV] at r
      obtain ⟨a, ea, hm1⟩ := r
      subst ea
      obtain ⟨ws, hw, rs1⟩ := R1.obj l _ a eo hm1
      refine ⟨a, ws, e, .of hw, h1.ok R1 _ ?_⟩
      intro i m2 bs2 st2 H2 g R gk
      have hs := gokB_at gk
      obtain ⟨ws, hw2, r1⟩ := R.obj l _ a hs (g.at_ _ _ hm1)
      refine ⟨fun x hx => ?_, fun hl => ⟨ws, .of hw2, by rw [← r1.length]; simpa [enumI_len] using hl⟩⟩
      obtain ⟨z, hz, ez⟩ := enumI_get _ _ _ _ hx
      subst ez
      obtain ⟨v, hv, rv⟩ := r1.get hz
      refine ⟨⟨ws, v, .of hw2, hv⟩, fun w H' y => ?_⟩
      obtain ⟨T, u, e1, hT, e2, hu⟩ := y
      subst e1 e2
      have e : u = v := Option.some.inj ((hu ws (.of hw2)).symm.trans hv)
      subst e
      have := rv_pair (x := .int ((i : Nat) : Int)) (v := .int ((i : Nat) : Int)) R hT (by simp only [RV]) rv
      simpa using this
    · exact h1.elim
  · exact h1.elim
def zipI : List IV → List IV → List IV
  | x :: xs, y :: ys => .tup [x, y] :: zipI xs ys
  | _, _ => []
theorem zipI_get : ∀ (xs ys : List IV) (i : Nat) (z : IV), (zipI xs ys)[i]? = some z → ∃ x y, xs[i]? = some x ∧ ys[i]? = some y ∧ z = .tup [x, y]
  | [], _, _, _, h => by simp [zipI] at h
  | _ :: _, [], _, _, h => by simp [zipI] at h
  | x :: xs, y :: ys, 0, z, h => by simp [zipI] at h; exact ⟨x, y, rfl, rfl, h.symm⟩
  | x :: xs, y :: ys, i + 1, z, h => by
    simp only [zipI, List.getElem?_cons_succ] at h
    obtain ⟨u, v, e1, e2, e3⟩ := zipI_get xs ys i z h
    exact ⟨u, v, by simpa using e1, by simpa using e2, e3⟩
theorem zipI_len : ∀ (xs ys : List IV), (zipI xs ys).length = min xs.length ys.length
  | [], _ => by simp [zipI]
  | _ :: _, [] => by simp [zipI]
  | x :: xs, y :: ys => by simp [zipI, zipI_len xs ys]
def gZip : List IV → Sto → R (List IV × GI)
  | [.lst xs, .lst ys], st => .ok (zipI xs ys, none) st
  | [.tup xs, .tup ys], st => .ok (zipI xs ys, none) st
  | _, _ => .bad
theorem mi_zip {a b : Expr} {As : IA} {p pos tpos : Pos} {elts : List Expr} {kk : Nat} (hg : Gl X "zip") (hm : X.mg "zip" = none) (ha : MA X W xa [a, b] As)
    (hs : starEach [a, b] X.env = (false, eval a X.env) :: starEach [b] X.env := by rfl) (hpl : (backTo pos (starEach [b] X.env)).any (·.1) = false := by rfl) :
    MI X W xa (.Tuple elts kk tpos) (.Call (.Name "zip" p) [a, b] [] pos) (iRng gZip As) := by
  refine PI.mi (RZ.pi_zipA hg hm ha hs hpl) fun σ H R h => ?_
  obtain ⟨m, os, rs, ρ, st, P, h⟩ := h
  refine ⟨m, os, rs, ρ, st, P, h.bind.mono fun xs m1 st1 H1 g1 R1 h1 vs rv => ?_⟩
  unfold gZip at h1
  split at h1
  · rename_i us ws
    obtain ⟨v, w, e, r, r'⟩ := rvs2 rv
    simp only [RV] at r r'
    obtain ⟨a, as, ea, hl, ra⟩ := r
    obtain ⟨b, bs, eb, hk, rb⟩ := r'
    subst ea eb
    refine ⟨a, b, as, bs, e, .inl ⟨hl.sq, hk.sq, h1.ok R1 _ ?_⟩⟩
    intro i m2 bs2 st2 H2 g R _
    have hl1 := (g.lst _ _ hl).sq
    have hk1 := (g.lst _ _ hk).sq
    have ra1 := RVs.fits g _ _ ra
    have rb1 := RVs.fits g _ _ rb
    refine ⟨fun x hx => ?_, fun hq => ⟨as, bs, hl1, hk1, ?_⟩⟩
    · obtain ⟨x1, y1, e1, e2, e3⟩ := zipI_get _ _ _ _ hx
      subst e3
      obtain ⟨v1, f1, q1⟩ := ra1.get e1
      obtain ⟨v2, f2, q2⟩ := rb1.get e2
      refine ⟨⟨as, bs, v1, v2, hl1, hk1, f1, f2⟩, fun w H' y => ?_⟩
      obtain ⟨T, u1, u2, z1, hT, z2, z3, z4⟩ := y
      subst z1 z2
      have e : u1 = v1 := Option.some.inj ((z3 as hl1).symm.trans f1)
      have e' : u2 = v2 := Option.some.inj ((z4 bs hk1).symm.trans f2)
      subst e e'
      exact rv_pair R hT q1 q2
    · rw [zipI_len, ra.length, rb.length] at hq
      omega
  · rename_i us ws
    obtain ⟨v, w, e, r, r'⟩ := rvs2 rv
    simp only [RV] at r r'
    obtain ⟨a, as, ea, hl, ra⟩ := r
    obtain ⟨b, bs, eb, hk, rb⟩ := r'
    subst ea eb
    refine ⟨a, b, as, bs, e, .inr ⟨hl.sq, hk.sq, h1.ok R1 _ ?_⟩⟩
    intro i m2 bs2 st2 H2 g R _
    have hl1 := (g.tup _ _ hl).sq
    have hk1 := (g.tup _ _ hk).sq
    have ra1 := RVs.fits g _ _ ra
    have rb1 := RVs.fits g _ _ rb
    refine ⟨fun x hx => ?_, fun hq => ⟨as, bs, hl1, hk1, ?_⟩⟩
    · obtain ⟨x1, y1, e1, e2, e3⟩ := zipI_get _ _ _ _ hx
      subst e3
      obtain ⟨v1, f1, q1⟩ := ra1.get e1
      obtain ⟨v2, f2, q2⟩ := rb1.get e2
      refine ⟨⟨as, bs, v1, v2, hl1, hk1, f1, f2⟩, fun w H' y => ?_⟩
      obtain ⟨T, u1, u2, z1, hT, z2, z3, z4⟩ := y
      subst z1 z2
      have e : u1 = v1 := Option.some.inj ((z3 as hl1).symm.trans f1)
      have e' : u2 = v2 := Option.some.inj ((z4 bs hk1).symm.trans f2)
      subst e e'
      exact rv_pair R hT q1 q2
    · rw [zipI_len, ra.length, rb.length] at hq
      omega
  · exact h1.elim

/-! ### for -/
def forL (g : GI) (all : List IV) (T : ITg) (B : IS) : List IV → Slots → Sto → RS
  | [], ρ, st => if gokB g st all = true then .nx ρ st else .bad
  | x :: r, ρ, st => if gokB g st all = true then
      match T x ρ st with
      | .nx ρ1 st1 => match B ρ1 st1 with
        | .nx ρ2 st2 => forL g all T B r ρ2 st2
        | .ct ρ2 st2 => forL g all T B r ρ2 st2
        | .bk ρ2 st2 => .nx ρ2 st2
        | q => q
      | _ => .bad
    else .bad
def iFor (I : IIt) (T : ITg) (B : IS) : IS := fun ρ st => RS.ofR (I ρ st) ρ fun p st => forL p.2 p.1 T B p.1 ρ st
theorem ms_for {iter : Expr} {body : List Stmt} {I : IIt} {T : ITg} {B : IS} {pos : Pos} (hp : PassesOwn (model X.prog X.w) X.A X.env X.xe) (hc : X.calm = true) (hi : MI X W xa tg iter I) (hg : MG X xa tg T) (hb : MSs X W xa body B)
    (hs : ∀ x, foldedSetIterable iter X.env x = pure x := by intro _; rfl) : MS X W xa (.For tg iter body [] pos) (iFor I T B) := by
  refine PS.weak (ps_for hp hc hi hg hb hs) fun D σ H h => ?_
  obtain ⟨m, os, rs, ρ, st, P, h⟩ := h
  refine ⟨m, os, rs, ρ, st, P, (h.ofR P).mono fun p m1 st1 H1 g1 R1 h1 J hw => ?_⟩
  obtain ⟨xs, g⟩ := p
  refine ⟨fun i n σ H => n = xs.length - i ∧ i ≤ xs.length ∧ ∃ m os' ρ st, Grow m1 st1 os H1 m st os' H ∧ Pre (gd X) xa σ H m os' rs ρ st ∧ PstS (gd X) xa m os' rs st H W D (forL g xs T B (xs.drop i) ρ st),
    ⟨xs.length, by simp, Nat.zero_le _, m1, os, ρ, st1, .refl, P.grow g1 R1, by simpa using h1⟩, ?_⟩
  rintro i n σ2 H2 ⟨rfl, hi, m2, os2, ρ2, st2, g2, P2, h2⟩
  have w := hw i m2 _ st2 H2 g2.fits P2.rel
  by_cases hlt : i < xs.length
  · have ed : xs.drop i = xs[i] :: xs.drop (i + 1) := List.drop_eq_getElem_cons hlt
    rw [ed, forL] at h2
    split at h2
    · rename_i gk
      obtain ⟨w1, _⟩ := w gk
      obtain ⟨go, yl⟩ := w1 xs[i] (List.getElem?_eq_getElem hlt)
      refine .inr ⟨go, fun σ' H' => i + 1 ≤ xs.length ∧ ∃ m os' ρ st, Grow m1 st1 os H1 m st os' H' ∧ Pre (gd X) xa σ' H' m os' rs ρ st ∧ PstS (gd X) xa m os' rs st H' W D (forL g xs T B (xs.drop (i + 1)) ρ st), fun σ' H' q => ⟨xs.length - (i + 1), by omega, rfl, q⟩, fun v H3 y => ?_⟩
      obtain ⟨g3, R3, r3⟩ := yl v H3 y
      have P3 := P2.grow g3 R3
      refine ⟨m2, os2, rs, ρ2, st2, xs[i], P3, r3, ?_⟩
      cases q1 : T xs[i] ρ2 st2 with
      | nx ρ4 st4 =>
        simp only [q1] at h2
        intro m4 os4 H4 σ4 g4 P4
        refine ⟨m4, os4, rs, ρ4, st4, P4, ?_⟩
        have gg : Grow m1 st1 os H1 m4 st4 os4 H4 := (g2.trans (.ofE g3)).trans g4
        have sh : ∀ {r : RS}, PstS (gd X) xa m2 os2 rs st2 H2 W D r → PstS (gd X) xa m4 os4 rs st4 H4 W D r := fun h => h.shift ((Grow.ofE g3).trans g4)
        cases q2 : B ρ4 st4 with
        | nx ρ5 st5 =>
          simp only [q2] at h2
          exact fun m5 os5 H5 σ5 g5 P5 => ⟨hlt, m5, os5, ρ5, st5, gg.trans g5, P5, (sh h2).shift g5⟩
        | ct ρ5 st5 =>
          simp only [q2] at h2
          exact fun m5 os5 H5 σ5 g5 P5 => ⟨hlt, m5, os5, ρ5, st5, gg.trans g5, P5, (sh h2).shift g5⟩
        | bk ρ5 st5 =>
          simp only [q2] at h2
          exact sh h2
        | rt v st5 =>
          simp only [q2] at h2
          exact sh h2
        | exc c fs ρ5 st5 =>
          simp only [q2] at h2
          exact sh h2
        | bad => simp only [q2] at h2; exact h2.elim
      | _ => simp only [q1] at h2; exact h2.elim
    · exact h2.elim
  · have ei : i = xs.length := by omega
    rw [List.drop_eq_nil_of_le (by omega), forL] at h2
    split at h2
    · rename_i gk
      exact .inl ⟨(w gk).2 (by show xs.length ≤ i; omega), h2.here P2⟩
    · exact h2.elim

/-! ### while: at most so many turns -/
def whileN (S : IT) (B : IS) : Nat → Slots → Sto → RS
  | 0, _, _ => .bad
  | n + 1, ρ, st => RS.ofR (S ρ st) ρ fun b st => if b = true then
      match B ρ st with
      | .nx ρ2 st2 => whileN S B n ρ2 st2
      | .ct ρ2 st2 => whileN S B n ρ2 st2
      | .bk ρ2 st2 => .nx ρ2 st2
      | q => q
    else .nx ρ st
def iWhile (n : Nat) (S : IT) (B : IS) : IS := fun ρ st => whileN S B n ρ st
theorem ms_while {c : Expr} {body : List Stmt} {S : IT} {B : IS} {pos : Pos} {n : Nat} (hp : PassesOwn (model X.prog X.w) X.A X.env X.xe) (hc : MT X W xa c S) (hb : MSs X W xa body B) : MS X W xa (.While c body [] pos) (iWhile n S B) := by
  refine PS.weak (ps_while hp hc hb) fun D σ H h => ?_
  obtain ⟨m, os, rs, ρ, st, P, h⟩ := h
  refine ⟨fun k σ H => ∃ m os ρ st, Pre (gd X) xa σ H m os rs ρ st ∧ PstS (gd X) xa m os rs st H W D (whileN S B k ρ st), ⟨n, m, os, ρ, st, P, h⟩, ?_⟩
  rintro k σ2 H2 ⟨m2, os2, ρ2, st2, P2, h2⟩
  cases k with
  | zero => exact h2.elim
  | succ k =>
    rw [whileN] at h2
    refine ⟨m2, os2, rs, ρ2, st2, P2, (h2.ofR P2).mono fun b m3 st3 H3 g3 R3 h3 b' e => ?_⟩
    subst e
    cases b with
    | false => exact h3.here (P2.grow g3 R3)
    | true =>
      refine ⟨fun σ' H' => ∃ m os ρ st, Pre (gd X) xa σ' H' m os rs ρ st ∧ PstS (gd X) xa m os rs st H' W D (whileN S B k ρ st), fun σ' H' q => ⟨k, Nat.lt_succ_self k, q⟩, m3, os2, rs, ρ2, st3, P2.grow g3 R3, ?_⟩
      simp only [if_true] at h3
      cases q2 : B ρ2 st3 with
      | nx ρ5 st5 =>
        simp only [q2] at h3
        exact fun m5 os5 H5 σ5 g5 P5 => ⟨m5, os5, ρ5, st5, P5, h3.shift g5⟩
      | ct ρ5 st5 =>
        simp only [q2] at h3
        exact fun m5 os5 H5 σ5 g5 P5 => ⟨m5, os5, ρ5, st5, P5, h3.shift g5⟩
      | bk ρ5 st5 => simp only [q2] at h3; exact h3
      | rt v st5 => simp only [q2] at h3; exact h3
      | exc c fs ρ5 st5 => simp only [q2] at h3; exact h3
      | bad => simp only [q2] at h3; exact h3.elim
end
end Mi
set_option Elab.async false
set_option linter.all false
set_option maxRecDepth 100000
set_option maxHeartbeats 4000000
namespace Mi
open PySem PySem.Spec PyProof.Rows L2

section
variable {G : Gd} {m m' bs bs' bs'' os os' rs : List Addr} {st st' : Sto} {H H' H'' : Hp} {D : Addr}
theorem Fits.trans {m'' : List Addr} {st'' : Sto} (a : Fits G m bs st H m' bs' st' H') (b : Fits G m' bs' st' H' m'' bs'' st'' H'') : Fits G m bs st H m'' bs'' st'' H'' :=
  ⟨fun l x h => b.at_ l x (a.at_ l x h), fun x vs h => b.tup x vs (a.tup x vs h), fun x vs h => b.lst x vs (a.lst x vs h), fun x o u h => b.frz x o u (a.frz x o u h)⟩
/-- fewer are blocked -/
theorem fits_sub (h : ∀ a ∈ bs', a ∈ bs) : Fits G m bs st H m bs' st H := ⟨fun _ _ h => h, fun a vs x => by
    rcases x with ⟨x, n, q⟩ | x
    · exact .inl ⟨x, n, fun z => q (h a z)⟩
    · exact .inr x, fun a vs x => by
    rcases x with ⟨x, n, q⟩ | x
    · exact .inl ⟨x, n, fun z => q (h a z)⟩
    · exact .inr x, fun a o u x => by
    obtain ⟨x, n, q⟩ := x
    exact ⟨x, n, fun z => q (h a z)⟩⟩
theorem Rel.sub (R : Rel G m bs st H) (h : ∀ a ∈ bs', a ∈ bs) : Rel G m bs' st H :=
  ⟨R.len, R.nd, fun l o a e1 e2 => (R.obj l o a e1 e2).fits (fits_sub h) fun _ e => e, fun a z => R.bsd a (h a z)⟩
theorem rd_ne {a : Addr} {u w : HO} (hD : H D = none) (h : Rd H a u) : a ≠ D ∧ Rd (upd H D w) a u := by
  rcases h with h | ⟨o, h⟩
  · have ne := ne_of_none h hD
    exact ⟨ne, .inl (by rw [upd_ne ne]; exact h)⟩
  · have ne := ne_of_none h hD
    exact ⟨ne, .inr ⟨o, by rw [upd_ne ne]; exact h⟩⟩
/-- a new place is blocked from its birth -/
theorem fits_block {u : HO} (hD : H D = none) (h : ∀ a ∈ bs', a = D ∨ a ∈ bs) : Fits G m bs st H m bs' st (upd H D u) := ⟨fun _ _ h => h, fun a vs x => by
    rcases x with ⟨x, n, q⟩ | x
    · obtain ⟨ne, x⟩ := rd_ne (w := u) hD x
      exact .inl ⟨x, n, fun z => (h a z).elim ne q⟩
    · exact .inr x, fun a vs x => by
    rcases x with ⟨x, n, q⟩ | x
    · obtain ⟨ne, x⟩ := rd_ne (w := u) hD x
      exact .inl ⟨x, n, fun z => (h a z).elim ne q⟩
    · exact .inr x, fun a o u x => by
    obtain ⟨x, n, q⟩ := x
    have ne := ne_of_none x hD
    exact ⟨by rw [upd_ne ne]; exact x, n, fun z => (h a z).elim ne q⟩⟩
theorem Rel.block (R : Rel G m bs st H) {u : HO} (hD : H D = none) (h : ∀ a ∈ bs', a = D ∨ a ∈ bs) : Rel G m bs' st (upd H D u) := by
  refine ⟨R.len, R.nd, fun l o a e1 e2 => (R.obj l o a e1 e2).fits (fits_block hD h) fun w e => ?_, fun a z => ?_⟩
  · rw [upd_ne (ne_of_none e hD)]; exact e
  · rcases h a z with e | z
    · rw [e]; exact ⟨(R.fresh hD).1, _, upd_same⟩
    · obtain ⟨n, o, e⟩ := R.bsd a z
      exact ⟨n, o, by rw [upd_ne (ne_of_none e hD)]; exact e⟩
/-- what is blocked may change -/
theorem fits_upd {u : HO} (h : D ∈ bs) : Fits G m bs st H m bs st (upd H D u) := ⟨fun _ _ h => h, fun a vs x => by
    rcases x with ⟨x, n, q⟩ | x
    · have ne : a ≠ D := fun z => q (z ▸ h)
      exact .inl ⟨by rcases x with x | ⟨o, x⟩
                     · exact .inl (by rw [upd_ne ne]; exact x)
                     · exact .inr ⟨o, by rw [upd_ne ne]; exact x⟩, n, q⟩
    · exact .inr x, fun a vs x => by
    rcases x with ⟨x, n, q⟩ | x
    · have ne : a ≠ D := fun z => q (z ▸ h)
      exact .inl ⟨by rcases x with x | ⟨o, x⟩
                     · exact .inl (by rw [upd_ne ne]; exact x)
                     · exact .inr ⟨o, by rw [upd_ne ne]; exact x⟩, n, q⟩
    · exact .inr x, fun a o u x => by
    obtain ⟨x, n, q⟩ := x
    have ne : a ≠ D := fun z => q (z ▸ h)
    exact ⟨by rw [upd_ne ne]; exact x, n, q⟩⟩
theorem Rel.upd (R : Rel G m bs st H) {u : HO} (h : D ∈ bs) : Rel G m bs st (upd H D u) := by
  refine ⟨R.len, R.nd, fun l o a e1 e2 => (R.obj l o a e1 e2).fits (fits_upd h) fun w e => ?_, fun a z => ?_⟩
  · have ne : a ≠ D := fun z => (R.bsd D h).1 (z ▸ List.mem_of_getElem? e2)
    rw [upd_ne ne]; exact e
  · obtain ⟨n, o, e⟩ := R.bsd a z
    by_cases ha : a = D
    · rw [ha]; exact ⟨(R.bsd D h).1, _, upd_same⟩
    · exact ⟨n, o, by rw [upd_ne ha]; exact e⟩
theorem back_fresh (R : Rel G m' bs st' H') (g : GrowE m st H m' st' H') (R0 : Rel G m bs st H) {p : Addr} (h : H' p = none) : H p = none := g.stay p h
end

/-! ### lists just made -/
def PstF (G : Gd) (m bs : List Addr) (st : Sto) (H : Hp) (W : Value → Option Addr → Hp → Prop) (r : R (List IV)) (Q : VK) : Prop := match r with
  | .ok xs st' => ∀ m' H' D vs, H D = none → GrowE m st H m' st' H' → Rel G m' (D :: bs) st' H' → H' D = some (.lst vs) → RVs G m' (D :: bs) st' H' xs vs → Q (.ref D) H'
  | .exc c fs st' => ∀ m' H' cls d, GrowE m st H m' st' H' → Rel G m' bs st' H' → XR G m' bs st' H' c fs cls d → W cls d H'
  | .bad => False
def tfOf (G : Gd) (W : WX) (xa : Xa) (A : IA) : TE := fun σ H Q => ∃ m os rs ρ st, Pre G xa σ H m os rs ρ st ∧ PstF G m (os ++ rs) st H (fun cls d H' => W cls d σ H') (A ρ st) Q
abbrev MF (X : Cx) (W : WX) (xa : Xa) (e : Expr) (A : IA) : Prop := PE X e (tfOf (gd X) W xa A)
theorem Pst.toF {G : Gd} {m bs : List Addr} {st : Sto} {H : Hp} {W : Value → Option Addr → Hp → Prop} {r : R (List IV)} {Q : VK} {P : List IV → List Addr → Sto → Hp → Prop} (h : PstF G m bs st H W r Q)
    (k : ∀ xs m' st' H', GrowE m st H m' st' H' → Rel G m' bs st' H' → (∀ m2 H2 D vs, H D = none → GrowE m st H m2 st' H2 → Rel G m2 (D :: bs) st' H2 → H2 D = some (.lst vs) → RVs G m2 (D :: bs) st' H2 xs vs → Q (.ref D) H2) → P xs m' st' H') : Pst G m bs st H W r P := by
  cases r with
  | ok xs st' => exact fun m' H' g R => k xs m' st' H' g R h
  | exc c fs st' => exact h
  | bad => exact h
section
variable {X : Cx} {W : WX} {xa : Xa} {e a b : Expr} {A : IE} {As : IA} {pos : Pos} {es : List Expr}
def iF (As : IA) : IE := fun ρ st => (As ρ st).bind fun xs st => .ok (.lst xs) st
def iFS (As : IA) : IE := fun ρ st => (As ρ st).bind fun xs st => .ok (.ref st.length) (st ++ [.lst xs])
theorem F_weak {σ : L2.St} {H : Hp} {Q : VK} (h : teOf (gd X) W xa (iF As) σ H Q) : tfOf (gd X) W xa As σ H Q := by
  obtain ⟨m, os, rs, ρ, st, P, h⟩ := h
  refine ⟨m, os, rs, ρ, st, P, ?_⟩
  unfold iF at h
  cases q : As ρ st with
  | ok xs st' =>
    rw [q] at h
    intro m' H' D vs hD g R e r
    have sub : ∀ a ∈ os ++ rs, a ∈ D :: (os ++ rs) := fun a z => List.mem_cons_of_mem _ z
    refine h m' H' g (R.sub sub) (.ref D) ?_
    simp only [RV]
    have hn := R.bsd D List.mem_cons_self
    refine ⟨D, vs, rfl, .inl ⟨.inl e, fun z => hn.1 z.mem, fun z => ?_⟩, RVs.fits (fits_sub sub) _ _ r⟩
    obtain ⟨_, o, e'⟩ := P.rel.bsd D z
    rw [hD] at e'; cases e'
  | exc c fs st' => rw [q] at h; exact h
  | bad => rw [q] at h; exact h
theorem FS_weak {σ : L2.St} {H : Hp} {Q : VK} (h : teOf (gd X) W xa (iFS As) σ H Q) : tfOf (gd X) W xa As σ H Q := by
  obtain ⟨m, os, rs, ρ, st, P, h⟩ := h
  refine ⟨m, os, rs, ρ, st, P, ?_⟩
  unfold iFS at h
  cases q : As ρ st with
  | ok xs st' =>
    rw [q] at h
    intro m' H' D vs hD g R e r
    have sub : ∀ a ∈ os ++ rs, a ∈ D :: (os ++ rs) := fun a z => List.mem_cons_of_mem _ z
    have hn := R.bsd D List.mem_cons_self
    have nb : D ∉ os ++ rs := fun z => by
      obtain ⟨_, o, e'⟩ := P.rel.bsd D z
      rw [hD] at e'; cases e'
    have f : Fits (gd X) m' (D :: (os ++ rs)) st' H' (m' ++ [D]) (os ++ rs) (st' ++ [.lst xs]) H' := by
      refine ⟨fun l a h => ?_, fun a vs h => ?_, fun a vs h => ?_, fun a o u h => ?_⟩
      · rw [List.getElem?_append_left (List.getElem?_eq_some_iff.mp h).1]; exact h
      · rcases h with ⟨h, n, z⟩ | h
        · exact .inl ⟨h, fun y => (lv_snoc R.len y).elim n fun y => z (y ▸ List.mem_cons_self), fun y => z (sub a y)⟩
        · exact .inr h
      · rcases h with ⟨h, n, z⟩ | h
        · exact .inl ⟨h, fun y => (lv_snoc R.len y).elim n fun y => z (y ▸ List.mem_cons_self), fun y => z (sub a y)⟩
        · exact .inr h
      · obtain ⟨h, n, z⟩ := h
        exact ⟨h, fun y => (lv_snoc R.len y).elim n fun y => z (y ▸ List.mem_cons_self), fun y => z (sub a y)⟩
    have g2 : GrowE m st H (m' ++ [D]) (st' ++ [.lst xs]) H' := ⟨g.pre.trans (List.prefix_append _ _), fun a o ha na qa nx => by
      obtain ⟨h1, n1, _⟩ := g.keep a o ha na qa nx
      exact ⟨h1, fun y => (lv_snoc R.len y).elim n1 (fun y => by rw [y, hD] at ha; cases ha), qa⟩, g.stay⟩
    refine h (m' ++ [D]) H' g2 ⟨by simp [R.len], fun i j x e1 e2 => ?_, fun l w x e1 e2 => ?_, fun x z => ⟨fun y => ?_, (R.bsd x (sub x z)).2⟩⟩ (.ref D) ?_
    · rcases getElem?_snoc e1 with e1 | ⟨i1, e1⟩
      · rcases getElem?_snoc e2 with e2 | ⟨i2, e2⟩
        · exact R.nd i j x e1 e2
        · exact absurd (List.mem_of_getElem? e1) (by rw [e2]; exact hn.1)
      · rcases getElem?_snoc e2 with e2 | ⟨i2, e2⟩
        · exact absurd (List.mem_of_getElem? e2) (by rw [e1]; exact hn.1)
        · omega
    · rcases getElem?_snoc e2 with e2 | ⟨i2, e2⟩
      · have hlt : l < st'.length := by rw [← R.len]; exact (List.getElem?_eq_some_iff.mp e2).1
        rw [List.getElem?_append_left hlt] at e1
        exact (R.obj l w x e1 e2).fits f fun _ e => e
      · subst e2
        rw [R.len] at i2; subst i2
        rw [List.getElem?_append_right (Nat.le_refl _)] at e1
        have ew : IO.lst xs = w := by simpa using e1
        rw [← ew]; exact ⟨vs, e, RVs.fits f _ _ r⟩
    · rcases List.mem_append.mp y with y | y
      · exact (R.bsd x (sub x z)).1 y
      · have : x = D := by simpa using y
        exact nb (this ▸ z)
    · simp only [RV]
      exact ⟨D, rfl, by rw [← R.len, List.getElem?_append_right (Nat.le_refl _)]; simp⟩
  | exc c fs st' => rw [q] at h; exact h
  | bad => rw [q] at h; exact h
theorem me_F (h : MF X W xa e As) : ME X W xa e (iF As) := PE.weak h fun σ H Q h => F_weak h
theorem me_FS (h : MF X W xa e As) : ME X W xa e (iFS As) := PE.weak h fun σ H Q h => FS_weak h
/-- x = a list just made, the name's own -/
def iSetOwn (i : Nat) (As : IA) : IS := fun ρ st => RS.ofR (As ρ st) ρ fun xs st => if i < ρ.length then .nx (ρ.set i (some (.own xs))) st else .bad
theorem own_weak {i : Nat} {D0 : Ends} {σ : L2.St} {H : Hp} (h : tsOf (gd X) W xa (iSetOwn i As) D0 σ H) : tAsg (tfOf (gd X) W xa As) (gName i) D0 σ H := by
  obtain ⟨m, os, rs, ρ, st, P, h⟩ := h
  refine ⟨m, os, rs, ρ, st, P, ?_⟩
  unfold iSetOwn at h
  cases q : As ρ st with
  | ok xs st' =>
    rw [q] at h
    intro m' H' D vs hD g R e r
    simp only [RS.ofR] at h
    split at h
    · rename_i hi
      have hiσ : i < σ.length := by rw [← P.re.len]; exact hi
      have nr : D ∉ os ++ rs := fun z => by
        obtain ⟨_, o, e'⟩ := P.rel.bsd D z
        rw [hD] at e'; cases e'
      refine h m' (D :: os) H' (σ.set i (some (.ref D))) ⟨g.pre, fun a o ha n qa nx => ?_, g.stay⟩ ⟨R, by simp [P.re.len], fun j y e1 => ?_, fun j ys e1 => ?_, fun j k ys zs w e1 e2 e3 e4 => ?_⟩
      · obtain ⟨h1, n1, _⟩ := g.keep a o ha n (by simp) nx
        exact ⟨h1, n1, fun z => by
          rcases List.mem_cons.mp z with z | z
          · rw [z, hD] at ha; cases ha
          · exact qa z⟩
      · by_cases hj : i = j
        · subst hj
          rw [List.getElem?_set_self hi] at e1
          cases e1
          exact ⟨.ref D, by rw [List.getElem?_set_self hiσ], D, vs, rfl, e, r, List.mem_cons_self⟩
        · rw [List.getElem?_set_ne hj] at e1
          obtain ⟨v, e2, r2⟩ := P.re.at_ j y e1
          refine ⟨v, by rw [List.getElem?_set_ne hj]; exact e2, ?_⟩
          have R' : Rel (gd X) m' (os ++ rs) st' H' := R.sub fun a z => List.mem_cons_of_mem _ z
          cases y with
          | v x =>
            -- its places stood at the beginning
            have key : ∀ a o, H a = some o → ¬ Lv m st a → NX o → H' a = some o ∧ ¬ Lv m' st' a ∧ a ≠ D := fun a o ha na nx => by
              obtain ⟨h1, n1, _⟩ := g.keep a o ha na (by simp) nx
              exact ⟨h1, n1, fun z => by rw [z, hD] at ha; cases ha⟩
            have f : Fits (gd X) m (os ++ rs) st H m' (D :: (os ++ rs)) st' H' := by
              refine ⟨fun l a h => g.at h, fun a vs h => ?_, fun a vs h => ?_, fun a o u h => ?_⟩
              · rcases h with ⟨h, n, z⟩ | h
                · rcases h with h | ⟨o, h⟩
                  · obtain ⟨k1, k2, k3⟩ := key a _ h n nxt
                    exact .inl ⟨.inl k1, k2, fun y => (List.mem_cons.mp y).elim k3 z⟩
                  · obtain ⟨k1, k2, k3⟩ := key a _ h n nxf
                    exact .inl ⟨.inr ⟨o, k1⟩, k2, fun y => (List.mem_cons.mp y).elim k3 z⟩
                · exact .inr h
              · rcases h with ⟨h, n, z⟩ | h
                · rcases h with h | ⟨o, h⟩
                  · obtain ⟨k1, k2, k3⟩ := key a _ h n nxl
                    exact .inl ⟨.inl k1, k2, fun y => (List.mem_cons.mp y).elim k3 z⟩
                  · obtain ⟨k1, k2, k3⟩ := key a _ h n nxf
                    exact .inl ⟨.inr ⟨o, k1⟩, k2, fun y => (List.mem_cons.mp y).elim k3 z⟩
                · exact .inr h
              · obtain ⟨h, n, z⟩ := h
                obtain ⟨k1, k2, k3⟩ := key a _ h n nxf
                exact ⟨k1, k2, fun y => (List.mem_cons.mp y).elim k3 z⟩
            exact RV.fits f _ _ r2
          | own ys =>
            obtain ⟨a, ws, ea, ha, ra, hb⟩ := r2
            have key : ∀ a o, H a = some o → ¬ Lv m st a → NX o → H' a = some o ∧ ¬ Lv m' st' a ∧ a ≠ D := fun a o ha na nx => by
              obtain ⟨h1, n1, _⟩ := g.keep a o ha na (by simp) nx
              exact ⟨h1, n1, fun z => by rw [z, hD] at ha; cases ha⟩
            have f : Fits (gd X) m (os ++ rs) st H m' (D :: (os ++ rs)) st' H' := by
              refine ⟨fun l a h => g.at h, fun a vs h => ?_, fun a vs h => ?_, fun a o u h => ?_⟩
              · rcases h with ⟨h, n, z⟩ | h
                · rcases h with h | ⟨o, h⟩
                  · obtain ⟨k1, k2, k3⟩ := key a _ h n nxt
                    exact .inl ⟨.inl k1, k2, fun y => (List.mem_cons.mp y).elim k3 z⟩
                  · obtain ⟨k1, k2, k3⟩ := key a _ h n nxf
                    exact .inl ⟨.inr ⟨o, k1⟩, k2, fun y => (List.mem_cons.mp y).elim k3 z⟩
                · exact .inr h
              · rcases h with ⟨h, n, z⟩ | h
                · rcases h with h | ⟨o, h⟩
                  · obtain ⟨k1, k2, k3⟩ := key a _ h n nxl
                    exact .inl ⟨.inl k1, k2, fun y => (List.mem_cons.mp y).elim k3 z⟩
                  · obtain ⟨k1, k2, k3⟩ := key a _ h n nxf
                    exact .inl ⟨.inr ⟨o, k1⟩, k2, fun y => (List.mem_cons.mp y).elim k3 z⟩
                · exact .inr h
              · obtain ⟨h, n, z⟩ := h
                obtain ⟨k1, k2, k3⟩ := key a _ h n nxf
                exact ⟨k1, k2, fun y => (List.mem_cons.mp y).elim k3 z⟩
            exact ⟨a, ws, ea, (key a _ ha (fun z => (P.rel.bsd a hb).1 z.mem) nxl).1, RVs.fits f _ _ ra, List.mem_cons_of_mem _ hb⟩
          | exn l =>
            obtain ⟨a, d, e, e2, e3⟩ := r2
            exact ⟨a, d, e, e2, g.at e3⟩
      · by_cases hj : i = j
        · subst hj
          exact ⟨D, by rw [List.getElem?_set_self hiσ], List.mem_cons_self, fun z => nr (List.mem_append_right _ z)⟩
        · rw [List.getElem?_set_ne hj] at e1
          obtain ⟨a, e2, q2⟩ := P.re.own j ys e1
          exact ⟨a, by rw [List.getElem?_set_ne hj]; exact e2, List.mem_cons_of_mem _ q2.1, q2.2⟩
      · have other : ∀ {j : Nat} {ys : List IV}, i ≠ j → (ρ.set i (some (.own xs)))[j]? = some (some (.own ys)) → (σ.set i (some (.ref D)))[j]? ≠ some (some (.ref D)) := fun {j ys} hj e1 e3 => by
          rw [List.getElem?_set_ne hj] at e1 e3
          obtain ⟨a, e2, q2⟩ := P.re.own j ys e1
          rw [e3] at e2
          cases e2
          exact nr (List.mem_append_left _ q2.1)
        by_cases hj : i = j
        · subst hj
          by_cases hk : i = k
          · exact hk
          · rw [List.getElem?_set_self hiσ] at e3
            cases e3
            exact absurd e4 (other hk e2)
        · by_cases hk : i = k
          · subst hk
            rw [List.getElem?_set_self hiσ] at e4
            cases e4
            exact absurd e3 (other hj e1)
          · rw [List.getElem?_set_ne hj] at e1 e3
            rw [List.getElem?_set_ne hk] at e2 e4
            exact P.re.uniq j k ys zs w e1 e2 e3 e4
    · exact h.elim
  | exc c fs st' =>
    rw [q] at h
    exact fun m' H' cls d g R x => h m' os H' σ cls d (.ofE g) (P.grow g R) x
  | bad => rw [q] at h; exact h
theorem ms_setOwn {i : Nat} {x : Str} {pos' : Pos} (hN : X.N.Nodup) (hi : X.N[i]? = some x) (hx : Loc X.env.scope x) (ha : MF X W xa a As) (hs : swapsWith a (some (.Name x pos')) pos.line X.env = pure false := by rfl)
    (hf : X.fn x = true ∨ X.env.scope.names.lookup x = some .local := by first | exact .inl rfl | exact .inr rfl | assumption) : MS X W xa (.Assign [.Name x pos'] a pos) (iSetOwn i As) :=
  PS.weak (ps_set hN hi hx ha hs hf) fun D σ H h => own_weak h
/-- [a, b, ..] -/
def iFew (As : IA) : IA := fun ρ st => (As ρ st).bind fun xs st => if xs.length ≤ 100000 then .ok xs st else .bad
theorem mf_new {m bs : List Addr} {st : Sto} {H : Hp} {m1 : List Addr} {st1 : Sto} {H1 : Hp} {xs : List IV} {vs : List V} {W : Value → Option Addr → Hp → Prop} {Q : VK} (R0 : Rel (gd X) m bs st H) (g : GrowE m st H m1 st1 H1) (R : Rel (gd X) m1 bs st1 H1)
    (r : RVs (gd X) m1 bs st1 H1 xs vs) (h : PstF (gd X) m bs st H W (.ok xs st1) Q) {p : Addr} (hp : H1 p = none) : Q (.ref p) (upd H1 p (.lst vs)) := by
  have blk : ∀ a ∈ p :: bs, a = p ∨ a ∈ bs := fun a z => List.mem_cons.mp z
  exact h m1 _ p vs (back_fresh R g R0 hp) (g.trans (grow_new hp)) (R.block hp blk) upd_same (RVs.fits (fits_block hp blk) _ _ r)
theorem mf_lst (h : MA X W xa es As) : MF X W xa (.List es pos) (iFew As) := by
  refine PE.weak (pe_lst h) fun σ H Q h => ?_
  obtain ⟨m, os, rs, ρ, st, P, h⟩ := h
  refine ⟨m, os, rs, ρ, st, P, ?_⟩
  unfold iFew at h
  cases q : As ρ st with
  | ok xs st1 =>
    rw [q] at h
    intro m1 H1 g1 R1 vs rv
    simp only [R.bind] at h
    split at h
    · rename_i c
      exact ⟨by rw [← rv.length]; exact szl c, fun p hp => mf_new P.rel g1 R1 rv h hp⟩
    · exact h.elim
  | exc c fs st1 => rw [q] at h; exact h
  | bad => rw [q] at h; exact h
/-- list(e) -/
def gListF : List IV → Sto → R (List IV)
  | [x], st => match asS st x with
    | some xs => .ok xs st
    | none => .bad
  | _, _ => .bad
def iCallF (g : List IV → Sto → R (List IV)) (As : IA) : IA := fun ρ st => (As ρ st).bind g
theorem mf_list {x : Str} {p : Pos} (hg : Gl X x) (hm : X.mg x = none) (hv : bootBuiltins x = some (.type "list")) (ha : MA X W xa (e :: es) As)
    (hn : x ≠ "__name__" := by decide) (hdb : (x == ("__debug__" : Str)) = false := by decide) (he : starEach (e :: es) X.env = (false, eval e X.env) :: starEach es X.env := by rfl) (hpl : (backTo pos (starEach es X.env)).any (·.1) = false := by rfl) :
    MF X W xa (.Call (.Name x p) (e :: es) [] pos) (iCallF gListF As) := by
  refine PE.weak (pe_callTy call_list_of hg hm hv ha hn hdb he hpl) fun σ H Q h => ?_
  obtain ⟨m, os, rs, ρ, st, P, h⟩ := h
  refine ⟨m, os, rs, ρ, st, P, ?_⟩
  unfold iCallF at h
  cases q : As ρ st with
  | ok xs st1 =>
    rw [q] at h
    intro m1 H1 g1 R1 vs rv
    simp only [R.bind, gListF] at h
    split at h
    · split at h
      · rename_i ys hy
        obtain ⟨v, e, r⟩ := rvs1 rv
        obtain ⟨a, ws, ea, hs, r2⟩ := asS_sq R1 hy r
        subst ea
        exact ⟨a, ws, e, hs, fun l hl => mf_new P.rel g1 R1 r2 h hl⟩
      · exact h.elim
    · exact h.elim
  | exc c fs st1 => rw [q] at h; exact h
  | bad => rw [q] at h; exact h
end

/-! ### comprehensions -/
def wipeI (ρ : Slots) : List Nat → Slots
  | [] => ρ
  | v :: vs => (wipeI ρ vs).set v none
section
variable {G : Gd} {xa : Xa} {m os rs : List Addr} {st : Sto} {H : Hp} {σ : L2.St} {ρ : Slots}
theorem Pre.wipe (P : Pre G xa σ H m os rs ρ st) : ∀ vs : List Nat, Pre G xa (wipe σ vs) H m os rs (wipeI ρ vs) st
  | [] => P
  | v :: vs => by
    have h := Pre.wipe P vs
    show Pre G xa ((L2.wipe σ vs).set v none) H m os rs ((wipeI ρ vs).set v none) st
    exact h.setN
theorem wipe_set {v : Nat} : ∀ {vs : List Nat}, v ∈ vs → ∀ (σ : L2.St) (x : Option V), wipe (σ.set v x) vs = wipe σ vs
  | [], h, _, _ => nomatch h
  | u :: vs, h, σ, x => by
    show ((L2.wipe (σ.set v x) vs).set u none) = (L2.wipe σ vs).set u none
    by_cases hm : v ∈ vs
    · rw [wipe_set hm]
    · have hv : v = u := by
        rcases List.mem_cons.mp h with h | h
        · exact h
        · exact absurd h hm
      subst hv
      have : ∀ (vs : List Nat) (σ : L2.St) (x : Option V), v ∉ vs → L2.wipe (σ.set v x) vs = (L2.wipe σ vs).set v x := by
        intro vs
        induction vs with
        | nil => intro σ x _; rfl
        | cons w ws ih =>
          intro σ x hn
          show ((L2.wipe (σ.set v x) ws).set w none) = ((L2.wipe σ ws).set w none).set v x
          rw [ih σ x fun z => hn (List.mem_cons_of_mem _ z), List.set_comm _ _ (fun (z : w = v) => hn (by rw [z]; exact List.mem_cons_self))]
      rw [this vs σ x hm, List.set_set]
theorem wipe_wipe : ∀ (vs : List Nat) (σ : L2.St), wipe (wipe σ vs) vs = wipe σ vs
  | [], _ => rfl
  | v :: vs, σ => by
    show (L2.wipe ((L2.wipe σ vs).set v none) vs).set v none = (L2.wipe σ vs).set v none
    by_cases hm : v ∈ vs
    · rw [wipe_set hm, wipe_wipe vs σ]
    · have : ∀ (vs : List Nat) (σ : L2.St) (x : Option V), v ∉ vs → L2.wipe (σ.set v x) vs = (L2.wipe σ vs).set v x := by
        intro vs
        induction vs with
        | nil => intro σ x _; rfl
        | cons w ws ih =>
          intro σ x hn
          show ((L2.wipe (σ.set v x) ws).set w none) = ((L2.wipe σ ws).set w none).set v x
          rw [ih σ x fun z => hn (List.mem_cons_of_mem _ z), List.set_comm _ _ (fun (z : w = v) => hn (by rw [z]; exact List.mem_cons_self))]
      rw [this vs _ none hm, wipe_wipe vs σ, List.set_set]
/-- a comprehension's target: it stores the block's own names alone -/
def CTg (G : Gd) (xa : Xa) (vs : List Nat) (g : TG) (T : ITg) : Prop :=
  ∀ (v : V) (σ : L2.St) (H : Hp) (Q : L2.St → Hp → Prop) m os rs ρ st x, Pre G xa σ H m os rs ρ st → RV G m (os ++ rs) st H x v →
    (∃ ρ' , T x ρ st = .nx ρ' st ∧ ∀ σ2, Pre G xa σ2 H m os rs ρ' st → wipe σ2 vs = wipe σ vs → Q σ2 H) → g v σ H Q
theorem ctg_name {vs : List Nat} {i : Nat} (h : i ∈ vs) : CTg G xa vs (gName i) (tgName i) := by
  intro v σ H Q m os rs ρ st x P r h'
  obtain ⟨ρ', e, k⟩ := h'
  cases e
  exact k _ (P.set r) (wipe_set h σ _)
theorem ctg_pair {vs : List Nat} {i j : Nat} (hi : i ∈ vs) (hj : j ∈ vs) : CTg G xa vs (gTup G.K 2 (gCons (gName i) (gCons (gName j) gNil))) (tgTup 2 (tgCons (tgName i) (tgCons (tgName j) tgNil))) := by
  intro v σ H Q m os rs ρ st x P r h'
  obtain ⟨ρ', e, k⟩ := h'
  cases x with
  | tup xs =>
    simp only [tgTup] at e
    split at e
    · rename_i hl
      obtain ⟨p, ws, ep, hs, r2⟩ := asT_sq (x := .tup xs) rfl r
      refine ⟨p, ws, ep, hs, by rw [← r2.length]; exact hl, ?_⟩
      match xs, hl with
      | [y, z], _ =>
        obtain ⟨v1, v2, ev, r3, r4⟩ := rvs2 r2
        refine ⟨v1, [v2], ev, v2, [], rfl, rfl, ?_⟩
        simp only [tgCons, tgName, RS.seq, tgNil] at e
        cases e
        exact k _ ((P.set r3).set r4) (by rw [wipe_set hj, wipe_set hi])
    · cases e
  | _ => cases e
end
/-- an exception inside is none of ours -/
def R.noE {α : Type} : R α → R α
  | .exc _ _ _ => .bad
  | r => r
theorem Pst.noE {α : Type} {G : Gd} {m bs : List Addr} {st : Sto} {H : Hp} {W W' : Value → Option Addr → Hp → Prop} {r : R α} {P : α → List Addr → Sto → Hp → Prop} (h : Pst G m bs st H W r.noE P) : Pst G m bs st H W' r P := by
  cases r with
  | ok a st' => exact h
  | exc c fs st' => exact h.elim
  | bad => exact h
theorem PstF.shift {G : Gd} {m bs : List Addr} {st : Sto} {H : Hp} {W : Value → Option Addr → Hp → Prop} {r : R (List IV)} {Q : VK} (R : Rel G m bs st H) {m1 : List Addr} {st1 : Sto} {H1 : Hp} (R1 : Rel G m1 bs st1 H1) (g : GrowE m st H m1 st1 H1) (h : PstF G m bs st H W r Q) : PstF G m1 bs st1 H1 W r Q := by
  cases r with
  | ok a st' => exact fun m' H' D vs hD g' R' e r => h m' H' D vs (back_fresh R1 g R hD) (g.trans g') R' e r
  | exc c fs st' => exact fun m' H' cls d g' R' x => h m' H' cls d (g.trans g') R' x
  | bad => exact h
/-- one clause, at most one test -/
def lcL (g : GI) (all : List IV) (vs : List Nat) (T : ITg) (S : IT) (E : IE) (ρ : Slots) : List IV → Nat → List IV → Sto → R (List IV)
  | [], _, acc, st => if gokB g st all = true then .ok acc st else .bad
  | x :: r, n, acc, st => if gokB g st all = true ∧ acc.length < 100000 then
      match T x (wipeI ρ vs) st with
      | .nx ρ1 st1 => ((S ρ1 st1).noE).bind fun b st2 => if b = true then ((E ρ1 st2).noE).bind fun y st3 => lcL g all vs T S E ρ r (n + 1) (acc ++ [y]) st3 else lcL g all vs T S E ρ r (n + 1) acc st2
      | _ => .bad
    else .bad
def iLc (I : IIt) (vs : List Nat) (T : ITg) (S : IT) (E : IE) : IA := fun ρ st => (I ρ st).bind fun p st => lcL p.2 p.1 vs T S E ρ p.1 0 [] st
def iYes : IT := fun _ st => .ok true st
abbrev W0 : WX := fun _ _ _ _ => False
section
variable {X : Cx} {W : WX} {xa : Xa} {e a b : Expr} {A : IE} {As : IA} {pos : Pos} {es : List Expr}
/-- what the tests read -/
def TtOk (G : Gd) (xa : Xa) (tt : TT) (S : IT) : Prop := ∀ σ H Q, ttOf G W0 xa S σ H Q → tt σ H Q
theorem ttok_yes {G : Gd} : TtOk G xa tYes iYes := fun σ H Q h => by
  obtain ⟨m, os, rs, ρ, st, P, h⟩ := h
  exact Pst.ok P.rel h true rfl
theorem ttok_one {G : Gd} {S : IT} : TtOk G xa (ttOf G W0 xa S) S := fun σ H Q h => h
theorem lc_weak {g : TG} {tt : TT} {I : IIt} {T : ITg} {S : IT} {E : IE} {vs : List Nat} (hT : CTg (gd X) xa vs g T) (hS : TtOk (gd X) xa tt S) (hpl : ∀ x ρ st, match T x ρ st with | .nx _ st' => st' = st | _ => True)
    {σ : L2.St} {H : Hp} {Q : VK} (h : tfOf (gd X) W xa (iLc I vs T S E) σ H Q) : tLc (tiOf (gd X) W xa I) g tt (teOf (gd X) W0 xa E) vs σ H Q := by
  obtain ⟨m, os, rs, ρ, st, P, h⟩ := h
  refine ⟨m, os, rs, ρ, st, P, ?_⟩
  unfold iLc at h
  cases q : I ρ st with
  | exc c fs st1 => rw [q] at h; exact h
  | bad => rw [q] at h; exact h
  | ok p st1 =>
    rw [q] at h
    intro m1 H1 g1 R1 J hw D hD
    obtain ⟨xs, gd0⟩ := p
    have h0 : PstF (gd X) m (os ++ rs) st H (fun cls d H' => W cls d σ H') (lcL gd0 xs vs T S E ρ xs 0 [] st1) Q := h
    have blk : ∀ a ∈ os ++ (D :: rs), a = D ∨ a ∈ os ++ rs := fun a z => by
      rcases List.mem_append.mp z with z | z
      · exact .inr (List.mem_append_left _ z)
      · rcases List.mem_cons.mp z with z | z
        · exact .inl z
        · exact .inr (List.mem_append_right _ z)
    have perm : ∀ a ∈ D :: (os ++ rs), a ∈ os ++ (D :: rs) := fun a z => by
      rcases List.mem_cons.mp z with z | z
      · rw [z]; exact List.mem_append_right _ List.mem_cons_self
      · rcases List.mem_append.mp z with z | z
        · exact List.mem_append_left _ z
        · exact List.mem_append_right _ (List.mem_cons_of_mem _ z)
    have Dm : D ∈ os ++ (D :: rs) := List.mem_append_right _ List.mem_cons_self
    have hD0 : H D = none := back_fresh R1 g1 P.rel hD
    have P1 := P.grow g1 R1
    -- the relation with D blocked
    have f1 : Fits (gd X) m1 (os ++ rs) st1 H1 m1 (os ++ (D :: rs)) st1 (upd H1 D (.lst [])) := fits_block hD blk
    have Q1 : Pre (gd X) xa σ (upd H1 D (.lst [])) m1 os (D :: rs) ρ st1 := by
      refine ⟨P1.rel.block hD blk, P1.re.len, fun i x e => ?_, fun i xs e => let ⟨a, e1, e2, e3⟩ := P1.re.own i xs e; ⟨a, e1, e2, fun z => (List.mem_cons.mp z).elim (fun z => by obtain ⟨_, o, q⟩ := P1.rel.bsd a (List.mem_append_left _ e2); rw [z, hD] at q; cases q) e3⟩, P1.re.uniq⟩
      obtain ⟨v, e1, r⟩ := P1.re.at_ i x e
      refine ⟨v, e1, ?_⟩
      cases x with
      | v x => exact RV.fits f1 _ _ r
      | own xs =>
        obtain ⟨a, vs, ea, ha, ra, hb⟩ := r
        have ne : a ≠ D := ne_of_none ha hD
        refine ⟨a, vs, ea, by rw [upd_ne ne]; exact ha, RVs.fits f1 _ _ ra, ?_⟩
        rcases List.mem_append.mp hb with z | z
        · exact List.mem_append_left _ z
        · exact List.mem_append_right _ (List.mem_cons_of_mem _ z)
      | exn l => exact r
    refine ⟨fun i n H2 => n = xs.length - i ∧ i ≤ xs.length ∧ ∃ m2 st2 acc ws k, GrowE m st H m2 st2 H2 ∧ Fits (gd X) m1 (os ++ rs) st1 H1 m2 (os ++ (D :: rs)) st2 H2 ∧ Pre (gd X) xa σ H2 m2 os (D :: rs) ρ st2 ∧ H2 D = some (.lst ws) ∧ RVs (gd X) m2 (os ++ (D :: rs)) st2 H2 acc ws ∧
        PstF (gd X) m (os ++ rs) st H (fun cls d H' => W cls d σ H') (lcL gd0 xs vs T S E ρ (xs.drop i) k acc st2) Q,
      ⟨xs.length, by simp, Nat.zero_le _, m1, st1, [], [], 0, g1.trans (grow_new hD), f1, Q1, upd_same, by simp only [RVs], by simpa using h0⟩, ?_⟩
    rintro i n H2 ⟨rfl, hi, m2, st2, acc, ws, k, g2, f2, P2, eD, ra, h2⟩
    have w := hw i m2 _ st2 H2 f2 P2.rel
    by_cases hlt : i < xs.length
    · have ed : xs.drop i = xs[i] :: xs.drop (i + 1) := List.drop_eq_getElem_cons hlt
      rw [ed, lcL] at h2
      split at h2
      · rename_i gk
        obtain ⟨w1, _⟩ := w gk.1
        obtain ⟨go, yl⟩ := w1 xs[i] (List.getElem?_eq_getElem hlt)
        refine .inr ⟨go, fun H' => i + 1 ≤ xs.length ∧ ∃ m2 st2 acc ws k, GrowE m st H m2 st2 H' ∧ Fits (gd X) m1 (os ++ rs) st1 H1 m2 (os ++ (D :: rs)) st2 H' ∧ Pre (gd X) xa σ H' m2 os (D :: rs) ρ st2 ∧ H' D = some (.lst ws) ∧ RVs (gd X) m2 (os ++ (D :: rs)) st2 H' acc ws ∧
          PstF (gd X) m (os ++ rs) st H (fun cls d H' => W cls d σ H') (lcL gd0 xs vs T S E ρ (xs.drop (i + 1)) k acc st2) Q, fun H' q => ⟨xs.length - (i + 1), by omega, rfl, q⟩, fun v H3 y => ?_⟩
        obtain ⟨g3, R3, r3⟩ := yl v H3 y
        have P3 := (P2.grow g3 R3).wipe vs
        have hp := hpl xs[i] (wipeI ρ vs) st2
        cases q1 : T xs[i] (wipeI ρ vs) st2 with
        | nx ρ4 st4 =>
          rw [q1] at hp
          simp only at hp
          subst hp
          simp only [q1] at h2
          refine hT v (wipe σ vs) H3 _ m2 os (D :: rs) (wipeI ρ vs) st4 xs[i] P3 r3 ⟨ρ4, q1, fun σ2 P4 ew => ⟨by rw [ew, wipe_wipe], ?_⟩⟩
          have keepD : ∀ {m' : List Addr} {st' : Sto} {H' : Hp}, GrowE m2 st4 H2 m' st' H' → H' D = some (.lst ws) := fun {m' st' H'} g => (g.keep D _ eD (fun z => (P2.rel.bsd D Dm).1 z.mem) (by simp) nxl).1
          refine hS σ2 H3 _ ⟨m2, os, D :: rs, ρ4, st4, P4, ?_⟩
          cases q2 : S ρ4 st4 with
          | ok b st5 =>
            rw [q2] at h2
            intro m5 H5 g5 R5 b' eb
            subst eb
            have gg5 : GrowE m2 st4 H2 m5 st5 H5 := g3.trans g5
            cases b with
            | false =>
              simp only [R.noE, R.bind] at h2
              exact ⟨hlt, m5, st5, acc, ws, k + 1, g2.trans gg5, f2.trans gg5.fitsE, (P2.grow g3 R3).grow g5 R5, keepD gg5, RVs.fits gg5.fitsE _ _ ra, by simpa using h2⟩
            | true =>
              simp only [R.noE, R.bind, if_true] at h2
              refine ⟨m5, os, D :: rs, ρ4, st5, P4.grow g5 R5, ?_⟩
              cases q3 : E ρ4 st5 with
              | ok y st6 =>
                rw [q3] at h2
                intro m6 H6 g6 R6 u ru
                have gg6 : GrowE m2 st4 H2 m6 st6 H6 := gg5.trans g6
                have e6 := keepD gg6
                refine ⟨ws, e6, ?_, ?_⟩
                · rw [← ra.length]; exact szlt gk.2
                · have fu : Fits (gd X) m6 (os ++ (D :: rs)) st6 H6 m6 (os ++ (D :: rs)) st6 (upd H6 D (.lst (ws ++ [u]))) := fits_upd Dm
                  have P6 := ((P2.grow g3 R3).grow g5 R5).grow g6 R6
                  have ra6 : RVs (gd X) m6 (os ++ (D :: rs)) st6 H6 (acc ++ [y]) (ws ++ [u]) := (RVs.fits gg6.fitsE _ _ ra).append (by simp only [RVs]; exact ⟨u, [], rfl, ru, rfl⟩)
                  refine ⟨hlt, m6, st6, acc ++ [y], ws ++ [u], k + 1, ?_, (f2.trans gg6.fitsE).trans fu, ⟨P6.rel.upd Dm, P6.re.len, fun j x e => ?_, P6.re.own, P6.re.uniq⟩, upd_same, RVs.fits fu _ _ ra6, h2⟩
                  · have gg := g2.trans gg6
                    exact ⟨gg.pre, fun a o ha na qa nx => by
                      obtain ⟨k1, k2, _⟩ := gg.keep a o ha na qa nx
                      exact ⟨by rw [upd_ne (ne_of_none ha hD0)]; exact k1, k2, qa⟩, fun a e => gg.stay a (upd_stay e)⟩
                  · obtain ⟨v, e1, r⟩ := P6.re.at_ j x e
                    refine ⟨v, e1, ?_⟩
                    cases x with
                    | v x => exact RV.fits fu _ _ r
                    | own zs =>
                      obtain ⟨a, us, ea, ha, rz, hb⟩ := r
                      obtain ⟨a', e3, ho⟩ := P6.re.own j zs e
                      have ne : a ≠ D := by
                        intro z
                        rw [e1, ea] at e3
                        have z2 : a = a' := by cases e3; rfl
                        obtain ⟨_, o, e4⟩ := P.rel.bsd a' (List.mem_append_left _ ho.1)
                        rw [← z2, z, hD0] at e4; cases e4
                      exact ⟨a, us, ea, by rw [upd_ne ne]; exact ha, RVs.fits fu _ _ rz, hb⟩
                    | exn l => exact r
              | exc c fs st6 => rw [q3] at h2; exact h2.elim
              | bad => rw [q3] at h2; exact h2.elim
          | exc c fs st5 => rw [q2] at h2; exact h2.elim
          | bad => rw [q2] at h2; exact h2.elim
        | _ => simp only [q1] at h2; exact h2.elim
      · exact h2.elim
    · have ei : i = xs.length := by omega
      rw [List.drop_eq_nil_of_le (by omega), lcL] at h2
      split at h2
      · rename_i gk
        exact .inl ⟨(w gk).2 (by show xs.length ≤ i; omega), h2 m2 H2 D ws hD0 g2 (P2.rel.sub perm) eD (RVs.fits (fits_sub perm) _ _ ra)⟩
      · exact h2.elim
/-- [elt for tg in iter if ..] -/
theorem mf_lc {elt tg iter : Expr} {ifs : List Expr} {scope : Scope} {own : List (Str × Nat)} {g : TG} {tt : TT} {I : IIt} {T : ITg} {S : IT} {E : IE} (hc : X.calm = true) (hN : X.N.Nodup) (hi : MI X W xa tg iter I) (ok : BlkOk X.N X.env.scope scope own)
    (hg : ∀ (s : Shared) (H : Hp) (C : Addr) (cl : List (Str × Addr)) (fp : List Addr), PG (X.blk s H scope (compEnvC scope cl C X.env) fp) tg g) (hT : CTg (gd X) xa (own.map (·.2)) g T) (hpl : ∀ x ρ st, match T x ρ st with | .nx _ st' => st' = st | _ => True)
    (ht : ∀ (s : Shared) (H : Hp) (C : Addr) (cl : List (Str × Addr)) (fp : List Addr), PTs (X.blk s H scope (compEnvC scope cl C X.env) fp) ifs tt) (hS : TtOk (gd X) xa tt S)
    (he : ∀ (s : Shared) (H : Hp) (C : Addr) (cl : List (Str × Addr)) (fp : List Addr), PE (X.blk s H scope (compEnvC scope cl C X.env) fp) elt (teOf (gd X) W0 xa E)) (hs : ∀ x, foldedSetIterable iter X.env x = pure x := by intro _; rfl) :
    MF X W xa (.ListComp elt [⟨tg, iter, ifs, 0⟩] scope pos) (iLc I (own.map (·.2)) T S E) :=
  PE.weak (pe_lc hc hN hi ok hg ht he hs) fun σ H Q h => lc_weak hT hS hpl h
theorem setLc {i : Nat} {y : Str} {py : Pos} {elt tg iter : Expr} {ifs : List Expr} {scope : Scope} {own : List (Str × Nat)} {spos : Pos} {g : TG} {tt : TT} {I : IIt} {T : ITg} {S : IT} {E : IE} {J : IS} (hc : X.calm = true) (hN : X.N.Nodup) (hy : X.N[i]? = some y) (hyl : X.env.scope.names.lookup y = some .local)
    (hsw : swapsWith (.ListComp elt [⟨tg, iter, ifs, 0⟩] scope pos) (some (.Name y py)) spos.line X.env = pure true) (hi : MI X W xa tg iter I) (ok : BlkOk X.N X.env.scope scope own)
    (hg : ∀ (s : Shared) (H : Hp) (C : Addr) (cl : List (Str × Addr)) (fp : List Addr), PG (X.blk s H scope (compEnvC scope cl C X.env) fp) tg g) (hT : CTg (gd X) xa (own.map (·.2)) g T) (hpl : ∀ x ρ st, match T x ρ st with | .nx _ st' => st' = st | _ => True)
    (ht : ∀ (s : Shared) (H : Hp) (C : Addr) (cl : List (Str × Addr)) (fp : List Addr), PTs (X.blk s H scope (compEnvC scope cl C X.env) fp) ifs tt) (hS : TtOk (gd X) xa tt S)
    (he : ∀ (s : Shared) (H : Hp) (C : Addr) (cl : List (Str × Addr)) (fp : List Addr), PE (X.blk s H scope (compEnvC scope cl C X.env) fp) elt (teOf (gd X) W0 xa E))
    (hw : ∀ D σ H, tsOf (gd X) W xa J D σ H → tAsg (tfOf (gd X) W xa (iLc I (own.map (·.2)) T S E)) (gName i) D σ H) (hs : ∀ x, foldedSetIterable iter X.env x = pure x := by intro _; rfl) :
    MS X W xa (.Assign [.Name y py] (.ListComp elt [⟨tg, iter, ifs, 0⟩] scope pos) spos) J :=
  PS.weak (ps_setLc hc hN hy hyl hsw hi ok hg ht he hs) fun D σ H h => lc_weak hT hS hpl (hw D σ H h)
theorem hw_in {i : Nat} : ∀ (D : Ends) (σ : L2.St) (H : Hp), tsOf (gd X) W xa (iSet i (iF As)) D σ H → tAsg (tfOf (gd X) W xa As) (gName i) D σ H := fun D σ H h => F_weak (set_weak h)
theorem hw_st {i : Nat} : ∀ (D : Ends) (σ : L2.St) (H : Hp), tsOf (gd X) W xa (iSet i (iFS As)) D σ H → tAsg (tfOf (gd X) W xa As) (gName i) D σ H := fun D σ H h => FS_weak (set_weak h)
theorem hw_own {i : Nat} : ∀ (D : Ends) (σ : L2.St) (H : Hp), tsOf (gd X) W xa (iSetOwn i As) D σ H → tAsg (tfOf (gd X) W xa As) (gName i) D σ H := fun D σ H h => own_weak h
theorem tgpl_name {i : Nat} : ∀ x ρ st, match tgName i x ρ st with | .nx _ st' => st' = st | _ => True := fun _ _ _ => rfl
theorem tgpl_pair {i j : Nat} : ∀ x ρ st, match tgTup 2 (tgCons (tgName i) (tgCons (tgName j) tgNil)) x ρ st with | .nx _ st' => st' = st | _ => True := fun x ρ st => by
  cases x with
  | tup xs =>
    match xs with
    | [] => exact trivial
    | [_] => exact trivial
    | [_, _] => exact rfl
    | _ :: _ :: _ :: r => simp [tgTup]
  | _ => exact trivial
end
end Mi
set_option Elab.async false
set_option linter.all false
set_option maxRecDepth 100000
set_option maxHeartbeats 4000000
namespace Mi
open PySem PySem.Spec PyProof.Rows L2

/-! ### a name's own list -/
section
variable {X : Cx} {W : WX} {xa : Xa} {a b c e o : Expr} {A B C : IE} {pos p apos : Pos} {es : List Expr} {As : IA}
def ownAt (ρ : Slots) (i : Nat) : Option (List IV) := match ρ[i]? with
  | some (some (.own xs)) => some xs
  | _ => none
theorem ownAt_re {G : Gd} {m os rs : List Addr} {st : Sto} {H : Hp} {ρ : Slots} {σ : L2.St} {i : Nat} {xs : List IV} (P : Pre G xa σ H m os rs ρ st) (h : ownAt ρ i = some xs) :
    ∃ d vs, σ[i]? = some (some (.ref d)) ∧ H d = some (.lst vs) ∧ RVs G m (os ++ rs) st H xs vs ∧ d ∈ os ∧ d ∉ rs ∧ ρ[i]? = some (some (.own xs)) := by
  unfold ownAt at h
  split at h
  · rename_i ys e
    cases h
    obtain ⟨v, e1, d, vs, ev, hd, r, hb⟩ := P.re.at_ i _ e
    obtain ⟨d', e2, hd'⟩ := P.re.own i _ e
    subst ev
    rw [e1] at e2
    cases e2
    exact ⟨d, vs, e1, hd, r, hd'.1, hd'.2, e⟩
  · cases h
def iOwnLen (i : Nat) : IE := fun ρ st => match ownAt ρ i with | some xs => .ok (.int xs.length) st | none => .bad
theorem me_ownLen {i : Nat} {x y : Str} {p2 : Pos} (hv : PE X (.Name y p2) (tVar i)) (hg : Gl X "len") (hm : X.mg "len" = none) : ME X W xa (.Call (.Name "len" p) [.Name y p2] [] pos) (iOwnLen i) := by
  refine PE.weak (pe_callB call_len_seq hg hm boot_len (pa_cons hv pa_nil)) fun σ H Q h => ?_
  obtain ⟨m, os, rs, ρ, st, P, h⟩ := h
  unfold iOwnLen at h
  split at h
  · rename_i xs e
    obtain ⟨d, vs, e1, hd, r, _⟩ := ownAt_re P e
    exact ⟨.ref d, e1, d, vs, rfl, .inl (.of hd), by rw [← r.length]; exact h.v P.rel (by simp only [RV])⟩
  · exact h.elim
def iOwnTup (i : Nat) : IE := fun ρ st => match ownAt ρ i with | some xs => .ok (.tup xs) st | none => .bad
theorem me_ownTup {i : Nat} {y : Str} {p2 : Pos} (hv : PE X (.Name y p2) (tVar i)) (hg : Gl X "tuple") (hm : X.mg "tuple" = none) (hb : bootBuiltins "tuple" = some (.type "tuple")) : ME X W xa (.Call (.Name "tuple" p) [.Name y p2] [] pos) (iOwnTup i) := by
  refine PE.weak (pe_callTy call_tuple_of hg hm hb (pa_cons hv pa_nil)) fun σ H Q h => ?_
  obtain ⟨m, os, rs, ρ, st, P, h⟩ := h
  unfold iOwnTup at h
  split at h
  · rename_i xs e
    obtain ⟨d, vs, e1, hd, r, _⟩ := ownAt_re P e
    exact ⟨.ref d, e1, d, vs, rfl, .inl ⟨.of hd, fun l hl => h.newT P.rel r hl⟩⟩
  · exact h.elim
theorem Pre.own_keep {G : Gd} {m os rs : List Addr} {st : Sto} {H : Hp} {ρ : Slots} {σ : L2.St} {m1 : List Addr} {st1 : Sto} {H1 : Hp} {d : Addr} {us : List V} (P : Pre G xa σ H m os rs ρ st) (g : GrowE m st H m1 st1 H1) (h : H d = some (.lst us)) (hb : d ∈ os ++ rs) : H1 d = some (.lst us) :=
  (g.keep d _ h (fun z => (P.rel.bsd d hb).1 z.mem) (by simp) nxl).1
def iOwnIx (i : Nat) (B : IE) : IE := fun ρ st => match ownAt ρ i with
  | some xs => (B ρ st).bind fun y st => match y with
    | .int k => (match atI xs k with | some v => .ok v st | none => .bad)
    | _ => .bad
  | none => .bad
theorem me_ownIx {i : Nat} {y : Str} {p2 : Pos} (hv : PE X (.Name y p2) (tVar i)) (hb : ME X W xa b B) (hs : PlainIx b := by exact fun _ _ => rfl) : ME X W xa (.Subscript (.Name y p2) b pos) (iOwnIx i B) := by
  refine PE.weak (pe_ix ix_list hv hb hs) fun σ H Q h => ?_
  obtain ⟨m, os, rs, ρ, st, P, h⟩ := h
  unfold iOwnIx at h
  split at h
  · rename_i xs e
    obtain ⟨d, vs, e1, hd, r, ho, _⟩ := ownAt_re P e
    refine ⟨.ref d, e1, m, os, rs, ρ, st, P, h.bind.mono fun y m1 st1 H1 g1 R1 h1 u ru => ?_⟩
    split at h1
    · simp only [RV] at ru
      split at h1
      · rename_i v hv
        obtain ⟨w, e3, r3⟩ := atI_rel (RVs.fits g1.fitsE _ _ r) hv
        exact ⟨d, vs, _, w, rfl, ru, .of (P.own_keep g1 hd (List.mem_append_left _ ho)), e3, h1.v R1 r3⟩
      · exact h1.elim
    · exact h1.elim
  · exact h.elim
/-- e in x, e not in x -/
def iOwnIn (neg : Bool) (A : IE) (i : Nat) : IE := fun ρ st => match ownAt ρ i with
  | some xs => (A ρ st).bind fun y st => if flatI y = true ∧ xs.all flatI = true then .ok (.bl (if neg then !inI y xs else inI y xs)) st else .bad
  | none => .bad
theorem own_in {i : Nat} {neg : Bool} {σ : L2.St} {H : Hp} {Q : VK} (h : teOf (gd X) W xa (iOwnIn neg A i) σ H Q) : tOp (rIn X.K neg) (teOf (gd X) W xa A) (tVar i) σ H Q := by
  obtain ⟨m, os, rs, ρ, st, P, h⟩ := h
  unfold iOwnIn at h
  split at h
  · rename_i xs e
    obtain ⟨d, vs, e1, hd, r, ho, _⟩ := ownAt_re P e
    refine ⟨m, os, rs, ρ, st, P, h.bind.mono fun y m1 st1 H1 g1 R1 h1 u ru => ?_⟩
    split at h1
    · rename_i c
      obtain ⟨ex, fx⟩ := rv_flat c.1 ru
      obtain ⟨ev, fv⟩ := rvs_flat c.2 (RVs.fits g1.fitsE _ _ r)
      refine ⟨.ref d, e1, d, vs, rfl, .inl (.of (P.own_keep g1 hd (List.mem_append_left _ ho))), fx, fv, ?_⟩
      rw [ex, ev, inV_of c.1 c.2]
      exact h1.v R1 (by simp only [RV])
    · exact h1.elim
  · exact h.elim
theorem me_ownIn {i : Nat} (ha : ME X W xa a A) (hv : PE X b (tVar i)) (hm : behindInMarks .In b = false) : ME X W xa (.Compare a [.In] [b] pos) (iOwnIn false A i) := PE.weak (pe_cmpR op_in_seq ha hv hm) fun σ H Q h => own_in h
theorem me_ownNotIn {i : Nat} (ha : ME X W xa a A) (hv : PE X b (tVar i)) (hm : behindInMarks .NotIn b = false) : ME X W xa (.Compare a [.NotIn] [b] pos) (iOwnIn true A i) := PE.weak (pe_cmpR op_notIn_seq ha hv hm) fun σ H Q h => own_in h
theorem mt_of_bool {t : TE} (h : PT X e (tTest t)) (k : ∀ σ H Q, teOf (gd X) W xa A σ H Q → t σ H Q) : MT X W xa e (iTest A) := by
  refine PT.weak h fun σ H Q h => ?_
  refine k σ H _ ?_
  obtain ⟨m, os, rs, ρ, st, P, h⟩ := h
  exact ⟨m, os, rs, ρ, st, P, h.bind.mono fun v m3 st3 H3 g3 R3 h3 u ru => asB_post R3 ru h3⟩
theorem mt_ownIn {i : Nat} (ha : ME X W xa a A) (hv : PE X b (tVar i)) (hm : behindInMarks .In b = false) : MT X W xa (.Compare a [.In] [b] pos) (iTest (iOwnIn false A i)) := mt_of_bool (pt_cmpR op_in_seq ha hv hm) fun σ H Q h => own_in h
theorem mt_ownNotIn {i : Nat} (ha : ME X W xa a A) (hv : PE X b (tVar i)) (hm : behindInMarks .NotIn b = false) : MT X W xa (.Compare a [.NotIn] [b] pos) (iTest (iOwnIn true A i)) := mt_of_bool (pt_cmpR op_notIn_seq ha hv hm) fun σ H Q h => own_in h
/-- the name's list changed -/
theorem Pre.ownSet {G : Gd} {m os rs : List Addr} {st : Sto} {H : Hp} {ρ : Slots} {σ : L2.St} {i : Nat} {xs ys : List IV} {d : Addr} {vs ws : List V} (P : Pre G xa σ H m os rs ρ st) (e : ownAt ρ i = some xs) (e1 : σ[i]? = some (some (.ref d))) (hd : H d = some (.lst vs)) (ho : d ∈ os) (hr : d ∉ rs) (r : RVs G m (os ++ rs) st H ys ws) :
    Grow m st os H m st os (upd H d (.lst ws)) ∧ Pre G xa σ (upd H d (.lst ws)) m os rs (ρ.set i (some (.own ys))) st := by
  have hb : d ∈ os ++ rs := List.mem_append_left _ ho
  have f : Fits G m (os ++ rs) st H m (os ++ rs) st (upd H d (.lst ws)) := fits_upd hb
  have ei : ρ[i]? = some (some (.own xs)) := by
    unfold ownAt at e
    split at e
    · rename_i z q; cases e; exact q
    · cases e
  have hi : i < ρ.length := (List.getElem?_eq_some_iff.mp ei).1
  refine ⟨⟨List.prefix_refl _, fun a u q n ho' _ => ⟨by rw [upd_ne (fun (z : a = d) => ho' (by rw [z]; exact ho))]; exact q, n, ho'⟩, fun a e => upd_stay e⟩, P.rel.upd hb, by simp [P.re.len], fun j y e2 => ?_, fun j zs e2 => ?_, fun j k zs us w q1 q2 q3 q4 => ?_⟩
  · by_cases hj : i = j
    · subst hj
      rw [List.getElem?_set_self hi] at e2
      cases e2
      exact ⟨.ref d, e1, d, ws, rfl, upd_same, RVs.fits f _ _ r, hb⟩
    · rw [List.getElem?_set_ne hj] at e2
      obtain ⟨v, e3, r3⟩ := P.re.at_ j y e2
      refine ⟨v, e3, ?_⟩
      cases y with
      | v x => exact RV.fits f _ _ r3
      | own zs =>
        obtain ⟨a, us, ea, ha, rz, hz⟩ := r3
        have ne : a ≠ d := fun z => by
          rw [ea, z] at e3
          exact hj (P.re.uniq i j xs zs _ ei e2 e1 e3)
        exact ⟨a, us, ea, by rw [upd_ne ne]; exact ha, RVs.fits f _ _ rz, hz⟩
      | exn l => exact r3
  · by_cases hj : i = j
    · subst hj
      exact ⟨d, e1, ho, hr⟩
    · rw [List.getElem?_set_ne hj] at e2
      exact P.re.own j zs e2
  · have back : ∀ {j : Nat} {zs : List IV}, (ρ.set i (some (.own ys)))[j]? = some (some (.own zs)) → ∃ zs', ρ[j]? = some (some (.own zs')) := fun {j zs} q => by
      by_cases hj : i = j
      · subst hj; exact ⟨xs, ei⟩
      · rw [List.getElem?_set_ne hj] at q; exact ⟨zs, q⟩
    obtain ⟨z1, q1⟩ := back q1
    obtain ⟨z2, q2⟩ := back q2
    exact P.re.uniq j k z1 z2 w q1 q2 q3 q4
/-- x.append(e) -/
def iOwnApp (i : Nat) (A : IE) : IS := fun ρ st => match ownAt ρ i with
  | some xs => RS.ofR (A ρ st) ρ fun y st => if xs.length < 100000 then .nx (ρ.set i (some (.own (xs ++ [y])))) st else .bad
  | none => .bad
theorem ms_ownApp {i : Nat} {y : Str} {p2 : Pos} (hv : PE X (.Name y p2) (tVar i)) (ha : ME X W xa a A) (hs : starEach [a] X.env = (false, eval a X.env) :: starEach [] X.env := by rfl)
    (hbase : attributeBase (.Name y p2) "append" X.env (eval (.Name y p2) X.env) = eval (.Name y p2) X.env := by rfl)
    (hfew : ((backTo p (starEach [a] X.env)).all (fun x => !x.1) && (backToKw p (keywordEach [] X.env)).all (fun x => x.1.isSome)
      && decide ([a].length + ([] : List Keyword).length + (if ([] : List Keyword).isEmpty then 0 else 1) < 30)) = true := by rfl)
    (hline : (apos.endLine == p.line) = true := by rfl) (hplain : (backTo p (starEach [] X.env)).any (·.1) = false := by rfl)
    (hsw : swapsWith (.Call (.Attribute (.Name y p2) "append" apos) [a] [] p) none pos.line X.env = pure false := by rfl) : MS X W xa (.Expr (.Call (.Attribute (.Name y p2) "append" apos) [a] [] p) pos) (iOwnApp i A) := by
  refine PS.weak (ps_expr (pe_bm PySem.F.plainAttrs_list PySem.F.slot_list_append PySem.F.type_list_append mt_append hv (pa_cons ha pa_nil hs) hbase hfew hline hs hplain) hsw) fun D σ H h => ?_
  obtain ⟨m, os, rs, ρ, st, P, h⟩ := h
  unfold iOwnApp at h
  split at h
  · rename_i xs e
    obtain ⟨d, vs, e1, hd, r, ho, hr, _⟩ := ownAt_re P e
    refine ⟨.ref d, e1, .inl ⟨rfl, vs, .of hd⟩, m, os, rs, ρ, st, P, (h.ofR P).mono fun y m1 st1 H1 g1 R1 h1 u ru => ?_⟩
    split at h1
    · rename_i c
      have hd1 := P.own_keep g1 hd (List.mem_append_left _ ho)
      have r1 := RVs.fits g1.fitsE _ _ r
      have P1 := P.grow g1 R1
      refine ⟨d, vs, u, rfl, rfl, hd1, by rw [← r.length]; exact szlt c, ?_⟩
      obtain ⟨g2, P2⟩ := P1.ownSet (ys := xs ++ [y]) (ws := vs ++ [u]) e e1 hd1 ho hr (r1.append (by simp only [RVs]; exact ⟨u, [], rfl, ru, rfl⟩))
      exact h1 m1 os _ σ g2 P2
    · exact h1.elim
  · exact h.elim
/-- return x: the list is frozen -/
def iRetOwn (i : Nat) : IS := fun ρ st => match ownAt ρ i with
  | some xs => .rt (.lst xs) st
  | none => .bad
theorem ms_retOwn {i : Nat} (hv : PE X a (tVar i)) : MS X W xa (.Return (some a) pos) (iRetOwn i) := by
  refine PS.weak (ps_ret hv) fun D σ H h => ?_
  obtain ⟨m, os, rs, ρ, st, P, h⟩ := h
  unfold iRetOwn at h
  split at h
  · rename_i xs e
    obtain ⟨d, vs, e1, hd, r, ho, hr, _⟩ := ownAt_re P e
    have sub : ∀ a ∈ (os.filter fun b => decide (b ≠ d)) ++ rs, a ∈ os ++ rs := fun a z => by
      rcases List.mem_append.mp z with z | z
      · exact List.mem_append_left _ (List.mem_filter.mp z).1
      · exact List.mem_append_right _ z
    refine ⟨.ref d, e1, h m (os.filter fun b => decide (b ≠ d)) H (.ref d) ⟨List.prefix_refl _, fun a u q n ho' _ => ⟨q, n, fun z => ho' (List.mem_filter.mp z).1⟩, fun _ h => h⟩ (P.rel.sub sub) ?_⟩
    simp only [RV]
    refine ⟨d, vs, rfl, .inl ⟨.inl hd, fun z => (P.rel.bsd d (List.mem_append_left _ ho)).1 z.mem, fun z => ?_⟩, RVs.fits (fits_sub sub) _ _ r⟩
    rcases List.mem_append.mp z with z | z
    · have := (List.mem_filter.mp z).2
      simp at this
    · exact hr z
  · exact h.elim
end
end Mi
set_option Elab.async false
set_option linter.all false
set_option maxRecDepth 100000
set_option maxHeartbeats 4000000
namespace Mi
open PySem PySem.Spec PyProof.Rows L2

/-! ### attributes -/
def putI (f : Str) (v : IV) : List (Str × IV) → List (Str × IV)
  | [] => [(f, v)]
  | (g, x) :: r => if g = f then (g, v) :: r else (g, x) :: putI f v r
section
variable {G : Gd} {m bs : List Addr} {st : Sto} {H : Hp}
theorem RFs.put {f : Str} {x : IV} {v : V} (rx : RV G m bs st H x v) : ∀ {fs : List (Str × IV)} {gs : List (Str × V)}, RFs G m bs st H fs gs → RFs G m bs st H (putI f x fs) (putF f v gs)
  | [], gs, h => by
    simp only [RFs] at h
    subst h
    exact ⟨v, [], rfl, rx, rfl⟩
  | (g, y) :: r, gs, h => by
    obtain ⟨w, t, e, h1, h2⟩ := h
    subst e
    unfold putI putF
    by_cases hg : g = f
    · rw [if_pos hg, if_pos hg]; exact ⟨v, t, rfl, rx, h2⟩
    · rw [if_neg hg, if_neg hg]; exact ⟨w, _, rfl, h1, RFs.put rx h2⟩
theorem RFs.look {f : Str} {x : IV} : ∀ {fs : List (Str × IV)} {gs : List (Str × V)}, RFs G m bs st H fs gs → fs.lookup f = some x → ∃ v, gs.lookup f = some v ∧ RV G m bs st H x v
  | [], gs, h, e => by cases e
  | (g, y) :: r, gs, h, e => by
    obtain ⟨w, t, eg, h1, h2⟩ := h
    subst eg
    by_cases hg : f = g
    · subst hg
      rw [List.lookup_cons_self] at e ⊢
      cases e
      exact ⟨w, rfl, h1⟩
    · have hb : (f == g) = false := by simpa using hg
      rw [List.lookup_cons, hb] at e ⊢
      exact RFs.look h2 e
theorem RFs.length : ∀ {fs : List (Str × IV)} {gs : List (Str × V)}, RFs G m bs st H fs gs → fs.length = gs.length
  | [], gs, h => by simp only [RFs] at h; subst h; rfl
  | (g, y) :: r, gs, h => by
    obtain ⟨w, t, e, _, h2⟩ := h
    subst e
    rw [List.length_cons, List.length_cons, RFs.length h2]
theorem RFs.look_none {f : Str} : ∀ {fs : List (Str × IV)} {gs : List (Str × V)}, RFs G m bs st H fs gs → fs.lookup f = none → gs.lookup f = none
  | [], gs, h, e => by simp only [RFs] at h; subst h; rfl
  | (g, y) :: r, gs, h, e => by
    obtain ⟨w, t, eg, h1, h2⟩ := h
    subst eg
    by_cases hg : f = g
    · subst hg
      rw [List.lookup_cons_self] at e; cases e
    · have hb : (f == g) = false := by simpa using hg
      rw [List.lookup_cons, hb] at e ⊢
      exact RFs.look_none h2 e
end
/-- a class, and an attribute that its text does not have -/
def FdM (K : PySem.W.Frag) (mg : Str → Option Value) (cs : List Str) (f : Str) : Prop := ∀ c ∈ cs, ∀ C, mg c = some (.ref C) → Cls K C ∧ NoAttr K C f
def insAt (st : Sto) (cs : List Str) : IV → Option (Nat × Str × List (Str × IV))
  | .ref l => match st[l]? with
    | some (.ins c fs) => if c ∈ cs then some (l, c, fs) else none
    | _ => none
  | _ => none
theorem insAt_at {G : Gd} {m bs : List Addr} {st : Sto} {H : Hp} {cs : List Str} {x : IV} {v : V} {l : Nat} {c : Str} {fs : List (Str × IV)} (R : Rel G m bs st H) (e : insAt st cs x = some (l, c, fs)) (r : RV G m bs st H x v) :
    x = .ref l ∧ c ∈ cs ∧ st[l]? = some (.ins c fs) ∧ ∃ p C dx gs, v = .ref p ∧ m[l]? = some p ∧ G.mg c = some (.ref C) ∧ H p = some (.ins C dx gs) ∧ RFs G m bs st H fs gs := by
  unfold insAt at e
  split at e
  · rename_i k
    split at e
    · rename_i c' fs' e1
      split at e
      · rename_i hc
        cases e
        simp only [RV] at r
        obtain ⟨p, ev, hp⟩ := r
        obtain ⟨C, dx, gs, e2, e3, e4⟩ := R.obj _ _ p e1 hp
        exact ⟨rfl, hc, e1, p, C, dx, gs, ev, hp, e2, e3, e4⟩
      · cases e
    · cases e
  · cases e
section
variable {X : Cx} {W : WX} {xa : Xa} {a b c e o : Expr} {A B C : IE} {pos p apos : Pos} {es : List Expr} {As : IA} {f : Str} {cs : List Str}
def iFld (cs : List Str) (f : Str) (A : IE) : IE := fun ρ st => (A ρ st).bind fun x st => match insAt st cs x with
  | some (_, _, fs) => (match fs.lookup f with | some v => .ok v st | none => .bad)
  | none => .bad
theorem me_fld (hf : FdM X.K X.mg cs f) (ha : ME X W xa a A) (hb : attributeBase a f X.env (eval a X.env) = eval a X.env := by rfl) : ME X W xa (.Attribute a f pos) (iFld cs f A) := by
  refine PE.weak (pe_fld ha hb) fun σ H Q h => ?_
  obtain ⟨m, os, rs, ρ, st, P, h⟩ := h
  refine ⟨m, os, rs, ρ, st, P, h.bind.mono fun x m1 st1 H1 g1 R1 h1 u ru => ?_⟩
  split at h1
  · rename_i l c fs e
    obtain ⟨_, hc, _, p, C, dx, gs, ev, _, hC, hH, rf⟩ := insAt_at R1 e ru
    split at h1
    · rename_i v hv
      obtain ⟨w, e1, r1⟩ := rf.look hv
      obtain ⟨c1, c2⟩ := hf c hc C hC
      exact ⟨p, C, dx, gs, w, ev, hH, c1, c2, e1, h1.v R1 r1⟩
    · exact h1.elim
  · exact h1.elim
/-- o.f = e -/
def iStFld (cs : List Str) (f : Str) (A B : IE) : IS := fun ρ st => RS.ofR ((B ρ st).bind fun y st => (A ρ st).bind fun x st => match insAt st cs x with
  | some (l, c, fs) => if fs.length < 1000 then .ok IV.non (st.set l (.ins c (putI f y fs))) else .bad
  | none => .bad) ρ fun _ st => .nx ρ st
theorem ms_fld {pos' : Pos} (hf : FdM X.K X.mg cs f) (ha : ME X W xa o A) (hb : ME X W xa b B) (hs : swapsWith b (some (.Attribute o f pos')) pos.line X.env = pure false := by rfl) : MS X W xa (.Assign [.Attribute o f pos'] b pos) (iStFld cs f A B) := by
  refine PS.weak (ps_fld ha hb hs) fun D σ H h => ?_
  obtain ⟨m, os, rs, ρ, st, P, h⟩ := h
  refine ⟨m, os, rs, ρ, st, P, (h.ofR P).bind.mono fun y m1 st1 H1 g1 R1 h1 u ru => ⟨m1, os, rs, ρ, st1, P.grow g1 R1, h1.bind.mono fun x m2 st2 H2 g2 R2 h2 v rv => ?_⟩⟩
  split at h2
  · rename_i l c fs e
    obtain ⟨_, hc, hst, p, C, dx, gs, ev, hm, hC, hH, rf⟩ := insAt_at R2 e rv
    split at h2
    · rename_i hl
      obtain ⟨c1, c2⟩ := hf c hc C hC
      refine ⟨p, C, dx, gs, ev, hH, c1, c2, by rw [← rf.length]; exact hl, ?_⟩
      have g3 : GrowE m2 st2 H2 m2 (st2.set l (.ins c (putI f y fs))) (upd H2 p (.ins C dx (putF f u gs))) := grow_set hm hst (by simp)
      have R3 := R2.set (o' := .ins c (putI f y fs)) (u := .ins C dx (putF f u gs)) hm hst (by simp) ⟨C, dx, _, hC, upd_same, RFs.fits g3.fitsE _ _ (rf.put (RV.fits g2.fitsE _ _ ru))⟩
      have h3 := h2 m2 _ g3 R3
      exact h3.here (((P.grow g1 R1).grow g2 R2).grow g3 R3)
    · exact h2.elim
  · exact h2.elim

/-! ### list methods in the store -/
def gApp : IV → List IV → Sto → R IV
  | .ref l, [y], st => match st[l]? with
    | some (.lst xs) => if xs.length < 100000 then .ok .non (st.set l (.lst (xs ++ [y]))) else .bad
    | _ => .bad
  | _, _, _ => .bad
def gPop : IV → List IV → Sto → R IV
  | .ref l, [], st => match st[l]? with
    | some (.lst xs) => (match xs[xs.length - 1]? with | some v => .ok v (st.set l (.lst xs.dropLast)) | none => .bad)
    | _ => .bad
  | _, _, _ => .bad
def gPopAt : IV → List IV → Sto → R IV
  | .ref l, [.int i], st => match st[l]? with
    | some (.lst xs) => if 0 ≤ i ∧ i ≤ 1000000 then (match xs[i.toNat]? with | some v => .ok v (st.set l (.lst (xs.eraseIdx i.toNat))) | none => .bad) else .bad
    | _ => .bad
  | _, _, _ => .bad
def gClear : IV → List IV → Sto → R IV
  | .ref l, [], st => match st[l]? with
    | some (.lst xs) => .ok .non (st.set l (.lst []))
    | _ => .bad
  | _, _, _ => .bad
def MtdM (X : Cx) (id : String) (g : IV → List IV → Sto → R IV) : Prop :=
  ∃ r, MtR X id r ∧ ∀ m bs st H x xs x' xs' (Q : VK) W, Rel (gd X) m bs st H → RV (gd X) m bs st H x x' → RVs (gd X) m bs st H xs xs' → Pst (gd X) m bs st H W (g x xs st) (fun v m' st' H' => ∀ u, RV (gd X) m' bs st' H' v u → Q u H') → r x' xs' H Q
def isLst (st : Sto) : IV → Bool
  | .ref l => match st[l]? with | some (.lst _) => true | _ => false
  | _ => false
/-- a list's method; the receiver must be a live list ahead of the arguments, too -/
def iMtd (g : IV → List IV → Sto → R IV) (A : IE) (As : IA) : IE := fun ρ st => (A ρ st).bind fun x st => if isLst st x = true then (As ρ st).bind fun xs st => g x xs st else .bad
theorem isLst_ty {G : Gd} {m bs : List Addr} {st : Sto} {H : Hp} {x : IV} {v : V} (R : Rel G m bs st H) (e : isLst st x = true) (r : RV G m bs st H x v) : tyV G.K "list" v H := by
  cases x with
  | ref l =>
    simp only [isLst] at e
    split at e
    · rename_i xs h
      simp only [RV] at r
      obtain ⟨p, ev, hp⟩ := r
      subst ev
      obtain ⟨vs, e1, _⟩ := R.obj _ _ p h hp
      exact .inl ⟨rfl, vs, .of e1⟩
    · cases e
  | _ => cases e
theorem me_mtd {name : Str} {id : String} {g : IV → List IV → Sto → R IV} (hg : MtdM X id g) (slot : Slot "list" name id) (hty : typeOf (.builtin id) = pure (.type "method_descriptor")) (ho : ME X W xa o A) (ha : MA X W xa (e :: es) As)
    (hbase : attributeBase o name X.env (eval o X.env) = eval o X.env := by rfl)
    (hfew : ((backTo p (starEach (e :: es) X.env)).all (fun x => !x.1) && (backToKw p (keywordEach [] X.env)).all (fun x => x.1.isSome)
      && decide ((e :: es).length + ([] : List Keyword).length + (if ([] : List Keyword).isEmpty then 0 else 1) < 30)) = true := by rfl)
    (hline : (apos.endLine == p.line) = true := by rfl) (hs : starEach (e :: es) X.env = (false, eval e X.env) :: starEach es X.env := by rfl) (hplain : (backTo p (starEach es X.env)).any (·.1) = false := by rfl) :
    ME X W xa (.Call (.Attribute o name apos) (e :: es) [] p) (iMtd g A As) := by
  obtain ⟨r, hr, k⟩ := hg
  refine PE.weak (pe_bm PySem.F.plainAttrs_list slot hty hr ho ha hbase hfew hline hs hplain) fun σ H Q h => ?_
  obtain ⟨m, os, rs, ρ, st, P, h⟩ := h
  refine ⟨m, os, rs, ρ, st, P, h.bind.mono fun x m1 st1 H1 g1 R1 h1 u ru => ?_⟩
  split at h1
  · rename_i hl
    exact ⟨isLst_ty R1 hl ru, m1, os, rs, ρ, st1, P.grow g1 R1, h1.bind.mono fun xs m2 st2 H2 g2 R2 h2 vs rv => k m2 _ st2 H2 x xs u vs Q _ R2 (RV.fits g2.fitsE _ _ ru) rv h2⟩
  · exact h1.elim
theorem me_mtd0 {name : Str} {id : String} {g : IV → List IV → Sto → R IV} (hg : MtdM X id g) (slot : Slot "list" name id) (hty : typeOf (.builtin id) = pure (.type "method_descriptor")) (ho : ME X W xa o A)
    (hbase : attributeBase o name X.env (eval o X.env) = eval o X.env := by rfl) (hline : (apos.endLine == p.line) = true := by rfl) :
    ME X W xa (.Call (.Attribute o name apos) [] [] p) (iMtd g A iNil) := by
  obtain ⟨r, hr, k⟩ := hg
  refine PE.weak (pe_bm0 PySem.F.plainAttrs_list slot hty hr ho hbase hline) fun σ H Q h => ?_
  obtain ⟨m, os, rs, ρ, st, P, h⟩ := h
  refine ⟨m, os, rs, ρ, st, P, h.bind.mono fun x m1 st1 H1 g1 R1 h1 u ru => ?_⟩
  split at h1
  · rename_i hl
    exact ⟨isLst_ty R1 hl ru, k m1 _ st1 H1 x [] u [] Q _ R1 ru (by simp only [RVs]) h1⟩
  · exact h1.elim
theorem lstObj {G : Gd} {m bs : List Addr} {st : Sto} {H : Hp} {l : Nat} {v : V} {xs : List IV} (R : Rel G m bs st H) (r : RV G m bs st H (.ref l) v) (e : st[l]? = some (.lst xs)) : ∃ p vs, v = .ref p ∧ m[l]? = some p ∧ H p = some (.lst vs) ∧ RVs G m bs st H xs vs := by
  simp only [RV] at r
  obtain ⟨p, ev, hp⟩ := r
  obtain ⟨vs, e1, r1⟩ := R.obj _ _ p e hp
  exact ⟨p, vs, ev, hp, e1, r1⟩
theorem set_lst {G : Gd} {m bs : List Addr} {st : Sto} {H : Hp} {l : Nat} {p : Addr} {xs ys : List IV} {ws : List V} (R : Rel G m bs st H) (hp : m[l]? = some p) (e : st[l]? = some (.lst xs)) (r : RVs G m bs st H ys ws) :
    GrowE m st H m (st.set l (.lst ys)) (upd H p (.lst ws)) ∧ Rel G m bs (st.set l (.lst ys)) (upd H p (.lst ws)) := by
  have g : GrowE m st H m (st.set l (.lst ys)) (upd H p (.lst ws)) := grow_set hp e (by simp)
  exact ⟨g, R.set hp e (by simp) ⟨ws, upd_same, RVs.fits g.fitsE _ _ r⟩⟩
theorem mtd_append : MtdM X "list.append" gApp := by
  refine ⟨_, mt_append, fun m bs st H x xs x' xs' Q W R rx rxs h => ?_⟩
  unfold gApp at h
  split at h
  · rename_i l y
    split at h
    · rename_i zs hz
      split at h
      · rename_i c
        obtain ⟨p, vs, ev, hp, hH, r⟩ := lstObj R rx hz
        obtain ⟨w, ew, rw'⟩ := rvs1 rxs
        obtain ⟨g, R'⟩ := set_lst (ys := zs ++ [y]) (ws := vs ++ [w]) R hp hz (r.append (by simp only [RVs]; exact ⟨w, [], rfl, rw', rfl⟩))
        exact ⟨p, vs, w, ev, ew, hH, by rw [← r.length]; exact szlt c, h m _ g R' .non (by simp only [RV])⟩
      · exact h.elim
    · exact h.elim
  · exact h.elim
theorem RVs.dropLast {G : Gd} {m bs : List Addr} {st : Sto} {H : Hp} {xs : List IV} {vs : List V} (r : RVs G m bs st H xs vs) : RVs G m bs st H xs.dropLast vs.dropLast := by
  rw [List.dropLast_eq_take, List.dropLast_eq_take, r.length]
  exact r.take _
theorem mtd_pop : MtdM X "list.pop" gPop := by
  refine ⟨_, mt_pop, fun m bs st H x xs x' xs' Q W R rx rxs h => ?_⟩
  unfold gPop at h
  split at h
  · rename_i l
    split at h
    · rename_i zs hz
      split at h
      · rename_i v hv
        obtain ⟨p, vs, ev, hp, hH, r⟩ := lstObj R rx hz
        simp only [RVs] at rxs
        obtain ⟨w, e1, r1⟩ := r.get hv
        obtain ⟨g, R'⟩ := set_lst R hp hz r.dropLast
        exact ⟨p, vs, w, ev, rxs, hH, by rw [← r.length]; exact e1, h m _ g R' w (RV.fits g.fitsE _ _ r1)⟩
      · exact h.elim
    · exact h.elim
  · exact h.elim
theorem mtd_popAt : MtdM X "list.pop" gPopAt := by
  refine ⟨_, mt_popAt, fun m bs st H x xs x' xs' Q W R rx rxs h => ?_⟩
  unfold gPopAt at h
  split at h
  · rename_i l i
    split at h
    · rename_i zs hz
      split at h
      · rename_i c
        split at h
        · rename_i v hv
          obtain ⟨p, vs, ev, hp, hH, r⟩ := lstObj R rx hz
          obtain ⟨u, eu, ru⟩ := rvs1 rxs
          simp only [RV] at ru
          subst ru
          obtain ⟨w, e1, r1⟩ := r.get hv
          obtain ⟨g, R'⟩ := set_lst R hp hz (r.eraseIdx i.toNat)
          have hlt : i.toNat < vs.length := (List.getElem?_eq_some_iff.mp e1).1
          refine ⟨p, vs, i, i.toNat, w, ev, eu, hH, by omega, by omega, ?_, e1, h m _ g R' w (RV.fits g.fitsE _ _ r1)⟩
          have := (ixN_seq (n := vs.length) (i := i) (j := i.toNat) (by unfold ixN; rw [if_pos c.1, if_pos (by omega)])).1
          exact this
        · exact h.elim
      · exact h.elim
    · exact h.elim
  · exact h.elim
theorem mtd_clear : MtdM X "list.clear" gClear := by
  refine ⟨_, mt_clear, fun m bs st H x xs x' xs' Q W R rx rxs h => ?_⟩
  unfold gClear at h
  split at h
  · rename_i l
    split at h
    · rename_i zs hz
      obtain ⟨p, vs, ev, hp, hH, r⟩ := lstObj R rx hz
      simp only [RVs] at rxs
      obtain ⟨g, R'⟩ := set_lst (ys := []) (ws := []) R hp hz (by simp only [RVs])
      exact ⟨p, vs, ev, rxs, hH, h m _ g R' .non (by simp only [RV])⟩
    · exact h.elim
  · exact h.elim

/-! ### isinstance with a built-in class -/
def tyName (st : Sto) : IV → Option String
  | .non => some "NoneType"
  | .bl _ => some "bool"
  | .int _ => some "int"
  | .str _ => some "str"
  | .tup _ => some "tuple"
  | .lst _ => some "list"
  | .ref l => match st[l]? with | some (.lst _) => some "list" | some (.dic _) => some "dict" | _ => none
  | _ => none
def isSubB (a b : String) : Bool := a == b || (a == "bool" && b == "int")
def basicT : List String := ["NoneType", "bool", "int", "str", "tuple", "list", "dict"]
def askT : List String := ["bool", "int", "str", "tuple", "list", "dict"]
theorem kit_table : ∀ a ∈ basicT, ∀ b ∈ askT, kitB a b = some (isSubB a b) := by decide +kernel
def gIsi : List IV → Sto → R IV
  | [x, .ty b], st => match tyName st x with
    | some a => if b ∈ askT then .ok (.bl (isSubB a b)) st else .bad
    | none => .bad
  | _, _ => .bad
theorem tyName_x {G : Gd} {m bs : List Addr} {st : Sto} {H : Hp} {x : IV} {v : V} {t : String} (R : Rel G m bs st H) (e : tyName st x = some t) (r : RV G m bs st H x v) : TyX G.K H v (.type t) ∧ t ∈ basicT := by
  cases x with
  | non => cases e; simp only [RV] at r; subst r; exact ⟨.base .non, by decide⟩
  | bl b => cases e; simp only [RV] at r; subst r; exact ⟨.base (.bl b), by decide⟩
  | int b => cases e; simp only [RV] at r; subst r; exact ⟨.base (.int b), by decide⟩
  | str b => cases e; simp only [RV] at r; subst r; exact ⟨.base (.str b), by decide⟩
  | ty n => cases e
  | ptp n => cases e
  | tup xs =>
    cases e
    simp only [RV] at r
    obtain ⟨a, vs, ev, h, _⟩ := r
    subst ev
    refine ⟨?_, by decide⟩
    rcases h with ⟨h | ⟨o, h⟩, _⟩ | h
    · exact .base (.tup h)
    · exact .fTuple h
    · rcases h with h | ⟨o, its, n, h1, h2, _⟩
      · exact (h0_rd h).elim
      · exact .kTuple h1 h2
  | lst xs =>
    cases e
    simp only [RV] at r
    obtain ⟨a, vs, ev, h, _⟩ := r
    subst ev
    refine ⟨?_, by decide⟩
    rcases h with ⟨h | ⟨o, h⟩, _⟩ | h
    · exact .base (.lst h)
    · exact .base (.frz h)
    · rcases h with h | ⟨o, its, n, h1, h2, _⟩
      · exact (h0_rd h).elim
      · exact .kList h1 h2
  | ref l =>
    simp only [tyName] at e
    split at e
    · rename_i xs h
      cases e
      obtain ⟨p, vs, ev, _, hH, _⟩ := lstObj R r h
      subst ev
      exact ⟨.base (.lst hH), by decide⟩
    · rename_i kvs h
      cases e
      simp only [RV] at r
      obtain ⟨p, ev, hp⟩ := r
      subst ev
      obtain ⟨ws, hH, _⟩ := R.obj _ _ p h hp
      exact ⟨.base (.dK hH), by decide⟩
    · cases e
theorem cm_isi : CallM X (.builtin "isinstance") gIsi := by
  refine ⟨_, call_isi, fun m bs st H xs xs' Q W R rx h => ?_⟩
  unfold gIsi at h
  split at h
  · rename_i x b
    split at h
    · rename_i t ht
      split at h
      · rename_i hb
        obtain ⟨v, w, e, r1, r2⟩ := rvs2 rx
        simp only [RV] at r2
        subst r2
        obtain ⟨tx, hm⟩ := tyName_x R ht r1
        exact ⟨v, .ty b, _, _, _, e, .ty b, tx, kit_ty (kit_table t hm b hb), h.v R (by simp only [RV])⟩
      · exact h.elim
    · exact h.elim
  · exact h.elim
theorem me_bty {n : String} {x : Str} (hg : Gl X x) (hm : X.mg x = none) (hv : bootBuiltins x = some (.type n)) (hn : x ≠ "__name__" := by decide) (hd : (x == ("__debug__" : Str)) = false := by decide) : ME X W xa (.Name x pos) (iC (.ty n)) :=
  me_c (pe_bltn (v := .ty n) hg hm hv rfl hn hd) fun _ _ _ _ => by simp only [RV]
/-- a constant of the module: an int, a text, a tuple of the written part -/
theorem me_glob {x : Str} {iv : IV} {v : V} {u : Value} (hg : Gl X x) (hm : X.mg x = some u) (r : RelV v u) (hr : ∀ m bs st H, RV (gd X) m bs st H iv v) (hd : (x == ("__debug__" : Str)) = false := by decide) : ME X W xa (.Name x pos) (iC iv) :=
  me_c (pe_glob hg hm r hd) hr
end
end Mi
set_option Elab.async false
set_option linter.all false
set_option maxRecDepth 100000
set_option maxHeartbeats 4000000
namespace Mi
open PySem PySem.Spec PyProof.Rows L2

section
variable {X : Cx} {CX : CXT} {k : Nat} {f C : Addr} {fd : FuncData} {ps : List Str} {sp : Sp} {dvs : List V} {ds : List Value} {E : L2.St → XK} {x m : Str} {p pos apos : Pos} {e o : Expr} {es : List Expr} {ta : TE} {t : TA}
/-! calls whose raising is wished for at the slots -/
def tMakeS (C : Addr) (sp : Sp) (E : L2.St → XK) (t : TA) : TE := fun σ H Q => t σ H fun vs H1 => ∀ x dx, H1 x = none → H1 dx = none → dx ≠ x →
  sp (.ref x :: vs) (upd (upd H1 dx (.own x)) x (.ins C dx [])) (fun v H2 => v = .non ∧ Q (.ref x) H2) (E σ)
theorem run_makeS {pins : List (Addr × Obj)} {σ : L2.St} {H : Hp} {s : Shared} {Q : VK} {us : List Value} {vs : List V} (M : Mk X.K C f) (F : FnOk X.prog X.w X.K X.mg X.base CX k f fd ps sp) (hr : Room (k + 1) X.A) (hb : Binds X.K fd ps [])
    (hx : PassesAt CX X σ (E σ)) (I : L2.Inv X pins σ H s) (r : Vals vs us)
    (h : ∀ x dx, H x = none → H dx = none → dx ≠ x → sp (.ref x :: vs) (upd (upd H dx (.own x)) x (.ins C dx [])) (fun v H2 => v = .non ∧ Q (.ref x) H2) (E σ)) :
    wpAny (model X.prog X.w) X.A (call (.ref C) us) (EP X pins σ Q) X.xe s := by
  have hq := h (s.heap.objs.size + 1) s.heap.objs.size (I.hok.fresh (Nat.le_succ _)) (I.hok.fresh (Nat.le_refl _)) (Nat.ne_of_lt (Nat.lt_succ_self _))
  have I2 := L2.Inv.made (C := C) I
  have r2 : Vals (V.ref (s.heap.objs.size + 1) :: vs) (Value.ref (s.heap.objs.size + 1) :: us) := .cons rfl r
  have hl : (Value.ref (s.heap.objs.size + 1) :: us ++ []).length = ps.length := by
    have e := r2.length
    rw [F.len _ _ _ _ hq] at e
    rw [List.append_nil]
    exact e.symm
  have b := hb _ (Value.ref (s.heap.objs.size + 1) :: us) I2.kIn hl
  rw [List.append_nil] at b
  refine wpAny_call (make_map (f := f) I.kIn M.makes M.init (beq_iff_eq.mp M.fn) (codeAny_mono (F.run _ X.stack _ _ ⟨Value.ref (s.heap.objs.size + 1) :: us, []⟩ (Value.ref (s.heap.objs.size + 1) :: us) _ _ (E σ) (hr.make C us [])
    (I2.env0.make C us []) b r2 hq) fun r s' hq' => ?_))
  cases r with
  | error e => exact hx pins _ _ e s' I2 hq'
  | ok fl =>
    cases fl with
    | ret u =>
      obtain ⟨v, H', I3, rv, ev, q3⟩ := I2.after hq'
      subst ev
      exact ⟨rv, ⟨V.ref (s.heap.objs.size + 1), H', I3, rfl, q3⟩⟩
    | next => exact False.elim hq'
    | brk => exact False.elim hq'
    | cont => exact False.elim hq'
theorem pe_makeS (M : Mk X.K C f) (F : FnOk X.prog X.w X.K X.mg X.base CX k f fd ps sp) (hr : Room (k + 1) X.A) (hg : Gl X x) (hm : X.mg x = some (.ref C)) (hb : Binds X.K fd ps []) (hx : ∀ σ, PassesAt CX X σ (E σ))
    (ha : PA X (e :: es) t) (hdb : (x == ("__debug__" : Str)) = false := by decide) (he : starEach (e :: es) X.env = (false, eval e X.env) :: starEach es X.env := by rfl) (hpl : (backTo pos (starEach es X.env)).any (·.1) = false := by rfl) :
    PE X (.Call (.Name x p) (e :: es) [] pos) (tMakeS C sp E t) := by
  refine ⟨fun pins s σ H Q I h => ?_⟩
  refine wpAny_Call_Name_kw (ld_glob I hg hm ?_ hdb)
  refine PySem.W.callWith_K (h₀ := X.base) I.ok.mod.kin M.kp (thn (ha.run pos pins s σ H _ I h) fun us s1 ⟨vs, H1, I1, r, q⟩ => ⟨I1.kIn, ?_⟩) he hpl
  exact run_makeS M F hr hb (hx σ) I1 r q
def tMethS (C : Addr) (m : Str) (sp : Sp) (E : L2.St → XK) (ta : TE) (t : TA) : TE := fun σ H Q => ta σ H fun x H1 => ∃ a dx fs, x = .ref a ∧ H1 a = some (.ins C dx fs) ∧ fs.lookup m = none ∧
  t σ H1 fun vs H2 => sp (x :: vs) H2 Q (E σ)
theorem pe_methSD {pl : Sem Bool} (he : PE X o ta) (c : Cls X.K C) (hm : Meth X.K C m f) (F : FnOk X.prog X.w X.K X.mg X.base CX k f fd ps sp) (hr : Room k X.A) (hb : Binds X.K fd ps []) (hx : ∀ σ, PassesAt CX X σ (E σ)) (ha : PA X (e :: es) t)
    (hst : starEach (e :: es) X.env = (false, eval e X.env) :: starEach es X.env := by rfl) (hpl : (backTo pos (starEach es X.env)).any (·.1) = false := by rfl)
    (ht : eval (.Call (.Attribute o m apos) (e :: es) [] pos) X.env = (do
      let ov ← eval o X.env
      standAt apos.atName
      let (f, first) ← holding [ov] (getMethod ov m pl)
      callWith pos f first (backTo pos (starEach (e :: es) X.env)) (backToKw pos (keywordEach [] X.env))) := by rfl) :
    PE X (.Call (.Attribute o m apos) (e :: es) [] pos) (tMethS C m sp E ta t) := by
  refine ⟨fun pins s σ H Q I h => ?_⟩
  refine PySem.W.methodCall_KW (pl := pl) (thn (he.run pins s σ H _ I h) fun u s1 ⟨x, H1, I1, rx, a, dx, fs, ex, ea, l, q⟩ => ?_) ht
  subst ex
  obtain rfl : u = Value.ref a := rx
  refine getmeth_ok I1 ea c hm l ?_
  refine PySem.W.callWith_K (first := [.ref a]) (h₀ := X.base) I.ok.mod.kin hm.kp (thn (ha.run pos pins s1 σ H1 _ I1 q) fun us s2 ⟨vs, H2, I2, r, q2⟩ => ⟨I2.kIn, ?_⟩) hst hpl
  exact run_fnS (us := .ref a :: us) (vs := .ref a :: vs) F hr hb (hx σ) I2 (.cons rfl r) q2
theorem pe_meth0SD {pl : Sem Bool} (he : PE X o ta) (c : Cls X.K C) (hm : Meth X.K C m f) (F : FnOk X.prog X.w X.K X.mg X.base CX k f fd ps sp) (hr : Room k X.A) (hb : Binds X.K fd ps []) (hx : ∀ σ, PassesAt CX X σ (E σ))
    (ht : eval (.Call (.Attribute o m apos) [] [] pos) X.env = (do
      let ov ← eval o X.env
      standAt apos.atName
      let (f, first) ← holding [ov] (getMethod ov m pl)
      callWith pos f first (backTo pos (starEach [] X.env)) (backToKw pos (keywordEach [] X.env))) := by rfl) :
    PE X (.Call (.Attribute o m apos) [] [] pos) (tMethS C m sp E ta tNil) := by
  refine ⟨fun pins s σ H Q I h => ?_⟩
  refine PySem.W.methodCall_KW (pl := pl) (thn (he.run pins s σ H _ I h) fun u s1 ⟨x, H1, I1, rx, a, dx, fs, ex, ea, l, q⟩ => ?_) ht
  subst ex
  obtain rfl : u = Value.ref a := rx
  refine getmeth_ok I1 ea c hm l ?_
  exact PySem.W.callWith_K0 (first := [.ref a]) I1.kIn hm.kp (run_fnS (us := [.ref a]) (vs := [.ref a]) F hr hb (hx σ) I1 (.cons rfl .nil) q)
theorem pe_callS0 (F : FnOk X.prog X.w X.K X.mg X.base CX k f fd ps sp) (hr : Room k X.A) (hg : Gl X x) (hm : X.mg x = some (.ref f)) (hk : PySem.W.keepIn X.K (.ref f) = true) (hb : Binds X.K fd ps []) (hx : ∀ σ, PassesAt CX X σ (E σ))
    (hdb : (x == ("__debug__" : Str)) = false := by decide) : PE X (.Call (.Name x p) [] [] pos) (tCallS sp E tNil) := by
  refine ⟨fun pins s σ H Q I h => ?_⟩
  refine wpAny_Call_Name_kw (ld_glob I hg hm ?_ hdb)
  exact PySem.W.callWith_K0 I.kIn hk (run_fnS (us := []) F hr hb (hx σ) I .nil h)
end

/-! ### the mirror's calls -/
section
variable {P : Program} {w : World} {K : PySem.W.Frag} {mg : Str → Option Value} {base : Heap}
/-- a class with its __init__ -/
def MkM (P : Program) (w : World) (K : PySem.W.Frag) (mg : Str → Option Value) (base : Heap) (c : Str) (k n : Nat) (F : Fn) : Prop :=
  ∃ C f fd ps, mg c = some (.ref C) ∧ Mk K C f ∧ Binds K fd ps [] ∧ FnOk P w K mg base (L2.CX P w) k f fd ps (spOf ⟨K, mg, P, w⟩ n F)
/-- a method -/
def MethM (P : Program) (w : World) (K : PySem.W.Frag) (mg : Str → Option Value) (base : Heap) (c m : Str) (k n : Nat) (F : Fn) : Prop :=
  ∃ C f fd ps, mg c = some (.ref C) ∧ Cls K C ∧ Meth K C m f ∧ Binds K fd ps [] ∧ FnOk P w K mg base (L2.CX P w) k f fd ps (spOf ⟨K, mg, P, w⟩ n F)
end
section
variable {X : Cx} {W : WX} {xa : Xa} {a b e o : Expr} {A B : IE} {pos p apos : Pos} {es : List Expr} {As : IA} {k n : Nat} {F : Fn} {x c m : Str}
theorem me_call0 (h : FnM X.prog X.w X.K X.mg X.base x k 0 F) (hr : Room k X.A) (tk : Takes X W) (hg : Gl X x)
    (hdb : (x == ("__debug__" : Str)) = false := by decide) : ME X W xa (.Call (.Name x p) [] [] pos) (iCall (arity 0 F) iNil) := by
  obtain ⟨f, fd, ps, hm, hk, hb, hf⟩ := h
  refine PE.weak (pe_callS0 hf hr hg hm hk hb (E := fun σ cls d H => W cls d σ H) (fun σ => wish_of tk σ) hdb) fun σ H Q h => ?_
  obtain ⟨m, os, rs, ρ, st, P, h⟩ := h
  have h : Pst (gd X) m (os ++ rs) st H (fun cls d H' => W cls d σ H') (F [] st) (fun v m' st' H' => ∀ u, RV (gd X) m' (os ++ rs) st' H' v u → Q u H') := h
  exact ⟨rfl, m, _, st, [], P.rel, by simp only [RVs], h⟩
/-- C(e, ..) -/
def iMake (c : Str) (F : Fn) (As : IA) : IE := fun ρ st => (As ρ st).bind fun args st => (F (.ref st.length :: args) (st ++ [.ins c []])).bind fun v st' => match v with
  | .non => .ok (.ref st.length) st'
  | _ => .bad
theorem me_make (h : MkM X.prog X.w X.K X.mg X.base c k (n + 1) F) (hr : Room (k + 1) X.A) (tk : Takes X W) (hg : Gl X c) (ha : MA X W xa (e :: es) As)
    (hdb : (c == ("__debug__" : Str)) = false := by decide) (he : starEach (e :: es) X.env = (false, eval e X.env) :: starEach es X.env := by rfl) (hpl : (backTo pos (starEach es X.env)).any (·.1) = false := by rfl) :
    ME X W xa (.Call (.Name c p) (e :: es) [] pos) (iMake c (arity (n + 1) F) As) := by
  obtain ⟨C, f, fd, ps, hm, hM, hb, hf⟩ := h
  refine PE.weak (pe_makeS hM hf hr hg hm hb (E := fun σ cls d H => W cls d σ H) (fun σ => wish_of tk σ) ha hdb he hpl) fun σ H Q h => ?_
  obtain ⟨m, os, rs, ρ, st, P, h⟩ := h
  refine ⟨m, os, rs, ρ, st, P, h.bind.mono fun args m1 st1 H1 g1 R1 h1 vs rv => fun x dx hx hdx ne => ?_⟩
  have hx2 : upd H1 dx (.own x) x = none := by rw [upd_ne (Ne.symm ne)]; exact hx
  have R2 : Rel (gd X) m1 (os ++ rs) st1 (upd H1 dx (.own x)) := R1.new hdx
  have g2 : GrowE m1 st1 H1 m1 st1 (upd H1 dx (.own x)) := grow_new hdx
  have g3 : GrowE m1 st1 (upd H1 dx (.own x)) (m1 ++ [x]) (st1 ++ [.ins c []]) (upd (upd H1 dx (.own x)) x (.ins C dx [])) := grow_live R2 hx2
  have R3 : Rel (gd X) (m1 ++ [x]) (os ++ rs) (st1 ++ [.ins c []]) (upd (upd H1 dx (.own x)) x (.ins C dx [])) := R2.live hx2 ⟨C, dx, [], hm, upd_same, rfl⟩
  have el : (m1 ++ [x])[st1.length]? = some x := by rw [← R1.len, List.getElem?_append_right (Nat.le_refl _)]; simp
  have h2 : Pst (gd X) (m1 ++ [x]) (os ++ rs) (st1 ++ [.ins c []]) (upd (upd H1 dx (.own x)) x (.ins C dx [])) (fun cls d H' => W cls d σ H') ((arity (n + 1) F (.ref st1.length :: args) (st1 ++ [.ins c []])).bind fun v st' => match v with
      | .non => .ok (.ref st1.length) st'
      | _ => .bad) (fun v m' st' H' => ∀ u, RV (gd X) m' (os ++ rs) st' H' v u → Q u H') := h1.shift (g2.trans g3)
  unfold arity at h2
  split at h2
  · rename_i hl
    refine ⟨by rw [List.length_cons, ← rv.length]; simpa using hl, m1 ++ [x], _, st1 ++ [.ins c []], .ref st1.length :: args, R3, ?_, h2.bind.mono fun v m4 st4 H4 g4 R4 h4 u ru => ?_⟩
    · simp only [RVs]
      exact ⟨.ref x, vs, rfl, by simp only [RV]; exact ⟨x, rfl, el⟩, RVs.fits (g2.trans g3).fitsE _ _ rv⟩
    · cases v with
      | non =>
        simp only [RV] at ru
        refine ⟨ru, h4.v R4 ?_⟩
        simp only [RV]
        exact ⟨x, rfl, g4.at el⟩
      | _ => exact h4.elim
  · exact h2.elim
/-- o.m(e, ..): the classes that may stand there, each with the method's function -/
def iMeth (c m : Str) (F : Fn) (A : IE) (As : IA) : IE := fun ρ st => (A ρ st).bind fun x st => match insAt st [c] x with
  | some (_, _, fs) => if (fs.lookup m).isNone = true then (As ρ st).bind fun args st => F (x :: args) st else .bad
  | none => .bad
theorem meth_weak {C f : Addr} {fd : FuncData} {ps : List Str} {t : TA} {σ : L2.St} {H : Hp} {Q : VK} (hC : X.mg c = some (.ref C)) (ht : ∀ σ H Q, taOf (gd X) W xa As σ H Q → t σ H Q)
    (h : teOf (gd X) W xa (iMeth c m (arity (n + 1) F) A As) σ H Q) : tMethS C m (spOf (gd X) (n + 1) F) (fun σ cls d H => W cls d σ H) (teOf (gd X) W xa A) t σ H Q := by
  obtain ⟨m0, os, rs, ρ, st, P, h⟩ := h
  refine ⟨m0, os, rs, ρ, st, P, h.bind.mono fun x m1 st1 H1 g1 R1 h1 u ru => ?_⟩
  split at h1
  · rename_i l c' fs e
    obtain ⟨ex, hc, _, p, C', dx, gs, ev, hm, hC', hH, rf⟩ := insAt_at R1 e ru
    have ec : c' = c := by simpa using hc
    subst ec
    have hC2 : X.mg c' = some (.ref C') := hC'
    rw [hC] at hC2
    cases hC2
    split at h1
    · rename_i hn
      refine ⟨p, dx, gs, ev, hH, rf.look_none (by simpa using hn), ht _ _ _ ⟨m1, os, rs, ρ, st1, P.grow g1 R1, h1.bind.mono fun args m2 st2 H2 g2 R2 h2 vs rv => ?_⟩⟩
      unfold arity at h2
      split at h2
      · rename_i hl
        refine ⟨by rw [List.length_cons, ← rv.length]; simpa using hl, m2, _, st2, x :: args, R2, ?_, h2⟩
        simp only [RVs]
        exact ⟨u, vs, rfl, RV.fits g2.fitsE _ _ ru, rv⟩
      · exact h2.elim
    · exact h1.elim
  · exact h1.elim
theorem me_meth {pl : Sem Bool} (h : MethM X.prog X.w X.K X.mg X.base c m k (n + 1) F) (hr : Room k X.A) (tk : Takes X W) (ho : ME X W xa o A) (ha : MA X W xa (e :: es) As)
    (hst : starEach (e :: es) X.env = (false, eval e X.env) :: starEach es X.env := by rfl) (hpl : (backTo pos (starEach es X.env)).any (·.1) = false := by rfl)
    (ht : eval (.Call (.Attribute o m apos) (e :: es) [] pos) X.env = (do
      let ov ← eval o X.env
      standAt apos.atName
      let (f, first) ← holding [ov] (getMethod ov m pl)
      callWith pos f first (backTo pos (starEach (e :: es) X.env)) (backToKw pos (keywordEach [] X.env))) := by rfl) :
    ME X W xa (.Call (.Attribute o m apos) (e :: es) [] pos) (iMeth c m (arity (n + 1) F) A As) := by
  obtain ⟨C, f, fd, ps, hm, hC, hM, hb, hf⟩ := h
  exact PE.weak (pe_methSD ho hC hM hf hr hb (E := fun σ cls d H => W cls d σ H) (fun σ => wish_of tk σ) ha hst hpl ht) fun σ H Q h => meth_weak (f := f) (fd := fd) (ps := ps) hm (fun _ _ _ h => h) h
theorem me_meth0 {pl : Sem Bool} (h : MethM X.prog X.w X.K X.mg X.base c m k 1 F) (hr : Room k X.A) (tk : Takes X W) (ho : ME X W xa o A)
    (ht : eval (.Call (.Attribute o m apos) [] [] pos) X.env = (do
      let ov ← eval o X.env
      standAt apos.atName
      let (f, first) ← holding [ov] (getMethod ov m pl)
      callWith pos f first (backTo pos (starEach [] X.env)) (backToKw pos (keywordEach [] X.env))) := by rfl) :
    ME X W xa (.Call (.Attribute o m apos) [] [] pos) (iMeth c m (arity 1 F) A iNil) := by
  obtain ⟨C, f, fd, ps, hm, hC, hM, hb, hf⟩ := h
  refine PE.weak (pe_meth0SD ho hC hM hf hr hb (E := fun σ cls d H => W cls d σ H) (fun σ => wish_of tk σ) ht) fun σ H Q h => meth_weak (n := 0) (f := f) (fd := fd) (ps := ps) hm (fun σ H Q h => ?_) h
  obtain ⟨m, os, rs, ρ, st, P, h⟩ := h
  exact h.ok P.rel [] (by simp only [RVs])

/-! ### exceptions with one field -/
def spI (K : PySem.W.Frag) (C : Addr) (f : Str) : Sp := fun vs H Q _ => ∃ a v, vs = [.ref a, v] ∧ H a = some (exo a C none) ∧ ∀ d, H d = none → d ≠ a → Q .non (upd (upd H d (exd d [(f, v)])) a (exo a C (some d)))
/-- a class of exceptions with the field f -/
def ExcM (P : Program) (w : World) (K : PySem.W.Frag) (mg : Str → Option Value) (base : Heap) (c f : Str) (k : Nat) : Prop :=
  ∃ C fI fd ps, mg c = some (.ref C) ∧ OexC K C ∧ XfC K C ∧ PySem.W.findIn K (.ref C) f = some none ∧ PySem.W.findIn K (.ref C) "__init__" = some (some (.ref fI)) ∧ PySem.W.typeIn K (.ref fI) = some (.type "function") ∧
    Binds K fd ps [] ∧ FnOk P w K mg base (L2.CX P w) k fI fd ps (spI K C f)
def iRaise (c f : Str) (A : IE) : IS := fun ρ st => RS.ofR (A ρ st) ρ fun v st => .exc c [(f, v)] ρ st
theorem ms_raise {f : Str} (hc : X.calm = true) (h : ExcM X.prog X.w X.K X.mg X.base c f k) (hr : Room (k + 1) X.A) (tk : Takes X W) (hg : Gl X c) (ha : ME X W xa e A)
    (hs : starEach (e :: []) X.env = (false, eval e X.env) :: starEach [] X.env := by rfl) (hdb : (c == ("__debug__" : Str)) = false := by decide) (hpl : (backTo pos (starEach [] X.env)).any (·.1) = false := by rfl) :
    MS X W xa (.Raise (some (.Call (.Name c p) [e] [] pos)) none apos) (iRaise c f A) := by
  obtain ⟨C, fI, fd, ps, hC, hO, hX, hn, hI, hT, hb, hf⟩ := h
  refine PS.weak (ps_raise hc tk (pmk_oex hO hI hT hf hr hb .nil (fun _ _ _ _ _ _ _ z => by obtain ⟨_, _, _, _, _, _, _, _, _, _, _, _, z⟩ := z; exact z.elim) hg hC (pa_cons ha pa_nil hs) hdb hs hpl)) fun D σ H h => ?_
  obtain ⟨m, os, rs, ρ, st, P, h⟩ := h
  refine ⟨m, os, rs, ρ, st, P, (h.ofR P).mono fun v m1 st1 H1 g1 R1 h1 u ru => ⟨by show 1 ≤ 1000; decide, fun a ha => ⟨a, u, rfl, upd_same, fun d hd ne => ?_⟩⟩⟩
  have hd1 : H1 d = none := by rw [upd_ne ne] at hd; exact hd
  refine ⟨rfl, d, [(f, u)], upd_same, by rw [upd_ne ne, upd_same], hd1, ?_⟩
  have e : upd (del (upd (upd (upd H1 a (exo a C none)) d (exd d [(f, u)])) a (exo a C (some d))) a) d (.xd [(f, u)]) = upd H1 d (.xd [(f, u)]) := by
    funext b
    by_cases hb : b = d
    · rw [hb, upd_same, upd_same]
    · rw [upd_ne hb, upd_ne hb]
      by_cases hba : b = a
      · rw [hba, del_same, ha]
      · rw [del_ne hba, upd_ne hba, upd_ne hb, upd_ne hba]
  rw [e]
  have g2 : GrowE m1 st1 H1 m1 st1 (upd H1 d (.xd [(f, u)])) := grow_new hd1
  have R2 : Rel (gd X) m1 (os ++ rs) st1 (upd H1 d (.xd [(f, u)])) := R1.new hd1
  exact h1 m1 os _ σ _ _ (.ofE g2) ((P.grow g1 R1).grow g2 R2) ⟨C, hC, rfl, .inr ⟨d, _, rfl, upd_same, (R1.fresh hd1).1, (R1.fresh hd1).2, u, [], rfl, RV.fits g2.fitsE _ _ ru, rfl⟩⟩

/-! ### try: .. except C as n: .. -/
/-- no name of an exception outlives its suite -/
def noExn (ρ : Slots) : Slots := ρ.map fun x => match x with
  | some (.exn _) => none
  | y => y
theorem noExn_at {ρ : Slots} {i : Nat} {y : SV} (h : (noExn ρ)[i]? = some (some y)) : ρ[i]? = some (some y) ∧ ∀ l, y ≠ .exn l := by
  unfold noExn at h
  rw [List.getElem?_map, Option.map_eq_some_iff] at h
  obtain ⟨z, e, h⟩ := h
  cases z with
  | none => cases h
  | some z =>
    cases z with
    | exn l => cases h
    | v x => cases h; exact ⟨e, fun l q => by cases q⟩
    | own xs => cases h; exact ⟨e, fun l q => by cases q⟩
theorem Pre.noExn {G : Gd} {xa xa' : Xa} {σ : L2.St} {H : Hp} {m os rs : List Addr} {ρ : Slots} {st : Sto} (P : Pre G xa σ H m os rs ρ st) : Pre G xa' σ H m os rs (noExn ρ) st := by
  refine ⟨P.rel, by simp [Mi.noExn, P.re.len], fun i y e => ?_, fun i xs e => P.re.own i xs (noExn_at e).1, fun i j xs ys v e1 e2 e3 e4 => P.re.uniq i j xs ys v (noExn_at e1).1 (noExn_at e2).1 e3 e4⟩
  obtain ⟨e1, ne⟩ := noExn_at e
  obtain ⟨v, e2, r⟩ := P.re.at_ i y e1
  refine ⟨v, e2, ?_⟩
  cases y with
  | v x => exact r
  | own xs => exact r
  | exn l => exact absurd rfl (ne l)
def hEnd (i l : Nat) (r : RS) : RS := match r with
  | .nx ρ st => .nx (noExn (ρ.set i none)) (st.set l .dead)
  | .bk ρ st => .bk (noExn (ρ.set i none)) (st.set l .dead)
  | .ct ρ st => .ct (noExn (ρ.set i none)) (st.set l .dead)
  | .rt v st => .rt v (st.set l .dead)
  | _ => .bad
theorem hEnd_post {G : Gd} {xa xa' : Xa} {m os rs : List Addr} {st : Sto} {H : Hp} {W : WX} {D : Ends} {i l : Nat} {r : RS} (h : PstS G xa m os rs st H W D (hEnd i l r)) :
    PstS G xa' m os rs st H W0 { nx := fun σ' H' => D.nx (σ'.set i none) H', rt := D.rt, bk := fun σ' H' => D.bk (σ'.set i none) H', ct := fun σ' H' => D.ct (σ'.set i none) H' } r := by
  cases r with
  | nx ρ' st' => exact fun m' os' H' σ' g P => h m' os' H' _ (g.trans (.ofE grow_kill)) (P.setN.noExn.grow grow_kill P.rel.kill)
  | bk ρ' st' => exact fun m' os' H' σ' g P => h m' os' H' _ (g.trans (.ofE grow_kill)) (P.setN.noExn.grow grow_kill P.rel.kill)
  | ct ρ' st' => exact fun m' os' H' σ' g P => h m' os' H' _ (g.trans (.ofE grow_kill)) (P.setN.noExn.grow grow_kill P.rel.kill)
  | rt v st' => exact fun m' os' H' u g R r => h m' os' H' u (g.trans (.ofE grow_kill)) R.kill (RV.fits (grow_kill (m := m') (H := H')).fitsE _ _ r)
  | exc c fs ρ' st' => exact h.elim
  | bad => exact h
/-- M: whether the clause takes the class -/
def iTryAs (i : Nat) (M : Str → Option Bool) (B J : IS) : IS := fun ρ st => match B ρ st with
  | .exc c fs ρ1 st1 => (match M c with
    | some true => if fs.isEmpty = true ∨ ¬ i < ρ1.length then .bad else hEnd i st1.length (J ((noExn ρ1).set i (some (.exn st1.length))) (st1 ++ [.xd fs]))
    | some false => .exc c fs ρ1 st1
    | none => .bad)
  | r => r
theorem PSs.under {X : Cx} {st : List Stmt} {q : Prop} {t : TS} (h : q → PSs X st t) : PSs X st (fun D σ H => q ∧ t D σ H) := ⟨fun pins s σ H D I z => (h z.1).run pins s σ H D I z.2⟩
theorem ms_tryAs {x n : Str} {cv : Value} {i : Nat} {body suite : List Stmt} {b₀ : Stmt} {np pos' : Pos} {M : Str → Option Bool} {B J : IS} {q : Value → Prop} (hs : X.stack = X.env :: X.outer) (hf : X.env.frame = some X.env.locals) (hN : X.N.Nodup) (hi : X.N[i]? = some n) (hln : X.env.kindOf n = some .local) (hc : Names X x cv) (tk : Takes X W)
    (hM : ∀ c k C, M c = some k → X.mg c = some (.ref C) → PySem.W.exmOne X.K (.ref C) cv = some k ∧ (k = true → q (.ref C)))
    (hb : ∀ (W : WX) (pn : List (Addr × Obj)) (xe : Value → Shared → Prop), Takes (X.tr pn xe) W → PassesOwn (model X.prog X.w) X.A X.env xe → MSs (X.tr pn xe) W xa body B)
    (hsu : ∀ (a : Addr) (oe : Obj) (cls : Value) (dd : Addr) (pn : List (Addr × Obj)), q cls → Zc cls (some dd) oe → (∃ vs, oe.data = .fields vs) → MSs (X.suite a ((a, oe) :: pn)) W0 (some (a, dd)) (b₀ :: suite) J) :
    MS X W xa (.Try body [.ExceptHandler (some (.Name x np)) (some n) (b₀ :: suite) pos'] [] [] pos) (iTryAs i M B J) := by
  refine PS.weak (ps_try_as (tb := fun W => tsOf (gd X) W xa B) (ts := fun a cls d D σ H => (∃ dd, d = some dd ∧ q cls) ∧ tsOf (gd X) W0 (d.map fun dd => (a, dd)) J D σ H) hs hf hN hi hln hc tk hb (fun a oe cls d pn hz hd => PSs.under fun ⟨dd, ed, hq⟩ => by
    subst ed
    exact hsu a oe cls dd pn hq hz hd)) fun D σ H h => ?_
  obtain ⟨m, os, rs, ρ, st, P, h⟩ := h
  refine ⟨m, os, rs, ρ, st, P, ?_⟩
  unfold iTryAs at h
  cases r : B ρ st with
  | exc c fs ρ1 st1 =>
    simp only [r] at h
    intro m1 os1 H1 σ1 cls d g1 P1 hx
    obtain ⟨C, hC, ecls, hxs⟩ := hx
    subst ecls
    cases k : M c with
    | none => rw [k] at h; exact h.elim
    | some kk =>
      rw [k] at h
      obtain ⟨e1, e2⟩ := hM c kk C k hC
      refine ⟨kk, e1, fun hk a ha => ?_, fun hk => ?_⟩
      · subst hk
        simp only at h
        split at h
        · exact h.elim
        · rename_i hne
          simp only [not_or, Decidable.not_not] at hne
          rcases hxs with hxs | ⟨dd, gs, ed, hH, hdm, hdb, rf⟩
          · rw [hxs] at hne; exact absurd rfl hne.1
          · subst ed
            refine ⟨⟨dd, rfl, e2 rfl⟩, ?_⟩
            have hlen := P1.rel.len
            -- the exception's own dict comes under the mirror
            have f : Fits (gd X) m1 (os1 ++ rs) st1 H1 (m1 ++ [dd]) (os1 ++ rs) (st1 ++ [.xd fs]) H1 := by
              have nt : ∀ {a : Addr} {vs : List V}, Rd H1 a (.tup vs) → a ≠ dd := fun {a vs} h z => by
                rcases h with h | ⟨o, h⟩ <;> (rw [z, hH] at h; cases h)
              have nl : ∀ {a : Addr} {vs : List V}, Rd H1 a (.lst vs) → a ≠ dd := fun {a vs} h z => by
                rcases h with h | ⟨o, h⟩ <;> (rw [z, hH] at h; cases h)
              refine ⟨fun l a h => ?_, fun a vs h => ?_, fun a vs h => ?_, fun a o u h => ?_⟩
              · rw [List.getElem?_append_left (List.getElem?_eq_some_iff.mp h).1]; exact h
              · rcases h with ⟨h, n, z⟩ | h
                · exact .inl ⟨h, fun y => (lv_snoc hlen y).elim n (nt h), z⟩
                · exact .inr h
              · rcases h with ⟨h, n, z⟩ | h
                · exact .inl ⟨h, fun y => (lv_snoc hlen y).elim n (nl h), z⟩
                · exact .inr h
              · obtain ⟨h, n, z⟩ := h
                exact ⟨h, fun y => (lv_snoc hlen y).elim n (fun y => by rw [y, hH] at h; cases h), z⟩
            have el : (m1 ++ [dd])[st1.length]? = some dd := by rw [← hlen, List.getElem?_append_right (Nat.le_refl _)]; simp
            have R2 : Rel (gd X) (m1 ++ [dd]) (os1 ++ rs) (st1 ++ [.xd fs]) H1 := by
              refine ⟨by simp [hlen], fun i j x e1 e2 => ?_, fun l w x e1 e2 => ?_, fun x z => ⟨fun y => ?_, (P1.rel.bsd x z).2⟩⟩
              · rcases getElem?_snoc e1 with e1 | ⟨i1, e1⟩
                · rcases getElem?_snoc e2 with e2 | ⟨i2, e2⟩
                  · exact P1.rel.nd i j x e1 e2
                  · exact absurd (List.mem_of_getElem? e1) (by rw [e2]; exact hdm)
                · rcases getElem?_snoc e2 with e2 | ⟨i2, e2⟩
                  · exact absurd (List.mem_of_getElem? e2) (by rw [e1]; exact hdm)
                  · omega
              · rcases getElem?_snoc e2 with e2 | ⟨i2, e2⟩
                · have hlt : l < st1.length := by rw [← hlen]; exact (List.getElem?_eq_some_iff.mp e2).1
                  rw [List.getElem?_append_left hlt] at e1
                  exact (P1.rel.obj l w x e1 e2).fits f fun _ e => e
                · subst e2
                  rw [hlen] at i2; subst i2
                  rw [List.getElem?_append_right (Nat.le_refl _)] at e1
                  have ew : IO.xd fs = w := by simpa using e1
                  rw [← ew]; exact ⟨gs, hH, RFs.fits f _ _ rf⟩
              · rcases List.mem_append.mp y with y | y
                · exact (P1.rel.bsd x z).1 y
                · have : x = dd := by simpa using y
                  exact hdb (this ▸ z)
            have hi1 : i < σ1.length := by rw [← P1.re.len]; exact hne.2
            have Q1 : Pre (gd X) (some (a, dd)) σ1 H1 m1 os1 rs (noExn ρ1) st1 := P1.noExn
            have hi2 : i < (noExn ρ1).length := by simpa [noExn] using hne.2
            have P2 : Pre (gd X) (some (a, dd)) (σ1.set i (some (.ref a))) H1 (m1 ++ [dd]) os1 rs ((noExn ρ1).set i (some (.exn st1.length))) (st1 ++ [.xd fs]) := by
              refine ⟨R2, by simp [Q1.re.len], fun j y e => ?_, fun j xs e => ?_, fun j k xs ys w q1 q2 q3 q4 => ?_⟩
              · by_cases hj : i = j
                · subst hj
                  rw [List.getElem?_set_self hi2] at e
                  cases e
                  exact ⟨.ref a, by rw [List.getElem?_set_self hi1], a, dd, rfl, rfl, el⟩
                · rw [List.getElem?_set_ne hj] at e
                  obtain ⟨v, e1, r⟩ := Q1.re.at_ j y e
                  refine ⟨v, by rw [List.getElem?_set_ne hj]; exact e1, ?_⟩
                  cases y with
                  | v x => exact RV.fits f _ _ r
                  | own xs => obtain ⟨b, vs, eb, hb, rb, hbb⟩ := r; exact ⟨b, vs, eb, hb, RVs.fits f _ _ rb, hbb⟩
                  | exn l => exact absurd rfl ((noExn_at e).2 l)
              · have hj : i ≠ j := fun z => by
                  subst z
                  rw [List.getElem?_set_self hi2] at e
                  cases e
                rw [List.getElem?_set_ne hj] at e
                obtain ⟨b, e1, r⟩ := Q1.re.own j xs e
                exact ⟨b, by rw [List.getElem?_set_ne hj]; exact e1, r⟩
              · have key : ∀ {j : Nat} {xs : List IV}, ((noExn ρ1).set i (some (.exn st1.length)))[j]? = some (some (.own xs)) → i ≠ j := fun {j xs} e z => by
                  subst z
                  rw [List.getElem?_set_self hi2] at e
                  cases e
                have n1 := key q1
                have n2 := key q2
                rw [List.getElem?_set_ne n1] at q1 q3
                rw [List.getElem?_set_ne n2] at q2 q4
                exact Q1.re.uniq j k xs ys w q1 q2 q3 q4
            have g2 : Grow m1 st1 os1 H1 (m1 ++ [dd]) (st1 ++ [.xd fs]) os1 H1 := ⟨List.prefix_append _ _, fun b o hb nb qb nx => ⟨hb, fun z => (lv_snoc hlen z).elim nb (fun z => by rw [z, hH] at hb; cases hb; exact nx _ rfl), qb⟩, fun _ h => h⟩
            show tsOf (gd X) W0 (some (a, dd)) J _ _ _
            refine ⟨m1 ++ [dd], os1, rs, _, _, P2, ?_⟩
            exact hEnd_post ((PstS.shift g1 h).shift g2)
      · subst hk
        exact h m1 os1 H1 σ1 _ _ g1 P1 ⟨C, hC, rfl, hxs⟩
  | nx ρ1 st1 => simp only [r] at h; exact h
  | bk ρ1 st1 => simp only [r] at h; exact h
  | ct ρ1 st1 => simp only [r] at h; exact h
  | rt v st1 => simp only [r] at h; exact h
  | bad => simp only [r] at h; exact h
/-- n.f in the suite -/
def iExf (i : Nat) (f : Str) : IE := fun ρ st => match ρ[i]? with
  | some (some (.exn l)) => (match st[l]? with
    | some (.xd fs) => (match fs.lookup f with | some v => .ok v st | none => .bad)
    | _ => .bad)
  | _ => .bad
theorem me_exf {a dd C : Addr} {oe : Obj} {cls : Value} {pn : List (Addr × Obj)} {i : Nat} {f y : Str} {p2 : Pos} (T : XfC X.K C) (hno : PySem.W.findIn X.K (.ref C) f = some none) (hcls : cls = .ref C)
    (hz : Zc cls (some dd) oe) (hf : ∃ vs, oe.data = .fields vs) (hv : PE (X.suite a ((a, oe) :: pn)) (.Name y p2) (tVar i)) (hb : attributeBase (.Name y p2) f X.env (eval (.Name y p2) X.env) = eval (.Name y p2) X.env := by rfl) :
    ME (X.suite a ((a, oe) :: pn)) W (some (a, dd)) (.Attribute (.Name y p2) f pos) (iExf i f) := by
  refine PE.weak (pe_xf T hno hz hf hv hb) fun σ H Q h => ?_
  obtain ⟨m, os, rs, ρ, st, P, h⟩ := h
  unfold iExf at h
  split at h
  · rename_i l e
    obtain ⟨v, e1, a', d', e2, e3, e4⟩ := P.re.at_ _ _ e
    cases e2
    split at h
    · rename_i fs e5
      split at h
      · rename_i u hu
        obtain ⟨gs, e6, rf⟩ := P.rel.obj _ _ dd e5 e4
        obtain ⟨w, e7, rw'⟩ := rf.look hu
        exact ⟨v, e1, e3, hcls, dd, gs, w, rfl, e6, e7, h.v P.rel rw'⟩
      · exact h.elim
    · exact h.elim
  · exact h.elim
end
end Mi
set_option Elab.async false
set_option linter.all false
set_option maxRecDepth 100000
set_option maxHeartbeats 4000000
namespace Mi
open PySem PySem.Spec PyProof.Rows L2

/-- two clauses -/
def lcO (g : GI) (all : List IV) (vs : List Nat) (T : ITg) (S : IT) (I1 : IIt) (vs1 : List Nat) (T1 : ITg) (S1 : IT) (E : IE) (ρ : Slots) : List IV → List IV → Sto → R (List IV)
  | [], acc, st => if gokB g st all = true then .ok acc st else .bad
  | x :: r, acc, st => if gokB g st all = true then
      match T x (wipeI ρ vs) st with
      | .nx ρ1 st1 => ((S ρ1 st1).noE).bind fun b st2 => if b = true then ((I1 ρ1 st2).noE).bind fun p st3 => (lcL p.2 p.1 vs1 T1 S1 E ρ1 p.1 0 acc st3).bind fun acc' st4 => lcO g all vs T S I1 vs1 T1 S1 E ρ r acc' st4 else lcO g all vs T S I1 vs1 T1 S1 E ρ r acc st2
      | _ => .bad
    else .bad
def iLc2 (I : IIt) (vs : List Nat) (T : ITg) (S : IT) (I1 : IIt) (vs1 : List Nat) (T1 : ITg) (S1 : IT) (E : IE) : IA := fun ρ st => (I ρ st).bind fun p st => lcO p.2 p.1 vs T S I1 vs1 T1 S1 E ρ p.1 [] st
section
variable {X : Cx} {W : WX} {xa : Xa}
/-- the new list D grows by u -/
theorem grow_D {m m6 os rs : List Addr} {st st6 : Sto} {H H6 : Hp} {σ σ' : L2.St} {ρ ρ' : Slots} {D : Addr} {ws : List V} {u : V} {acc : List IV} {y : IV} (P : Pre (gd X) xa σ H m os rs ρ st) (hD0 : H D = none)
    (P6 : Pre (gd X) xa σ' H6 m6 os (D :: rs) ρ' st6) (g6 : GrowE m st H m6 st6 H6) (ra : RVs (gd X) m6 (os ++ (D :: rs)) st6 H6 acc ws) (ru : RV (gd X) m6 (os ++ (D :: rs)) st6 H6 y u) :
    GrowE m st H m6 st6 (upd H6 D (.lst (ws ++ [u]))) ∧ Fits (gd X) m6 (os ++ (D :: rs)) st6 H6 m6 (os ++ (D :: rs)) st6 (upd H6 D (.lst (ws ++ [u]))) ∧ Pre (gd X) xa σ' (upd H6 D (.lst (ws ++ [u]))) m6 os (D :: rs) ρ' st6 ∧ RVs (gd X) m6 (os ++ (D :: rs)) st6 (upd H6 D (.lst (ws ++ [u]))) (acc ++ [y]) (ws ++ [u]) := by
  have Dm : D ∈ os ++ (D :: rs) := List.mem_append_right _ List.mem_cons_self
  have fu : Fits (gd X) m6 (os ++ (D :: rs)) st6 H6 m6 (os ++ (D :: rs)) st6 (upd H6 D (.lst (ws ++ [u]))) := fits_upd Dm
  have ra6 : RVs (gd X) m6 (os ++ (D :: rs)) st6 H6 (acc ++ [y]) (ws ++ [u]) := ra.append (by simp only [RVs]; exact ⟨u, [], rfl, ru, rfl⟩)
  refine ⟨⟨g6.pre, fun a o ha na qa nx => ?_, fun a e => g6.stay a (upd_stay e)⟩, fu, ⟨P6.rel.upd Dm, P6.re.len, fun j x e => ?_, P6.re.own, P6.re.uniq⟩, RVs.fits fu _ _ ra6⟩
  · obtain ⟨k1, k2, _⟩ := g6.keep a o ha na qa nx
    exact ⟨by rw [upd_ne (ne_of_none ha hD0)]; exact k1, k2, qa⟩
  · obtain ⟨v, e1, r⟩ := P6.re.at_ j x e
    refine ⟨v, e1, ?_⟩
    cases x with
    | v x => exact RV.fits fu _ _ r
    | own zs =>
      obtain ⟨a, us, ea, ha, rz, hb⟩ := r
      obtain ⟨a', e3, ho, _⟩ := P6.re.own j zs e
      have ne : a ≠ D := by
        intro z
        rw [e1, ea] at e3
        have z2 : a = a' := by cases e3; rfl
        obtain ⟨_, o, e4⟩ := P.rel.bsd a' (List.mem_append_left _ ho)
        rw [← z2, z, hD0] at e4; cases e4
      exact ⟨a, us, ea, by rw [upd_ne ne]; exact ha, RVs.fits fu _ _ rz, hb⟩
    | exn l => exact r
/-- a new list D blocked -/
theorem Pre.blockD {m1 os rs : List Addr} {st1 : Sto} {H1 : Hp} {σ : L2.St} {ρ : Slots} {D : Addr} {u : HO} (P1 : Pre (gd X) xa σ H1 m1 os rs ρ st1) (hD : H1 D = none) :
    Fits (gd X) m1 (os ++ rs) st1 H1 m1 (os ++ (D :: rs)) st1 (upd H1 D u) ∧ Pre (gd X) xa σ (upd H1 D u) m1 os (D :: rs) ρ st1 := by
  have blk : ∀ a ∈ os ++ (D :: rs), a = D ∨ a ∈ os ++ rs := fun a z => by
    rcases List.mem_append.mp z with z | z
    · exact .inr (List.mem_append_left _ z)
    · rcases List.mem_cons.mp z with z | z
      · exact .inl z
      · exact .inr (List.mem_append_right _ z)
  have f1 : Fits (gd X) m1 (os ++ rs) st1 H1 m1 (os ++ (D :: rs)) st1 (upd H1 D u) := fits_block hD blk
  refine ⟨f1, P1.rel.block hD blk, P1.re.len, fun i x e => ?_, fun i xs e => let ⟨a, e1, e2, e3⟩ := P1.re.own i xs e; ⟨a, e1, e2, fun z => (List.mem_cons.mp z).elim (fun z => by obtain ⟨_, o, q⟩ := P1.rel.bsd a (List.mem_append_left _ e2); rw [z, hD] at q; cases q) e3⟩, P1.re.uniq⟩
  obtain ⟨v, e1, r⟩ := P1.re.at_ i x e
  refine ⟨v, e1, ?_⟩
  cases x with
  | v x => exact RV.fits f1 _ _ r
  | own xs =>
    obtain ⟨a, vs, ea, ha, ra, hb⟩ := r
    have ne : a ≠ D := ne_of_none ha hD
    refine ⟨a, vs, ea, by rw [upd_ne ne]; exact ha, RVs.fits f1 _ _ ra, ?_⟩
    rcases List.mem_append.mp hb with z | z
    · exact List.mem_append_left _ z
    · exact List.mem_append_right _ (List.mem_cons_of_mem _ z)
  | exn l => exact r
theorem lc2_weak {g g1 : TG} {tt tt1 : TT} {I I1 : IIt} {T T1 : ITg} {S S1 : IT} {E : IE} {vs vs1 : List Nat} (hT : CTg (gd X) xa vs g T) (hS : TtOk (gd X) xa tt S) (hpl : ∀ x ρ st, match T x ρ st with | .nx _ st' => st' = st | _ => True)
    (hT1 : CTg (gd X) xa vs1 g1 T1) (hS1 : TtOk (gd X) xa tt1 S1) (hpl1 : ∀ x ρ st, match T1 x ρ st with | .nx _ st' => st' = st | _ => True)
    {σ : L2.St} {H : Hp} {Q : VK} (h : tfOf (gd X) W xa (iLc2 I vs T S I1 vs1 T1 S1 E) σ H Q) : tLc2 (tiOf (gd X) W xa I) g tt (tiOf (gd X) W0 xa I1) g1 tt1 (teOf (gd X) W0 xa E) vs vs1 σ H Q := by
  obtain ⟨m, os, rs, ρ, st, P, h⟩ := h
  refine ⟨m, os, rs, ρ, st, P, ?_⟩
  unfold iLc2 at h
  cases q : I ρ st with
  | exc c fs st1 => rw [q] at h; exact h
  | bad => rw [q] at h; exact h
  | ok p st1 =>
    rw [q] at h
    intro m1 H1 g1' R1 J hw D hD
    obtain ⟨xs, gd0⟩ := p
    have h0 : PstF (gd X) m (os ++ rs) st H (fun cls d H' => W cls d σ H') (lcO gd0 xs vs T S I1 vs1 T1 S1 E ρ xs [] st1) Q := h
    have perm : ∀ a ∈ D :: (os ++ rs), a ∈ os ++ (D :: rs) := fun a z => by
      rcases List.mem_cons.mp z with z | z
      · rw [z]; exact List.mem_append_right _ List.mem_cons_self
      · rcases List.mem_append.mp z with z | z
        · exact List.mem_append_left _ z
        · exact List.mem_append_right _ (List.mem_cons_of_mem _ z)
    have Dm : D ∈ os ++ (D :: rs) := List.mem_append_right _ List.mem_cons_self
    have hD0 : H D = none := g1'.stay D hD
    have P1 := P.grow g1' R1
    obtain ⟨f1, Q1⟩ := P1.blockD (u := .lst []) hD
    refine ⟨fun i n H2 => n = xs.length - i ∧ i ≤ xs.length ∧ ∃ m2 st2 acc ws, GrowE m st H m2 st2 H2 ∧ Fits (gd X) m1 (os ++ rs) st1 H1 m2 (os ++ (D :: rs)) st2 H2 ∧ Pre (gd X) xa σ H2 m2 os (D :: rs) ρ st2 ∧ H2 D = some (.lst ws) ∧ RVs (gd X) m2 (os ++ (D :: rs)) st2 H2 acc ws ∧
        PstF (gd X) m (os ++ rs) st H (fun cls d H' => W cls d σ H') (lcO gd0 xs vs T S I1 vs1 T1 S1 E ρ (xs.drop i) acc st2) Q,
      ⟨xs.length, by simp, Nat.zero_le _, m1, st1, [], [], g1'.trans (grow_new hD), f1, Q1, upd_same, by simp only [RVs], by simpa using h0⟩, ?_⟩
    rintro i n H2 ⟨rfl, hi, m2, st2, acc, ws, g2, f2, P2, eD, ra, h2⟩
    have w := hw i m2 _ st2 H2 f2 P2.rel
    by_cases hlt : i < xs.length
    · have ed : xs.drop i = xs[i] :: xs.drop (i + 1) := List.drop_eq_getElem_cons hlt
      rw [ed, lcO] at h2
      split at h2
      · rename_i gk
        obtain ⟨w1, _⟩ := w gk
        obtain ⟨go, yl⟩ := w1 xs[i] (List.getElem?_eq_getElem hlt)
        refine .inr ⟨go, fun H' => i + 1 ≤ xs.length ∧ ∃ m2 st2 acc ws, GrowE m st H m2 st2 H' ∧ Fits (gd X) m1 (os ++ rs) st1 H1 m2 (os ++ (D :: rs)) st2 H' ∧ Pre (gd X) xa σ H' m2 os (D :: rs) ρ st2 ∧ H' D = some (.lst ws) ∧ RVs (gd X) m2 (os ++ (D :: rs)) st2 H' acc ws ∧
          PstF (gd X) m (os ++ rs) st H (fun cls d H' => W cls d σ H') (lcO gd0 xs vs T S I1 vs1 T1 S1 E ρ (xs.drop (i + 1)) acc st2) Q, fun H' q => ⟨xs.length - (i + 1), by omega, rfl, q⟩, fun v H3 y => ?_⟩
        obtain ⟨g3, R3, r3⟩ := yl v H3 y
        have P3 := (P2.grow g3 R3).wipe vs
        have hp := hpl xs[i] (wipeI ρ vs) st2
        cases q1 : T xs[i] (wipeI ρ vs) st2 with
        | nx ρ4 st4 =>
          rw [q1] at hp
          simp only at hp
          subst hp
          simp only [q1] at h2
          refine hT v (wipe σ vs) H3 _ m2 os (D :: rs) (wipeI ρ vs) st4 xs[i] P3 r3 ⟨ρ4, q1, fun σ2 P4 ew => ⟨by rw [ew, wipe_wipe], ?_⟩⟩
          have keepD : ∀ {m' : List Addr} {st' : Sto} {H' : Hp}, GrowE m2 st4 H2 m' st' H' → H' D = some (.lst ws) := fun {m' st' H'} g => (g.keep D _ eD (fun z => (P2.rel.bsd D Dm).1 z.mem) (by simp) nxl).1
          refine hS σ2 H3 _ ⟨m2, os, D :: rs, ρ4, st4, P4, ?_⟩
          cases q2 : S ρ4 st4 with
          | ok b st5 =>
            rw [q2] at h2
            intro m5 H5 g5 R5 b' eb
            subst eb
            have gg5 : GrowE m2 st4 H2 m5 st5 H5 := g3.trans g5
            cases b with
            | false =>
              simp only [R.noE, R.bind] at h2
              exact ⟨hlt, m5, st5, acc, ws, g2.trans gg5, f2.trans gg5.fitsE, (P2.grow g3 R3).grow g5 R5, keepD gg5, RVs.fits gg5.fitsE _ _ ra, by simpa using h2⟩
            | true =>
              simp only [R.noE, R.bind, if_true] at h2
              have P5 := P4.grow g5 R5
              refine ⟨m5, os, D :: rs, ρ4, st5, P5, ?_⟩
              cases q3 : I1 ρ4 st5 with
              | exc c fs st6 => rw [q3] at h2; exact h2.elim
              | bad => rw [q3] at h2; exact h2.elim
              | ok p6 st6 =>
                obtain ⟨ys, gd1⟩ := p6
                rw [q3] at h2
                intro m6 H6 g6 R6 J1 hw1
                have gg6 : GrowE m2 st4 H2 m6 st6 H6 := gg5.trans g6
                have e6 := keepD gg6
                have O6 := ((P2.grow g3 R3).grow g5 R5).grow g6 R6
                have P6 := P5.grow g6 R6
                have h3 : PstF (gd X) m (os ++ rs) st H (fun cls d H' => W cls d σ H') ((lcL gd1 ys vs1 T1 S1 E ρ4 ys 0 acc st6).bind fun acc' st4 => lcO gd0 xs vs T S I1 vs1 T1 S1 E ρ (xs.drop (i + 1)) acc' st4) Q := h2
                refine ⟨fun j k H7 => k = ys.length - j ∧ j ≤ ys.length ∧ ∃ m7 st7 acc ws n, GrowE m st H m7 st7 H7 ∧ Fits (gd X) m1 (os ++ rs) st1 H1 m7 (os ++ (D :: rs)) st7 H7 ∧ Fits (gd X) m6 (os ++ (D :: rs)) st6 H6 m7 (os ++ (D :: rs)) st7 H7 ∧ Pre (gd X) xa σ H7 m7 os (D :: rs) ρ st7 ∧ Pre (gd X) xa σ2 H7 m7 os (D :: rs) ρ4 st7 ∧ H7 D = some (.lst ws) ∧ RVs (gd X) m7 (os ++ (D :: rs)) st7 H7 acc ws ∧
                    PstF (gd X) m (os ++ rs) st H (fun cls d H' => W cls d σ H') ((lcL gd1 ys vs1 T1 S1 E ρ4 (ys.drop j) n acc st7).bind fun acc' st4 => lcO gd0 xs vs T S I1 vs1 T1 S1 E ρ (xs.drop (i + 1)) acc' st4) Q,
                  ⟨ys.length, by simp, Nat.zero_le _, m6, st6, acc, ws, 0, g2.trans gg6, f2.trans gg6.fitsE, ⟨fun _ _ h => h, fun _ _ h => h, fun _ _ h => h, fun _ _ _ h => h⟩, O6, P6, e6, RVs.fits gg6.fitsE _ _ ra, by simpa using h3⟩, ?_⟩
                rintro j k H7 ⟨rfl, hj, m7, st7, acc, ws, n, g7, f7, f7', O7, P7, eD7, ra7, h7⟩
                have w7 := hw1 j m7 _ st7 H7 f7' P7.rel
                by_cases hlt1 : j < ys.length
                · have ed1 : ys.drop j = ys[j] :: ys.drop (j + 1) := List.drop_eq_getElem_cons hlt1
                  rw [ed1, lcL] at h7
                  split at h7
                  · rename_i gk1
                    obtain ⟨w8, _⟩ := w7 gk1.1
                    obtain ⟨go1, yl1⟩ := w8 ys[j] (List.getElem?_eq_getElem hlt1)
                    refine .inr ⟨go1, fun H' => j + 1 ≤ ys.length ∧ ∃ m7 st7 acc ws n, GrowE m st H m7 st7 H' ∧ Fits (gd X) m1 (os ++ rs) st1 H1 m7 (os ++ (D :: rs)) st7 H' ∧ Fits (gd X) m6 (os ++ (D :: rs)) st6 H6 m7 (os ++ (D :: rs)) st7 H' ∧ Pre (gd X) xa σ H' m7 os (D :: rs) ρ st7 ∧ Pre (gd X) xa σ2 H' m7 os (D :: rs) ρ4 st7 ∧ H' D = some (.lst ws) ∧ RVs (gd X) m7 (os ++ (D :: rs)) st7 H' acc ws ∧
                      PstF (gd X) m (os ++ rs) st H (fun cls d H' => W cls d σ H') ((lcL gd1 ys vs1 T1 S1 E ρ4 (ys.drop (j + 1)) n acc st7).bind fun acc' st4 => lcO gd0 xs vs T S I1 vs1 T1 S1 E ρ (xs.drop (i + 1)) acc' st4) Q, fun H' q => ⟨ys.length - (j + 1), by omega, rfl, q⟩, fun v8 H8 y8 => ?_⟩
                    obtain ⟨g8, R8, r8⟩ := yl1 v8 H8 y8
                    have P8 := (P7.grow g8 R8).wipe vs1
                    have hp1 := hpl1 ys[j] (wipeI ρ4 vs1) st7
                    cases q8 : T1 ys[j] (wipeI ρ4 vs1) st7 with
                    | nx ρ9 st9 =>
                      rw [q8] at hp1
                      simp only at hp1
                      subst hp1
                      simp only [q8] at h7
                      refine hT1 v8 (wipe σ2 vs1) H8 _ m7 os (D :: rs) (wipeI ρ4 vs1) st9 ys[j] P8 r8 ⟨ρ9, q8, fun σ9 P9 ew9 => ⟨by rw [ew9, wipe_wipe], ?_⟩⟩
                      have keepD7 : ∀ {m' : List Addr} {st' : Sto} {H' : Hp}, GrowE m7 st9 H7 m' st' H' → H' D = some (.lst ws) := fun {m' st' H'} g => (g.keep D _ eD7 (fun z => (P7.rel.bsd D Dm).1 z.mem) (by simp) nxl).1
                      refine hS1 σ9 H8 _ ⟨m7, os, D :: rs, ρ9, st9, P9, ?_⟩
                      cases q10 : S1 ρ9 st9 with
                      | ok b st10 =>
                        rw [q10] at h7
                        intro m10 H10 g10 R10 b' eb
                        subst eb
                        have gg10 : GrowE m7 st9 H7 m10 st10 H10 := g8.trans g10
                        cases b with
                        | false =>
                          exact ⟨hlt1, m10, st10, acc, ws, n + 1, g7.trans gg10, f7.trans gg10.fitsE, f7'.trans gg10.fitsE, (O7.grow g8 R8).grow g10 R10, (P7.grow g8 R8).grow g10 R10, keepD7 gg10, RVs.fits gg10.fitsE _ _ ra7, h7⟩
                        | true =>
                          simp only [R.noE, R.bind, if_true] at h7
                          refine ⟨m10, os, D :: rs, ρ9, st10, P9.grow g10 R10, ?_⟩
                          cases q11 : E ρ9 st10 with
                          | ok y st11 =>
                            rw [q11] at h7
                            intro m11 H11 g11 R11 u ru
                            have gg11 : GrowE m7 st9 H7 m11 st11 H11 := gg10.trans g11
                            have e11 := keepD7 gg11
                            have ra11 := RVs.fits gg11.fitsE _ _ ra7
                            refine ⟨ws, e11, ?_, ?_⟩
                            · rw [← ra7.length]; exact szlt gk1.2
                            · obtain ⟨d1, d2, d3, d4⟩ := grow_D (D := D) P hD0 (((O7.grow g8 R8).grow g10 R10).grow g11 R11) (g7.trans gg11) ra11 ru
                              obtain ⟨_, _, d5, _⟩ := grow_D (D := D) P hD0 (((P7.grow g8 R8).grow g10 R10).grow g11 R11) (g7.trans gg11) ra11 ru
                              exact ⟨hlt1, m11, st11, acc ++ [y], ws ++ [u], n + 1, d1, (f7.trans gg11.fitsE).trans d2, (f7'.trans gg11.fitsE).trans d2, d3, d5, upd_same, d4, h7⟩
                          | exc c fs st11 => rw [q11] at h7; exact h7.elim
                          | bad => rw [q11] at h7; exact h7.elim
                      | exc c fs st10 => rw [q10] at h7; exact h7.elim
                      | bad => rw [q10] at h7; exact h7.elim
                    | _ => simp only [q8] at h7; exact h7.elim
                  · exact h7.elim
                · have ej : j = ys.length := by omega
                  rw [List.drop_eq_nil_of_le (by omega), lcL] at h7
                  split at h7
                  · rename_i gk1
                    exact .inl ⟨(w7 gk1).2 (by show ys.length ≤ j; omega), hlt, m7, st7, acc, ws, g7, f7, O7, eD7, ra7, h7⟩
                  · exact h7.elim
          | exc c fs st5 => rw [q2] at h2; exact h2.elim
          | bad => rw [q2] at h2; exact h2.elim
        | _ => simp only [q1] at h2; exact h2.elim
      · exact h2.elim
    · have ei : i = xs.length := by omega
      rw [List.drop_eq_nil_of_le (by omega), lcO] at h2
      split at h2
      · rename_i gk
        exact .inl ⟨(w gk).2 (by show xs.length ≤ i; omega), h2 m2 H2 D ws hD0 g2 (P2.rel.sub perm) eD (RVs.fits (fits_sub perm) _ _ ra)⟩
      · exact h2.elim
theorem mf_lc2 {elt tg iter tg1 iter1 : Expr} {ifs ifs1 : List Expr} {scope : Scope} {own : List (Str × Nat)} {vs1 : List Nat} {pos : Pos} {g g1 : TG} {tt tt1 : TT} {I I1 : IIt} {T T1 : ITg} {S S1 : IT} {E : IE} (hc : X.calm = true) (hN : X.N.Nodup) (hi : MI X W xa tg iter I) (ok : BlkOk X.N X.env.scope scope own) (hv : ∀ i ∈ vs1, i ∈ own.map (·.2))
    (hg : ∀ (s : Shared) (H : Hp) (C : Addr) (cl : List (Str × Addr)) (fp : List Addr), PG (X.blk s H scope (compEnvC scope cl C X.env) fp) tg g) (hT : CTg (gd X) xa (own.map (·.2)) g T) (hpl : ∀ x ρ st, match T x ρ st with | .nx _ st' => st' = st | _ => True)
    (ht : ∀ (s : Shared) (H : Hp) (C : Addr) (cl : List (Str × Addr)) (fp : List Addr), PTs (X.blk s H scope (compEnvC scope cl C X.env) fp) ifs tt) (hS : TtOk (gd X) xa tt S)
    (hi1 : ∀ (s : Shared) (H : Hp) (C : Addr) (cl : List (Str × Addr)) (fp : List Addr), PI (X.blk s H scope (compEnvC scope cl C X.env) fp) tg1 iter1 (tiOf (gd X) W0 xa I1))
    (hg1 : ∀ (s : Shared) (H : Hp) (C : Addr) (cl : List (Str × Addr)) (fp : List Addr), PG (X.blk s H scope (compEnvC scope cl C X.env) fp) tg1 g1) (hT1 : CTg (gd X) xa vs1 g1 T1) (hpl1 : ∀ x ρ st, match T1 x ρ st with | .nx _ st' => st' = st | _ => True)
    (ht1 : ∀ (s : Shared) (H : Hp) (C : Addr) (cl : List (Str × Addr)) (fp : List Addr), PTs (X.blk s H scope (compEnvC scope cl C X.env) fp) ifs1 tt1) (hS1 : TtOk (gd X) xa tt1 S1)
    (he : ∀ (s : Shared) (H : Hp) (C : Addr) (cl : List (Str × Addr)) (fp : List Addr), PE (X.blk s H scope (compEnvC scope cl C X.env) fp) elt (teOf (gd X) W0 xa E)) (hs : ∀ x, foldedSetIterable iter X.env x = pure x := by intro _; rfl) (hs1 : ∀ env x, foldedSetIterable iter1 env x = pure x := by intro _ _; rfl) :
    MF X W xa (.ListComp elt [⟨tg, iter, ifs, 0⟩, ⟨tg1, iter1, ifs1, 0⟩] scope pos) (iLc2 I (own.map (·.2)) T S I1 vs1 T1 S1 E) :=
  PE.weak (pe_lc2 hc hN hi ok hv hg ht hi1 hg1 ht1 he hs hs1) fun σ H Q h => lc2_weak hT hS hpl hT1 hS1 hpl1 h
theorem setLc2 {i : Nat} {y : Str} {py : Pos} {elt tg iter tg1 iter1 : Expr} {ifs ifs1 : List Expr} {scope : Scope} {own : List (Str × Nat)} {vs1 : List Nat} {pos spos : Pos} {g g1 : TG} {tt tt1 : TT} {I I1 : IIt} {T T1 : ITg} {S S1 : IT} {E : IE} {J : IS} (hc : X.calm = true) (hN : X.N.Nodup) (hy : X.N[i]? = some y) (hyl : X.env.scope.names.lookup y = some .local)
    (hsw : swapsWith (.ListComp elt [⟨tg, iter, ifs, 0⟩, ⟨tg1, iter1, ifs1, 0⟩] scope pos) (some (.Name y py)) spos.line X.env = pure true) (hi : MI X W xa tg iter I) (ok : BlkOk X.N X.env.scope scope own) (hv : ∀ i ∈ vs1, i ∈ own.map (·.2))
    (hg : ∀ (s : Shared) (H : Hp) (C : Addr) (cl : List (Str × Addr)) (fp : List Addr), PG (X.blk s H scope (compEnvC scope cl C X.env) fp) tg g) (hT : CTg (gd X) xa (own.map (·.2)) g T) (hpl : ∀ x ρ st, match T x ρ st with | .nx _ st' => st' = st | _ => True)
    (ht : ∀ (s : Shared) (H : Hp) (C : Addr) (cl : List (Str × Addr)) (fp : List Addr), PTs (X.blk s H scope (compEnvC scope cl C X.env) fp) ifs tt) (hS : TtOk (gd X) xa tt S)
    (hi1 : ∀ (s : Shared) (H : Hp) (C : Addr) (cl : List (Str × Addr)) (fp : List Addr), PI (X.blk s H scope (compEnvC scope cl C X.env) fp) tg1 iter1 (tiOf (gd X) W0 xa I1))
    (hg1 : ∀ (s : Shared) (H : Hp) (C : Addr) (cl : List (Str × Addr)) (fp : List Addr), PG (X.blk s H scope (compEnvC scope cl C X.env) fp) tg1 g1) (hT1 : CTg (gd X) xa vs1 g1 T1) (hpl1 : ∀ x ρ st, match T1 x ρ st with | .nx _ st' => st' = st | _ => True)
    (ht1 : ∀ (s : Shared) (H : Hp) (C : Addr) (cl : List (Str × Addr)) (fp : List Addr), PTs (X.blk s H scope (compEnvC scope cl C X.env) fp) ifs1 tt1) (hS1 : TtOk (gd X) xa tt1 S1)
    (he : ∀ (s : Shared) (H : Hp) (C : Addr) (cl : List (Str × Addr)) (fp : List Addr), PE (X.blk s H scope (compEnvC scope cl C X.env) fp) elt (teOf (gd X) W0 xa E))
    (hw : ∀ D σ H, tsOf (gd X) W xa J D σ H → tAsg (tfOf (gd X) W xa (iLc2 I (own.map (·.2)) T S I1 vs1 T1 S1 E)) (gName i) D σ H) (hs : ∀ x, foldedSetIterable iter X.env x = pure x := by intro _; rfl) (hs1 : ∀ env x, foldedSetIterable iter1 env x = pure x := by intro _ _; rfl) :
    MS X W xa (.Assign [.Name y py] (.ListComp elt [⟨tg, iter, ifs, 0⟩, ⟨tg1, iter1, ifs1, 0⟩] scope pos) spos) J :=
  PS.weak (ps_setLc2 hc hN hy hyl hsw hi ok hv hg ht hi1 hg1 ht1 he hs hs1) fun D σ H h => lc2_weak hT hS hpl hT1 hS1 hpl1 (hw D σ H h)
end
end Mi
set_option Elab.async false
set_option linter.all false
set_option maxRecDepth 100000
set_option maxHeartbeats 4000000
namespace Mi
open PySem PySem.Spec PyProof.Rows L2

section
variable {X : Cx} {W : WX} {xa : Xa} {a b c e : Expr} {A B : IE} {pos : Pos} {es : List Expr} {As : IA}
/-! ### a, b = x, y -/
def iPar2 (i j : Nat) (As : IA) : IS := fun ρ st => RS.ofR (As ρ st) ρ fun xs st => match xs with
  | [x, y] => .nx ((ρ.set i (some (.v x))).set j (some (.v y))) st
  | _ => .bad
theorem ms_par2 {i j : Nat} {x y : Str} {px py pt : Pos} {kt k2 : Nat} {pt2 : Pos} (hc : X.calm = true) (hN : X.N.Nodup) (hi : X.N[i]? = some x) (hj : X.N[j]? = some y) (hij : i ≠ j)
    (hx : X.env.scope.names.lookup x = some .local) (hy : X.env.scope.names.lookup y = some .local) (ha : MA X W xa [a, b] As)
    (hw : swappedStores [.Tuple [.Name x px, .Name y py] kt pt] (.Tuple [a, b] k2 pt2) X.env = pure (some [x, y]))
    (hs : swapsWithSole [.Tuple [.Name x px, .Name y py] kt pt] (.Tuple [a, b] k2 pt2) pos.line X.env = pure false := by rfl) :
    MS X W xa (.Assign [.Tuple [.Name x px, .Name y py] kt pt] (.Tuple [a, b] k2 pt2) pos) (iPar2 i j As) := by
  refine PS.weak (ps_par hc hN hi hj hij hx hy ha hw hs) fun D σ H h => ?_
  obtain ⟨m, os, rs, ρ, st, P, h⟩ := h
  refine ⟨m, os, rs, ρ, st, P, (h.ofR P).mono fun xs m1 st1 H1 g1 R1 h1 vs rv => ?_⟩
  split at h1
  · obtain ⟨v, w, e, r1, r2⟩ := rvs2 rv
    exact ⟨v, w, e, h1.here (((P.grow g1 R1).set r1).set r2)⟩
  · exact h1.elim
def iPar3 (i j l : Nat) (As : IA) : IS := fun ρ st => RS.ofR (As ρ st) ρ fun xs st => match xs with
  | [x, y, z] => .nx (((ρ.set i (some (.v x))).set j (some (.v y))).set l (some (.v z))) st
  | _ => .bad
end
end Mi
set_option Elab.async false
set_option linter.all false
set_option maxRecDepth 100000
set_option maxHeartbeats 4000000
namespace Mi
open PySem PySem.Spec PyProof.Rows L2

/-! ### globals that are tuples of texts or numbers -/
def okFlat : IV → Bool
  | .non => true
  | .bl _ => true
  | .int _ => true
  | .str _ => true
  | _ => false
theorem rv_vOf {G : Gd} {m bs : List Addr} {st : Sto} {H : Hp} {x : IV} (h : okFlat x = true) : RV G m bs st H x (vOf x) := by
  cases x <;> first | (simp only [RV, vOf]; done) | cases h
theorem rvs_vOf {G : Gd} {m bs : List Addr} {st : Sto} {H : Hp} : ∀ {xs : List IV}, xs.all okFlat = true → RVs G m bs st H xs (xs.map vOf)
  | [], _ => by simp only [RVs]; rfl
  | x :: xs, h => by
    rw [List.all_cons, Bool.and_eq_true] at h
    simp only [RVs, List.map_cons]
    exact ⟨_, _, rfl, rv_vOf h.1, rvs_vOf h.2⟩
/-- the top's tuple of flat values -/
def GTup (K : PySem.W.Frag) (mg : Str → Option Value) (x : Str) (xs : List IV) : Prop := ∃ a, mg x = some (.ref a) ∧ SqT K H0 a (xs.map vOf)
section
variable {X : Cx} {W : WX} {xa : Xa} {pos : Pos}
theorem me_globT {x : Str} {xs : List IV} (hg : Gl X x) (h : GTup X.K X.mg x xs) (hf : xs.all okFlat = true := by rfl) (hd : (x == ("__debug__" : Str)) = false := by decide) : ME X W xa (.Name x pos) (iC (.tup xs)) := by
  obtain ⟨a, hm, hs⟩ := h
  refine me_c (pe_glob hg hm (v := .ref a) rfl hd) fun m bs st H => ?_
  simp only [RV]
  exact ⟨a, xs.map vOf, rfl, .inr hs, rvs_vOf hf⟩
theorem me_globS {x y : Str} (hg : Gl X x) (h : ∃ t, X.mg x = some (.str y t)) (hd : (x == ("__debug__" : Str)) = false := by decide) : ME X W xa (.Name x pos) (iC (.str y)) := by
  obtain ⟨t, h⟩ := h
  exact me_c (pe_glob hg h (v := .str y) ⟨t, rfl⟩ hd) fun m bs st H => by simp only [RV]
theorem me_globI {x : Str} {y : Int} (hg : Gl X x) (h : ∃ t, X.mg x = some (.int y t)) (hd : (x == ("__debug__" : Str)) = false := by decide) : ME X W xa (.Name x pos) (iC (.int y)) := by
  obtain ⟨t, h⟩ := h
  exact me_c (pe_glob hg h (v := .int y) ⟨t, rfl⟩ hd) fun m bs st H => by simp only [RV]
end

/-! ### the one field of an exception -/
section
variable {P : Program} {w : World} {K : PySem.W.Frag} {mg : Str → Option Value} {base : Heap} {C : Addr}
/-- def __init__(self, f): self.f = f -/
theorem exc_init {qual x y : Str} {st : Stmt} {f : Addr} {fd : FuncData} {fl : Str} {p1 p2 p3 p4 : Pos} (F : L2.Fun K "__init__" qual st f fd) (S : FnScope [x, y] [x, y] (defScope st)) (T : OexC K C) (hno : PySem.W.findIn K (.ref C) fl = some none)
    (hb : defBody st = [.Assign [.Attribute (.Name x p1) fl p2] (.Name y p3) p4]) (hx : Vis (defScope st) x) (hy : Vis (defScope st) y) (dx : (x == ("__debug__" : Str)) = false) (dy : (y == ("__debug__" : Str)) = false)
    (ex : (x == ("__classdict__" : Str)) = false) (ey : (y == ("__classdict__" : Str)) = false) : FnOk P w K mg base (L2.CX P w) 1 f fd [x, y] (spI K C fl) := by
  refine F.okX S (fun vs H Q E h => ?_) (fun cdv A outer s H vs Q E hr h => ?_)
  · obtain ⟨a, v, rfl, _⟩ := h
    rfl
  · obtain ⟨a, v, rfl, ha, k⟩ := h
    rw [hb]
    refine ⟨_, pss_one (ps_ost (pe_var (i := 0) rfl hx dx ex) (pe_var (i := 1) rfl hy dy ey) rfl), ?_⟩
    exact ⟨_, rfl, _, rfl, a, C, rfl, T, hno, .inl ⟨ha, fun d hd hne => k d hd hne⟩⟩

/-! ### classes, exceptions by a name -/
theorem fdm_one {c f : Str} (hc : mg c = some (.ref C)) (h1 : Cls K C) (h2 : NoAttr K C f) : FdM K mg [c] f := by
  intro c' hc' C' e
  have : c' = c := by simpa using hc'
  subst this
  rw [hc] at e
  cases e
  exact ⟨h1, h2⟩
theorem exm_one {n : Str} (hn : mg n = some (.ref C)) (te : PySem.W.exmOne K (.ref C) (.ref C) = some true) : ∀ c k C', (if c = n then some true else none) = some k → mg c = some (.ref C') → PySem.W.exmOne K (.ref C') (.ref C) = some k ∧ (k = true → (Value.ref C') = .ref C) := by
  intro c k C' h e
  split at h
  · rename_i z
    cases h
    subst z
    rw [hn] at e
    cases e
    exact ⟨te, fun _ => rfl⟩
  · cases h

/-! ### the law's end -/
def spLaw (K : PySem.W.Frag) : Sp := fun vs H Q _ => ∃ (a : Addr) (ns : List Int), vs = [.ref a] ∧ SqL K H a (ns.map V.int) ∧ ns.length ≤ 63 ∧ ∀ H', Q (.bl true) H'
theorem rvs_ints {G : Gd} {m bs : List Addr} {st : Sto} {H : Hp} : ∀ (ns : List Int), RVs G m bs st H (ns.map IV.int) (ns.map V.int)
  | [] => by simp only [List.map_nil, RVs]
  | n :: r => by
    simp only [List.map_cons, RVs]
    exact ⟨_, _, rfl, by simp only [RV], rvs_ints r⟩
theorem law_end {k : Nat} {f : Addr} {fd : FuncData} {ps : List Str} {F : Fn} (h : FnOk P w K mg base (L2.CX P w) k f fd ps (spOf ⟨K, mg, P, w⟩ 1 F))
    (hF : ∀ ns : List Int, ns.length ≤ 63 → ∃ st', F [.lst (ns.map .int)] [] = .ok (.bl true) st') : FnOk P w K mg base (L2.CX P w) k f fd ps (spLaw K) := by
  refine h.imp fun vs H Q E q => ?_
  obtain ⟨a, ns, rfl, hS, hl, k⟩ := q
  obtain ⟨st', e⟩ := hF ns hl
  refine ⟨rfl, [], [], [], [.lst (ns.map .int)], ⟨rfl, fun i j a e => by simp at e, fun l o a e => by simp at e, fun a e => by simp at e⟩, ?_, ?_⟩
  · simp only [RVs]
    refine ⟨.ref a, [], rfl, ?_, rfl⟩
    simp only [RV]
    refine ⟨a, ns.map V.int, rfl, ?_, rvs_ints ns⟩
    rcases sql_split hS with z | z
    · exact .inl ⟨z, fun ⟨l, o, e, _⟩ => by simp at e, by simp⟩
    · exact .inr z
  · rw [e]
    intro m' H' g R u ru
    simp only [RV] at ru
    rw [ru]
    exact k H'
end

theorem relV_abs {x : V} {u : Value} (h : absV u = some x) : RelV x u := by
  cases u <;> first | (cases h; first | rfl | exact ⟨_, rfl⟩) | cases h
theorem vals_abs : ∀ {xs : List V} {us : List Value}, us.map absV = xs.map some → Vals xs us
  | [], [], _ => .nil
  | [], _ :: _, h => by simp at h
  | _ :: _, [], h => by simp at h
  | x :: xs, u :: us, h => by
    simp only [List.map_cons, List.cons.injEq] at h
    exact .cons (relV_abs h.1) (vals_abs h.2)
theorem gtup_of {K : PySem.W.Frag} {mg : Str → Option Value} {x : Str} {a : Addr} {o : Obj} {xs : List IV} (hm : mg x = some (.ref a)) (l : K.lookup a = some o)
    (d : o.cls = .type "tuple" ∧ ∃ (its : Array Value) (n : Nat), o.data = .seq its n ∧ its.size ≤ 1000 ∧ its.toList.map absV = (xs.map fun x => some (vOf x))) : GTup K mg x xs := by
  obtain ⟨h1, its, n, h2, h3, h4⟩ := d
  refine ⟨a, hm, .inr ⟨o, its, n, l, h1, h2, szl (by omega), vals_abs ?_⟩⟩
  rw [h4, List.map_map]; rfl
theorem exm_self {K : PySem.W.Frag} {S : Addr} (h1 : PySem.W.subIn K (.ref S) (.type "BaseException") = some true) (h2 : PySem.W.isClsIn K S = true) (h3 : PySem.W.typeIn K (.ref S) = some (.type "type")) (h4 : PySem.W.subIn K (.ref S) (.ref S) = some true) :
    PySem.W.exmOne K (.ref S) (.ref S) = some true := by
  have e1 : (PySem.W.subIn K (.ref S) (.type "BaseException") == some true) = true := by rw [h1] <;> rfl
  have e2 : ((PySem.W.clsIn K S).isSome && PySem.W.typeIn K (.ref S) == some (.type "type")) = true := by
    have h2' : (PySem.W.clsIn K S).isSome = true := h2
    rw [h2', h3] <;> rfl
  show (if (PySem.W.subIn K (.ref S) (.type "BaseException") == some true) = true then (if ((PySem.W.clsIn K S).isSome && PySem.W.typeIn K (.ref S) == some (.type "type")) = true then PySem.W.subIn K (.ref S) (.ref S) else none) else none) = some true
  rw [if_pos e1, if_pos e2]
  exact h4

end Mi
set_option Elab.async false
set_option linter.all false
set_option maxRecDepth 100000
set_option maxHeartbeats 4000000
namespace Mi
open PySem PySem.Spec PyProof.Rows L2

/-! ### calls by the machine: own __contains__, __len__, __eq__, __repr__, __str__ -/
section
variable {X : Cx} {pins : List (Addr × Obj)} {σ : L2.St} {H : Hp} {s : Shared} {Q : VK} {k n : Nat} {f C : Addr} {fd : FuncData} {ps : List Str} {sp : Sp} {A : Around}
theorem own_run {us : List Value} {vs : List V} (F : FnOk X.prog X.w X.K X.mg X.base (L2.CX X.prog X.w) k f fd ps sp) (hb : Binds X.K fd ps []) (sb : Sub X k A) (I : Inv X pins σ H s) (r2 : Vals vs us) (h : sp vs H Q (fun _ _ _ => False)) :
    wpAny (model X.prog X.w) A (call (.ref f) us) (EP X pins σ Q) X.xe s := by
  have e0 : Env0 X.prog X.w X.K X.mg X.base A X.stack s H := by
    have e := I.env0
    exact ⟨by rw [sb.fr]; exact e.frames, e.mod, e.bs, e.bsz, e.funs, e.frf, e.hok, e.bare⟩
  have hl := F.len _ _ _ _ h
  have hl2 : us.length = ps.length := by rw [← r2.length]; exact hl
  refine wpAny_call (codeAny_mono (F.run A X.stack s H ⟨us, []⟩ us vs Q (fun _ _ _ => False) sb.room e0 (by
    have := hb s us I.kIn (by simpa using hl2)
    simpa using this) r2 h) fun r s' hq => ?_)
  cases r with
  | error e => exact passAt (X := X) (W := W0) takes0 σ pins H s e s' I hq
  | ok fl =>
    cases fl with
    | ret w => exact I.after hq
    | next => exact False.elim hq
    | brk => exact False.elim hq
    | cont => exact False.elim hq
/-- of an own object: a method of the class c whose promise is the mirror F -/
def bl1 (neg : Bool) : IV → Sto → R IV
  | .bl b, st => .ok (.bl (neg != b)) st
  | _, _ => .bad
def quiet {α : Type} : R α → R α
  | .exc _ _ _ => .bad
  | r => r
def gOwnHas (neg : Bool) (c : Str) (F : Fn) : IV → IV → Sto → R IV := fun x y st => match insAt st [c] y with
  | some _ => (quiet (F [y, x] st)).bind (bl1 neg)
  | none => .bad
def rOwnHas (neg : Bool) (C : Addr) (sp : Sp) : R2 := fun x y H Q => ∃ a dx fs, y = .ref a ∧ H a = some (.ins C dx fs) ∧ sp [y, x] H (fun v H' => ∃ b, v = .bl b ∧ Q (.bl (neg != b)) H') (fun _ _ _ => False)
theorem opOwnHas (neg : Bool) (M : Meth X.K C "__contains__" f) (F : FnOk X.prog X.w X.K X.mg X.base (L2.CX X.prog X.w) k f fd ps sp) (hb : Binds X.K fd ps []) (hr : Room k X.A) :
    OpR X (compareOp (if neg then .NotIn else .In)) (rOwnHas neg C sp) := by
  intro pins s σ H x y v u Q I rx ry hq
  obtain ⟨a, dx, fs, rfl, ha, hs⟩ := hq
  cases ry
  obtain ⟨mA, J, _⟩ := ins_get I.hok ha
  obtain ⟨od, J, _⟩ := J.look
  obtain ⟨m, hF⟩ := I.fr
  have run := own_run F hb ⟨hr, rfl⟩ I (us := [.ref a, v]) (vs := [.ref a, x]) (.cons rfl (.cons rx .nil)) hs
  cases neg with
  | false =>
    refine PySem.W.in_K hF I.ok.mod.kin J M.at_ M.fn (wpAny_mono run (fun r s' q => ?_) fun _ _ z => z)
    obtain ⟨z, H', I', rz, b, ez, q⟩ := q
    subst ez
    cases rz
    exact wpAny_truthy_bool ⟨.bl b, H', I', rfl, by simpa using q⟩
  | true =>
    refine PySem.W.notIn_K hF I.ok.mod.kin J M.at_ M.fn (wpAny_mono run (fun r s' q => ?_) fun _ _ z => z)
    obtain ⟨z, H', I', rz, b, ez, q⟩ := q
    subst ez
    cases rz
    exact wpAny_truthy_bool ⟨.bl (!b), H', I', rfl, by simpa using q⟩
theorem quiet_post {α : Type} {G : Gd} {m bs : List Addr} {st : Sto} {H : Hp} {W W' : Value → Option Addr → Hp → Prop} {r : R α} {P : α → List Addr → Sto → Hp → Prop} (h : Pst G m bs st H W (quiet r) P) : Pst G m bs st H W' r P := by
  cases r with
  | ok a st => exact h
  | exc c fs st => exact h.elim
  | bad => exact h.elim
theorem ins_of {G : Gd} {m bs : List Addr} {st : Sto} {H : Hp} {x : IV} {v : V} {c : Str} {p : Nat × Str × List (Str × IV)} (R : Rel G m bs st H) (e : insAt st [c] x = some p) (r : RV G m bs st H x v) : ∃ a C dx gs, v = .ref a ∧ G.mg c = some (.ref C) ∧ H a = some (.ins C dx gs) := by
  cases x with
  | ref l =>
    simp only [insAt] at e
    split at e
    · rename_i c' fs e1
      split at e
      · rename_i hc
        simp only [RV] at r
        obtain ⟨a, ea, ha⟩ := r
        have : c' = c := by simpa using hc
        subst this
        obtain ⟨C, dx, gs, h1, h2, _⟩ := R.obj l _ a e1 ha
        exact ⟨a, C, dx, gs, ea, h1, h2⟩
      · cases e
    · cases e
  | _ => cases e
theorem opm_ownHas {c : Str} {F : Fn} (neg : Bool) (h : MethM X.prog X.w X.K X.mg X.base c "__contains__" k 2 F) (hr : Room k X.A) : OpM X (compareOp (if neg then .NotIn else .In)) (gOwnHas neg c F) := by
  obtain ⟨C, f, fd, ps, hm, hC, hM, hb, hf⟩ := h
  refine ⟨_, opOwnHas neg hM hf hb hr, fun m bs st H x y x' y' Q W R rx ry h => ?_⟩
  unfold gOwnHas at h
  split at h
  · rename_i p e
    obtain ⟨a, C', dx, gs, ev, h1, h2⟩ := ins_of R e ry
    have : C' = C := by
        have h1' : X.mg c = some (.ref C') := h1
        rw [hm] at h1'; cases h1'; rfl
    subst this
    refine ⟨a, dx, gs, ev, h2, rfl, m, bs, st, [y, x], R, ?_, ?_⟩
    · simp only [RVs]
      exact ⟨y', [x'], rfl, ry, x', [], rfl, rx, rfl⟩
    · refine quiet_post (W := W) (h.bind.mono fun v m1 st1 H1 g1 R1 h1 u ru => ?_)
      cases v with
      | bl b =>
        simp only [RV] at ru
        exact ⟨b, ru, h1.v R1 (by simp only [RV])⟩
      | _ => exact h1.elim
  · exact h.elim

/-! len(o) -/
def gOwnLenO (c : Str) (F : Fn) : List IV → Sto → R IV
  | [x], st => match insAt st [c] x with
    | some _ => (quiet (F [x] st)).bind fun v st => match v with
      | .int n => if 0 ≤ n ∧ n < 9223372036854775808 then .ok (.int n) st else .bad
      | _ => .bad
    | none => .bad
  | _, _ => .bad
def rOwnLen (C : Addr) (sp : Sp) : List V → Hp → VK → Prop := fun xs H Q => ∃ a dx fs, xs = [.ref a] ∧ H a = some (.ins C dx fs) ∧ sp [.ref a] H (fun v H' => ∃ n : Int, v = .int n ∧ (0 ≤ n ∧ n < 2 ^ 63) ∧ Q (.int n) H') (fun _ _ _ => False)
theorem callOwnLen (M : Meth X.K C "__len__" f) (F : FnOk X.prog X.w X.K X.mg X.base (L2.CX X.prog X.w) k f fd ps sp) (hb : Binds X.K fd ps []) (hr : Room (k + 1) X.A) : CallR X (.builtin "len") (rOwnLen C sp) := by
  intro pins s σ H xs us Q I r h
  obtain ⟨a, dx, fs, rfl, ha, hs⟩ := h
  cases r with
  | cons r1 r2 =>
    cases r2
    cases r1
    obtain ⟨mA, J, _⟩ := ins_get I.hok ha
    obtain ⟨od, J, _⟩ := J.look
    obtain ⟨m, hF⟩ := I.fr
    have sb : Sub X (k + 1) X.A := ⟨hr, rfl⟩
    have run := own_run F hb sb.in1 I (us := [.ref a]) (vs := [.ref a]) (.cons rfl .nil) hs
    refine PySem.W.len_K hF I.ok.mod.kin J M.at_ M.fn (wpAny_mono run (fun r s' q => ?_) fun _ _ z => z)
    obtain ⟨z, H', I', rz, n, ez, hn, q⟩ := q
    subst ez
    obtain ⟨t, rfl⟩ := rz
    exact ⟨hn, .int n, H', I'.tok _, ⟨_, rfl⟩, q⟩
theorem cm_ownLen {c : Str} {F : Fn} (h : MethM X.prog X.w X.K X.mg X.base c "__len__" k 1 F) (hr : Room (k + 1) X.A) : CallM X (.builtin "len") (gOwnLenO c F) := by
  obtain ⟨C, f, fd, ps, hm, hC, hM, hb, hf⟩ := h
  refine ⟨_, callOwnLen hM hf hb hr, fun m bs st H xs xs' Q W R rx h => ?_⟩
  unfold gOwnLenO at h
  split at h
  · rename_i x
    split at h
    · rename_i p e
      simp only [RVs] at rx
      obtain ⟨v, r, ex, rv, er⟩ := rx
      subst er
      obtain ⟨a, C', dx, gs, ev, h1, h2⟩ := ins_of R e rv
      have : C' = C := by
        have h1' : X.mg c = some (.ref C') := h1
        rw [hm] at h1'; cases h1'; rfl
      subst this
      subst ev
      refine ⟨a, dx, gs, ex, h2, rfl, m, bs, st, [x], R, ?_, ?_⟩
      · simp only [RVs]
        exact ⟨_, [], rfl, rv, rfl⟩
      · refine quiet_post (W := W) (h.bind.mono fun v m1 st1 H1 g1 R1 h1 u ru => ?_)
        cases v with
        | int n =>
          simp only [RV] at ru
          simp only at h1
          split at h1
          · rename_i c
            exact ⟨n, ru, by have : (2 : Int) ^ 63 = 9223372036854775808 := by decide
                             omega, h1.v R1 (by simp only [RV])⟩
          · exact h1.elim
        | _ => exact h1.elim
    · exact h.elim
  · exact h.elim

/-! repr(o), str(o) -/
def gOwnStr (c : Str) (F : Fn) : List IV → Sto → R IV
  | [x], st => match insAt st [c] x with
    | some _ => (quiet (F [x] st)).bind fun v st => match v with
      | .str z => .ok (.str z) st
      | _ => .bad
    | none => .bad
  | _, _ => .bad
def rOwnStr (C : Addr) (sp : Sp) : List V → Hp → VK → Prop := fun xs H Q => ∃ a dx fs, xs = [.ref a] ∧ H a = some (.ins C dx fs) ∧ sp [.ref a] H (fun v H' => ∃ n : Str, v = .str n ∧ Q (.str n) H') (fun _ _ _ => False)
theorem callOwnRepr (M : Meth X.K C "__repr__" f) (F : FnOk X.prog X.w X.K X.mg X.base (L2.CX X.prog X.w) k f fd ps sp) (hb : Binds X.K fd ps []) (hr : Room (k + 1) X.A) : CallR X (.builtin "repr") (rOwnStr C sp) := by
  intro pins s σ H xs us Q I r h
  obtain ⟨a, dx, fs, rfl, ha, hs⟩ := h
  cases r with
  | cons r1 r2 =>
    cases r2
    cases r1
    obtain ⟨mA, J, _⟩ := ins_get I.hok ha
    obtain ⟨od, J, _⟩ := J.look
    obtain ⟨m, hF⟩ := I.fr
    have sb : Sub X (k + 1) X.A := ⟨hr, rfl⟩
    have run := own_run F hb sb.in1 I (us := [.ref a]) (vs := [.ref a]) (.cons rfl .nil) hs
    refine PySem.W.repr_K hr.in1.units0 hF I.ok.mod.kin J M.at_ M.fn (wpAny_mono run (fun r s' q => ?_) fun _ _ z => z)
    obtain ⟨z, H', I', rz, n, ez, q⟩ := q
    subst ez
    obtain ⟨t, rfl⟩ := rz
    exact ⟨.str n, H', I', ⟨_, rfl⟩, q⟩
theorem callOwnStr (M : Meth X.K C "__str__" f) (F : FnOk X.prog X.w X.K X.mg X.base (L2.CX X.prog X.w) k f fd ps sp) (hb : Binds X.K fd ps []) (hr : Room (k + 2) X.A) : CallR X (.type "str") (rOwnStr C sp) := by
  intro pins s σ H xs us Q I r h
  obtain ⟨a, dx, fs, rfl, ha, hs⟩ := h
  cases r with
  | cons r1 r2 =>
    cases r2
    cases r1
    obtain ⟨mA, J, _⟩ := ins_get I.hok ha
    obtain ⟨od, J, _⟩ := J.look
    have sb : Sub X (k + 2) X.A := ⟨hr, rfl⟩
    have run := own_run F hb sb.in1.in1 I (us := [.ref a]) (vs := [.ref a]) (.cons rfl .nil) hs
    refine PySem.W.kso_call hr.in1.in1.units0 I.kIn J M.at_ M.fn (wpAny_mono run (fun r s' q => ?_) fun _ _ z => z)
    obtain ⟨z, H', I', rz, n, ez, q⟩ := q
    subst ez
    obtain ⟨t, rfl⟩ := rz
    exact ⟨.str n, H', I', ⟨_, rfl⟩, q⟩
theorem ownStr_weak {c : Str} {F : Fn} {callee : Value} (hm : X.mg c = some (.ref C)) (hc : CallR X callee (rOwnStr C (spOf ⟨X.K, X.mg, X.prog, X.w⟩ 1 F))) : CallM X callee (gOwnStr c F) := by
  refine ⟨_, hc, fun m bs st H xs xs' Q W R rx h => ?_⟩
  unfold gOwnStr at h
  split at h
  · rename_i x
    split at h
    · rename_i p e
      simp only [RVs] at rx
      obtain ⟨v, r, ex, rv, er⟩ := rx
      subst er
      obtain ⟨a, C', dx, gs, ev, h1, h2⟩ := ins_of R e rv
      have : C' = C := by
        have h1' : X.mg c = some (.ref C') := h1
        rw [hm] at h1'; cases h1'; rfl
      subst this
      subst ev
      refine ⟨a, dx, gs, ex, h2, rfl, m, bs, st, [x], R, ?_, ?_⟩
      · simp only [RVs]
        exact ⟨_, [], rfl, rv, rfl⟩
      · refine quiet_post (W := W) (h.bind.mono fun v m1 st1 H1 g1 R1 h1 u ru => ?_)
        cases v with
        | str n =>
          simp only [RV] at ru
          exact ⟨n, ru, h1.v R1 (by simp only [RV])⟩
        | _ => exact h1.elim
    · exact h.elim
  · exact h.elim
theorem cm_ownRepr {c : Str} {F : Fn} (h : MethM X.prog X.w X.K X.mg X.base c "__repr__" k 1 F) (hr : Room (k + 1) X.A) : CallM X (.builtin "repr") (gOwnStr c F) := by
  obtain ⟨C, f, fd, ps, hm, hC, hM, hb, hf⟩ := h
  exact ownStr_weak hm (callOwnRepr hM hf hb hr)
theorem cm_ownStr {c : Str} {F : Fn} (h : MethM X.prog X.w X.K X.mg X.base c "__str__" k 1 F) (hr : Room (k + 2) X.A) : CallM X (.type "str") (gOwnStr c F) := by
  obtain ⟨C, f, fd, ps, hm, hC, hM, hb, hf⟩ := h
  exact ownStr_weak hm (callOwnStr hM hf hb hr)
end
end Mi
set_option Elab.async false
set_option linter.all false
set_option maxRecDepth 100000
set_option maxHeartbeats 4000000
namespace PySem.W
open PySem PySem.Spec PyProof.Rows
theorem one_bind (self : Value) : bindSpecial (.builtin "object.__ne__") self = pure (.builtin "object.__ne__", [self]) :=
  (Slot.of (T := "object") (name := "__ne__") (owner := "object") (n := "__ne__") (by rw [typeLookup_type, builtinLookup_eq_fast]; kernel_rfl) (by decide +kernel) (by decide +kernel) (by decide +kernel)
    (.inl (by decide +kernel)) (by rw [isSubtype_type]; kernel_rfl)).bind self
section
variable {prog : Program} {w : World} {A : Around} {E : Value → Shared → Prop} {s : Shared} {K : Frag} {x C L f : Addr} {h₀ : Heap} {m : Str → Option Value} {ox : Obj} {od : Option Obj} {b tb : Value}
theorem ifBoundB {M : Model} {id : String} {name : Str} {args : List Value} {Q : Option Value → Shared → Prop} (X : K.In s.heap) (I : InstAt s.heap x ox C od) (hs : findIn K (.ref C) name = some (some (.builtin id)))
    (hb : ∀ self, bindSpecial (.builtin id) self = pure (.builtin id, [self])) (h : wpAny M A (call (.builtin id) (.ref x :: args)) (fun v => Q (some v)) E s) : wpAny M A (callSpecialIfBound? (.ref x) name args) Q E s := by
  simp only [callSpecialIfBound?, bindSpecialIfBound?]
  refine wpAny_holding (wpAny_bind (wpAny_bind (wpAny_bind (I.type.here ((looks_findIn X hs).here ?_)))))
  refine wpAny_bind (wpAny_askSetting (wpAny_ite ?_))
  have fin : wpAny M A (call (.builtin id) ([.ref x] ++ args) >>= fun v => pure (some v)) Q E s := wpAny_bind (wpAny_mono h (fun v s' h' => wpAny_pure h') fun _ _ h' => h')
  split
  · exact wpAny_bind ((Looks.of_pure (hb _)).here (wpAny_pure (by exact fin)))
  · exact wpAny_tryCatch (wpAny_bind ((Looks.of_pure (hb _)).here (wpAny_pure (by exact fin))))
theorem one_call (hu : A.in1.units < cLine) {Q : Value → Shared → Prop} (X : K.In s.heap) (I : InstAt s.heap x ox C od) (hm : mroIn K C (.type "object") = some true) (he : findIn K (.ref C) "__eq__" = some (some (.ref f))) (hf : isFn K (.ref f) = true)
    (h : wpAny (model prog w) A.in1 (call (.ref f) [.ref x, b]) (fun v s' => ∃ c, v = .bool c ∧ Q (.bool (!c)) s') E s) : wpAny (model prog w) A (call (.builtin "object.__ne__") [.ref x, b]) Q E s := by
  refine wpAny_call (codeAny_call_builtin (by decide +kernel) PySem.F.cmpEntry_ne (check_slot (i := "object.__ne__") (owner := "object") (n := "__ne__") PySem.F.cmpKind_ne PySem.F.cmpSplit_ne (I.type.andThen (looks_mroIn X hm)) (PySem.F.cmpArgs_ne _ _) ?_))
  unfold Builtin.«object.__ne__»
  repeat (first
    | with_reducible refine wpAny_cRoomFor hu ?_
    | (refine wpAny_bind (m := callSpecialIfBound? (.ref x) (Str.ofString "__eq__") [b])
        (ifBound_K X I he hf (wpAny_mono h (fun r s' hr => by
          obtain ⟨c, rfl, hq⟩ := hr
          repeat (first | exact hq | exact wpAny_pure hq | exact wpAny_truthy_bool hq | (refine wpAny_bind (m := truthy (.bool _)) (wpAny_truthy_bool ?_)) | wp_step)) fun _ _ e => e)))
    | wp_step)
theorem ne_own (hu : A.units < cLine) (hu1 : A.in1.units < cLine) {Q : Value → Shared → Prop} (X : K.In s.heap) (I : InstAt s.heap x ox C od) (hb : Looks (model prog w) s.heap (typeOf b) tb) (hn : notFirst K C tb = true)
    (hne : findIn K (.ref C) "__ne__" = some (some (.builtin "object.__ne__"))) (hm : mroIn K C (.type "object") = some true) (he : findIn K (.ref C) "__eq__" = some (some (.ref f))) (hf : isFn K (.ref f) = true)
    (h : wpAny (model prog w) A.in1 (call (.ref f) [.ref x, b]) (fun v s' => ∃ c, v = .bool c ∧ Q (.bool (!c)) s') E s) : wpAny (model prog w) A (richCompare .NotEq (.ref x) b) Q E s := by
  have one : wpAny (model prog w) A (tryCompare (.ref x) "__ne__" b) (fun r s' => ∃ v, r = some v ∧ Q v s') E s := by
    unfold tryCompare
    refine wpAny_bind (ifBoundB X I hne one_bind (one_call hu1 X I hm he hf (wpAny_mono h (fun v s' hv => ?_) fun _ _ e => e)))
    obtain ⟨c, rfl, hq⟩ := hv
    exact ⟨c, rfl, wpAny_pure ⟨_, rfl, hq⟩⟩
  unfold richCompare
  simp only [oneThing_ref]
  rw [cmpInfo_NotEq]
  refine wpAny_holding (wpAny_bind (wpAny_cRoomFor hu ?_))
  refine wpAny_bind (I.type.here (wpAny_bind (hb.here ?_)))
  split
  · rename_i q
    have e : subIn K tb (.ref C) = some false := by
      rcases Bool.or_eq_true_iff.mp hn with e | e
      · rw [beq_iff_eq.mp e] at q; simp at q
      · exact beq_iff_eq.mp e
    refine wpAny_bind ((looks_subIn X e).here ?_)
    simp only [Bool.false_eq_true, if_false]
    refine wpAny_bind (wpAny_mono one (fun r s' z => ?_) fun _ _ e => e)
    obtain ⟨v, rfl, hq⟩ := z
    exact wpAny_pure hq
  · refine wpAny_bind (wpAny_pure ?_)
    simp only [Bool.false_eq_true, if_false]
    refine wpAny_bind (wpAny_mono one (fun r s' z => ?_) fun _ _ e => e)
    obtain ⟨v, rfl, hq⟩ := z
    exact wpAny_pure hq
end
end PySem.W
namespace Mi
open PySem PySem.Spec PyProof.Rows L2
section
variable {X : Cx} {pins : List (Addr × Obj)} {σ : L2.St} {H : Hp} {s : Shared} {Q : VK} {k n : Nat} {f C : Addr} {fd : FuncData} {ps : List Str} {sp : Sp} {A : Around}
/-- the right side: the same class, or a built-in kind -/
def RightOk (K : PySem.W.Frag) (C : Addr) (H : Hp) (y : V) : Prop := (∃ a dx fs, y = .ref a ∧ H a = some (.ins C dx fs)) ∨ ∃ T, TyX K H y (.type T) ∧ PySem.W.notFirst K C (.type T) = true
def rOwnEq (neg : Bool) (K : PySem.W.Frag) (C : Addr) (sp : Sp) : R2 := fun x y H Q => ∃ a dx fs, x = .ref a ∧ H a = some (.ins C dx fs) ∧ RightOk K C H y ∧ sp [x, y] H (fun v H' => ∃ b, v = .bl b ∧ Q (.bl (neg != b)) H') (fun _ _ _ => False)
theorem right_looks {y : V} {u : Value} (I : Inv X pins σ H s) (h : RightOk X.K C H y) (ry : RelV y u) : ∃ tb, PySem.W.Looks (model X.prog X.w) s.heap (typeOf u) tb ∧ PySem.W.notFirst X.K C tb = true := by
  rcases h with ⟨a, dx, fs, rfl, ha⟩ | ⟨T, ty, hn⟩
  · cases ry
    obtain ⟨mA, J, _⟩ := ins_get I.hok ha
    obtain ⟨od, J, _⟩ := J.look
    exact ⟨_, J.type, by simp [PySem.W.notFirst]⟩
  · obtain ⟨P, Z, p, _⟩ := kit_of I ry ty
    exact ⟨_, Z.ty _ _ I.kIn p, hn⟩
theorem opOwnEq (M : Meth X.K C "__eq__" f) (F : FnOk X.prog X.w X.K X.mg X.base (L2.CX X.prog X.w) k f fd ps sp) (hb : Binds X.K fd ps []) (hr : Room k X.A) : OpR X (compareOp .Eq) (rOwnEq false X.K C sp) := by
  intro pins s σ H x y v u Q I rx ry hq
  obtain ⟨a, dx, fs, rfl, ha, hR, hs⟩ := hq
  cases rx
  obtain ⟨mA, J, _⟩ := ins_get I.hok ha
  obtain ⟨od, J, _⟩ := J.look
  obtain ⟨m, hF⟩ := I.fr
  obtain ⟨tb, ht, hn⟩ := right_looks I hR ry
  have run := own_run F hb ⟨hr, rfl⟩ I (us := [.ref a, u]) (vs := [.ref a, y]) (.cons rfl (.cons ry .nil)) hs
  show wpAny (model X.prog X.w) X.A (richCompare .Eq (.ref a) u) (EP X pins σ Q) X.xe s
  refine PySem.W.cmp_K (op := .Eq) hr.units0 hF I.ok.mod.kin J ht hn M.at_ M.fn (wpAny_mono run (fun r s' q => ?_) fun _ _ z => z)
  obtain ⟨z, H', I', rz, b, ez, q⟩ := q
  subst ez
  cases rz
  exact ⟨.bl b, H', I', rfl, by simpa using q⟩
theorem opOwnNe (M : Meth X.K C "__eq__" f) (hne : PySem.W.findIn X.K (.ref C) "__ne__" = some (some (.builtin "object.__ne__"))) (hm : PySem.W.mroIn X.K C (.type "object") = some true) (F : FnOk X.prog X.w X.K X.mg X.base (L2.CX X.prog X.w) k f fd ps sp) (hb : Binds X.K fd ps [])
    (hr : Room (k + 1) X.A) : OpR X (compareOp .NotEq) (rOwnEq true X.K C sp) := by
  intro pins s σ H x y v u Q I rx ry hq
  obtain ⟨a, dx, fs, rfl, ha, hR, hs⟩ := hq
  cases rx
  obtain ⟨mA, J, _⟩ := ins_get I.hok ha
  obtain ⟨od, J, _⟩ := J.look
  obtain ⟨tb, ht, hn⟩ := right_looks I hR ry
  have sb : Sub X (k + 1) X.A := ⟨hr, rfl⟩
  have run := own_run F hb sb.in1 I (us := [.ref a, u]) (vs := [.ref a, y]) (.cons rfl (.cons ry .nil)) hs
  show wpAny (model X.prog X.w) X.A (richCompare .NotEq (.ref a) u) (EP X pins σ Q) X.xe s
  refine PySem.W.ne_own hr.units0 hr.in1.units0 I.kIn J ht hn hne hm M.at_ M.fn (wpAny_mono run (fun r s' q => ?_) fun _ _ z => z)
  obtain ⟨z, H', I', rz, b, ez, q⟩ := q
  subst ez
  cases rz
  exact ⟨b, rfl, .bl (!b), H', I', rfl, by simpa using q⟩
/-- what == and != of own objects ask of the class -/
def EqM (P : Program) (w : World) (K : PySem.W.Frag) (mg : Str → Option Value) (base : Heap) (c : Str) (k : Nat) (F : Fn) : Prop :=
  MethM P w K mg base c "__eq__" k 2 F ∧ ∀ C, mg c = some (.ref C) → PySem.W.findIn K (.ref C) "__ne__" = some (some (.builtin "object.__ne__")) ∧ PySem.W.mroIn K C (.type "object") = some true ∧ ∀ T ∈ basicT, PySem.W.notFirst K C (.type T) = true
def gOwnEq (neg : Bool) (c : Str) (F : Fn) : IV → IV → Sto → R IV := fun x y st => match insAt st [c] x with
  | some _ => if (insAt st [c] y).isSome = true ∨ (tyName st y).isSome = true then (quiet (F [x, y] st)).bind (bl1 neg) else .bad
  | none => .bad
theorem right_of {m bs : List Addr} {st : Sto} {c : Str} {y : IV} {y' : V} (R : Rel (gd X) m bs st H) (hm : X.mg c = some (.ref C)) (hn : ∀ T ∈ basicT, PySem.W.notFirst X.K C (.type T) = true) (ry : RV (gd X) m bs st H y y') (h : (insAt st [c] y).isSome = true ∨ (tyName st y).isSome = true) : RightOk X.K C H y' := by
  rcases h with h | h
  · obtain ⟨p, e⟩ := Option.isSome_iff_exists.mp h
    obtain ⟨a, C', dx, gs, ev, h1, h2⟩ := ins_of R e ry
    have : C' = C := by
        have h1' : X.mg c = some (.ref C') := h1
        rw [hm] at h1'; cases h1'; rfl
    subst this
    exact .inl ⟨a, dx, gs, ev, h2⟩
  · obtain ⟨t, e⟩ := Option.isSome_iff_exists.mp h
    obtain ⟨tx, ht⟩ := tyName_x R e ry
    exact .inr ⟨t, tx, hn t ht⟩
theorem ownEq_weak {c : Str} {F : Fn} {neg : Bool} {op : CmpOp} (hm : X.mg c = some (.ref C)) (hn : ∀ T ∈ basicT, PySem.W.notFirst X.K C (.type T) = true) (ho : OpR X (compareOp op) (rOwnEq neg X.K C (spOf ⟨X.K, X.mg, X.prog, X.w⟩ 2 F))) : OpM X (compareOp op) (gOwnEq neg c F) := by
  refine ⟨_, ho, fun m bs st H x y x' y' Q W R rx ry h => ?_⟩
  unfold gOwnEq at h
  split at h
  · rename_i p e
    split at h
    · rename_i hR
      obtain ⟨a, C', dx, gs, ev, h1, h2⟩ := ins_of R e rx
      have : C' = C := by
        have h1' : X.mg c = some (.ref C') := h1
        rw [hm] at h1'; cases h1'; rfl
      subst this
      refine ⟨a, dx, gs, ev, h2, right_of R hm hn ry hR, rfl, m, bs, st, [x, y], R, ?_, ?_⟩
      · simp only [RVs]
        exact ⟨x', [y'], rfl, rx, y', [], rfl, ry, rfl⟩
      · refine quiet_post (W := W) (h.bind.mono fun v m1 st1 H1 g1 R1 h1 u ru => ?_)
        cases v with
        | bl b =>
          simp only [RV] at ru
          exact ⟨b, ru, h1.v R1 (by simp only [RV])⟩
        | _ => exact h1.elim
    · exact h.elim
  · exact h.elim
theorem opm_ownEq {c : Str} {F : Fn} (h : EqM X.prog X.w X.K X.mg X.base c k F) (hr : Room k X.A) : OpM X (compareOp .Eq) (gOwnEq false c F) := by
  obtain ⟨⟨C, f, fd, ps, hm, hC, hM, hb, hf⟩, h2⟩ := h
  exact ownEq_weak hm (h2 C hm).2.2 (opOwnEq hM hf hb hr)
theorem opm_ownNe {c : Str} {F : Fn} (h : EqM X.prog X.w X.K X.mg X.base c k F) (hr : Room (k + 1) X.A) : OpM X (compareOp .NotEq) (gOwnEq true c F) := by
  obtain ⟨⟨C, f, fd, ps, hm, hC, hM, hb, hf⟩, h2⟩ := h
  exact ownEq_weak hm (h2 C hm).2.2 (opOwnNe hM (h2 C hm).1 (h2 C hm).2.1 hf hb hr)
end
end Mi
set_option Elab.async false
set_option linter.all false
set_option maxRecDepth 100000
set_option maxHeartbeats 4000000
namespace Mi
open PySem PySem.Spec PyProof.Rows L2
section
variable {X : Cx} {W : WX} {xa : Xa} {a b c e o : Expr} {A B C : IE} {pos p apos : Pos} {es : List Expr} {As : IA}
/-! ### f-strings -/
def iFmt (A : IE) : IE := fun ρ st => (A ρ st).bind fun x st => match x with
  | .str y => if y.length ≤ 100000 then .ok (.str y) st else .bad
  | .int i => if i.natAbs ≤ 10000000000000000000000000000000000000000000000000000000000000000 then .ok (.str (toString i : String)) st else .bad
  | _ => .bad
theorem log_dig {i : Int} (h : i.natAbs ≤ 10000000000000000000000000000000000000000000000000000000000000000) : i.natAbs.log2 < 1920 := by
  have h2 : (10000000000000000000000000000000000000000000000000000000000000000 : Nat) < 2 ^ 1920 := by decide +kernel
  by_cases h0 : i.natAbs = 0
  · rw [h0]; decide
  · exact (Nat.log2_lt h0).mpr (Nat.lt_of_le_of_lt h h2)
theorem me_fmt (ha : ME X W xa a A) : ME X W xa (.FormattedValue a (-1) none pos) (iFmt A) := by
  refine PE.weak (pe_fmt ha) fun σ H Q h => ?_
  obtain ⟨m, os, rs, ρ, st, P, h⟩ := h
  refine ⟨m, os, rs, ρ, st, P, h.bind.mono fun x m1 st1 H1 g1 R1 h1 u ru => ?_⟩
  cases x with
  | str y =>
    simp only at h1
    split at h1
    · rename_i hc
      simp only [RV] at ru
      exact .inl ⟨y, ru, szl hc, h1.v R1 (by simp only [RV])⟩
    · exact h1.elim
  | int i =>
    simp only at h1
    split at h1
    · rename_i hc
      simp only [RV] at ru
      exact .inr ⟨i, ru, log_dig hc, h1.v R1 (by simp only [RV])⟩
    · exact h1.elim
  | _ => exact h1.elim
def iJs : List IE → Str → IE
  | [], acc, _, st => .ok (.str acc) st
  | A :: As, acc, ρ, st => (A ρ st).bind fun x st => match x with
    | .str y => if (acc ++ y).length ≤ 100000 then iJs As (acc ++ y) ρ st else .bad
    | _ => .bad
theorem js_weak {σ : L2.St} {Q : VK} : ∀ (As : List IE) (acc : Str) {H : Hp} {m os rs : List Addr} {ρ : Slots} {st : Sto}, Pre (gd X) xa σ H m os rs ρ st →
    Pst (gd X) m (os ++ rs) st H (fun cls d H' => W cls d σ H') (iJs As acc ρ st) (fun v m' st' H' => ∀ u, RV (gd X) m' (os ++ rs) st' H' v u → Q u H') → tJs (As.map fun A => teOf (gd X) W xa A) acc σ H fun out H1 => Q (.str out) H1
  | [], acc, H, m, os, rs, ρ, st, P, h => Pst.ok P.rel h (.str acc) (by simp only [RV])
  | A :: As, acc, H, m, os, rs, ρ, st, P, h => by
    rw [iJs] at h
    show teOf (gd X) W xa A σ H _
    refine ⟨m, os, rs, ρ, st, P, h.bind.mono fun x m1 st1 H1 g1 R1 h1 u ru => ?_⟩
    cases x with
    | str y =>
      simp only at h1
      split at h1
      · rename_i hc
        simp only [RV] at ru
        exact ⟨y, ru, szl hc, js_weak As (acc ++ y) (P.grow g1 R1) h1⟩
      · exact h1.elim
    | _ => exact h1.elim
theorem me_joined {v1 v2 : Expr} {rest : List Expr} {Bs : List IE} (h : PJ X (v1 :: v2 :: rest) (Bs.map fun A => teOf (gd X) W xa A)) : ME X W xa (.JoinedStr (v1 :: v2 :: rest) pos) (iJs Bs Str.empty) := by
  refine PE.weak (pe_joined h) fun σ H Q h => ?_
  obtain ⟨m, os, rs, ρ, st, P, h⟩ := h
  exact js_weak Bs Str.empty P h
theorem me_joined1 (h : ME X W xa a A) : ME X W xa (.JoinedStr [a] pos) A := pe_joined1 h
/-! ### methods of texts -/
def iSm (g : IV → List IV → Sto → R IV) (A : IE) (As : IA) : IE := fun ρ st => (A ρ st).bind fun x st => match x with
  | .str y => (As ρ st).bind fun xs st => g (.str y) xs st
  | _ => .bad
theorem me_sm1 {name : Str} {id : String} {g : IV → List IV → Sto → R IV} (hg : MtdM X id g) (slot : Slot "str" name id) (ty : typeOf (.builtin id) = pure (.type "method_descriptor")) (ho : ME X W xa o A) (he : ME X W xa e B)
    (hs : starEach [e] X.env = [(false, eval e X.env)] := by rfl) (hbase : attributeBase o name X.env (eval o X.env) = eval o X.env := by rfl) (hline : (apos.endLine == pos.line) = true := by rfl) :
    ME X W xa (.Call (.Attribute o name apos) [e] [] pos) (iSm g A (iCons B iNil)) := by
  obtain ⟨r, hr, k⟩ := hg
  refine PE.weak (pe_m1 slot ty hr ho he hs hbase hline) fun σ H Q h => ?_
  obtain ⟨m, os, rs, ρ, st, P, h⟩ := h
  refine ⟨m, os, rs, ρ, st, P, h.bind.mono fun x m1 st1 H1 g1 R1 h1 u ru => ?_⟩
  cases x with
  | str y =>
    refine ⟨⟨y, by simpa only [RV] using ru⟩, m1, os, rs, ρ, st1, P.grow g1 R1, ?_⟩
    have h2 := h1.bind
    unfold iCons at h2
    refine h2.bind.mono fun x2 m2 st2 H2 g2 R2 h3 v rv => ?_
    have h4 : Pst (gd X) m2 (os ++ rs) st2 H2 (fun cls d H' => W cls d σ H') (g (.str y) [x2] st2) (fun v m' st' H' => ∀ u, RV (gd X) m' (os ++ rs) st' H' v u → Q u H') := Pst.ok R2 (Pst.ok R2 h3.bind)
    refine k m2 _ st2 H2 (.str y) [x2] u [v] Q _ R2 (RV.fits g2.fitsE _ _ ru) ?_ h4
    simp only [RVs]
    exact ⟨v, [], rfl, rv, rfl⟩
  | _ => exact h1.elim
def strsOf : List IV → Option (List Str)
  | [] => some []
  | .str x :: r => (strsOf r).map fun t => x :: t
  | _ => none
theorem strsOf_rv {G : Gd} {m bs : List Addr} {st : Sto} {H : Hp} : ∀ {xs : List IV} {vs : List V} {ys : List Str}, strsOf xs = some ys → RVs G m bs st H xs vs → vs = ys.map V.str
  | [], vs, ys, e, r => by simp only [RVs] at r; simp only [strsOf] at e; cases e; exact r
  | x :: xs, vs, ys, e, r => by
    simp only [RVs] at r
    obtain ⟨v, t, ev, r1, r2⟩ := r
    cases x with
    | str z =>
      simp only [strsOf, Option.map_eq_some_iff] at e
      obtain ⟨zs, e1, e2⟩ := e
      subst e2
      simp only [RV] at r1
      rw [ev, r1, strsOf_rv e1 r2]
      rfl
    | _ => cases e
def gJoin : IV → List IV → Sto → R IV
  | .str a, [x], st => match (asS st x).bind strsOf with
    | some ys => if (ys.map (·.length)).sum + ys.length * a.length ≤ 100000 then .ok (.str (Txt.join a ys)) st else .bad
    | none => .bad
  | _, _, _ => .bad
theorem mtd_join : MtdM X "str.join" gJoin := by
  refine ⟨_, mt_join, fun m bs st H x xs x' xs' Q W R rx rs h => ?_⟩
  unfold gJoin at h
  split at h
  · rename_i a y
    split at h
    · rename_i ys e
      split at h
      · rename_i hc
        rw [Option.bind_eq_some_iff] at e
        obtain ⟨zs, e1, e2⟩ := e
        simp only [RV] at rx
        simp only [RVs] at rs
        obtain ⟨v, t, ev, r1, et⟩ := rs
        subst et
        obtain ⟨p, vs, ep, hs, rv⟩ := asS_sq R e1 r1
        have := strsOf_rv e2 rv
        subst this
        subst ep
        exact ⟨a, p, ys, rx, ev, hs, by omega, h.v R (by simp only [RV])⟩
      · exact h.elim
    · exact h.elim
  · exact h.elim
/-! ### a, b, c = x, y, z -/
theorem rvs3 {G : Gd} {m bs : List Addr} {st : Sto} {H : Hp} {x y z : IV} {vs : List V} (r : RVs G m bs st H [x, y, z] vs) : ∃ u v w, vs = [u, v, w] ∧ RV G m bs st H x u ∧ RV G m bs st H y v ∧ RV G m bs st H z w := by
  simp only [RVs] at r
  obtain ⟨u, t, e, r1, v, t2, e2, r2, w, t3, e3, r3, e4⟩ := r
  exact ⟨u, v, w, by rw [e, e2, e3, e4], r1, r2, r3⟩
theorem ms_par3 {i j l : Nat} {x y z : Str} {px py pz pt : Pos} {kt k2 : Nat} {pt2 : Pos} (hc : X.calm = true) (hN : X.N.Nodup) (hi : X.N[i]? = some x) (hj : X.N[j]? = some y) (hl : X.N[l]? = some z) (hij : i ≠ j) (hil : i ≠ l) (hjl : j ≠ l)
    (hx : X.env.scope.names.lookup x = some .local) (hy : X.env.scope.names.lookup y = some .local) (hz : X.env.scope.names.lookup z = some .local) (ha : MA X W xa [a, b, c] As)
    (hw : swappedStores [.Tuple [.Name x px, .Name y py, .Name z pz] kt pt] (.Tuple [a, b, c] k2 pt2) X.env = pure (some [x, y, z]))
    (hs : swapsWithSole [.Tuple [.Name x px, .Name y py, .Name z pz] kt pt] (.Tuple [a, b, c] k2 pt2) pos.line X.env = pure false := by rfl) :
    MS X W xa (.Assign [.Tuple [.Name x px, .Name y py, .Name z pz] kt pt] (.Tuple [a, b, c] k2 pt2) pos) (iPar3 i j l As) := by
  refine PS.weak (ps_par3 hc hN hi hj hl hij hil hjl hx hy hz ha hw hs) fun D σ H h => ?_
  obtain ⟨m, os, rs, ρ, st, P, h⟩ := h
  refine ⟨m, os, rs, ρ, st, P, (h.ofR P).mono fun xs m1 st1 H1 g1 R1 h1 vs rv => ?_⟩
  split at h1
  · obtain ⟨u, v, w, e, r1, r2, r3⟩ := rvs3 rv
    exact ⟨u, v, w, e, h1.here ((((P.grow g1 R1).set r1).set r2).set r3)⟩
  · exact h1.elim
/-! ### isinstance(x, C), C an own class -/
/-- C's answers for the own classes of the list, and no for the built-in kinds -/
def IsM (K : PySem.W.Frag) (mg : Str → Option Value) (c : Str) (L : List (Str × Bool)) : Prop :=
  ∃ C, mg c = some (.ref C) ∧ (∀ T ∈ basicT, PySem.W.kitOne K (.type T) (.ref C) = some false) ∧
    ∀ c' b, L.lookup c' = some b → ∀ C', mg c' = some (.ref C') → (∀ (H : Hp) (a dx : Addr) (fs : List (Str × V)), H a = some (.ins C' dx fs) → TyX K H (.ref a) (.ref C')) ∧ PySem.W.kitOne K (.ref C') (.ref C) = some b
def clsOf (st : Sto) : IV → Option Str
  | .ref l => match st[l]? with | some (.ins c _) => some c | _ => none
  | _ => none
def iIsC (L : List (Str × Bool)) (A : IE) : IE := fun ρ st => (A ρ st).bind fun x st => match tyName st x with
  | some _ => .ok (.bl false) st
  | none => match (clsOf st x).bind fun c => L.lookup c with
    | some b => .ok (.bl b) st
    | none => .bad
theorem me_isC {c : Str} {L : List (Str × Bool)} {p2 : Pos} (h : IsM X.K X.mg c L) (hg : Gl X "isinstance") (hm : X.mg "isinstance" = none) (hgc : Gl X c) (ha : ME X W xa a A)
    (hdc : (c == ("__debug__" : Str)) = false := by decide) (he : starEach [a, .Name c p2] X.env = (false, eval a X.env) :: starEach [.Name c p2] X.env := by rfl) (he2 : starEach [.Name c p2] X.env = (false, eval (.Name c p2) X.env) :: starEach [] X.env := by rfl) (hpl : (backTo pos (starEach [.Name c p2] X.env)).any (·.1) = false := by rfl) :
    ME X W xa (.Call (.Name "isinstance" p) [a, .Name c p2] [] pos) (iIsC L A) := by
  obtain ⟨C, hC, hT, hL⟩ := h
  refine PE.weak (pe_callB call_isi hg hm (by rfl) (pa_cons ha (pa_cons (pe_glob hgc hC (v := .ref C) rfl hdc) pa_nil he2) he) (by decide) (by decide) he hpl) fun σ H Q h => ?_
  obtain ⟨m, os, rs, ρ, st, P, h⟩ := h
  refine ⟨m, os, rs, ρ, st, P, h.bind.mono fun x m1 st1 H1 g1 R1 h1 u ru => ?_⟩
  split at h1
  · rename_i t e
    obtain ⟨tx, ht⟩ := tyName_x R1 e ru
    exact ⟨u, .ref C, _, _, false, rfl, .own C, tx, hT t ht, h1.v R1 (by simp only [RV])⟩
  · split at h1
    · rename_i b e
      rw [Option.bind_eq_some_iff] at e
      obtain ⟨c', e1, e2⟩ := e
      cases x with
      | ref l =>
        simp only [clsOf] at e1
        split at e1
        · rename_i cc fs e3
          cases e1
          simp only [RV] at ru
          obtain ⟨aa, ea, hl⟩ := ru
          obtain ⟨C', dx, gs, h2, h3, _⟩ := R1.obj l _ aa e3 hl
          obtain ⟨q1, q2⟩ := hL _ _ e2 C' h2
          subst ea
          exact ⟨_, .ref C, _, _, b, rfl, .own C, q1 H1 aa dx gs h3, q2, h1.v R1 (by simp only [RV])⟩
        · cases e1
      | _ => cases e1
    · exact h1.elim
end
end Mi
set_option Elab.async false
set_option linter.all false
set_option maxRecDepth 100000
set_option maxHeartbeats 4000000
namespace Mi
open PySem PySem.Spec PyProof.Rows L2
theorem basic_all {P : String → Prop} (h1 : P "NoneType") (h2 : P "bool") (h3 : P "int") (h4 : P "str") (h5 : P "tuple") (h6 : P "list") (h7 : P "dict") : ∀ T ∈ basicT, P T := by
  intro T hT
  simp only [basicT, List.mem_cons, List.not_mem_nil, or_false] at hT
  rcases hT with rfl | rfl | rfl | rfl | rfl | rfl | rfl <;> assumption
section
variable {K : PySem.W.Frag} {mg : Str → Option Value} {C : Addr} {T : String}
theorem notFirst_of (h : PySem.W.subIn K (.type T) (.ref C) = some false) : PySem.W.notFirst K C (.type T) = true := by
  unfold PySem.W.notFirst
  rw [h]; simp
theorem kit_no (h1 : PySem.W.isClsIn K C = true) (h2 : PySem.W.typeIn K (.ref C) = some (.type "type")) (h : PySem.W.subIn K (.type T) (.ref C) = some false) : PySem.W.kitOne K (.type T) (.ref C) = some false := by
  have e2 : ((PySem.W.clsIn K C).isSome && PySem.W.typeIn K (.ref C) == some (.type "type")) = true := by
    have h1' : (PySem.W.clsIn K C).isSome = true := h1
    rw [h1', h2] <;> rfl
  unfold PySem.W.kitOne
  rw [if_neg (by simp)]
  show (if ((PySem.W.clsIn K C).isSome && PySem.W.typeIn K (.ref C) == some (.type "type")) = true then PySem.W.subIn K (.type T) (.ref C) else none) = some false
  rw [if_pos e2]; exact h
theorem isM_one {c : Str} (hm : mg c = some (.ref C)) (cl : Cls K C) (ha : PySem.W.findIn K (.ref C) "__class__" = some (some (.builtin "object.__class__")))
    (hn : PySem.W.specialIn K (.builtin "object.__class__") "__get__" = some (some (.builtin "getset_descriptor.__get__"))) (htk : PySem.W.takesIn K (.builtin "object.__class__") = some true)
    (ho : PySem.W.mroIn K C (.type "object") = some true) (hT : ∀ T ∈ basicT, PySem.W.kitOne K (.type T) (.ref C) = some false) : IsM K mg c [(c, true)] := by
  refine ⟨C, hm, hT, fun c' b e C' hC => ?_⟩
  have hc : c' = c ∧ b = true := by
    simp only [List.lookup] at e
    split at e
    · rename_i z
      exact ⟨by simpa using z, by cases e; rfl⟩
    · cases e
  obtain ⟨rfl, rfl⟩ := hc
  rw [hm] at hC
  cases hC
  exact ⟨fun H a dx fs h => .base (.ins h cl ha hn htk ho), by unfold PySem.W.kitOne; rw [if_pos (by simp)]⟩
end
end Mi
set_option Elab.async false
set_option linter.all false
set_option maxRecDepth 100000
set_option maxHeartbeats 4000000
namespace Mi
open PySem PySem.Spec PyProof.Rows L2

/-! ### what must hold for a good end -/
def R.wp {α : Type} (r : R α) (P : α → Sto → Prop) (E : Str → List (Str × IV) → Sto → Prop) : Prop := match r with
  | .ok a st => P a st
  | .exc c fs st => E c fs st
  | .bad => False
abbrev nE : Str → List (Str × IV) → Sto → Prop := fun _ _ _ => False
structure Post where
  nx : Slots → Sto → Prop
  rt : IV → Sto → Prop
  bk : Slots → Sto → Prop
  ct : Slots → Sto → Prop
  ex : Str → List (Str × IV) → Slots → Sto → Prop
def RS.wp (r : RS) (D : Post) : Prop := match r with
  | .nx ρ st => D.nx ρ st
  | .rt v st => D.rt v st
  | .bk ρ st => D.bk ρ st
  | .ct ρ st => D.ct ρ st
  | .exc c fs ρ st => D.ex c fs ρ st
  | .bad => False
/-- no step by unfolding -/
theorem nr {α : Sort _} {a b : α} (h : a = b) : a = b := h
/-- a place that is not looked into -/
inductive Tg {α : Type} (a : α) : Type where
  | mk
def R.wq {α : Type} (r : R α) (P : α → Sto → Prop) (E : Str → List (Str × IV) → Sto → Prop) (t : Tg (P, E)) : Prop := r.wp P E
def RS.wq (r : RS) (D : Post) (t : Tg D) : Prop := r.wp D
section
variable {α β : Type} {P : α → Sto → Prop} {E : Str → List (Str × IV) → Sto → Prop} {D : Post} {st : Sto} {ρ : Slots}
theorem wpo {a : α} : (R.ok a st).wp P E = P a st := rfl
theorem wpb {r : R α} {k : α → Sto → R β} {P : β → Sto → Prop} : (r.bind k).wp P E = r.wp (fun a st => (k a st).wp P E) E := by cases r <;> rfl
@[simp ↓] theorem wp_q {r : R α} : r.wp P E = r.wq P E .mk := nr rfl
@[simp ↓] theorem wps_q {r : RS} : r.wp D = r.wq D .mk := nr rfl
@[simp] theorem wp_ok {a : α} : (R.ok a st).wq P E .mk = P a st := nr rfl
@[simp] theorem wp_exc {c : Str} {fs : List (Str × IV)} : (R.exc c fs st : R α).wq P E .mk = E c fs st := nr rfl
@[simp] theorem wp_bad : (R.bad : R α).wq P E .mk = False := nr rfl
@[simp] theorem wp_bind {r : R α} {k : α → Sto → R β} {P : β → Sto → Prop} : (r.bind k).wq P E .mk = r.wp (fun a st => (k a st).wp P E) E := by cases r <;> rfl
theorem wp_mono {r : R α} {P P' : α → Sto → Prop} (h : r.wp P E) (k : ∀ a st, P a st → P' a st) : r.wp P' E := by cases r <;> first | exact k _ _ h | exact h
@[simp] theorem wps_nx : (RS.nx ρ st).wq D .mk = D.nx ρ st := nr rfl
@[simp] theorem wps_rt {v : IV} : (RS.rt v st).wq D .mk = D.rt v st := nr rfl
@[simp] theorem wps_bk : (RS.bk ρ st).wq D .mk = D.bk ρ st := nr rfl
@[simp] theorem wps_ct : (RS.ct ρ st).wq D .mk = D.ct ρ st := nr rfl
@[simp] theorem wps_exc {c : Str} {fs : List (Str × IV)} : (RS.exc c fs ρ st).wq D .mk = D.ex c fs ρ st := nr rfl
@[simp] theorem wps_bad : RS.bad.wq D .mk = False := nr rfl
@[simp] theorem wps_seq {r : RS} {J : IS} : (r.seq J).wq D .mk = r.wp { D with nx := fun ρ st => (J ρ st).wp D } := by cases r <;> rfl
@[simp] theorem wps_ofR {r : R α} {k : α → Sto → RS} : (RS.ofR r ρ k).wq D .mk = r.wp (fun a st => (k a st).wp D) (fun c fs st => D.ex c fs ρ st) := by cases r <;> rfl
theorem wps_mono {r : RS} {D D' : Post} (h : r.wp D) (h1 : ∀ ρ st, D.nx ρ st → D'.nx ρ st) (h2 : ∀ v st, D.rt v st → D'.rt v st) (h3 : ∀ ρ st, D.bk ρ st → D'.bk ρ st) (h4 : ∀ ρ st, D.ct ρ st → D'.ct ρ st) (h5 : ∀ c fs ρ st, D.ex c fs ρ st → D'.ex c fs ρ st) : r.wp D' := by
  cases r <;> first | exact h1 _ _ h | exact h2 _ _ h | exact h3 _ _ h | exact h4 _ _ h | exact h5 _ _ _ _ h | exact h
@[simp] theorem wps_iSeq {I J : IS} : (iSeq I J ρ st).wq D .mk = (I ρ st).wp { D with nx := fun ρ st => (J ρ st).wp D } := by unfold iSeq; exact wps_seq
@[simp] theorem wps_iSkip : (iSkip ρ st).wq D .mk = D.nx ρ st := nr rfl
@[simp] theorem wps_iBreak : (iBreak ρ st).wq D .mk = D.bk ρ st := nr rfl
@[simp] theorem wps_iCont : (iCont ρ st).wq D .mk = D.ct ρ st := nr rfl
@[simp] theorem wps_iRetN : (iRetN ρ st).wq D .mk = D.rt .non st := nr rfl
@[simp] theorem wps_iRet {A : IE} : (iRet A ρ st).wq D .mk = (A ρ st).wp D.rt (fun c fs st => D.ex c fs ρ st) := by unfold iRet; exact wps_ofR
@[simp] theorem wps_iDrop {A : IE} : (iDrop A ρ st).wq D .mk = (A ρ st).wp (fun _ st => D.nx ρ st) (fun c fs st => D.ex c fs ρ st) := by unfold iDrop; exact wps_ofR
@[simp] theorem wps_iSet {i : Nat} {A : IE} : (iSet i A ρ st).wq D .mk = (A ρ st).wp (fun v st => D.nx (ρ.set i (some (.v v))) st) (fun c fs st => D.ex c fs ρ st) := by unfold iSet; exact wps_ofR
@[simp] theorem wps_iIfS {S : IT} {I J : IS} : (iIfS S I J ρ st).wq D .mk = (S ρ st).wp (fun b st => if b = true then (I ρ st).wp D else (J ρ st).wp D) (fun c fs st => D.ex c fs ρ st) := by
  unfold iIfS; rw [wps_ofR]; congr 1; funext b st; cases b <;> rfl
@[simp] theorem wps_iAsg {A : IE} {T : ITg} : (iAsg A T ρ st).wq D .mk = (A ρ st).wp (fun v st => (T v ρ st).wp D) (fun c fs st => D.ex c fs ρ st) := by unfold iAsg; exact wps_ofR
@[simp] theorem wps_tgName {i : Nat} {x : IV} : (tgName i x ρ st).wq D .mk = D.nx (ρ.set i (some (.v x))) st := nr rfl
@[simp] theorem wps_tgNil : (tgNil [] ρ st).wq D .mk = D.nx ρ st := nr rfl
@[simp] theorem wps_tgCons {T : ITg} {Ts : ITgs} {x : IV} {r : List IV} : (tgCons T Ts (x :: r) ρ st).wq D .mk = (T x ρ st).wp { D with nx := fun ρ st => (Ts r ρ st).wp D } := by
  show ((T x ρ st).seq (Ts r)).wp D = _; exact wps_seq
@[simp] theorem wps_tgTup {n : Nat} {Ts : ITgs} {xs : List IV} : (tgTup n Ts (.tup xs) ρ st).wq D .mk = if xs.length = n then (Ts xs ρ st).wp D else False := by
  show (if xs.length = n then Ts xs ρ st else .bad).wp D = _; split <;> rfl
@[simp] theorem wps_iPar2 {i j : Nat} {As : IA} : (iPar2 i j As ρ st).wq D .mk = (As ρ st).wp (fun xs st => match xs with | [x, y] => D.nx ((ρ.set i (some (.v x))).set j (some (.v y))) st | _ => False) (fun c fs st => D.ex c fs ρ st) := by
  unfold iPar2; rw [wps_ofR]; congr 1; funext xs st
  match xs with
  | [] => rfl
  | [_] => rfl
  | [_, _] => rfl
  | _ :: _ :: _ :: _ => rfl
/-! defs -/
@[simp] theorem wp_fnOf {k : Nat} {B : IS} {args : List IV} {P : IV → Sto → Prop} : (fnOf k B args st).wq P E .mk = (B (args.map (fun x => some (.v x)) ++ List.replicate k none) st).wp ⟨fun _ st => P .non st, P, fun _ _ => False, fun _ _ => False, fun c fs _ st => E c fs st⟩ := by
  unfold fnOf
  cases B (args.map (fun x => some (.v x)) ++ List.replicate k none) st <;> rfl
theorem of_wp {r : R IV} {Q : IV → Prop} (h : r.wp (fun v _ => Q v) nE) : ∃ v st', r = .ok v st' ∧ Q v := by
  cases r with
  | ok a st => exact ⟨a, st, rfl, h⟩
  | exc c fs st => exact h.elim
  | bad => exact h.elim
/-! expressions -/
@[simp] theorem ev_C {x : IV} : iC x ρ st = .ok x st := nr rfl
@[simp] theorem ev_nil : iNil ρ st = .ok [] st := nr rfl
@[simp] theorem wp_iVar {i : Nat} {P : IV → Sto → Prop} : (iVar i ρ st).wq P E .mk = match ρ[i]? with | some (some (.v x)) => P x st | _ => False := by
  unfold iVar
  cases ρ[i]? with
  | none => rfl
  | some o => cases o with
    | none => rfl
    | some s => cases s <;> rfl
@[simp] theorem wp_iBin {g : IV → IV → Sto → R IV} {A B : IE} {P : IV → Sto → Prop} : (iBin g A B ρ st).wq P E .mk = (A ρ st).wp (fun x st => (B ρ st).wp (fun y st => (g x y st).wp P E) E) E := by unfold iBin; simp only [R.wq, wpb, wpo]
@[simp] theorem wp_iIx {A B : IE} {P : IV → Sto → Prop} : (iIx A B ρ st).wq P E .mk = (A ρ st).wp (fun x st => (B ρ st).wp (fun y st => (gIx x y st).wp P E) E) E := by unfold iIx; simp only [R.wq, wpb, wpo]
@[simp] theorem wp_iTest {A : IE} {P : Bool → Sto → Prop} : (iTest A ρ st).wq P E .mk = (A ρ st).wp (fun x st => (asB x st).wp P E) E := by unfold iTest; simp only [R.wq, wpb, wpo]
@[simp] theorem wp_iNeg {A : IE} {P : IV → Sto → Prop} : (iNeg A ρ st).wq P E .mk = (A ρ st).wp (fun x st => match x with | .int i => P (.int (-i)) st | _ => False) E := by
  unfold iNeg; simp only [R.wq, wpb, wpo]; congr 1; funext x st; cases x <;> rfl
@[simp] theorem wp_asB {b : Bool} {P : Bool → Sto → Prop} : (asB (.bl b) st).wq P E .mk = P b st := nr rfl
@[simp] theorem wp_iCons {A : IE} {As : IA} {P : List IV → Sto → Prop} : (iCons A As ρ st).wq P E .mk = (A ρ st).wp (fun x st => (As ρ st).wp (fun xs st => P (x :: xs) st) E) E := by unfold iCons; simp only [R.wq, wpb, wpo]
@[simp] theorem wp_iCallB {g : List IV → Sto → R IV} {As : IA} {P : IV → Sto → Prop} : (iCallB g As ρ st).wq P E .mk = (As ρ st).wp (fun xs st => (g xs st).wp P E) E := by unfold iCallB; simp only [R.wq, wpb, wpo]
@[simp] theorem wp_iCall {F : Fn} {As : IA} {P : IV → Sto → Prop} : (iCall F As ρ st).wq P E .mk = (As ρ st).wp (fun xs st => (F xs st).wp P E) E := by unfold iCall; simp only [R.wq, wpb, wpo]
@[simp] theorem wp_iIf {S : IT} {A B : IE} {P : IV → Sto → Prop} : (iIf S A B ρ st).wq P E .mk = (S ρ st).wp (fun b st => if b = true then (A ρ st).wp P E else (B ρ st).wp P E) E := by
  unfold iIf; simp only [R.wq, wpb, wpo]; congr 1; funext b st; cases b <;> rfl
@[simp] theorem wp_iTup {As : IA} {P : IV → Sto → Prop} : (iTup As ρ st).wq P E .mk = (As ρ st).wp (fun xs st => xs.length ≤ 100000 ∧ P (.tup xs) st) E := by
  unfold iTup; simp only [R.wq, wpb, wpo]; congr 1; funext xs st; split <;> simp [*]
@[simp] theorem wp_iLst {As : IA} {P : IV → Sto → Prop} : (iLst As ρ st).wq P E .mk = (As ρ st).wp (fun xs st => xs.length ≤ 100000 ∧ P (.lst xs) st) E := by
  unfold iLst; simp only [R.wq, wpb, wpo]; congr 1; funext xs st; split <;> simp [*]
@[simp] theorem wp_iLstS {As : IA} {P : IV → Sto → Prop} : (iLstS As ρ st).wq P E .mk = (As ρ st).wp (fun xs st => xs.length ≤ 100000 ∧ P (.ref st.length) (st ++ [.lst xs])) E := by
  unfold iLstS; simp only [R.wq, wpb, wpo]; congr 1; funext xs st; split <;> simp [*]
@[simp] theorem wp_iFew {As : IA} {P : List IV → Sto → Prop} : (iFew As ρ st).wq P E .mk = (As ρ st).wp (fun xs st => xs.length ≤ 100000 ∧ P xs st) E := by
  unfold iFew; simp only [R.wq, wpb, wpo]; congr 1; funext xs st; split <;> simp [*]
@[simp] theorem wp_iF {As : IA} {P : IV → Sto → Prop} : (iF As ρ st).wq P E .mk = (As ρ st).wp (fun xs st => P (.lst xs) st) E := by unfold iF; simp only [R.wq, wpb, wpo]
@[simp] theorem wp_iFS {As : IA} {P : IV → Sto → Prop} : (iFS As ρ st).wq P E .mk = (As ρ st).wp (fun xs st => P (.ref st.length) (st ++ [.lst xs])) E := by unfold iFS; simp only [R.wq, wpb, wpo]
@[simp] theorem wp_iAnd {S T : IT} {P : Bool → Sto → Prop} : (iAnd S T ρ st).wq P E .mk = (S ρ st).wp (fun b st => if b = true then (T ρ st).wp P E else P false st) E := by
  unfold iAnd; simp only [R.wq, wpb, wpo]; congr 1; funext b st; cases b <;> rfl
@[simp] theorem wp_iOr {S T : IT} {P : Bool → Sto → Prop} : (iOr S T ρ st).wq P E .mk = (S ρ st).wp (fun b st => if b = true then P true st else (T ρ st).wp P E) E := by
  unfold iOr; simp only [R.wq, wpb, wpo]; congr 1; funext b st; cases b <;> rfl
@[simp] theorem wp_iNot {S : IT} {P : Bool → Sto → Prop} : (iNot S ρ st).wq P E .mk = (S ρ st).wp (fun b st => P (!b) st) E := by unfold iNot; simp only [R.wq, wpb, wpo]
@[simp] theorem wp_iAndV {A B : IE} {P : IV → Sto → Prop} : (iAndV A B ρ st).wq P E .mk = (A ρ st).wp (fun x st => (asB x st).wp (fun b st => if b = true then (B ρ st).wp P E else P (.bl false) st) E) E := by
  unfold iAndV; simp only [R.wq, wpb, wpo]; congr 1; funext x st; congr 1; funext b st; cases b <;> rfl
@[simp] theorem wp_iOrV {A B : IE} {P : IV → Sto → Prop} : (iOrV A B ρ st).wq P E .mk = (A ρ st).wp (fun x st => (asB x st).wp (fun b st => if b = true then P (.bl true) st else (B ρ st).wp P E) E) E := by
  unfold iOrV; simp only [R.wq, wpb, wpo]; congr 1; funext x st; congr 1; funext b st; cases b <;> rfl
@[simp] theorem wp_iNotV {A : IE} {P : IV → Sto → Prop} : (iNotV A ρ st).wq P E .mk = (A ρ st).wp (fun x st => (asB x st).wp (fun b st => P (.bl (!b)) st) E) E := by unfold iNotV; simp only [R.wq, wpb, wpo]
@[simp] theorem wp_iChain {g g' : IV → IV → Sto → R IV} {A B C : IE} {P : IV → Sto → Prop} : (iChain g g' A B C ρ st).wq P E .mk = (A ρ st).wp (fun x st => (B ρ st).wp (fun y st => (g x y st).wp (fun z st => (asB z st).wp (fun k st => if k = true then (C ρ st).wp (fun c st => (g' y c st).wp P E) E else P (.bl false) st) E) E) E) E := by
  unfold iChain; simp only [R.wq, wpb, wpo]; congr 1; funext x st; congr 1; funext y st; congr 1; funext z st; congr 1; funext k st; cases k <;> simp only [Bool.false_eq_true, if_false, if_true, wpb, wpo]
@[simp] theorem wp_iCut {A : IE} {L U : IO'} {P : IV → Sto → Prop} : (iCut A L U ρ st).wq P E .mk = (A ρ st).wp (fun x st => (L ρ st).wp (fun lo st => (U ρ st).wp (fun hi st => (gCut x lo hi st).wp P E) E) E) E := by unfold iCut; simp only [R.wq, wpb, wpo]
@[simp] theorem wp_iNoPart {P : Option Int → Sto → Prop} : (iNoPart ρ st).wq P E .mk = P none st := nr rfl
@[simp] theorem wp_iPart {A : IE} {P : Option Int → Sto → Prop} : (iPart A ρ st).wq P E .mk = (A ρ st).wp (fun x st => match x with | .int i => P (some i) st | _ => False) E := by
  unfold iPart; simp only [R.wq, wpb, wpo]; congr 1; funext x st; cases x <;> rfl
@[simp] theorem wp_iMtd {g : IV → List IV → Sto → R IV} {A : IE} {As : IA} {P : IV → Sto → Prop} : (iMtd g A As ρ st).wq P E .mk = (A ρ st).wp (fun x st => if isLst st x = true then (As ρ st).wp (fun xs st => (g x xs st).wp P E) E else False) E := by
  unfold iMtd; simp only [R.wq, wpb, wpo]; congr 1; funext x st; split <;> simp
@[simp] theorem wp_iOver {A : IE} {P : List IV × GI → Sto → Prop} : (iOver A ρ st).wq P E .mk = (A ρ st).wp (fun x st => match itemsI st x with | some p => P p st | none => False) E := by
  unfold iOver; simp only [R.wq, wpb, wpo]; congr 1; funext x st; cases itemsI st x <;> rfl
@[simp] theorem wp_iRng {g : List IV → Sto → R (List IV × GI)} {As : IA} {P : List IV × GI → Sto → Prop} : (iRng g As ρ st).wq P E .mk = (As ρ st).wp (fun xs st => (g xs st).wp P E) E := by unfold iRng; simp only [R.wq, wpb, wpo]
@[simp] theorem wps_iFor {I : IIt} {T : ITg} {B : IS} : (iFor I T B ρ st).wq D .mk = (I ρ st).wp (fun p st => (forL p.2 p.1 T B p.1 ρ st).wp D) (fun c fs st => D.ex c fs ρ st) := by unfold iFor; exact wps_ofR
@[simp] theorem wp_arity {n : Nat} {F : Fn} {args : List IV} {P : IV → Sto → Prop} : (arity n F args st).wq P E .mk = if args.length = n then (F args st).wp P E else False := by unfold arity; split <;> rfl
/-! operators at known kinds -/
@[simp] theorem op_add_i {i j : Int} : gAdd (.int i) (.int j) st = .ok (.int (i + j)) st := nr rfl
@[simp] theorem op_sub_i {i j : Int} : gSub (.int i) (.int j) st = .ok (.int (i - j)) st := nr rfl
@[simp] theorem op_mul_i {i j : Int} {P : IV → Sto → Prop} : (gMul (.int i) (.int j) st).wq P E .mk = ((i.natAbs < 18446744073709551616 ∨ j.natAbs < 18446744073709551616) ∧ P (.int (i * j)) st) := by
  show (if _ then R.ok _ _ else .bad : R IV).wp P E = _
  split <;> simp [*]
@[simp] theorem op_div_i {i j : Int} {P : IV → Sto → Prop} : (gDiv (.int i) (.int j) st).wq P E .mk = ((0 < j ∧ j ≤ 10000000000000000000000000000000000000000) ∧ P (.int (i / j)) st) := by
  show (if _ then R.ok _ _ else .bad : R IV).wp P E = _
  split <;> simp [*]
@[simp] theorem op_mod_i {i j : Int} {P : IV → Sto → Prop} : (gMod (.int i) (.int j) st).wq P E .mk = (0 < j ∧ P (.int (i % j)) st) := by
  show (if _ then R.ok _ _ else .bad : R IV).wp P E = _
  split <;> simp [*]
@[simp] theorem op_pow_i {i j : Int} {P : IV → Sto → Prop} : (gPow (.int i) (.int j) st).wq P E .mk = ((0 ≤ j ∧ j ≤ 1000000 ∧ i.natAbs < 18446744073709551616) ∧ P (.int (i ^ j.toNat)) st) := by
  show (if _ then R.ok _ _ else .bad : R IV).wp P E = _
  split <;> simp [*]
@[simp] theorem op_rel_i {p : Int → Int → Bool} {i j : Int} : gRel p (.int i) (.int j) st = .ok (.bl (p i j)) st := nr rfl
@[simp] theorem op_add_s {x y : Str} {P : IV → Sto → Prop} : (gAdd (.str x) (.str y) st).wq P E .mk = (x.length + y.length ≤ 100000 ∧ P (.str (x ++ y)) st) := by
  show (if _ then R.ok _ _ else .bad : R IV).wp P E = _
  split <;> simp [*]
@[simp] theorem op_add_t {x y : List IV} {P : IV → Sto → Prop} : (gAdd (.tup x) (.tup y) st).wq P E .mk = (x.length + y.length ≤ 100000 ∧ P (.tup (x ++ y)) st) := by
  show (if _ then R.ok _ _ else .bad : R IV).wp P E = _
  split <;> simp [*]
@[simp] theorem op_eq_i {i j : Int} : gEq (.int i) (.int j) st = .ok (.bl (decide (i = j))) st := nr rfl
@[simp] theorem op_ne_i {i j : Int} : gNe (.int i) (.int j) st = .ok (.bl (!decide (i = j))) st := nr rfl
@[simp] theorem op_eq_s {i j : Str} : gEq (.str i) (.str j) st = .ok (.bl (decide (i = j))) st := nr rfl
@[simp] theorem op_ne_s {i j : Str} : gNe (.str i) (.str j) st = .ok (.bl (!decide (i = j))) st := nr rfl
@[simp] theorem op_isN {b : Bool} {x : IV} : gIsN b x .non st = .ok (.bl (b != isNon x)) st := nr rfl
@[simp] theorem cl_abs {i : Int} : gAbs [.int i] st = .ok (.int i.natAbs) st := nr rfl
@[simp] theorem cl_max {i j : Int} : gMax [.int i, .int j] st = .ok (.int (max i j)) st := nr rfl
@[simp] theorem cl_min {i j : Int} : gMin [.int i, .int j] st = .ok (.int (min i j)) st := nr rfl
@[simp] theorem cl_int {i : Int} : gInt [.int i] st = .ok (.int i) st := nr rfl
@[simp] theorem cl_len_t {xs : List IV} : gLen [.tup xs] st = .ok (.int xs.length) st := nr rfl
@[simp] theorem cl_len_l {xs : List IV} : gLen [.lst xs] st = .ok (.int xs.length) st := nr rfl
@[simp] theorem cl_len_s {x : Str} {P : IV → Sto → Prop} : (gLen [.str x] st).wq P E .mk = (x.length ≤ 100000 ∧ P (.int x.length) st) := by
  show (if _ then R.ok _ _ else .bad : R IV).wp P E = _
  split <;> simp [*]
@[simp] theorem cl_tuple_l {xs : List IV} : gTuple [.lst xs] st = .ok (.tup xs) st := nr rfl
@[simp] theorem cl_tuple_t {xs : List IV} : gTuple [.tup xs] st = .ok (.tup xs) st := nr rfl
@[simp] theorem cl_list_l {xs : List IV} : gList [.lst xs] st = .ok (.lst xs) st := nr rfl
@[simp] theorem cl_list_t {xs : List IV} : gList [.tup xs] st = .ok (.lst xs) st := nr rfl
@[simp] theorem rng1 {j : Int} {P : List IV × GI → Sto → Prop} : (gRng1 [.int j] st).wq P E .mk = ((j ≤ 1000000000000000000 ∧ -1000000000000000000 ≤ j) ∧ P (rngI 0 j.toNat, none) st) := by
  show (if _ then R.ok _ _ else .bad : R (List IV × GI)).wp P E = _
  split <;> simp [*]
@[simp] theorem rng2 {i j : Int} {P : List IV × GI → Sto → Prop} : (gRng2 [.int i, .int j] st).wq P E .mk = ((j ≤ 1000000000000000000 ∧ -1000000000000000000 ≤ j ∧ i ≤ 1000000000000000000 ∧ -1000000000000000000 ≤ i) ∧ P (rngI i (j - i).toNat, none) st) := by
  show (if _ then R.ok _ _ else .bad : R (List IV × GI)).wp P E = _
  split <;> simp [*]
@[simp] theorem en_enum {xs : List IV} : gEnum [.lst xs] st = .ok (enumI 0 xs, none) st := nr rfl
theorem enum_ref {l : Nat} {xs : List IV} (h : st[l]? = some (.lst xs)) : gEnum [.ref l] st = .ok (enumI 0 xs, some (l, xs)) st := by simp [gEnum, h]
@[simp] theorem gok_none {xs : List IV} : gokB none st xs = true := nr rfl
/-- any list, by the place -/
theorem wp_ix {x : IV} {xs : List IV} {i : Int} {P : IV → Sto → Prop} (h : asS st x = some xs) (hx : ∀ z, x ≠ .str z) : (gIx x (.int i) st).wp P E = match atI xs i with | some v => P v st | none => False := by
  cases x with
  | str z => exact absurd rfl (hx z)
  | ref l => simp only [gIx, h]; cases atI xs i <;> rfl
  | tup ys => simp only [gIx, h]; cases atI xs i <;> rfl
  | lst ys => simp only [gIx, h]; cases atI xs i <;> rfl
  | _ => cases h
@[simp] theorem ix_l {xs : List IV} {i : Int} {P : IV → Sto → Prop} : (gIx (.lst xs) (.int i) st).wq P E .mk = match atI xs i with | some v => P v st | none => False := wp_ix rfl (fun _ => by simp)
@[simp] theorem ix_t {xs : List IV} {i : Int} {P : IV → Sto → Prop} : (gIx (.tup xs) (.int i) st).wq P E .mk = match atI xs i with | some v => P v st | none => False := wp_ix rfl (fun _ => by simp)
@[simp] theorem ix_s {x : Str} {i : Int} {P : IV → Sto → Prop} : (gIx (.str x) (.int i) st).wq P E .mk = (x.length ≤ 100000 ∧ match atI x.cps.toList i with | some c => P (.str ⟨#[c]⟩) st | none => False) := by
  show R.wp (if _ then (match atI x.cps.toList i with | some c => .ok (.str ⟨#[c]⟩) st | none => .bad) else .bad : R IV) P E = _
  split
  · rename_i h
    cases atI x.cps.toList i <;> simp [h]
  · rename_i h
    simp [h]
@[simp] theorem asS_lst {xs : List IV} : asS st (.lst xs) = some xs := nr rfl
@[simp] theorem asS_tup {xs : List IV} : asS st (.tup xs) = some xs := nr rfl
theorem asS_ref {l : Nat} {xs : List IV} (h : st[l]? = some (.lst xs)) : asS st (.ref l) = some xs := by simp [asS, asL, h]
theorem ix_ref {l : Nat} {xs : List IV} {i : Int} {P : IV → Sto → Prop} (h : st[l]? = some (.lst xs)) : (gIx (.ref l) (.int i) st).wq P E .mk = match atI xs i with | some v => P v st | none => False := wp_ix (asS_ref h) (fun _ => by simp)
theorem len_ref {l : Nat} {xs : List IV} (h : st[l]? = some (.lst xs)) : gLen [.ref l] st = .ok (.int xs.length) st := by
  show (match asS st (.ref l) with | some xs => R.ok (IV.int xs.length) st | none => .bad) = _
  rw [asS_ref h]
theorem list_ref {l : Nat} {xs : List IV} (h : st[l]? = some (.lst xs)) : gList [.ref l] st = .ok (.lst xs) st := by
  show (match asS st (.ref l) with | some xs => R.ok (IV.lst xs) st | none => .bad) = _
  rw [asS_ref h]
theorem app_ref {l : Nat} {xs : List IV} {y : IV} (h : st[l]? = some (.lst xs)) (hl : xs.length < 100000) : gApp (.ref l) [y] st = .ok .non (st.set l (.lst (xs ++ [y]))) := by
  simp [gApp, h, hl]
theorem isLst_ref {l : Nat} {xs : List IV} (h : st[l]? = some (.lst xs)) : isLst st (.ref l) = true := by simp [isLst, h]
theorem items_ref {l : Nat} {xs : List IV} (h : st[l]? = some (.lst xs)) : itemsI st (.ref l) = some (xs, some (l, xs)) := by simp [itemsI, h]
@[simp] theorem items_l {xs : List IV} : itemsI st (.lst xs) = some (xs, none) := nr rfl
@[simp] theorem items_t {xs : List IV} : itemsI st (.tup xs) = some (xs, none) := nr rfl
@[simp] theorem items_s {x : Str} : itemsI st (.str x) = some (x.cps.toList.map fun c => .str ⟨#[c]⟩, none) := nr rfl
theorem wps_tgSub {A B : IE} {x : IV} {D : Post} {o i : IV} {st1 st2 : Sto} (h1 : A ρ st = .ok o st1) (h2 : B ρ st1 = .ok i st2) : (tgSub A B x ρ st).wp D = match gSetL o i x st2 with | some st3 => D.nx ρ st3 | none => False := by
  unfold tgSub
  rw [h1]
  simp only [h2]
  cases gSetL o i x st2 <;> rfl
@[simp] theorem wps_tgSub' {A B : IE} {x : IV} {D : Post} : (tgSub A B x ρ st).wq D .mk = (A ρ st).wp (fun o st1 => (B ρ st1).wp (fun i st2 => match gSetL o i x st2 with | some st3 => D.nx ρ st3 | none => False) nE) nE := by
  unfold tgSub RS.wq
  cases A ρ st with
  | ok o st1 =>
    simp only [wpo]
    cases B ρ st1 with
    | ok i st2 => simp only [wpo]; cases gSetL o i x st2 <;> rfl
    | _ => rfl
  | _ => rfl
theorem setL_ref {l : Nat} {xs : List IV} {i : Int} {j : Nat} {x : IV} (h : st[l]? = some (.lst xs)) (hj : ixN xs.length i = some j) : gSetL (.ref l) (.int i) x st = some (st.set l (.lst (xs.set j x))) := by
  simp [gSetL, h, hj]
end
/-! ### loops -/
theorem wp_forL {g : GI} {all : List IV} {T : ITg} {B : IS} {D : Post} (Inv : Nat → Slots → Sto → Prop) : ∀ {xs : List IV} {n : Nat} {ρ : Slots} {st : Sto}, Inv n ρ st →
    (∀ i x ρ st, xs[i]? = some x → Inv (n + i) ρ st → gokB g st all = true ∧ (T x ρ st).wp ⟨fun ρ1 st1 => (B ρ1 st1).wp ⟨Inv (n + i + 1), D.rt, D.nx, Inv (n + i + 1), D.ex⟩, fun _ _ => False, fun _ _ => False, fun _ _ => False, fun _ _ _ _ => False⟩) →
    (∀ ρ st, Inv (n + xs.length) ρ st → gokB g st all = true ∧ D.nx ρ st) → (forL g all T B xs ρ st).wp D
  | [], n, ρ, st, h0, _, done => by
    obtain ⟨e, h⟩ := done ρ st h0
    simp only [forL, e, if_true]
    exact h
  | x :: r, n, ρ, st, h0, step, done => by
    obtain ⟨e, h⟩ := step 0 x ρ st rfl h0
    simp only [forL, e, if_true]
    cases q : T x ρ st with
    | nx ρ1 st1 =>
      rw [q] at h
      have h : (B ρ1 st1).wp ⟨Inv (n + 1), D.rt, D.nx, Inv (n + 1), D.ex⟩ := h
      have next : ∀ ρ2 st2, Inv (n + 1) ρ2 st2 → (forL g all T B r ρ2 st2).wp D := fun ρ2 st2 hi =>
        wp_forL Inv (n := n + 1) hi (fun i x ρ st e hi => by
          have := step (i + 1) x ρ st (by simpa using e) (by rw [show n + (i + 1) = n + 1 + i by omega]; exact hi)
          rw [show n + (i + 1) = n + 1 + i by omega] at this
          exact this) (fun ρ st hi => done ρ st (by rw [List.length_cons, show n + (r.length + 1) = n + 1 + r.length by omega]; exact hi))
      simp only
      cases q2 : B ρ1 st1 with
      | nx ρ2 st2 => rw [q2] at h; exact next _ _ h
      | ct ρ2 st2 => rw [q2] at h; exact next _ _ h
      | bk ρ2 st2 => rw [q2] at h; exact h
      | rt v st2 => rw [q2] at h; exact h
      | exc c fs ρ2 st2 => rw [q2] at h; exact h
      | bad => rw [q2] at h; exact h.elim
    | _ => rw [q] at h; exact h.elim
/-- the same from 0 -/
theorem wp_for {g : GI} {all : List IV} {T : ITg} {B : IS} {D : Post} {xs : List IV} {ρ : Slots} {st : Sto} (Inv : Nat → Slots → Sto → Prop) (h0 : Inv 0 ρ st)
    (step : ∀ i x ρ st, xs[i]? = some x → Inv i ρ st → gokB g st all = true ∧ (T x ρ st).wp ⟨fun ρ1 st1 => (B ρ1 st1).wp ⟨Inv (i + 1), D.rt, D.nx, Inv (i + 1), D.ex⟩, fun _ _ => False, fun _ _ => False, fun _ _ => False, fun _ _ _ _ => False⟩)
    (done : ∀ ρ st, Inv xs.length ρ st → gokB g st all = true ∧ D.nx ρ st) : (forL g all T B xs ρ st).wp D :=
  wp_forL Inv (n := 0) h0 (fun i x ρ st e h => by rw [Nat.zero_add] at h ⊢; exact step i x ρ st e h) (fun ρ st h => done ρ st (by rw [Nat.zero_add] at h; exact h))
theorem rngI_get {lo : Int} {n i : Nat} {x : IV} (h : (rngI lo n)[i]? = some x) : i < n ∧ x = .int (lo + i) := by
  unfold rngI at h
  rw [List.getElem?_map] at h
  cases q : (List.range n)[i]? with
  | none => rw [q] at h; cases h
  | some j =>
    rw [q] at h
    have : i < n := by have := (List.getElem?_eq_some_iff.mp q).1; simpa using this
    rw [List.getElem?_range this] at q
    cases q
    cases h
    exact ⟨this, rfl⟩
theorem rngI_len {lo : Int} {n : Nat} : (rngI lo n).length = n := by simp [rngI]
/-- a comprehension that changes nothing -/
theorem lcL_pure {g : GI} {all : List IV} {vs : List Nat} {T : ITg} {S : IT} {E : IE} {ρ : Slots} {st : Sto} (f : IV → Option IV) (hg : gokB g st all = true) : ∀ {xs : List IV} {n : Nat} {acc : List IV},
    (∀ x ∈ xs, ∃ ρ1, T x (wipeI ρ vs) st = .nx ρ1 st ∧ ((f x = none ∧ S ρ1 st = .ok false st) ∨ ∃ y, f x = some y ∧ S ρ1 st = .ok true st ∧ E ρ1 st = .ok y st)) →
    acc.length + xs.length ≤ 100000 → lcL g all vs T S E ρ xs n acc st = .ok (acc ++ xs.filterMap f) st
  | [], n, acc, _, _ => by simp [lcL, hg]
  | x :: r, n, acc, h, hl => by
    rw [List.length_cons] at hl
    have c : acc.length < 100000 := by omega
    obtain ⟨ρ1, e, k⟩ := h x List.mem_cons_self
    have ih : ∀ n acc, acc.length + r.length ≤ 100000 → lcL g all vs T S E ρ r n acc st = .ok (acc ++ r.filterMap f) st := fun n acc hl => lcL_pure f hg (fun y hy => h y (List.mem_cons_of_mem _ hy)) hl
    rcases k with ⟨k1, k2⟩ | ⟨y, k1, k2, k3⟩
    · simp only [lcL, hg, c, and_self, if_true, e, k2, R.noE, R.bind, List.filterMap_cons, k1, Bool.false_eq_true, if_false]
      exact ih _ _ (by omega)
    · simp only [lcL, hg, c, and_self, if_true, e, k2, k3, R.noE, R.bind, List.filterMap_cons, k1]
      rw [ih _ _ (by rw [List.length_append]; simp only [List.length_cons, List.length_nil]; omega), List.append_assoc]
      rfl

@[simp] theorem wp_iLc {I : IIt} {vs : List Nat} {T : ITg} {S : IT} {A : IE} {ρ : Slots} {st : Sto} {P : List IV → Sto → Prop} {E : Str → List (Str × IV) → Sto → Prop} : (iLc I vs T S A ρ st).wq P E .mk = (I ρ st).wp (fun p st => (lcL p.2 p.1 vs T S A ρ p.1 0 [] st).wp P E) E := by
  unfold iLc; simp only [R.wq, wpb, wpo]
@[simp] theorem wp_iLc2 {I I1 : IIt} {vs vs1 : List Nat} {T T1 : ITg} {S S1 : IT} {A : IE} {ρ : Slots} {st : Sto} {P : List IV → Sto → Prop} {E : Str → List (Str × IV) → Sto → Prop} : (iLc2 I vs T S I1 vs1 T1 S1 A ρ st).wq P E .mk = (I ρ st).wp (fun p st => (lcO p.2 p.1 vs T S I1 vs1 T1 S1 A ρ p.1 [] st).wp P E) E := by
  unfold iLc2; simp only [R.wq, wpb, wpo]
@[simp] theorem wp_iYes {ρ : Slots} {st : Sto} {P : Bool → Sto → Prop} {E : Str → List (Str × IV) → Sto → Prop} : (iYes ρ st).wq P E .mk = P true st := nr rfl
theorem eq_of_wp {α : Type} {r : R α} {Q : α → Sto → Prop} (h : r.wp Q nE) : ∃ a st, r = .ok a st ∧ Q a st := by
  cases r with
  | ok a st => exact ⟨a, st, rfl, h⟩
  | exc c fs st => exact h.elim
  | bad => exact h.elim
/-- a comprehension that changes nothing -/
theorem wp_lcL {g : GI} {all xs acc : List IV} {vs : List Nat} {n : Nat} {T : ITg} {S : IT} {A : IE} {ρ : Slots} {st : Sto} {P : List IV → Sto → Prop} {E : Str → List (Str × IV) → Sto → Prop} (f : IV → Option IV) (hg : gokB g st all = true)
    (h : ∀ x ∈ xs, (T x (wipeI ρ vs) st).wp ⟨fun ρ1 st1 => st1 = st ∧ (S ρ1 st).wp (fun b st2 => st2 = st ∧ (b = false ∧ f x = none ∨ b = true ∧ (A ρ1 st).wp (fun y st3 => st3 = st ∧ f x = some y) nE)) nE, fun _ _ => False, fun _ _ => False, fun _ _ => False, fun _ _ _ _ => False⟩)
    (hl : acc.length + xs.length ≤ 100000) (k : P (acc ++ xs.filterMap f) st) : (lcL g all vs T S A ρ xs n acc st).wp P E := by
  rw [lcL_pure f hg (fun x hx => ?_) hl]
  · exact k
  · have z := h x hx
    cases q : T x (wipeI ρ vs) st with
    | nx ρ1 st1 =>
      rw [q] at z
      obtain ⟨z1, z2⟩ : st1 = st ∧ _ := z
      subst z1
      obtain ⟨b, st2, e, e2, z3⟩ := eq_of_wp z2
      subst e2
      refine ⟨ρ1, rfl, ?_⟩
      rcases z3 with ⟨rfl, z3⟩ | ⟨rfl, z3⟩
      · exact .inl ⟨z3, e⟩
      · obtain ⟨y, st3, e3, e4, z4⟩ := eq_of_wp z3
        subst e4
        exact .inr ⟨y, z4, e, e3⟩
    | _ => rw [q] at z; exact z.elim
theorem in_str_S {st : Sto} {neg : Bool} {x : Str} {tk : IV} {ys : List IV} (e : asS st tk = some ys) (h : ys.all flatI = true) : gIn neg (.str x) tk st = .ok (.bl (if neg then !inI (.str x) ys else inI (.str x) ys)) st := by
  have : inB st (.str x) tk = some (inI (.str x) ys) := by
    cases tk <;> first | (cases e; done) | (simp only [inB, e, show flatI (.str x) = true from rfl, h, and_self, if_true])
  simp only [gIn, this]
end Mi
set_option Elab.async false
set_option linter.all false
set_option maxRecDepth 100000
set_option maxHeartbeats 4000000
namespace Mi
open PySem PySem.Spec PyProof.Rows L2

/-! ### lists -/
theorem atI_some {α : Type} {xs : List α} {i : Int} (h0 : 0 ≤ i) (h1 : i < xs.length) : ∃ v, atI xs i = some v ∧ xs[i.toNat]? = some v ∧ v ∈ xs := by
  have hl : i.toNat < xs.length := by omega
  refine ⟨xs[i.toNat], ?_, List.getElem?_eq_getElem hl, List.getElem_mem hl⟩
  unfold atI ixN
  rw [if_pos h0, if_pos h1]
  show xs[i.toNat]? = _
  exact List.getElem?_eq_getElem hl
theorem atI_at {α : Type} {xs : List α} {i : Nat} {v : α} (h : xs[i]? = some v) : atI xs (i : Int) = some v := by
  have hl := (List.getElem?_eq_some_iff.mp h).1
  unfold atI ixN
  rw [if_pos (by omega), if_pos (by omega)]
  show xs[(i : Int).toNat]? = _
  rw [Int.toNat_natCast]; exact h
theorem atI_last {α : Type} {xs : List α} {v : α} : atI (xs ++ [v]) (-1) = some v := by
  unfold atI ixN
  rw [if_neg (by omega), if_pos (by rw [List.length_append]; simp only [List.length_cons, List.length_nil]; omega)]
  show (xs ++ [v])[((-1 : Int) + ((xs ++ [v]).length : Nat)).toNat]? = _
  have : ((-1 : Int) + ((xs ++ [v]).length : Nat)).toNat = xs.length := by rw [List.length_append]; simp only [List.length_cons, List.length_nil]; omega
  rw [this]
  simp
theorem few_of_sub {α : Type} [DecidableEq α] : ∀ {xs ys : List α}, xs.Nodup → (∀ x ∈ xs, x ∈ ys) → xs.length ≤ ys.length
  | [], ys, _, _ => Nat.zero_le _
  | x :: xs, ys, hn, hs => by
    have hx := hs x List.mem_cons_self
    have ih := few_of_sub (xs := xs) (ys := ys.erase x) (List.nodup_cons.mp hn).2 fun y hy => by
      have ne : y ≠ x := fun z => (List.nodup_cons.mp hn).1 (z ▸ hy)
      exact (List.mem_erase_of_ne ne).mpr (hs y (List.mem_cons_of_mem _ hy))
    rw [List.length_erase_of_mem hx] at ih
    have : 0 < ys.length := List.length_pos_of_mem hx
    rw [List.length_cons]; omega

/-! ### texts -/
def okS (x : Str) : Bool := decide (x.length ≤ 100) && x.cps.toList.all fun c => decide (c < 128)
theorem okS_len {x : Str} (h : okS x = true) : x.length ≤ 100 := of_decide_eq_true (Bool.and_eq_true_iff.mp h).1
theorem okS_app {x y : Str} (hx : okS x = true) (hy : okS y = true) (hl : x.length + y.length ≤ 100) : okS (x ++ y) = true := by
  unfold okS at hx hy ⊢
  rw [Bool.and_eq_true] at hx hy ⊢
  have e : (x ++ y).cps = x.cps ++ y.cps := rfl
  refine ⟨by rw [Str.length_append]; exact decide_eq_true hl, ?_⟩
  rw [e, Array.toList_append, List.all_append, hx.2, hy.2]; rfl
theorem cut_sub {z : Str} {lo hi : Option Int} {c : Nat} (h : c ∈ (cutS z lo hi).cps.toList) : c ∈ z.cps.toList := by
  unfold cutS at h
  simp only at h
  exact List.mem_of_mem_drop (List.mem_of_mem_take h)
theorem cut_len {z : Str} {lo hi : Option Int} : (cutS z lo hi).length ≤ z.length := by
  unfold cutS Str.length
  simp only [List.size_toArray, List.length_take, List.length_drop, Array.length_toList]
  omega
theorem cut_len2 {z : Str} {k : Int} (hk : 0 ≤ k) : (cutS z none (some k)).length ≤ k.toNat := by
  unfold cutS Str.length
  simp only [List.size_toArray, List.length_take, List.length_drop, Array.length_toList, HT.sIx]
  rw [if_neg (by omega)]
  omega
theorem okS_cut {z : Str} {lo hi : Option Int} (h : okS z = true) : okS (cutS z lo hi) = true := by
  unfold okS at h ⊢
  rw [Bool.and_eq_true] at h ⊢
  refine ⟨decide_eq_true (Nat.le_trans cut_len (of_decide_eq_true h.1)), List.all_eq_true.mpr fun c hc => List.all_eq_true.mp h.2 c (cut_sub hc)⟩
theorem okS_one {c : Nat} (h : c < 128) : okS ⟨#[c]⟩ = true := by
  unfold okS
  simp [Str.length, h]
theorem strOk_of {x : Str} (h : okS x = true) : PyData.strOk x = true := by
  unfold okS at h
  rw [Bool.and_eq_true] at h
  unfold PyData.strOk
  rw [← Array.all_toList]
  refine List.all_eq_true.mpr fun c hc => ?_
  have := of_decide_eq_true (List.all_eq_true.mp h.2 c hc)
  exact decide_eq_true (by omega)

/-! ### plain data, at most n deep -/
def okV : Nat → IV → Bool
  | _, .non => true
  | _, .bl _ => true
  | _, .int _ => true
  | _, .str x => okS x
  | n + 1, .tup xs => xs.all (okV n)
  | n + 1, .lst xs => xs.all (okV n)
  | _, _ => false
theorem okV_up : ∀ {n m : Nat} {x : IV}, n ≤ m → okV n x = true → okV m x = true := by
  intro n
  induction n with
  | zero =>
    intro m x _ h
    cases x <;> first | rfl | (simp only [okV] at h ⊢; exact h) | (cases m <;> simp_all [okV])
  | succ n ih =>
    intro m x hm h
    cases m with
    | zero => omega
    | succ m =>
      cases x with
      | tup xs => simp only [okV] at h ⊢; exact List.all_eq_true.mpr fun y hy => ih (by omega) (List.all_eq_true.mp h y hy)
      | lst xs => simp only [okV] at h ⊢; exact List.all_eq_true.mpr fun y hy => ih (by omega) (List.all_eq_true.mp h y hy)
      | _ => simp only [okV] at h ⊢ <;> exact h
structure Dat (n : Nat) (d : PyData) : Prop where
  lay : d.canLay0 = true
  dep : d.depth ≤ n
  self : PyData.eqv d d = true
structure Dats (n : Nat) (ds : List PyData) : Prop where
  lay : PyData.canLayAll0 ds = true
  dep : PyData.depthAll ds ≤ n
  self : PyData.eqvAll ds ds = true
theorem dats_list {n : Nat} {ds : List PyData} (h : Dats n ds) : Dat (n + 1) (.list ds) :=
  ⟨by rw [PyData.canLay0]; exact h.lay, by rw [PyData.depth]; exact Nat.succ_le_succ h.dep, by rw [PyData.eqv]; exact h.self⟩
theorem dats_tuple {n : Nat} {ds : List PyData} (h : Dats n ds) : Dat (n + 1) (.tuple ds) :=
  ⟨by rw [PyData.canLay0]; exact h.lay, by rw [PyData.depth]; exact Nat.succ_le_succ h.dep, by rw [PyData.eqv]; exact h.self⟩
theorem okVs_dat {n : Nat} (ih : ∀ x, okV n x = true → ∃ d, toD0 x = some d ∧ Dat n d) : ∀ {xs : List IV}, xs.all (okV n) = true → ∃ ds, toD0s xs = some ds ∧ Dats n ds ∧ ds.length = xs.length
  | [], _ => ⟨[], by simp only [toD0s], ⟨by rw [PyData.canLayAll0], by rw [PyData.depthAll]; exact Nat.zero_le _, by rw [PyData.eqvAll]⟩, rfl⟩
  | x :: xs, h => by
    rw [List.all_cons, Bool.and_eq_true] at h
    obtain ⟨d, e, D⟩ := ih x h.1
    obtain ⟨ds, e2, D2, l⟩ := okVs_dat ih h.2
    refine ⟨d :: ds, by simp only [toD0s, e, e2, Option.bind_some, Option.map_some], ⟨by rw [PyData.canLayAll0, D.lay, D2.lay]; rfl, by rw [PyData.depthAll]; exact Nat.max_le.mpr ⟨D.dep, D2.dep⟩, by rw [PyData.eqvAll, D.self, D2.self]; rfl⟩, by rw [List.length_cons, List.length_cons, l]⟩
theorem okV_dat : ∀ (n : Nat) (x : IV), okV n x = true → ∃ d, toD0 x = some d ∧ Dat n d := by
  intro n
  induction n with
  | zero =>
    intro x h
    cases x with
    | non => exact ⟨.none, by simp only [toD0], by rw [PyData.canLay0], by rw [PyData.depth]; exact Nat.le_refl _, by rw [PyData.eqv]⟩
    | bl b => exact ⟨.bool b, by simp only [toD0], by rw [PyData.canLay0], by rw [PyData.depth]; exact Nat.le_refl _, by rw [PyData.eqv]; simp⟩
    | int b => exact ⟨.int b, by simp only [toD0], by rw [PyData.canLay0], by rw [PyData.depth]; exact Nat.le_refl _, by rw [PyData.eqv]; simp⟩
    | str b => exact ⟨.str b, by simp only [toD0], by rw [PyData.canLay0]; exact strOk_of (by simpa only [okV] using h), by rw [PyData.depth]; exact Nat.le_refl _, by rw [PyData.eqv]; simp⟩
    | _ => cases h
  | succ n ih =>
    intro x h
    cases x with
    | non => exact ⟨.none, by simp only [toD0], by rw [PyData.canLay0], by rw [PyData.depth]; exact Nat.zero_le _, by rw [PyData.eqv]⟩
    | bl b => exact ⟨.bool b, by simp only [toD0], by rw [PyData.canLay0], by rw [PyData.depth]; exact Nat.zero_le _, by rw [PyData.eqv]; simp⟩
    | int b => exact ⟨.int b, by simp only [toD0], by rw [PyData.canLay0], by rw [PyData.depth]; exact Nat.zero_le _, by rw [PyData.eqv]; simp⟩
    | str b => exact ⟨.str b, by simp only [toD0], by rw [PyData.canLay0]; exact strOk_of (by simpa only [okV] using h), by rw [PyData.depth]; exact Nat.zero_le _, by rw [PyData.eqv]; simp⟩
    | tup xs =>
      obtain ⟨ds, e, D, _⟩ := okVs_dat ih (by simpa only [okV] using h)
      exact ⟨.tuple ds, by simp only [toD0, e, Option.map_some], dats_tuple D⟩
    | lst xs =>
      obtain ⟨ds, e, D, _⟩ := okVs_dat ih (by simpa only [okV] using h)
      exact ⟨.list ds, by simp only [toD0, e, Option.map_some], dats_list D⟩
    | _ => cases h
theorem toD_eq {n : Nat} {st : Sto} {x : IV} (h : okV n x = true) : toD st x = toD0 x := by cases x <;> first | rfl | (cases n <;> cases h)
theorem shaped_of {n : Nat} {d : PyData} (D : Dat n d) (hn : n ≤ 60) : SeqAt.shaped d = true := by
  unfold SeqAt.shaped
  rw [D.lay, Bool.true_and]
  exact decide_eq_true (Nat.le_trans D.dep (by omega))
theorem eqB_self {n : Nat} {st : Sto} {x : IV} (h : okV n x = true) (hn : n ≤ 60) : eqB st x x = some true := by
  obtain ⟨d, e, D⟩ := okV_dat n x h
  unfold eqB
  split
  · simp
  · simp
  · rw [toD_eq h, e]
    simp [shaped_of D hn, D.self]
theorem ne_self {n : Nat} {st : Sto} {x : IV} (h : okV n x = true) (hn : n ≤ 60) : gNe x x st = .ok (.bl false) st := by
  unfold gNe
  rw [eqB_self h hn]; rfl
theorem eq_self {n : Nat} {st : Sto} {x : IV} (h : okV n x = true) (hn : n ≤ 60) : gEq x x st = .ok (.bl true) st := by
  unfold gEq
  rw [eqB_self h hn]
/-- xs != [] -/
theorem ne_nil_ref {n : Nat} {st : Sto} {l : Nat} {xs : List IV} (e : st[l]? = some (.lst xs)) (h : xs.all (okV n) = true) (hn : n < 60) : gNe (.ref l) (.lst []) st = .ok (.bl (!xs.isEmpty)) st := by
  obtain ⟨ds, e2, D, hl⟩ := okVs_dat (okV_dat n) h
  unfold gNe eqB
  have e1 : toD st (.ref l) = some (.list ds) := by simp only [toD, e, e2, Option.map_some]
  have e3 : toD st (.lst []) = some (.list []) := by simp only [toD, toD0, toD0s, Option.map_some]
  simp only [e1, e3, shaped_of (dats_list D) (show n + 1 ≤ 60 by omega), show SeqAt.shaped (.list []) = true by decide]
  cases xs with
  | nil =>
    have : ds = [] := List.eq_nil_of_length_eq_zero hl
    subst this
    rfl
  | cons x xs =>
    cases ds with
    | nil => simp at hl
    | cons d ds => simp [PyData.eqv, PyData.eqvAll]
theorem ne_nil_lst {n : Nat} {st : Sto} {xs : List IV} (h : xs.all (okV n) = true) (hn : n < 60) : gNe (.lst xs) (.lst []) st = .ok (.bl (!xs.isEmpty)) st := by
  obtain ⟨ds, e2, D, hl⟩ := okVs_dat (okV_dat n) h
  unfold gNe eqB
  have e1 : toD st (.lst xs) = some (.list ds) := by simp only [toD, toD0, e2, Option.map_some]
  have e3 : toD st (.lst []) = some (.list []) := by simp only [toD, toD0, toD0s, Option.map_some]
  simp only [e1, e3, shaped_of (dats_list D) (show n + 1 ≤ 60 by omega), show SeqAt.shaped (.list []) = true by decide]
  cases xs with
  | nil =>
    have : ds = [] := List.eq_nil_of_length_eq_zero hl
    subst this
    rfl
  | cons x xs =>
    cases ds with
    | nil => simp at hl
    | cons d ds => simp [PyData.eqv, PyData.eqvAll]
/-! isinstance -/
def tyOf : IV → String
  | .non => "NoneType"
  | .bl _ => "bool"
  | .int _ => "int"
  | .str _ => "str"
  | .tup _ => "tuple"
  | .lst _ => "list"
  | _ => "?"
theorem tyName_ok {n : Nat} {st : Sto} {x : IV} (h : okV n x = true) : tyName st x = some (tyOf x) := by cases x <;> first | rfl | (cases n <;> cases h)
theorem isi_ok {n : Nat} {st : Sto} {x : IV} {b : String} (h : okV n x = true) (hb : b ∈ askT) : gIsi [x, .ty b] st = .ok (.bl (isSubB (tyOf x) b)) st := by
  simp only [gIsi, tyName_ok h, hb, if_true]
@[simp] theorem isi_str {st : Sto} {x : Str} {b : String} {P : IV → Sto → Prop} {E : Str → List (Str × IV) → Sto → Prop} : (gIsi [.str x, .ty b] st).wq P E .mk = (b ∈ askT ∧ P (.bl (isSubB "str" b)) st) := by
  simp only [gIsi, tyName]; split <;> simp [*]
@[simp] theorem isi_int {st : Sto} {x : Int} {b : String} {P : IV → Sto → Prop} {E : Str → List (Str × IV) → Sto → Prop} : (gIsi [.int x, .ty b] st).wq P E .mk = (b ∈ askT ∧ P (.bl (isSubB "int" b)) st) := by
  simp only [gIsi, tyName]; split <;> simp [*]
@[simp] theorem isi_bl {st : Sto} {x : Bool} {b : String} {P : IV → Sto → Prop} {E : Str → List (Str × IV) → Sto → Prop} : (gIsi [.bl x, .ty b] st).wq P E .mk = (b ∈ askT ∧ P (.bl (isSubB "bool" b)) st) := by
  simp only [gIsi, tyName]; split <;> simp [*]
@[simp] theorem isi_non {st : Sto} {b : String} {P : IV → Sto → Prop} {E : Str → List (Str × IV) → Sto → Prop} : (gIsi [.non, .ty b] st).wq P E .mk = (b ∈ askT ∧ P (.bl (isSubB "NoneType" b)) st) := by
  simp only [gIsi, tyName]; split <;> simp [*]
@[simp] theorem isi_tup {st : Sto} {x : List IV} {b : String} {P : IV → Sto → Prop} {E : Str → List (Str × IV) → Sto → Prop} : (gIsi [.tup x, .ty b] st).wq P E .mk = (b ∈ askT ∧ P (.bl (isSubB "tuple" b)) st) := by
  simp only [gIsi, tyName]; split <;> simp [*]
@[simp] theorem isi_lst {st : Sto} {x : List IV} {b : String} {P : IV → Sto → Prop} {E : Str → List (Str × IV) → Sto → Prop} : (gIsi [.lst x, .ty b] st).wq P E .mk = (b ∈ askT ∧ P (.bl (isSubB "list" b)) st) := by
  simp only [gIsi, tyName]; split <;> simp [*]
/-! in -/
theorem in_str_lst {st : Sto} {neg : Bool} {x : Str} {ys : List IV} (h : ys.all flatI = true) : gIn neg (.str x) (.lst ys) st = .ok (.bl (if neg then !inI (.str x) ys else inI (.str x) ys)) st := by
  simp only [gIn, inB, asS_lst, show flatI (.str x) = true from rfl, h, and_self, if_true]
theorem in_str_tup {st : Sto} {neg : Bool} {x : Str} {ys : List IV} (h : ys.all flatI = true) : gIn neg (.str x) (.tup ys) st = .ok (.bl (if neg then !inI (.str x) ys else inI (.str x) ys)) st := by
  simp only [gIn, inB, asS_tup, show flatI (.str x) = true from rfl, h, and_self, if_true]
theorem in_str_ref {st : Sto} {neg : Bool} {x : Str} {l : Nat} {ys : List IV} (e : st[l]? = some (.lst ys)) (h : ys.all flatI = true) : gIn neg (.str x) (.ref l) st = .ok (.bl (if neg then !inI (.str x) ys else inI (.str x) ys)) st := by
  simp only [gIn, inB, asS_ref e, show flatI (.str x) = true from rfl, h, and_self, if_true]
theorem in_sign {st : Sto} {neg : Bool} {c : Nat} {z : Str} : gIn neg (.str ⟨#[c]⟩) (.str z) st = .ok (.bl (if neg then !decide (c ∈ z.cps.toList) else decide (c ∈ z.cps.toList))) st := rfl
theorem inI_str {x : Str} {ys : List IV} : inI (.str x) ys = true ↔ IV.str x ∈ ys := by
  unfold inI
  rw [List.any_eq_true]
  constructor
  · rintro ⟨y, hy, e⟩
    cases y <;> simp only [eqI, Bool.false_eq_true] at e
    rename_i z
    have : z = x := by simpa using e
    rw [← this]; exact hy
  · intro h
    exact ⟨_, h, by simp [eqI]⟩
end Mi
set_option Elab.async false
set_option linter.all false
set_option maxRecDepth 100000
set_option maxHeartbeats 4000000
namespace Mi
open PySem PySem.Spec PyProof.Rows L2
section
variable {α β : Type} {P : IV → Sto → Prop} {E : Str → List (Str × IV) → Sto → Prop} {D : Post} {st : Sto} {ρ : Slots}
theorem wpsb {r : R α} {k : α → Sto → RS} : (RS.ofR r ρ k).wp D = r.wp (fun a st => (k a st).wp D) (fun c fs st => D.ex c fs ρ st) := by cases r <;> rfl
@[simp] theorem wps_iRaise {c f : Str} {A : IE} : (iRaise c f A ρ st).wq D .mk = (A ρ st).wp (fun v st => D.ex c [(f, v)] ρ st) (fun c fs st => D.ex c fs ρ st) := by unfold iRaise; exact wps_ofR
@[simp] theorem wps_iSetOwn {i : Nat} {As : IA} : (iSetOwn i As ρ st).wq D .mk = (As ρ st).wp (fun xs st => i < ρ.length ∧ D.nx (ρ.set i (some (.own xs))) st) (fun c fs st => D.ex c fs ρ st) := by
  unfold iSetOwn; simp only [RS.wq, wpsb]; congr 1; funext xs st; split <;> simp [*, RS.wp]
@[simp] theorem wps_iOwnApp {i : Nat} {A : IE} : (iOwnApp i A ρ st).wq D .mk = match ownAt ρ i with | some xs => (A ρ st).wp (fun y st => xs.length < 100000 ∧ D.nx (ρ.set i (some (.own (xs ++ [y])))) st) (fun c fs st => D.ex c fs ρ st) | none => False := by
  unfold iOwnApp
  cases ownAt ρ i with
  | none => rfl
  | some xs => simp only [RS.wq, wpsb]; congr 1; funext y st; split <;> simp [*, RS.wp]
@[simp] theorem wps_iRetOwn {i : Nat} : (iRetOwn i ρ st).wq D .mk = match ownAt ρ i with | some xs => D.rt (.lst xs) st | none => False := by
  unfold iRetOwn; cases ownAt ρ i <;> rfl
@[simp] theorem wp_iOwnTup {i : Nat} : (iOwnTup i ρ st).wq P E .mk = match ownAt ρ i with | some xs => P (.tup xs) st | none => False := by
  unfold iOwnTup; cases ownAt ρ i <;> rfl
@[simp] theorem wp_iOwnLen {i : Nat} : (iOwnLen i ρ st).wq P E .mk = match ownAt ρ i with | some xs => P (.int xs.length) st | none => False := by
  unfold iOwnLen; cases ownAt ρ i <;> rfl
@[simp] theorem wp_iOwnIn {i : Nat} {neg : Bool} {A : IE} : (iOwnIn neg A i ρ st).wq P E .mk = match ownAt ρ i with | some xs => (A ρ st).wp (fun y st => (flatI y = true ∧ xs.all flatI = true) ∧ P (.bl (if neg then !inI y xs else inI y xs)) st) E | none => False := by
  unfold iOwnIn
  cases ownAt ρ i with
  | none => rfl
  | some xs =>
    simp only [R.wq, wpb]; congr 1; funext y st
    by_cases h : flatI y = true ∧ xs.all flatI = true
    · rw [if_pos h]; exact (propext ⟨fun z => ⟨h, z⟩, fun z => z.2⟩)
    · rw [if_neg h]; exact (propext ⟨fun z => z.elim, fun z => (h z.1).elim⟩)
@[simp] theorem wp_iOwnIx {i : Nat} {B : IE} : (iOwnIx i B ρ st).wq P E .mk = match ownAt ρ i with | some xs => (B ρ st).wp (fun y st => match y with | .int k => (match atI xs k with | some v => P v st | none => False) | _ => False) E | none => False := by
  unfold iOwnIx
  cases ownAt ρ i with
  | none => rfl
  | some xs =>
    simp only [R.wq, wpb]; congr 1; funext y st
    cases y with
    | int k => simp only; cases atI xs k <;> rfl
    | _ => rfl
@[simp] theorem wp_iMake {c : Str} {F : Fn} {As : IA} : (iMake c F As ρ st).wq P E .mk = (As ρ st).wp (fun args st => (F (.ref st.length :: args) (st ++ [.ins c []])).wp (fun v st' => v = .non ∧ P (.ref st.length) st') E) E := by
  unfold iMake
  simp only [R.wq, wpb]; congr 1; funext args s1; congr 1; funext v s2
  cases v <;> simp [R.wp]
@[simp] theorem wp_iMeth {c m : Str} {F : Fn} {A : IE} {As : IA} : (iMeth c m F A As ρ st).wq P E .mk = (A ρ st).wp (fun x st => match insAt st [c] x with
  | some (_, _, fs) => (fs.lookup m).isNone = true ∧ (As ρ st).wp (fun args st => (F (x :: args) st).wp P E) E
  | none => False) E := by
  unfold iMeth
  simp only [R.wq, wpb]; congr 1; funext x s1
  cases insAt s1 [c] x with
  | none => rfl
  | some p => simp only; split <;> simp [*, wpb, R.wp]
@[simp] theorem wp_iFld {cs : List Str} {f : Str} {A : IE} : (iFld cs f A ρ st).wq P E .mk = (A ρ st).wp (fun x st => match insAt st cs x with
  | some (_, _, fs) => (match fs.lookup f with | some v => P v st | none => False)
  | none => False) E := by
  unfold iFld
  simp only [R.wq, wpb]; congr 1; funext x s1
  cases insAt s1 cs x with
  | none => rfl
  | some p => simp only; cases p.2.2.lookup f <;> rfl
@[simp] theorem wps_iStFld {cs : List Str} {f : Str} {A B : IE} : (iStFld cs f A B ρ st).wq D .mk = (B ρ st).wp (fun y st => (A ρ st).wp (fun x st => match insAt st cs x with
  | some (l, c, fs) => fs.length < 1000 ∧ D.nx ρ (st.set l (.ins c (putI f y fs)))
  | none => False) (fun c fs st => D.ex c fs ρ st)) (fun c fs st => D.ex c fs ρ st) := by
  unfold iStFld
  simp only [RS.wq, wpsb, wpb]; congr 1; funext y s1; congr 1; funext x s2
  cases insAt s2 cs x with
  | none => rfl
  | some p => simp only; split <;> simp [*, R.wp, RS.wp]
theorem insAt_ref {l : Nat} {c : Str} {fs : List (Str × IV)} {cs : List Str} (h : st[l]? = some (.ins c fs)) (hc : c ∈ cs) : insAt st cs (.ref l) = some (l, c, fs) := by
  simp only [insAt, h, hc, if_true]
theorem hEnd_wp {i l : Nat} {r : RS} : (hEnd i l r).wp D = r.wp ⟨fun ρ st => D.nx (noExn (ρ.set i none)) (st.set l .dead), fun v st => D.rt v (st.set l .dead), fun ρ st => D.bk (noExn (ρ.set i none)) (st.set l .dead), fun ρ st => D.ct (noExn (ρ.set i none)) (st.set l .dead), fun _ _ _ _ => False⟩ := by
  cases r <;> rfl
@[simp] theorem wps_iTryAs {i : Nat} {M : Str → Option Bool} {B J : IS} : (iTryAs i M B J ρ st).wq D .mk = (B ρ st).wp { D with ex := fun c fs ρ1 st1 => match M c with
  | some true => (fs.isEmpty = false ∧ i < ρ1.length) ∧ (J ((noExn ρ1).set i (some (.exn st1.length))) (st1 ++ [.xd fs])).wp ⟨fun ρ st => D.nx (noExn (ρ.set i none)) (st.set st1.length .dead), fun v st => D.rt v (st.set st1.length .dead), fun ρ st => D.bk (noExn (ρ.set i none)) (st.set st1.length .dead), fun ρ st => D.ct (noExn (ρ.set i none)) (st.set st1.length .dead), fun _ _ _ _ => False⟩
  | some false => D.ex c fs ρ1 st1
  | none => False } := by
  unfold iTryAs RS.wq
  cases B ρ st with
  | exc c fs ρ1 st1 =>
    simp only
    show RS.wp _ _ = (match M c with | some true => _ | some false => _ | none => _ : Prop)
    cases M c with
    | none => rfl
    | some b =>
      cases b with
      | false => rfl
      | true =>
        simp only
        by_cases h : fs.isEmpty = true ∨ ¬ i < ρ1.length
        · rw [if_pos h]
          rcases h with h | h
          · simp [h, RS.wp]
          · simp [h, RS.wp]
        · rw [if_neg h, hEnd_wp]
          have h1 : fs.isEmpty = false := by cases q : fs.isEmpty with | false => rfl | true => exact absurd (.inl q) h
          have h2 : i < ρ1.length := Classical.byContradiction fun z => h (.inr z)
          simp [h1, h2]
  | _ => rfl
@[simp] theorem wp_iExf {i : Nat} {f : Str} : (iExf i f ρ st).wq P E .mk = match ρ[i]? with
  | some (some (.exn l)) => (match st[l]? with
    | some (.xd fs) => (match fs.lookup f with | some v => P v st | none => False)
    | _ => False)
  | _ => False := by
  unfold iExf
  cases ρ[i]? with
  | none => rfl
  | some o => cases o with
    | none => rfl
    | some s => cases s with
      | exn l =>
        simp only
        cases st[l]? with
        | none => rfl
        | some o => cases o with
          | xd fs => simp only; cases fs.lookup f <;> rfl
          | _ => rfl
      | _ => rfl
@[simp] theorem at0 {α : Type} {a : α} {r : List α} : atI (a :: r) 0 = some a := by
  unfold atI ixN
  rw [if_pos (by omega), if_pos (by rw [List.length_cons]; omega)]; rfl
@[simp] theorem at1 {α : Type} {a b : α} {r : List α} : atI (a :: b :: r) 1 = some b := by
  unfold atI ixN
  rw [if_pos (by omega), if_pos (by rw [List.length_cons, List.length_cons]; omega)]; rfl
theorem cut_ref {l : Nat} {xs : List IV} {lo hi : Option Int} (h : st[l]? = some (.lst xs)) : gCut (.ref l) lo hi st = .ok (.lst (cutI xs lo hi)) st := by
  simp [gCut, asL, h]
@[simp] theorem cut_l {xs : List IV} {lo hi : Option Int} : gCut (.lst xs) lo hi st = .ok (.lst (cutI xs lo hi)) st := nr rfl
@[simp] theorem cut_t {xs : List IV} {lo hi : Option Int} : gCut (.tup xs) lo hi st = .ok (.tup (cutI xs lo hi)) st := nr rfl
@[simp] theorem cut_s {x : Str} {lo hi : Option Int} : (gCut (.str x) lo hi st).wq P E .mk = (x.length ≤ 100000 ∧ P (.str (cutS x lo hi)) st) := by
  show R.wp (if _ then .ok _ _ else .bad) P E = _
  split <;> simp [*, R.wp]
theorem cutI_take {α : Type} {xs : List α} {k : Nat} (h : k ≤ xs.length) : cutI xs none (some (k : Int)) = xs.take k := by
  unfold cutI
  have e : HT.sIx xs.length 0 none = 0 := rfl
  have e2 : HT.sIx xs.length xs.length (some (k : Int)) = k := by
    simp only [HT.sIx]
    rw [if_neg (by omega)]; omega
  rw [e, e2, List.drop_zero, Nat.sub_zero]
end
/-- two clauses that change nothing -/
theorem lcO_pure {g : GI} {all : List IV} {vs vs1 : List Nat} {T T1 : ITg} {S S1 : IT} {I1 : IIt} {E : IE} {ρ : Slots} {st : Sto} (F : IV → List IV) (hg : gokB g st all = true) : ∀ {xs acc : List IV},
    (∀ x ∈ xs, ∃ ρ1 p, T x (wipeI ρ vs) st = .nx ρ1 st ∧ S ρ1 st = .ok true st ∧ I1 ρ1 st = .ok p st ∧ ∀ acc : List IV, acc.length + (F x).length ≤ 100000 → lcL p.2 p.1 vs1 T1 S1 E ρ1 p.1 0 acc st = .ok (acc ++ F x) st) →
    acc.length + (xs.flatMap F).length ≤ 100000 → lcO g all vs T S I1 vs1 T1 S1 E ρ xs acc st = .ok (acc ++ xs.flatMap F) st
  | [], acc, _, _ => by simp [lcO, hg]
  | x :: r, acc, h, hl => by
    rw [List.flatMap_cons, List.length_append] at hl
    obtain ⟨ρ1, p, e1, e2, e3, e4⟩ := h x List.mem_cons_self
    have ih := lcO_pure (g := g) (all := all) (vs := vs) (T := T) (S := S) (I1 := I1) (vs1 := vs1) (T1 := T1) (S1 := S1) (E := E) (ρ := ρ) F hg (xs := r) (acc := acc ++ F x) (fun y hy => h y (List.mem_cons_of_mem _ hy)) (by rw [List.length_append]; omega)
    rw [List.flatMap_cons, ← List.append_assoc, ← ih]
    simp only [lcO, hg, if_true, e1, e2, e3, R.noE, R.bind]
    rw [e4 acc (by omega)]
theorem wp_lcO {g : GI} {all xs acc : List IV} {vs vs1 : List Nat} {T T1 : ITg} {S S1 : IT} {I1 : IIt} {A : IE} {ρ : Slots} {st : Sto} {P : List IV → Sto → Prop} {E : Str → List (Str × IV) → Sto → Prop} (F : IV → List IV) (hg : gokB g st all = true)
    (h : ∀ x ∈ xs, ∃ ρ1 p, T x (wipeI ρ vs) st = .nx ρ1 st ∧ S ρ1 st = .ok true st ∧ I1 ρ1 st = .ok p st ∧ ∀ acc : List IV, acc.length + (F x).length ≤ 100000 → lcL p.2 p.1 vs1 T1 S1 A ρ1 p.1 0 acc st = .ok (acc ++ F x) st)
    (hl : acc.length + (xs.flatMap F).length ≤ 100000) (k : P (acc ++ xs.flatMap F) st) : (lcO g all vs T S I1 vs1 T1 S1 A ρ xs acc st).wp P E := by
  rw [lcO_pure F hg h hl]; exact k
theorem wp_lcO' {g : GI} {all xs acc : List IV} {vs vs1 : List Nat} {T T1 : ITg} {S S1 : IT} {I1 : IIt} {A : IE} {ρ : Slots} {st : Sto} {P : List IV → Sto → Prop} {E : Str → List (Str × IV) → Sto → Prop} (F : IV → List IV) (hg : gokB g st all = true)
    (h : ∀ x ∈ xs, (T x (wipeI ρ vs) st).wp ⟨fun ρ1 st1 => st1 = st ∧ (S ρ1 st).wp (fun b st2 => b = true ∧ st2 = st ∧ (I1 ρ1 st).wp (fun p st3 => st3 = st ∧ ∀ acc : List IV, acc.length + (F x).length ≤ 100000 → (lcL p.2 p.1 vs1 T1 S1 A ρ1 p.1 0 acc st).wp (fun ys st4 => st4 = st ∧ ys = acc ++ F x) nE) nE) nE,
      fun _ _ => False, fun _ _ => False, fun _ _ => False, fun _ _ _ _ => False⟩)
    (hl : acc.length + (xs.flatMap F).length ≤ 100000) (k : P (acc ++ xs.flatMap F) st) : (lcO g all vs T S I1 vs1 T1 S1 A ρ xs acc st).wp P E := by
  refine wp_lcO F hg (fun x hx => ?_) hl k
  have z := h x hx
  cases q : T x (wipeI ρ vs) st with
  | nx ρ1 st1 =>
    rw [q] at z
    obtain ⟨z1, z2⟩ : st1 = st ∧ _ := z
    subst z1
    obtain ⟨b, st2, e, e1, e2, z3⟩ := eq_of_wp z2
    subst e1 e2
    obtain ⟨p, st3, e3, e4, z4⟩ := eq_of_wp z3
    subst e4
    refine ⟨ρ1, p, rfl, e, e3, fun acc ha => ?_⟩
    obtain ⟨ys, st4, e5, e6, e7⟩ := eq_of_wp (z4 acc ha)
    subst e6 e7
    exact e5
  | _ => rw [q] at z; exact z.elim
end Mi
set_option Elab.async false
set_option linter.all false
set_option maxRecDepth 100000
set_option maxHeartbeats 4000000
namespace Mi
open PySem PySem.Spec PyProof.Rows L2
section
variable {P : IV → Sto → Prop} {E : Str → List (Str × IV) → Sto → Prop} {D : Post} {st : Sto} {ρ : Slots}
@[simp] theorem wps_iPar3 {i j l : Nat} {As : IA} : (iPar3 i j l As ρ st).wq D .mk = (As ρ st).wp (fun xs st => match xs with | [x, y, z] => D.nx (((ρ.set i (some (.v x))).set j (some (.v y))).set l (some (.v z))) st | _ => False) (fun c fs st => D.ex c fs ρ st) := by
  unfold iPar3; simp only [RS.wq, wpsb]; congr 1; funext xs st
  match xs with
  | [] => rfl
  | [_] => rfl
  | [_, _] => rfl
  | [_, _, _] => rfl
  | _ :: _ :: _ :: _ :: _ => rfl
@[simp] theorem wp_iFmt {A : IE} : (iFmt A ρ st).wq P E .mk = (A ρ st).wp (fun x st => match x with
  | .str y => y.length ≤ 100000 ∧ P (.str y) st
  | .int i => i.natAbs ≤ 10000000000000000000000000000000000000000000000000000000000000000 ∧ P (.str (toString i : String)) st
  | _ => False) E := by
  unfold iFmt; simp only [R.wq, wpb]; congr 1; funext x s1
  cases x with
  | str y => simp only; split <;> simp [*, R.wp]
  | int y => simp only; split <;> simp [*, R.wp]
  | _ => rfl
@[simp] theorem wp_iJs0 {acc : Str} : (iJs [] acc ρ st).wq P E .mk = P (.str acc) st := nr rfl
@[simp] theorem wp_iJs1 {A : IE} {As : List IE} {acc : Str} : (iJs (A :: As) acc ρ st).wq P E .mk = (A ρ st).wp (fun x st => match x with
  | .str y => (acc ++ y).length ≤ 100000 ∧ (iJs As (acc ++ y) ρ st).wp P E
  | _ => False) E := by
  rw [iJs]; simp only [R.wq, wpb]; congr 1; funext x s1
  cases x with
  | str y => simp only; split <;> simp [*, R.wp]
  | _ => rfl
@[simp] theorem wp_iSm {g : IV → List IV → Sto → R IV} {A : IE} {As : IA} : (iSm g A As ρ st).wq P E .mk = (A ρ st).wp (fun x st => match x with
  | .str y => (As ρ st).wp (fun xs st => (g (.str y) xs st).wp P E) E
  | _ => False) E := by
  unfold iSm; simp only [R.wq, wpb]; congr 1; funext x s1
  cases x with
  | str y => simp only [wpb]
  | _ => rfl
theorem strsOf_map : ∀ (ys : List Str), strsOf (ys.map IV.str) = some ys
  | [] => rfl
  | y :: ys => by rw [List.map_cons, strsOf, strsOf_map ys]; rfl
theorem join_l {a : Str} {ys : List Str} (h : (ys.map (·.length)).sum + ys.length * a.length ≤ 100000) : gJoin (.str a) [.lst (ys.map IV.str)] st = .ok (.str (Txt.join a ys)) st := by
  simp only [gJoin, asS_lst, Option.bind_some, strsOf_map, h, if_true]
@[simp] theorem en_zip_l {xs ys : List IV} : gZip [.lst xs, .lst ys] st = .ok (zipI xs ys, none) st := nr rfl
@[simp] theorem en_zip_t {xs ys : List IV} : gZip [.tup xs, .tup ys] st = .ok (zipI xs ys, none) st := nr rfl
@[simp] theorem wp_iIsC {L : List (Str × Bool)} {A : IE} : (iIsC L A ρ st).wq P E .mk = (A ρ st).wp (fun x st => match tyName st x with
  | some _ => P (.bl false) st
  | none => match (clsOf st x).bind fun c => L.lookup c with
    | some b => P (.bl b) st
    | none => False) E := by
  unfold iIsC; simp only [R.wq, wpb]; congr 1; funext x s1
  cases tyName s1 x with
  | some t => rfl
  | none =>
    simp only
    cases (clsOf s1 x).bind fun c => L.lookup c <;> rfl
theorem quiet_wp {r : R IV} {Q : IV → Sto → Prop} (h : r.wp Q nE) : (quiet r).wp Q E := by
  cases r with
  | ok a st => exact h
  | exc c fs st => exact h.elim
  | bad => exact h.elim
/-- own protocols, by what the method gives -/
theorem wp_has {neg : Bool} {c : Str} {F : Fn} {x y : IV} {p : Nat × Str × List (Str × IV)} (e : insAt st [c] y = some p) (h : (F [y, x] st).wp (fun v st' => ∃ b, v = .bl b ∧ P (.bl (neg != b)) st') nE) : (gOwnHas neg c F x y st).wp P E := by
  unfold gOwnHas
  rw [e]
  simp only [wpb]
  refine quiet_wp (wp_mono h fun v s1 z => ?_)
  obtain ⟨b, rfl, z⟩ := z
  exact z
theorem wp_own_eq {neg : Bool} {c : Str} {F : Fn} {x y : IV} {p : Nat × Str × List (Str × IV)} (e : insAt st [c] x = some p) (hy : (insAt st [c] y).isSome = true ∨ (tyName st y).isSome = true) (h : (F [x, y] st).wp (fun v st' => ∃ b, v = .bl b ∧ P (.bl (neg != b)) st') nE) : (gOwnEq neg c F x y st).wp P E := by
  unfold gOwnEq
  rw [e]
  simp only [if_pos hy, wpb]
  refine quiet_wp (wp_mono h fun v s1 z => ?_)
  obtain ⟨b, rfl, z⟩ := z
  exact z
theorem wp_own_len {c : Str} {F : Fn} {x : IV} {p : Nat × Str × List (Str × IV)} (e : insAt st [c] x = some p) (h : (F [x] st).wp (fun v st' => ∃ n : Int, v = .int n ∧ (0 ≤ n ∧ n < 9223372036854775808) ∧ P (.int n) st') nE) : (gOwnLenO c F [x] st).wp P E := by
  unfold gOwnLenO
  simp only [e, wpb]
  refine quiet_wp (wp_mono h fun v s1 z => ?_)
  obtain ⟨n, rfl, hn, z⟩ := z
  simp only [if_pos hn]
  exact z
theorem wp_own_str {c : Str} {F : Fn} {x : IV} {p : Nat × Str × List (Str × IV)} (e : insAt st [c] x = some p) (h : (F [x] st).wp (fun v st' => ∃ z : Str, v = .str z ∧ P (.str z) st') nE) : (gOwnStr c F [x] st).wp P E := by
  unfold gOwnStr
  simp only [e, wpb]
  refine quiet_wp (wp_mono h fun v s1 z => ?_)
  obtain ⟨n, rfl, z⟩ := z
  exact z
end
end Mi
set_option Elab.async false
set_option linter.all false
set_option maxRecDepth 100000
set_option maxHeartbeats 4000000
namespace Mi
open PySem PySem.Spec PyProof.Rows L2
/-! ### == of plain data -/
mutual
def pE : IV → IV → Bool
  | .non, .non => true
  | .bl a, .bl b => a == b
  | .bl a, .int j => (if a then 1 else 0) == j
  | .int i, .bl b => i == (if b then 1 else 0)
  | .int i, .int j => i == j
  | .str x, .str y => x == y
  | .lst xs, .lst ys => pEs xs ys
  | .tup xs, .tup ys => pEs xs ys
  | _, _ => false
def pEs : List IV → List IV → Bool
  | [], [] => true
  | x :: xs, y :: ys => pE x y && pEs xs ys
  | _, _ => false
end
mutual
theorem eqv_pE : ∀ (x y : IV) (d e : PyData), toD0 x = some d → toD0 y = some e → PyData.eqv d e = pE x y
  | .non, y, d, e, h1, h2 => by
    simp only [toD0] at h1; cases h1
    cases y <;> simp only [toD0, Option.map_eq_some_iff] at h2 <;> first | (cases h2; done) | (cases h2; simp only [PyData.eqv, pE]; done) | (obtain ⟨_, _, rfl⟩ := h2; simp only [PyData.eqv, pE])
  | .bl b, y, d, e, h1, h2 => by
    simp only [toD0] at h1; cases h1
    cases y <;> simp only [toD0, Option.map_eq_some_iff] at h2 <;> first | (cases h2; done) | (cases h2; simp only [PyData.eqv, pE]; done) | (obtain ⟨_, _, rfl⟩ := h2; simp only [PyData.eqv, pE])
  | .int b, y, d, e, h1, h2 => by
    simp only [toD0] at h1; cases h1
    cases y <;> simp only [toD0, Option.map_eq_some_iff] at h2 <;> first | (cases h2; done) | (cases h2; simp only [PyData.eqv, pE]; done) | (obtain ⟨_, _, rfl⟩ := h2; simp only [PyData.eqv, pE])
  | .str b, y, d, e, h1, h2 => by
    simp only [toD0] at h1; cases h1
    cases y <;> simp only [toD0, Option.map_eq_some_iff] at h2 <;> first | (cases h2; done) | (cases h2; simp only [PyData.eqv, pE]; done) | (obtain ⟨_, _, rfl⟩ := h2; simp only [PyData.eqv, pE])
  | .ty n, y, d, e, h1, h2 => by simp [toD0] at h1
  | .ref n, y, d, e, h1, h2 => by simp [toD0] at h1
  | .ptp n, y, d, e, h1, h2 => by simp [toD0] at h1
  | .tup xs, y, d, e, h1, h2 => by
    simp only [toD0, Option.map_eq_some_iff] at h1
    obtain ⟨ds, h1, rfl⟩ := h1
    cases y with
    | tup ys =>
      simp only [toD0, Option.map_eq_some_iff] at h2
      obtain ⟨es, h2, rfl⟩ := h2
      simp only [PyData.eqv, pE]
      exact eqvs_pE xs ys ds es h1 h2
    | _ => simp only [toD0, Option.map_eq_some_iff] at h2 <;> first | (cases h2; done) | (cases h2; simp only [PyData.eqv, pE]; done) | (obtain ⟨_, _, rfl⟩ := h2; simp only [PyData.eqv, pE])
  | .lst xs, y, d, e, h1, h2 => by
    simp only [toD0, Option.map_eq_some_iff] at h1
    obtain ⟨ds, h1, rfl⟩ := h1
    cases y with
    | lst ys =>
      simp only [toD0, Option.map_eq_some_iff] at h2
      obtain ⟨es, h2, rfl⟩ := h2
      simp only [PyData.eqv, pE]
      exact eqvs_pE xs ys ds es h1 h2
    | _ => simp only [toD0, Option.map_eq_some_iff] at h2 <;> first | (cases h2; done) | (cases h2; simp only [PyData.eqv, pE]; done) | (obtain ⟨_, _, rfl⟩ := h2; simp only [PyData.eqv, pE])
theorem eqvs_pE : ∀ (xs ys : List IV) (ds es : List PyData), toD0s xs = some ds → toD0s ys = some es → PyData.eqvAll ds es = pEs xs ys
  | [], ys, ds, es, h1, h2 => by
    simp only [toD0s] at h1; cases h1
    cases ys with
    | nil => simp only [toD0s] at h2; cases h2; simp only [PyData.eqvAll, pEs]
    | cons y ys =>
      simp only [toD0s, Option.bind_eq_some_iff, Option.map_eq_some_iff] at h2
      obtain ⟨_, _, _, _, rfl⟩ := h2
      simp only [PyData.eqvAll, pEs]
  | x :: xs, ys, ds, es, h1, h2 => by
    simp only [toD0s, Option.bind_eq_some_iff, Option.map_eq_some_iff] at h1
    obtain ⟨d, h3, ds', h4, rfl⟩ := h1
    cases ys with
    | nil => simp only [toD0s] at h2; cases h2; simp only [PyData.eqvAll, pEs]
    | cons y ys =>
      simp only [toD0s, Option.bind_eq_some_iff, Option.map_eq_some_iff] at h2
      obtain ⟨e, h5, es', h6, rfl⟩ := h2
      simp only [PyData.eqvAll, pEs]
      rw [eqv_pE x y d e h3 h5, eqvs_pE xs ys ds' es' h4 h6]
end
/-- what a value reads as -/
def rsv (st : Sto) : IV → IV
  | .ref l => match st[l]? with
    | some (.lst xs) => .lst xs
    | _ => .ref l
  | x => x
theorem toD_rsv {st : Sto} {x : IV} : toD st x = toD0 (rsv st x) := by
  cases x with
  | ref l =>
    unfold toD rsv
    cases h : st[l]? with
    | none => simp [h, toD0]
    | some o => cases o <;> simp [h, toD0]
  | _ => rfl
@[simp] theorem rsv_int {st : Sto} {i : Int} : rsv st (.int i) = .int i := nr rfl
@[simp] theorem rsv_str {st : Sto} {i : Str} : rsv st (.str i) = .str i := nr rfl
@[simp] theorem rsv_bl {st : Sto} {i : Bool} : rsv st (.bl i) = .bl i := nr rfl
@[simp] theorem rsv_non {st : Sto} : rsv st .non = .non := nr rfl
@[simp] theorem rsv_tup {st : Sto} {i : List IV} : rsv st (.tup i) = .tup i := nr rfl
@[simp] theorem rsv_lst {st : Sto} {i : List IV} : rsv st (.lst i) = .lst i := nr rfl
theorem rsv_ref {st : Sto} {l : Nat} {xs : List IV} (h : st[l]? = some (.lst xs)) : rsv st (.ref l) = .lst xs := by simp [rsv, h]
theorem eqB_pE {st : Sto} {n : Nat} {x y : IV} (hx : okV n (rsv st x) = true) (hy : okV n (rsv st y) = true) (hn : n ≤ 60) : eqB st x y = some (pE (rsv st x) (rsv st y)) := by
  obtain ⟨d, e1, D⟩ := okV_dat n _ hx
  obtain ⟨e, e2, D2⟩ := okV_dat n _ hy
  have key := eqv_pE _ _ _ _ e1 e2
  unfold eqB
  split
  · rename_i i j; simp only [rsv_int, pE]; first | done | rfl | (congr 1; by_cases h : i = j <;> simp [h])
  · rename_i i j; simp only [rsv_str, pE]; first | done | rfl | (congr 1; by_cases h : i = j <;> simp [h])
  · rw [toD_rsv, toD_rsv, e1, e2]
    simp [shaped_of D hn, shaped_of D2 hn, key]
theorem eq_pE {st : Sto} {n : Nat} {x y : IV} (hx : okV n (rsv st x) = true) (hy : okV n (rsv st y) = true) (hn : n ≤ 60) : gEq x y st = .ok (.bl (pE (rsv st x) (rsv st y))) st := by
  unfold gEq; rw [eqB_pE hx hy hn]
theorem ne_pE {st : Sto} {n : Nat} {x y : IV} (hx : okV n (rsv st x) = true) (hy : okV n (rsv st y) = true) (hn : n ≤ 60) : gNe x y st = .ok (.bl (!pE (rsv st x) (rsv st y))) st := by
  unfold gNe; rw [eqB_pE hx hy hn]
/-! data without truth values: == is = -/
mutual
def nb : IV → Bool
  | .non => true
  | .int _ => true
  | .str _ => true
  | .tup xs => nbs xs
  | .lst xs => nbs xs
  | _ => false
def nbs : List IV → Bool
  | [] => true
  | x :: xs => nb x && nbs xs
end
mutual
theorem pE_iff : ∀ (x y : IV), nb x = true → nb y = true → (pE x y = true ↔ x = y)
  | .non, y, h1, h2 => by cases y <;> simp_all [pE, nb]
  | .int i, y, h1, h2 => by cases y <;> simp_all [pE, nb]
  | .str i, y, h1, h2 => by cases y <;> simp_all [pE, nb]
  | .bl i, y, h1, h2 => by simp [nb] at h1
  | .ty i, y, h1, h2 => by simp [nb] at h1
  | .ref i, y, h1, h2 => by simp [nb] at h1
  | .ptp i, y, h1, h2 => by simp [nb] at h1
  | .tup xs, y, h1, h2 => by
    cases y with
    | tup ys =>
      simp only [pE, IV.tup.injEq]
      simp only [nb] at h1 h2
      exact pEs_iff xs ys h1 h2
    | _ => simp [pE]
  | .lst xs, y, h1, h2 => by
    cases y with
    | lst ys =>
      simp only [pE, IV.lst.injEq]
      simp only [nb] at h1 h2
      exact pEs_iff xs ys h1 h2
    | _ => simp [pE]
theorem pEs_iff : ∀ (xs ys : List IV), nbs xs = true → nbs ys = true → (pEs xs ys = true ↔ xs = ys)
  | [], ys, h1, h2 => by cases ys <;> simp [pEs]
  | x :: xs, [], h1, h2 => by simp [pEs]
  | x :: xs, y :: ys, h1, h2 => by
    simp only [nbs, Bool.and_eq_true] at h1 h2
    simp only [pEs, Bool.and_eq_true, List.cons.injEq]
    rw [pE_iff x y h1.1 h2.1, pEs_iff xs ys h1.2 h2.2]
end
theorem nbs_all : ∀ {xs : List IV}, nbs xs = xs.all nb
  | [] => by simp [nbs]
  | x :: xs => by simp only [nbs, List.all_cons]; rw [nbs_all]
theorem pE_self {n : Nat} {x : IV} (h : okV n x = true) : pE x x = true := by
  obtain ⟨d, e, D⟩ := okV_dat n x h
  rw [← eqv_pE _ _ _ _ e e]; exact D.self
theorem pE_false {x y : IV} (h1 : nb x = true) (h2 : nb y = true) (h : x ≠ y) : pE x y = false := by
  cases q : pE x y with
  | false => rfl
  | true => exact absurd ((pE_iff x y h1 h2).mp q) h
/-! more steps -/
section
variable {P : IV → Sto → Prop} {E : Str → List (Str × IV) → Sto → Prop} {D : Post} {st : Sto} {ρ : Slots}
@[simp] theorem op_add_l {x y : List IV} : (gAdd (.lst x) (.lst y) st).wq P E .mk = (x.length + y.length ≤ 100000 ∧ P (.lst (x ++ y)) st) := by
  show (if _ then R.ok _ _ else .bad : R IV).wp P E = _
  split <;> simp [*]
theorem add_ref_l {l : Nat} {xs ys : List IV} (h : st[l]? = some (.lst xs)) : (gAdd (.ref l) (.lst ys) st).wq P E .mk = (xs.length + ys.length ≤ 100000 ∧ P (.lst (xs ++ ys)) st) := by
  simp only [gAdd, asL, h, R.wq]
  split <;> simp [*, R.wp]
theorem add_l_ref {l : Nat} {xs ys : List IV} (h : st[l]? = some (.lst xs)) : (gAdd (.lst ys) (.ref l) st).wq P E .mk = (ys.length + xs.length ≤ 100000 ∧ P (.lst (ys ++ xs)) st) := by
  simp only [gAdd, asL, h, R.wq]
  split <;> simp [*, R.wp]
@[simp] theorem cl_listS_l {xs : List IV} : gListS [.lst xs] st = .ok (.ref st.length) (st ++ [.lst xs]) := nr rfl
@[simp] theorem cl_listS_t {xs : List IV} : gListS [.tup xs] st = .ok (.ref st.length) (st ++ [.lst xs]) := nr rfl
theorem listS_ref {l : Nat} {xs : List IV} (h : st[l]? = some (.lst xs)) : gListS [.ref l] st = .ok (.ref st.length) (st ++ [.lst xs]) := by
  simp [gListS, asS, asL, h]
theorem isi_ref {l : Nat} {xs : List IV} {b : String} (h : st[l]? = some (.lst xs)) (hb : b ∈ askT) : gIsi [.ref l, .ty b] st = .ok (.bl (isSubB "list" b)) st := by
  simp [gIsi, tyName, h, hb]
theorem popAt_ref {l : Nat} {xs : List IV} {i : Int} {v : IV} (h : st[l]? = some (.lst xs)) (h0 : 0 ≤ i) (h1 : i ≤ 1000000) (hv : xs[i.toNat]? = some v) : gPopAt (.ref l) [.int i] st = .ok v (st.set l (.lst (xs.eraseIdx i.toNat))) := by
  simp [gPopAt, h, h0, h1, hv]
end
end Mi
set_option Elab.async false
set_option linter.all false
set_option maxRecDepth 100000
set_option maxHeartbeats 4000000
namespace Mi
open PySem PySem.Spec PyProof.Rows L2
section
variable {X : Cx} {W : WX} {xa : Xa} {a b c e o : Expr} {A B C : IE} {pos p apos : Pos} {es : List Expr} {As : IA}
/-! ### tuples whose methods may be called -/
def rTupP (K : PySem.W.Frag) : List V → Hp → VK → Prop := fun xs H Q => ∃ p ys, xs = [.ref p] ∧ SqL K H p ys ∧ ∀ l o, H l = none → o.dict = none → Q (.ref l) (upd H l (.frz o (.tup ys)))
theorem call_tupP : CallR X (.type "tuple") (rTupP X.K) := by
  intro pins s σ H xs us Q I r h
  obtain ⟨p, ys, rfl, hq, q⟩ := h
  obtain ⟨u, rfl, rx⟩ := vals1 r
  cases rx
  obtain ⟨its, r', pl, hz⟩ := I.list hq
  have hlen := r'.length
  refine call_tuple_list pl.isList (fun h' kp => ?_) (by simp only [List.size_toArray] <;> omega)
  have I1 : Inv X pins σ H { s with heap := h' } := I.kept (t' := s.toks) kp
  have I2 : Inv X pins σ (upd H h'.objs.size (.frz { cls := .type "tuple", data := .seq its.toArray } (.tup ys))) { s with heap := h'.push { cls := .type "tuple", data := .seq its.toArray } } :=
    I1.laid (t' := s.toks) (fun b o e => Heap.get?_push_of_some _ e) (Nat.le_refl _) (show ObjOk X.prog X.w _ _ _ (.frz _ (.tup ys)) from ⟨Heap.get?_push_size _ rfl, hz, its, r', IsTup.new _ _⟩)
  exact ⟨.ref h'.objs.size, _, I2, rfl, q _ _ (I1.hok.fresh (Nat.le_refl _)) rfl⟩
def iOwnTupP (i : Nat) : IE := fun ρ st => match ownAt ρ i with | some xs => .ok (.ptp xs) st | none => .bad
theorem me_ownTupP {i : Nat} {y : Str} {p2 : Pos} (hv : PE X (.Name y p2) (tVar i)) (hg : Gl X "tuple") (hm : X.mg "tuple" = none) (hb : bootBuiltins "tuple" = some (.type "tuple")) : ME X W xa (.Call (.Name "tuple" p) [.Name y p2] [] pos) (iOwnTupP i) := by
  refine PE.weak (pe_callTy call_tupP hg hm hb (pa_cons hv pa_nil)) fun σ H Q h => ?_
  obtain ⟨m, os, rs, ρ, st, P, h⟩ := h
  unfold iOwnTupP at h
  split at h
  · rename_i xs e
    obtain ⟨d, vs, e1, hd, r, _⟩ := ownAt_re P e
    refine ⟨.ref d, e1, d, vs, rfl, .of hd, fun l o hl ho => ?_⟩
    refine h m _ (grow_new hl) (P.rel.new hl) (.ref l) ?_
    simp only [RV]
    exact ⟨l, vs, rfl, ⟨o, upd_same, ho, P.rel.fz hl⟩, RVs.fits (grow_new hl).fitsE _ _ r⟩
  · exact h.elim
def unP : IV → IV
  | .ptp xs => .tup xs
  | x => x
theorem unP_rv {G : Gd} {m bs : List Addr} {st : Sto} {H : Hp} {x : IV} {v : V} (r : RV G m bs st H x v) : RV G m bs st H (unP x) v := by
  cases x with
  | ptp xs =>
    simp only [RV, unP] at r ⊢
    obtain ⟨a, vs, e, ⟨o, h, d, f⟩, r⟩ := r
    exact ⟨a, vs, e, .inl ⟨.inr ⟨o, h⟩, f⟩, r⟩
  | _ => exact r
def iUn (A : IE) : IE := fun ρ st => (A ρ st).bind fun x st => .ok (unP x) st
theorem me_un (h : ME X W xa e A) : ME X W xa e (iUn A) := by
  refine PE.weak h fun σ H Q h => ?_
  obtain ⟨m, os, rs, ρ, st, P, h⟩ := h
  exact ⟨m, os, rs, ρ, st, P, h.bind.mono fun x m1 st1 H1 g1 R1 h1 u ru => h1.v R1 (unP_rv ru)⟩
/-- t.index(x): the first place -/
def gTix : IV → List IV → Sto → R IV
  | .ptp xs, [.str z], st => match (strsOf xs).bind fun ys => ys.findIdx? (fun y => decide (y = z)) with
    | some j => .ok (.int (j : Nat)) st
    | none => .bad
  | _, _, _ => .bad
def iTix (A B : IE) : IE := fun ρ st => (A ρ st).bind fun x st => match x with
  | .ptp xs => (B ρ st).bind fun y st => gTix (.ptp xs) [y] st
  | _ => .bad
def tBMP (r : V → List V → Hp → VK → Prop) (to : TE) (t : TA) : TE := fun σ H Q => to σ H fun x H1 => (∃ a o vs, x = .ref a ∧ H1 a = some (.frz o (.tup vs)) ∧ o.dict = none) ∧ t σ H1 fun xs H2 => r x xs H2 Q
theorem pe_bmP {to : TE} {t : TA} {name : Str} {cpos : Pos} {id : String} {r : V → List V → Hp → VK → Prop} (slot : Slot "tuple" name id) (hty : typeOf (.builtin id) = pure (.type "method_descriptor")) (hm : MtR X id r) (ho : PE X o to) (ha : PA X (e :: es) t)
    (hbase : attributeBase o name X.env (eval o X.env) = eval o X.env := by rfl)
    (hfew : ((backTo cpos (starEach (e :: es) X.env)).all (fun x => !x.1) && (backToKw cpos (keywordEach [] X.env)).all (fun x => x.1.isSome)
      && decide ((e :: es).length + ([] : List Keyword).length + (if ([] : List Keyword).isEmpty then 0 else 1) < 30)) = true := by rfl)
    (hline : (apos.endLine == cpos.line) = true := by rfl) (hs : starEach (e :: es) X.env = (false, eval e X.env) :: starEach es X.env := by rfl) (hplain : (backTo cpos (starEach es X.env)).any (·.1) = false := by rfl) :
    PE X (.Call (.Attribute o name apos) (e :: es) [] cpos) (tBMP r to t) := by
  refine ⟨fun pins s σ H Q I h => ?_⟩
  refine wpAny_Call_method_late hbase hfew hline rfl (thn (ho.run pins s σ H _ I h) fun v s1 ⟨x, H1, I1, r1, ⟨a, ob, vs, ex, hH, hd⟩, q1⟩ => ?_)
  subst ex
  obtain rfl : v = Value.ref a := r1
  obtain ⟨hg, _, its, _, o2, ho2, hc2, n, hdt⟩ := I1.hok a _ hH
  have hty' : s1.TypeIs (.ref a) "tuple" := ⟨o2, ho2, hc2⟩
  refine ⟨"tuple", id, PySem.F.plainAttrs_tuple, slot, hty, hty', fun b e => ?_, ?_⟩
  · cases e
    exact ⟨ob, hg, hd⟩
  · have hA := ha.run cpos pins s1 σ H1 _ I1 q1
    rw [hs] at hA ⊢
    refine Calls.callWith_builtin (by show (false || (backTo cpos (starEach es X.env)).any (·.1)) = false; rw [hplain] <;> rfl) (Calls.evalArgs_plain ?_)
    exact thn hA fun us s2 ⟨vs, H2, I2, r2, q2⟩ => hm pins s2 σ H2 (.ref a) vs (.ref a) us Q I2 rfl r2 q2
theorem me_tix (ho : ME X W xa o A) (he : ME X W xa e B)
    (hbase : attributeBase o "index" X.env (eval o X.env) = eval o X.env := by rfl)
    (hfew : ((backTo pos (starEach [e] X.env)).all (fun x => !x.1) && (backToKw pos (keywordEach [] X.env)).all (fun x => x.1.isSome)
      && decide ([e].length + ([] : List Keyword).length + (if ([] : List Keyword).isEmpty then 0 else 1) < 30)) = true := by rfl)
    (hline : (apos.endLine == pos.line) = true := by rfl) (hs : starEach [e] X.env = (false, eval e X.env) :: starEach [] X.env := by rfl) (hplain : (backTo pos (starEach [] X.env)).any (·.1) = false := by rfl) :
    ME X W xa (.Call (.Attribute o "index" apos) [e] [] pos) (iTix A B) := by
  refine PE.weak (pe_bmP PySem.F.slot_tuple_index PySem.F.type_tuple_index mt_tup_index ho (pa_cons he pa_nil hs) hbase hfew hline hs hplain) fun σ H Q h => ?_
  obtain ⟨m, os, rs, ρ, st, P, h⟩ := h
  refine ⟨m, os, rs, ρ, st, P, h.bind.mono fun x m1 st1 H1 g1 R1 h1 u ru => ?_⟩
  cases x with
  | ptp xs =>
    simp only [RV] at ru
    obtain ⟨a, vs, rfl, ⟨ob, hH, hd, fz⟩, rv⟩ := ru
    refine ⟨⟨a, ob, vs, rfl, hH, hd⟩, m1, os, rs, ρ, st1, P.grow g1 R1, ?_⟩
    refine h1.bind.mono fun y m2 st2 H2 g2 R2 h2 w rw' => ?_
    unfold gTix at h2
    split at h2
    · rename_i xs' z e1 e2
      cases e1
      cases e2
      simp only [RV] at rw'
      subst rw'
      split at h2
      · rename_i j hj
        rw [Option.bind_eq_some_iff] at hj
        obtain ⟨ys, e3, e4⟩ := hj
        have rv2 := RVs.fits g2.fitsE _ _ rv
        have ev := strsOf_rv e3 rv2
        have hH2 : H2 a = some (.frz ob (.tup vs)) := (g2.keep a _ hH fz.1 (by simp) nxf).1
        rw [List.findIdx?_eq_some_iff_getElem] at e4
        obtain ⟨hj1, hj2, hj3⟩ := e4
        refine ⟨a, ys, z, j, rfl, rfl, .inl (.inr ⟨ob, by rw [← ev]; exact hH2⟩), ?_, fun k hk => ?_, h2.v R2 (by simp only [RV])⟩
        · rw [List.getElem?_eq_getElem hj1]
          have := of_decide_eq_true hj2
          rw [this]
        · have hk2 : k < ys.length := by omega
          rw [List.getElem?_eq_getElem hk2]
          have := hj3 k hk
          intro z2
          have z3 := Option.some.inj z2
          exact this (decide_eq_true z3)
      · exact h2.elim
    · exact h2.elim
  | _ => exact h1.elim
/-! ### a text many times -/
def repS (x : Str) (n : Int) : Str := if n < 1 then Str.empty else if (n == 1 || x.length == 0) = true then x else ⟨(List.replicate n.toNat x.cps).foldl (· ++ ·) #[]⟩
theorem rep_size {a : Array Nat} : ∀ {m : Nat} {acc : Array Nat}, ((List.replicate m a).foldl (fun x1 x2 => x1 ++ x2) acc).size = acc.size + m * a.size
  | 0, acc => by simp
  | m + 1, acc => by
    rw [List.replicate_succ, List.foldl_cons, rep_size, Array.size_append, Nat.succ_mul]
    omega
def rMulS : R2 := fun x y H Q => ∃ z n, x = .str z ∧ y = .int n ∧ z.length ≤ 1000 ∧ 0 ≤ n ∧ n ≤ 1000 ∧ Q (.str (repS z n)) H
theorem op_mulS : OpR X (binaryOp .Mult) rMulS := by
  intro pins s σ H x y v u Q I rx ry h
  obtain ⟨z, n, rfl, rfl, hz, h0, h1, q⟩ := h
  obtain ⟨t, rfl⟩ := rx
  obtain ⟨t', rfl⟩ := ry
  have long : ¬ n < 1 → z.length * n.toNat ≤ 1000000 := fun _ => by
    have : z.length * n.toNat ≤ 1000 * 1000 := Nat.mul_le_mul hz (by omega)
    omega
  refine P.mul_str (by rw [decide_eq_false (by omega), decide_eq_false (by omega)]; rfl) (fun hn _ => ?_) (fun hn _ => ?_) ?_
  · have : (z.length : Int) ≤ 1000 := by omega
    have h2 : (9223372036854775807 : Int) / n ≥ 9223372036854775 := by
      have : (9223372036854775 : Int) * n ≤ 9223372036854775807 := by omega
      exact (Int.le_ediv_iff_mul_le (by omega)).mpr this
    have e : ((2 : Int) ^ 63 - 1) = 9223372036854775807 := by decide
    rw [e]; omega
  · have h3 : z.length * n.toNat ≤ sizeLine := Nat.le_trans (long hn) (by decide)
    exact decide_eq_false (by omega)
  · have fin : ∀ t2 tk, EP X pins σ Q (.str (repS z n) t2) { s with toks := tk } := fun t2 tk => ⟨.str (repS z n), H, I.tok _, ⟨_, rfl⟩, q⟩
    unfold repS at fin
    split
    · rename_i c
      rw [if_pos c] at fin
      exact ⟨by decide, fin _ _⟩
    · rename_i c
      rw [if_neg c] at fin
      split
      · rename_i c2
        rw [if_pos c2] at fin
        exact fin _ s.toks
      · rename_i c2
        rw [if_neg c2] at fin
        refine ⟨?_, fin _ _⟩
        show (List.foldl (fun x1 x2 => x1 ++ x2) #[] (List.replicate n.toNat z.cps)).size ≤ sizeLine
        rw [rep_size]
        have : (#[] : Array Nat).size = 0 := rfl
        have h3 : z.cps.size * n.toNat ≤ 1000000 := long (by omega)
        have h4 : (1000000 : Nat) ≤ sizeLine := by decide
        rw [Nat.mul_comm] at h3
        omega
def gMulS : IV → IV → Sto → R IV
  | .str z, .int n, st => if z.length ≤ 1000 ∧ 0 ≤ n ∧ n ≤ 1000 then .ok (.str (repS z n)) st else .bad
  | _, _, _ => .bad
theorem opm_mulS : OpM X (binaryOp .Mult) gMulS := by
  refine ⟨_, op_mulS, fun m bs st H x y x' y' Q W R rx ry h => ?_⟩
  unfold gMulS at h
  split at h
  · simp only [RV] at rx ry
    split at h
    · rename_i c
      exact ⟨_, _, rx, ry, c.1, c.2.1, c.2.2, h.v R (by simp only [RV])⟩
    · exact h.elim
  · exact h.elim
end
/-! ### C.m(e, ..), m a staticmethod -/
def SMethM (P : Program) (w : World) (K : PySem.W.Frag) (mg : Str → Option Value) (base : Heap) (c m : Str) (k n : Nat) (F : Fn) : Prop :=
  ∃ C f fd ps mc p, mg c = some (.ref C) ∧ ClX.CRead K C mc ∧ PySem.W.findCls K (.ref C) mc m = some (.get (.builtin "staticmethod.__get__") (.ref p) .none (.ref C)) ∧ (∃ rest, PySem.W.recIn K p "staticmethod" = some (.ref f :: rest)) ∧
    PySem.W.keepIn K (.ref f) = true ∧ Binds K fd ps [] ∧ FnOk P w K mg base (L2.CX P w) k f fd ps (spOf ⟨K, mg, P, w⟩ n F)
section
variable {X : Cx} {CX : CXT} {W : WX} {xa : Xa} {a b c e o : Expr} {A B : IE} {pos p np apos : Pos} {es : List Expr} {As : IA} {k n : Nat} {F : Fn} {x m : Str} {t : TA} {sp : Sp} {E : L2.St → XK}
theorem pe_smethS {C f q : Addr} {fd : FuncData} {ps : List Str} {mc : Value} {pl : Sem Bool} {rest : List Value} (hm : X.mg x = some (.ref C)) (hg : Gl X x) (r : ClX.CRead X.K C mc) (hfc : PySem.W.findCls X.K (.ref C) mc m = some (.get (.builtin "staticmethod.__get__") (.ref q) .none (.ref C)))
    (hrc : PySem.W.recIn X.K q "staticmethod" = some (.ref f :: rest)) (hk : PySem.W.keepIn X.K (.ref f) = true) (hb : Binds X.K fd ps []) (F : FnOk X.prog X.w X.K X.mg X.base CX k f fd ps sp) (hr : Room k X.A) (hx : ∀ σ, PassesAt CX X σ (E σ)) (ha : PA X (e :: es) t)
    (hd : (x == ("__debug__" : Str)) = false := by decide)
    (hst : starEach (e :: es) X.env = (false, eval e X.env) :: starEach es X.env := by rfl) (hpl : (backTo pos (starEach es X.env)).any (·.1) = false := by rfl)
    (ht : eval (.Call (.Attribute (.Name x np) m apos) (e :: es) [] pos) X.env = (do
      let ov ← eval (.Name x np) X.env
      standAt apos.atName
      let (f, first) ← holding [ov] (getMethod ov m pl)
      callWith pos f first (backTo pos (starEach (e :: es) X.env)) (backToKw pos (keywordEach [] X.env))) := by rfl) :
    PE X (.Call (.Attribute (.Name x np) m apos) (e :: es) [] pos) (tCallS sp E t) := by
  refine ⟨fun pins s σ H Q I h => ?_⟩
  refine PySem.W.methodCall_KW (pl := pl) (thn ((pe_glob (v := .ref C) hg hm rfl hd).run pins s σ H (fun v H' => v = .ref C ∧ H' = H) I ⟨rfl, rfl⟩) fun u s1 ⟨x1, H1, I1, rx, ex, eh⟩ => ?_) ht
  subst ex eh
  obtain rfl : u = Value.ref C := rx
  refine PySem.W.method_cls I1.kIn r.ga (PySem.W.cls_bind I1.kIn r.rd hfc (wpAny_call (PySem.W.sm_get (s := { s1 with toks := s1.toks + 1 }) I1.kIn hrc (PySem.W.handed_on rfl ?_))))
  refine PySem.W.callWith_K (h₀ := X.base) I.ok.mod.kin hk (thn (ha.run pos pins _ σ _ _ (I1.tok _) h) fun us s2 ⟨vs, H2, I2, rv, q2⟩ => ⟨I2.kIn, ?_⟩) hst hpl
  exact run_fnS F hr hb (hx σ) I2 rv q2
theorem me_smeth {pl : Sem Bool} (h : SMethM X.prog X.w X.K X.mg X.base x m k n F) (hr : Room k X.A) (tk : Takes X W) (hg : Gl X x) (ha : MA X W xa (e :: es) As)
    (hd : (x == ("__debug__" : Str)) = false := by decide)
    (hst : starEach (e :: es) X.env = (false, eval e X.env) :: starEach es X.env := by rfl) (hpl : (backTo pos (starEach es X.env)).any (·.1) = false := by rfl)
    (ht : eval (.Call (.Attribute (.Name x np) m apos) (e :: es) [] pos) X.env = (do
      let ov ← eval (.Name x np) X.env
      standAt apos.atName
      let (f, first) ← holding [ov] (getMethod ov m pl)
      callWith pos f first (backTo pos (starEach (e :: es) X.env)) (backToKw pos (keywordEach [] X.env))) := by rfl) :
    ME X W xa (.Call (.Attribute (.Name x np) m apos) (e :: es) [] pos) (iCall (arity n F) As) := by
  obtain ⟨C, f, fd, ps, mc, q, hm, r, hfc, ⟨rest, hrc⟩, hk, hb, hf⟩ := h
  refine PE.weak (pe_smethS hm hg r hfc hrc hk hb hf hr (E := fun σ cls d H => W cls d σ H) (fun σ => wish_of tk σ) ha hd hst hpl ht) fun σ H Q h => ?_
  obtain ⟨m, os, rs, ρ, st, P, h⟩ := h
  refine ⟨m, os, rs, ρ, st, P, h.bind.mono fun args m1 st1 H1 g1 R1 h1 vs rv => ?_⟩
  unfold arity at h1
  split at h1
  · rename_i hl
    exact ⟨by rw [← rv.length]; exact hl, m1, _, st1, args, R1, rv, h1⟩
  · exact h1.elim
end
end Mi
set_option Elab.async false
set_option linter.all false
set_option maxRecDepth 100000
set_option maxHeartbeats 4000000
namespace Mi
open PySem PySem.Spec PyProof.Rows L2
section
variable {P : IV → Sto → Prop} {E : Str → List (Str × IV) → Sto → Prop} {D : Post} {st : Sto} {ρ : Slots}
@[simp] theorem wp_iOwnTupP {i : Nat} : (iOwnTupP i ρ st).wq P E .mk = match ownAt ρ i with | some xs => P (.ptp xs) st | none => False := by
  unfold iOwnTupP; cases ownAt ρ i <;> rfl
@[simp] theorem wp_iUn {A : IE} : (iUn A ρ st).wq P E .mk = (A ρ st).wp (fun x st => P (unP x) st) E := by
  unfold iUn; simp only [R.wq, wpb, wpo]
@[simp] theorem unP_ptp {xs : List IV} : unP (.ptp xs) = .tup xs := nr rfl
@[simp] theorem unP_tup {xs : List IV} : unP (.tup xs) = .tup xs := nr rfl
@[simp] theorem wp_iTix {A B : IE} : (iTix A B ρ st).wq P E .mk = (A ρ st).wp (fun x st => match x with
  | .ptp xs => (B ρ st).wp (fun y st => (gTix (.ptp xs) [y] st).wp P E) E
  | _ => False) E := by
  unfold iTix; simp only [R.wq, wpb]; congr 1; funext x s1
  cases x with
  | ptp xs => simp only [wpb]
  | _ => rfl
theorem tix_ok {xs : List IV} {ys : List Str} {z : Str} {j : Nat} (h : xs = ys.map .str) (hj : ys.findIdx? (fun y => decide (y = z)) = some j) : gTix (.ptp xs) [.str z] st = .ok (.int (j : Nat)) st := by
  subst h
  simp only [gTix, strsOf_map, Option.bind_some, hj]
@[simp] theorem op_mulS_i {z : Str} {n : Int} : (gMulS (.str z) (.int n) st).wq P E .mk = ((z.length ≤ 1000 ∧ 0 ≤ n ∧ n ≤ 1000) ∧ P (.str (repS z n)) st) := by
  show R.wp (if _ then .ok _ _ else .bad) P E = _
  split <;> simp [*, R.wp]
@[simp] theorem cl_int_bl {b : Bool} : gInt [.bl b] st = .ok (.int (if b then 1 else 0)) st := nr rfl
theorem wp_forL_cons {all : List IV} {T : ITg} {B : IS} {x : IV} {r : List IV} (h : (T x ρ st).wp ⟨fun ρ1 st1 => (B ρ1 st1).wp ⟨fun ρ2 st2 => (forL none all T B r ρ2 st2).wp D, D.rt, D.nx, fun ρ2 st2 => (forL none all T B r ρ2 st2).wp D, D.ex⟩, fun _ _ => False, fun _ _ => False, fun _ _ => False, fun _ _ _ _ => False⟩) : (forL none all T B (x :: r) ρ st).wp D := by
  simp only [forL, gok_none, if_true]
  cases q : T x ρ st with
  | nx ρ1 st1 =>
    rw [q] at h
    have h : (B ρ1 st1).wp _ := h
    simp only
    cases q2 : B ρ1 st1 with
    | nx ρ2 st2 => rw [q2] at h; exact h
    | ct ρ2 st2 => rw [q2] at h; exact h
    | bk ρ2 st2 => rw [q2] at h; exact h
    | rt v st2 => rw [q2] at h; exact h
    | exc c fs ρ2 st2 => rw [q2] at h; exact h
    | bad => rw [q2] at h; exact h.elim
  | _ => rw [q] at h; exact h.elim
theorem wp_forL_nil {all : List IV} {T : ITg} {B : IS} (h : D.nx ρ st) : (forL none all T B [] ρ st).wp D := by
  simp only [forL, gok_none, if_true]; exact h
theorem wp_while {S : IT} {B : IS} (Inv : Nat → Slots → Sto → Prop) (step : ∀ k ρ st, Inv k ρ st → (S ρ st).wp (fun b st' => if b = true then ∃ k', k = k' + 1 ∧ (B ρ st').wp ⟨Inv k', D.rt, D.nx, Inv k', D.ex⟩ else D.nx ρ st') (fun c fs st => D.ex c fs ρ st)) :
    ∀ {n k : Nat} {ρ : Slots} {st : Sto}, k < n → Inv k ρ st → (iWhile n S B ρ st).wp D
  | 0, k, ρ, st, hk, _ => by omega
  | n + 1, k, ρ, st, hk, hi => by
    have h := step k ρ st hi
    unfold iWhile
    rw [whileN, wpsb]
    refine wp_mono h fun b s1 h1 => ?_
    cases b with
    | false => exact h1
    | true =>
      simp only [if_true] at h1 ⊢
      obtain ⟨k', rfl, h2⟩ := h1
      have next : ∀ ρ2 st2, Inv k' ρ2 st2 → (whileN S B n ρ2 st2).wp D := fun ρ2 st2 i2 => wp_while Inv step (n := n) (k := k') (by omega) i2
      cases q : B ρ s1 with
      | nx ρ2 st2 => rw [q] at h2; exact next _ _ h2
      | ct ρ2 st2 => rw [q] at h2; exact next _ _ h2
      | bk ρ2 st2 => rw [q] at h2; exact h2
      | rt v st2 => rw [q] at h2; exact h2
      | exc c fs ρ2 st2 => rw [q] at h2; exact h2
      | bad => rw [q] at h2; exact h2.elim
end
end Mi
set_option Elab.async false
set_option linter.all false
set_option maxRecDepth 100000
set_option maxHeartbeats 4000000
namespace Mi
open PySem PySem.Spec PyProof.Rows L2
/-! ### tokens, as lists of signs -/
def abcN : List Nat := ("abcdefghijklmnopqrstuvwxyz" : Str).cps.toList
def digN : List Nat := ("0123456789" : Str).cps.toList
def isL (c : Nat) : Bool := decide (c ∈ abcN)
def isD (c : Nat) : Bool := decide (c ∈ digN)
def pairsN : List (List Nat) := [[33, 61], [60, 61], [62, 61], [43, 61], [45, 61], [46, 46]]
def tokLen (l : List Nat) : Nat := match l with
  | [] => 1
  | c :: r => if isL c then ((c :: r).takeWhile isL).length else if isD c then ((c :: r).takeWhile isD).length else if ((c :: r).take 2) ∈ pairsN then 2 else 1
def lexN : Nat → List Nat → Nat → List (List Nat × Nat)
  | 0, _, _ => []
  | _ + 1, [], _ => []
  | n + 1, c :: r, off => (if c = 32 then [] else [((c :: r).take (tokLen (c :: r)), off)]) ++ lexN n ((c :: r).drop (tokLen (c :: r))) (off + tokLen (c :: r))
theorem isL_of {c : Nat} {r : List Nat} (h : isL c = true) : tokLen (c :: r) = ((c :: r).takeWhile isL).length := by simp only [tokLen, h, if_true]
theorem tokLen_pos {l : List Nat} : 1 ≤ tokLen l := by
  unfold tokLen
  split
  · exact Nat.le_refl _
  · rename_i c r
    split
    · rename_i h; simp [List.takeWhile_cons, h]
    · split
      · rename_i h; simp [List.takeWhile_cons, h]
      · split <;> omega
theorem tokLen_le {c : Nat} {r : List Nat} : tokLen (c :: r) ≤ (c :: r).length := by
  have tw : ∀ p : Nat → Bool, ((c :: r).takeWhile p).length ≤ (c :: r).length := fun p => (List.takeWhile_sublist p).length_le
  simp only [tokLen]
  split
  · exact tw _
  · split
    · exact tw _
    · split
      · rename_i h
        cases r with
        | nil =>
          simp only [List.take_succ_cons, List.take_nil, pairsN] at h
          simp at h
        | cons d r => simp only [List.length_cons]; omega
      · simp only [List.length_cons]; omega
theorem lexN_more : ∀ {n m : Nat} {l : List Nat} {off : Nat}, l.length ≤ n → l.length ≤ m → lexN n l off = lexN m l off
  | 0, 0, _, _, _, _ => rfl
  | 0, m + 1, [], _, _, _ => rfl
  | n + 1, 0, [], _, _, _ => rfl
  | n + 1, m + 1, [], _, _, _ => rfl
  | n + 1, m + 1, c :: r, off, h1, h2 => by
    have hp := tokLen_pos (l := c :: r)
    have hl := tokLen_le (c := c) (r := r)
    simp only [lexN]
    rw [lexN_more (n := n) (m := m)]
    · rw [List.length_drop]; simp only [List.length_cons] at h1 ⊢; omega
    · rw [List.length_drop]; simp only [List.length_cons] at h2 ⊢; omega
  | 0, m, c :: r, _, h, _ => by simp at h
  | n, 0, c :: r, _, _, h => by simp at h
/-! a text of tokens with blanks between -/
/-- the sign c may follow the token t at once -/
def mayFollow (t : List Nat) (c : Nat) : Bool := match t with
  | [] => false
  | d :: r => if isL d then !isL c else if isD d then !isD c else if r = [] then decide ([d, c] ∉ pairsN) else true
/-- a token -/
def tokOk (t : List Nat) : Bool := match t with
  | [] => false
  | d :: r => decide (d ≠ 32) && (if isL d then r.all isL else if isD d then r.all isD else (r.isEmpty || decide ((d :: r) ∈ pairsN)))
theorem takeWhile_app {p : Nat → Bool} {a b : List Nat} (ha : a.all p = true) (hb : ∀ c r, b = c :: r → p c = false) : (a ++ b).takeWhile p = a := by
  induction a with
  | nil =>
    cases b with
    | nil => rfl
    | cons c r => simp [List.takeWhile_cons, hb c r rfl]
  | cons x a ih =>
    rw [List.all_cons, Bool.and_eq_true] at ha
    rw [List.cons_append, List.takeWhile_cons, if_pos ha.1, ih ha.2]
theorem tokLen_app {t rest : List Nat} (ht : tokOk t = true) (hr : ∀ c r, rest = c :: r → mayFollow t c = true) : tokLen (t ++ rest) = t.length := by
  cases t with
  | nil => cases ht
  | cons d r =>
    simp only [tokOk, Bool.and_eq_true] at ht
    obtain ⟨_, ht⟩ := ht
    rw [List.cons_append]
    unfold tokLen
    simp only
    by_cases hL : isL d = true
    · rw [if_pos hL] at ht ⊢
      have e := takeWhile_app (p := isL) (a := d :: r) (b := rest) (by rw [List.all_cons, hL, ht]; rfl) fun c q e => by
        have := hr c q e
        simpa [mayFollow, hL] using this
      rw [List.cons_append] at e
      rw [e]
    · rw [if_neg hL] at ht ⊢
      by_cases hD : isD d = true
      · rw [if_pos hD] at ht ⊢
        have e := takeWhile_app (p := isD) (a := d :: r) (b := rest) (by rw [List.all_cons, hD, ht]; rfl) fun c q e => by
          have := hr c q e
          simpa [mayFollow, hL, hD] using this
        rw [List.cons_append] at e
        rw [e]
      · rw [if_neg hD] at ht ⊢
        cases r with
        | nil =>
          rw [List.nil_append]
          cases rest with
          | nil =>
            rw [if_neg (by simp [pairsN])]; rfl
          | cons c q =>
            have := hr c q rfl
            simp only [mayFollow, hL, hD, if_true] at this
            rw [if_neg (by
              have h2 := of_decide_eq_true (by simpa using this)
              simpa using h2)]
            rfl
        | cons c q =>
          have h2 : (d :: c :: q) ∈ pairsN := by simpa using ht
          have hq : q = [] := by
            simp only [pairsN, List.mem_cons, List.not_mem_nil, or_false] at h2
            rcases h2 with h2 | h2 | h2 | h2 | h2 | h2 <;> (injection h2 with _ h2; injection h2)
          subst hq
          rw [if_pos (by simpa using h2)]
          rfl
theorem tokLen_blank {rest : List Nat} : tokLen (32 :: rest) = 1 := by
  unfold tokLen
  simp only
  rw [if_neg (by decide +kernel), if_neg (by decide +kernel), if_neg]
  intro h
  cases rest with
  | nil => simp [pairsN] at h
  | cons c r => simp [pairsN] at h
def build : List (Nat × List Nat) → Nat → List Nat
  | [], ge => List.replicate ge 32
  | (g, t) :: r, ge => List.replicate g 32 ++ (t ++ build r ge)
def places : List (Nat × List Nat) → Nat → List (List Nat × Nat)
  | [], _ => []
  | (g, t) :: r, off => (t, off + g) :: places r (off + g + t.length)
/-- each is a token, and what stands next may follow -/
def fits : List (Nat × List Nat) → Bool
  | [] => true
  | [(_, t)] => tokOk t
  | (_, t) :: (g, u) :: r => tokOk t && (decide (1 ≤ g) || (match u with | [] => false | c :: _ => mayFollow t c)) && fits ((g, u) :: r)
theorem follow_blank {t : List Nat} (h : tokOk t = true) : mayFollow t 32 = true := by
  cases t with
  | nil => cases h
  | cons d r =>
    simp only [mayFollow]
    have h1 : isL 32 = false := by decide +kernel
    have h2 : isD 32 = false := by decide +kernel
    rw [h1, h2]
    split
    · rfl
    · split
      · rfl
      · split
        · simp [pairsN]
        · rfl
theorem lex_blanks : ∀ {g n : Nat} {rest : List Nat} {off : Nat}, lexN (n + g) (List.replicate g 32 ++ rest) off = lexN n rest (off + g)
  | 0, n, rest, off => by simp
  | g + 1, n, rest, off => by
    rw [List.replicate_succ, List.cons_append, ← Nat.add_assoc, lexN, tokLen_blank]
    simp only [if_true, List.nil_append, List.drop_succ_cons, List.drop_zero]
    rw [lex_blanks]
    congr 1
    omega
theorem lexN_ge : ∀ {n ge off : Nat}, lexN n (List.replicate ge 32) off = []
  | 0, _, _ => rfl
  | n + 1, 0, _ => rfl
  | n + 1, ge + 1, off => by
    rw [List.replicate_succ, lexN, tokLen_blank]
    simp only [if_true, List.nil_append, List.drop_succ_cons, List.drop_zero]
    exact lexN_ge
theorem lex_build : ∀ {its : List (Nat × List Nat)} {ge n off : Nat}, fits its = true → (build its ge).length ≤ n → lexN n (build its ge) off = places its off
  | [], ge, n, off, _, _ => lexN_ge
  | (g, t) :: r, ge, n, off, hf, hn => by
    have ht : tokOk t = true := by
      cases r with
      | nil => exact hf
      | cons p r => obtain ⟨g', u⟩ := p; simp only [fits, Bool.and_eq_true] at hf; exact hf.1.1
    have hr : fits r = true := by
      cases r with
      | nil => rfl
      | cons p r => obtain ⟨g', u⟩ := p; simp only [fits, Bool.and_eq_true] at hf; exact hf.2
    have hfo : ∀ c q, build r ge = c :: q → mayFollow t c = true := by
      intro c q e
      cases r with
      | nil =>
        simp only [build] at e
        cases ge with
        | zero => cases e
        | succ k => rw [List.replicate_succ] at e; injection e with e1 _; rw [← e1]; exact follow_blank ht
      | cons p r =>
        obtain ⟨g', u⟩ := p
        simp only [fits, Bool.and_eq_true] at hf
        have h2 := hf.1.2
        simp only [build] at e
        cases g' with
        | succ k => rw [List.replicate_succ, List.cons_append] at e; injection e with e1 _; rw [← e1]; exact follow_blank ht
        | zero =>
          cases u with
          | nil => simp at h2
          | cons d u =>
            simp only [List.replicate_zero, List.nil_append, List.cons_append] at e
            injection e with e1 _
            rw [← e1]
            simpa using h2
    have tl := tokLen_app ht hfo
    have lb : (build ((g, t) :: r) ge).length = g + (t.length + (build r ge).length) := by simp [build]
    rw [lb] at hn
    have tp : 1 ≤ t.length := by cases t with
      | nil => cases ht
      | cons d t => simp
    rw [show build ((g, t) :: r) ge = List.replicate g 32 ++ (t ++ build r ge) from rfl, show n = (n - g) + g by omega, lex_blanks]
    obtain ⟨k, hk⟩ : ∃ k, n - g = k + 1 := ⟨n - g - 1, by omega⟩
    rw [hk]
    cases t with
    | nil => cases ht
    | cons d t =>
      have hd : d ≠ 32 := by simp only [tokOk, Bool.and_eq_true, decide_eq_true_eq] at ht; exact ht.1
      rw [List.cons_append] at tl ⊢
      rw [lexN, tl, if_neg hd]
      have e1 : (d :: (t ++ build r ge)).take (d :: t).length = d :: t := by
        rw [← List.cons_append]; exact List.take_left
      have e2 : (d :: (t ++ build r ge)).drop (d :: t).length = build r ge := by
        rw [← List.cons_append]; exact List.drop_left
      rw [e1, e2, lex_build hr (by simp only [List.length_cons] at hn ⊢; omega)]
      rfl
end Mi
set_option Elab.async false
set_option linter.all false
set_option maxRecDepth 100000
set_option maxHeartbeats 4000000
namespace Mi
open PySem PySem.Spec PyProof.Rows L2
/-! ### targets of comprehensions: tuples in tuples -/
def TgPl (T : ITg) : Prop := ∀ x ρ st, match T x ρ st with | .nx _ st' => st' = st | _ => True
def TgsPl (T : ITgs) : Prop := ∀ x ρ st, match T x ρ st with | .nx _ st' => st' = st | _ => True
theorem tgspl_nil : TgsPl tgNil := fun x ρ st => by
  cases x with
  | nil => exact rfl
  | cons _ _ => exact trivial
theorem tgspl_cons {T : ITg} {Ts : ITgs} (h1 : TgPl T) (h2 : TgsPl Ts) : TgsPl (tgCons T Ts) := fun x ρ st => by
  cases x with
  | nil => exact trivial
  | cons x xs =>
    have h1' := h1 x ρ st
    simp only [tgCons]
    cases q : T x ρ st with
    | nx ρ1 st1 =>
      rw [q] at h1'
      have e : st1 = st := h1'
      rw [e]
      exact h2 xs ρ1 st
    | _ => exact trivial
theorem tgpl_tup {n : Nat} {Ts : ITgs} (h : TgsPl Ts) : TgPl (tgTup n Ts) := fun x ρ st => by
  cases x with
  | tup xs =>
    simp only [tgTup]
    by_cases c : xs.length = n
    · simp only [c, if_true]; exact h xs ρ st
    · simp only [c, if_false]
  | _ => exact trivial
def CTgs (G : Gd) (xa : Xa) (vs : List Nat) (g : TGs) (T : ITgs) : Prop :=
  ∀ (v : List V) (σ : L2.St) (H : Hp) (Q : L2.St → Hp → Prop) m os rs ρ st x, Pre G xa σ H m os rs ρ st → RVs G m (os ++ rs) st H x v →
    (∃ ρ' , T x ρ st = .nx ρ' st ∧ ∀ σ2, Pre G xa σ2 H m os rs ρ' st → wipe σ2 vs = wipe σ vs → Q σ2 H) → g v σ H Q
section
variable {G : Gd} {xa : Xa} {vs : List Nat} {g : TG} {gs : TGs} {T : ITg} {Ts : ITgs}
theorem ctgs_nil : CTgs G xa vs gNil tgNil := by
  intro v σ H Q m os rs ρ st xs P r h'
  obtain ⟨ρ', e, k⟩ := h'
  cases xs with
  | nil =>
    simp only [RVs] at r
    cases e
    exact ⟨r, k σ P rfl⟩
  | cons _ _ => cases e
theorem ctgs_cons (hp : TgPl T) (h1 : CTg G xa vs g T) (h2 : CTgs G xa vs gs Ts) : CTgs G xa vs (gCons g gs) (tgCons T Ts) := by
  intro v σ H Q m os rs ρ st xs P r h'
  obtain ⟨ρ', e, k⟩ := h'
  cases xs with
  | nil => cases e
  | cons x xs =>
    simp only [RVs] at r
    obtain ⟨u, t, ev, r1, r2⟩ := r
    simp only [tgCons] at e
    have hp1 := hp x ρ st
    cases q : T x ρ st with
    | nx ρ1 st1 =>
      rw [q] at e hp1
      have e1 : st1 = st := hp1
      rw [e1] at q
      rw [e1] at e
      exact ⟨u, t, ev, h1 u σ H _ m os rs ρ st x P r1 ⟨ρ1, q, fun σ2 P2 w2 => h2 t σ2 H Q m os rs ρ1 st xs P2 r2 ⟨ρ', e, fun σ3 P3 w3 => k σ3 P3 (w3.trans w2)⟩⟩⟩
    | _ => rw [q] at e; cases e
theorem ctg_tup {n : Nat} (h : CTgs G xa vs gs Ts) : CTg G xa vs (gTup G.K n gs) (tgTup n Ts) := by
  intro v σ H Q m os rs ρ st x P r h'
  obtain ⟨ρ', e, k⟩ := h'
  cases x with
  | tup xs =>
    simp only [tgTup] at e
    split at e
    · rename_i hl
      obtain ⟨p, ws, ep, hs, r2⟩ := asT_sq (x := .tup xs) rfl r
      exact ⟨p, ws, ep, hs, by rw [← r2.length]; exact hl, h ws σ H Q m os rs ρ st xs P r2 ⟨ρ', e, k⟩⟩
    · cases e
  | _ => cases e
end
/-! ### < , > , <= , >= of data -/
def nnD : PyData → Bool
  | .none => false
  | _ => true
theorem nnD_ne {d : PyData} (h : nnD d = true) : d ≠ .none := fun e => by rw [e] at h; cases h
def cmpB (f : PyData → PyData → Bool) (st : Sto) (x y : IV) : Option Bool := match toD st x, toD st y with
  | some d, some e => if PySem.W.alike d e = true ∧ d.depth ≤ 60 ∧ nnD d = true then some (f d e) else none
  | _, _ => none
def gCmpD (f : PyData → PyData → Bool) : IV → IV → Sto → R IV := fun x y st => match cmpB f st x y with
  | some b => .ok (.bl b) st
  | none => .bad
abbrev gLtD := gCmpD fun d e => PySem.W.dataLt d e
abbrev gGtD := gCmpD fun d e => PySem.W.dataLt e d
abbrev gLeD := gCmpD fun d e => !PySem.W.dataLt e d
abbrev gGeD := gCmpD fun d e => !PySem.W.dataLt d e
section
variable {X : Cx}
def rCmpD (K : PySem.W.Frag) (f : PyData → PyData → Bool) : R2 := fun x y H Q => ∃ d e, Dp K H x d ∧ Dp K H y e ∧ PySem.W.alike d e = true ∧ d.depth ≤ 60 ∧ d ≠ .none ∧ Q (.bl (f d e)) H
theorem opm_cmpD {op : CmpOp} {f : PyData → PyData → Bool} (h : OpR X (compareOp op) (rCmpD X.K f)) : OpM X (compareOp op) (gCmpD f) := by
  refine ⟨_, h, fun m bs st H x y x' y' Q W R rx ry h => ?_⟩
  unfold gCmpD at h
  split at h
  · rename_i b e
    unfold cmpB at e
    split at e
    · rename_i d e' h1 h2
      split at e
      · rename_i c
        cases e
        exact ⟨d, e', toD_dp R h1 rx, toD_dp R h2 ry, c.1, c.2.1, nnD_ne c.2.2, h.v R (by simp only [RV])⟩
      · cases e
    · cases e
  · exact h.elim
theorem opm_ltD (hu : X.A.units + 64 < cLine) : OpM X (compareOp .Lt) gLtD := opm_cmpD fun pins s σ H x y v u Q I rx ry h => by
  obtain ⟨d, e, hd, he, al, dd, nn, q⟩ := h
  obtain ⟨as, r1⟩ := Dp.reads I d x v hd rx
  obtain ⟨bs, r2⟩ := Dp.reads I e y u he ry
  exact PySem.W.lt_data r1 r2 al nn (by have := Nat.min_le_left d.depth e.depth; omega) ⟨.bl _, H, I, rfl, q⟩
theorem opm_gtD (hu : X.A.units + 64 < cLine) : OpM X (compareOp .Gt) gGtD := opm_cmpD fun pins s σ H x y v u Q I rx ry h => by
  obtain ⟨d, e, hd, he, al, dd, nn, q⟩ := h
  obtain ⟨as, r1⟩ := Dp.reads I d x v hd rx
  obtain ⟨bs, r2⟩ := Dp.reads I e y u he ry
  exact PySem.W.gt_data r1 r2 al nn (by have := Nat.min_le_left d.depth e.depth; omega) ⟨.bl _, H, I, rfl, q⟩
theorem opm_leD (hu : X.A.units + 64 < cLine) : OpM X (compareOp .LtE) gLeD := opm_cmpD fun pins s σ H x y v u Q I rx ry h => by
  obtain ⟨d, e, hd, he, al, dd, nn, q⟩ := h
  obtain ⟨as, r1⟩ := Dp.reads I d x v hd rx
  obtain ⟨bs, r2⟩ := Dp.reads I e y u he ry
  exact PySem.W.le_data r1 r2 al nn (by have := Nat.min_le_left d.depth e.depth; omega) ⟨.bl _, H, I, rfl, q⟩
theorem opm_geD (hu : X.A.units + 64 < cLine) : OpM X (compareOp .GtE) gGeD := opm_cmpD fun pins s σ H x y v u Q I rx ry h => by
  obtain ⟨d, e, hd, he, al, dd, nn, q⟩ := h
  obtain ⟨as, r1⟩ := Dp.reads I d x v hd rx
  obtain ⟨bs, r2⟩ := Dp.reads I e y u he ry
  exact PySem.W.ge_data r1 r2 al nn (by have := Nat.min_le_left d.depth e.depth; omega) ⟨.bl _, H, I, rfl, q⟩
/-! ### < , > , <= , >= of own objects of one class -/
def rOwnCmp (C : Addr) (sp : Sp) : R2 := fun x y H Q => ∃ a dx fs b dy gs, x = .ref a ∧ H a = some (.ins C dx fs) ∧ y = .ref b ∧ H b = some (.ins C dy gs) ∧ sp [x, y] H (fun v H' => ∃ b, v = .bl b ∧ Q (.bl b) H') (fun _ _ _ => False)
theorem opOwnCmp {op : CmpOp} {k : Nat} {f C : Addr} {fd : FuncData} {ps : List Str} {sp : Sp} (M : Meth X.K C (PySem.cmpInfo op).2.1 f) (F : FnOk X.prog X.w X.K X.mg X.base (L2.CX X.prog X.w) k f fd ps sp) (hb : Binds X.K fd ps []) (hr : Room k X.A) (hop : ∀ a b, compareOp op a b = richCompare op a b) : OpR X (compareOp op) (rOwnCmp C sp) := by
  intro pins s σ H x y v u Q I rx ry hq
  obtain ⟨a, dx, fs, b, dy, gs, rfl, ha, rfl, hb2, hs⟩ := hq
  cases rx
  cases ry
  obtain ⟨mA, J, _⟩ := ins_get I.hok ha
  obtain ⟨od, J, _⟩ := J.look
  obtain ⟨mB, J2, _⟩ := ins_get I.hok hb2
  obtain ⟨od2, J2, _⟩ := J2.look
  obtain ⟨m, hF⟩ := I.fr
  have run := own_run F hb ⟨hr, rfl⟩ I (us := [.ref a, .ref b]) (vs := [.ref a, .ref b]) (.cons rfl (.cons rfl .nil)) hs
  rw [hop]
  refine PySem.W.cmp_K (tb := .ref C) hr.units0 hF I.ok.mod.kin J J2.type (by simp [PySem.W.notFirst]) M.at_ M.fn (wpAny_mono run (fun r s' q => ?_) fun _ _ z => z)
  obtain ⟨z, H', I', rz, b, ez, q⟩ := q
  subst ez
  cases rz
  exact ⟨.bl b, H', I', rfl, q⟩
def gOwnCmp (c : Str) (F : Fn) : IV → IV → Sto → R IV := fun x y st => match insAt st [c] x, insAt st [c] y with
  | some _, some _ => (quiet (F [x, y] st)).bind (bl1 false)
  | _, _ => .bad
theorem opm_ownCmp {op : CmpOp} {c : Str} {k : Nat} {F : Fn} (h : MethM X.prog X.w X.K X.mg X.base c (PySem.cmpInfo op).2.1 k 2 F) (hr : Room k X.A) (hop : ∀ a b, compareOp op a b = richCompare op a b) : OpM X (compareOp op) (gOwnCmp c F) := by
  obtain ⟨C, f, fd, ps, hm, hC, hM, hb, hf⟩ := h
  refine ⟨_, opOwnCmp hM hf hb hr hop, fun m bs st H x y x' y' Q W R rx ry h => ?_⟩
  unfold gOwnCmp at h
  split at h
  · rename_i p q e1 e2
    obtain ⟨a, C', dx, gs, ev, h1, h2⟩ := ins_of R e1 rx
    obtain ⟨b, C2, dy, gy, ev2, h3, h4⟩ := ins_of R e2 ry
    have c1 : C' = C := by
      have h1' : X.mg c = some (.ref C') := h1
      rw [hm] at h1'; cases h1'; rfl
    have c2 : C2 = C := by
      have h1' : X.mg c = some (.ref C2) := h3
      rw [hm] at h1'; cases h1'; rfl
    rw [c1] at h2
    rw [c2] at h4
    refine ⟨a, dx, gs, b, dy, gy, ev, h2, ev2, h4, rfl, m, bs, st, [x, y], R, ?_, ?_⟩
    · simp only [RVs]
      exact ⟨x', [y'], rfl, rx, y', [], rfl, ry, rfl⟩
    · refine quiet_post (W := W) (h.bind.mono fun v m1 st1 H1 g1 R1 h1 u ru => ?_)
      cases v with
      | bl b =>
        simp only [RV] at ru
        exact ⟨b, ru, by have := h1.v R1 (v := .bl b) (by simp only [RV]; simp); simpa using this⟩
      | _ => exact h1.elim
  · exact h.elim
end
/-! ### a line that is never reached -/
def iBadS : IS := fun _ _ => .bad
theorem ms_bad {X : Cx} {W : WX} {xa : Xa} {s : Stmt} : MS X W xa s iBadS := ⟨by
  intros
  rename_i h
  obtain ⟨m, os, rs, ρ, st, P, h⟩ := h
  exact h.elim⟩
end Mi
set_option Elab.async false
set_option linter.all false
set_option maxRecDepth 100000
set_option maxHeartbeats 4000000
namespace Mi
open PySem PySem.Spec PyProof.Rows L2
/-! ### C(e, .., k = v, ..) with defaults -/
/-- constants that stand as defaults -/
inductive DC | non | bl (b : Bool) | int (i : Int) | str (s : Str)
def DC.v : DC → V
  | .non => .non
  | .bl b => .bl b
  | .int i => .int i
  | .str s => .str s
def DC.iv : DC → IV
  | .non => .non
  | .bl b => .bl b
  | .int i => .int i
  | .str s => .str s
theorem DC.rv {G : Gd} {m bs : List Addr} {st : Sto} {H : Hp} (d : DC) : RV G m bs st H d.iv d.v := by cases d <;> simp only [DC.iv, DC.v, RV]
def dcB : DC → Value → Bool
  | .non, .none => true
  | .bl b, .bool c => b == c
  | .int i, .int j _ => i == j
  | .str i, .str j _ => decide (i = j)
  | _, _ => false
theorem dcB_ok {d : DC} {u : Value} (h : dcB d u = true) : RelV d.v u := by
  unfold dcB at h
  split at h
  · rfl
  · have := beq_iff_eq.mp h; subst this; rfl
  · have := beq_iff_eq.mp h; subst this; exact ⟨_, rfl⟩
  · have := of_decide_eq_true h; subst this; exact ⟨_, rfl⟩
  · cases h
def dcsB : List DC → List Value → Bool
  | [], [] => true
  | d :: ds, u :: us => dcB d u && dcsB ds us
  | _, _ => false
theorem dcsB_ok : ∀ {ds : List DC} {us : List Value}, dcsB ds us = true → Vals (ds.map DC.v) us
  | [], [], _ => .nil
  | [], _ :: _, h => by cases h
  | _ :: _, [], h => by cases h
  | d :: ds, u :: us, h => by
    have h2 := Bool.and_eq_true_iff.mp (show (dcB d u && dcsB ds us) = true from h)
    exact .cons (dcB_ok h2.1) (dcsB_ok h2.2)
/-- where a parameter's value comes from -/
inductive DSrc | p (i : Nat) | k (i : Nat) | d (j : Nat)
def dpick {α : Type} (pl : List DSrc) (vs ds zs : List α) : List α := pl.filterMap fun | .p i => vs[i]? | .k i => zs[i]? | .d j => ds[j]?
theorem vals_at {vs : List V} {us : List Value} (r : Vals vs us) (i : Nat) : (vs[i]? = none ∧ us[i]? = none) ∨ ∃ v u, vs[i]? = some v ∧ us[i]? = some u ∧ RelV v u := by
  induction r generalizing i with
  | nil => exact .inl ⟨rfl, rfl⟩
  | cons h _ ih =>
    cases i with
    | zero => exact .inr ⟨_, _, rfl, rfl, h⟩
    | succ i => simpa using ih i
theorem dpick_vals {vs ds zs : List V} {us its ws : List Value} (r1 : Vals vs us) (r2 : Vals ds its) (r3 : Vals zs ws) : ∀ {pl : List DSrc}, Vals (dpick pl vs ds zs) (dpick pl us its ws)
  | [] => .nil
  | s :: pl => by
    have ih := dpick_vals r1 r2 r3 (pl := pl)
    unfold dpick at ih ⊢
    have key : ∀ {a : List V} {b : List Value} {i : Nat} {f : DSrc → Option V} {g : DSrc → Option Value}, Vals a b → f s = a[i]? → g s = b[i]? → Vals (pl.filterMap f) (pl.filterMap g) → Vals ((s :: pl).filterMap f) ((s :: pl).filterMap g) := fun {a b i f g} r ef eg h => by
      rcases vals_at r i with ⟨e1, e2⟩ | ⟨v, u, e1, e2, e3⟩
      · rw [List.filterMap_cons_none (ef.trans e1), List.filterMap_cons_none (eg.trans e2)]; exact h
      · rw [List.filterMap_cons_some (ef.trans e1), List.filterMap_cons_some (eg.trans e2)]; exact .cons e3 h
    cases s with
    | p i => exact key r1 rfl rfl ih
    | k i => exact key r3 rfl rfl ih
    | d i => exact key r2 rfl rfl ih
section
variable {G : Gd} {m bs : List Addr} {st : Sto} {H : Hp}
theorem rvs_at : ∀ {xs : List IV} {vs : List V}, RVs G m bs st H xs vs → ∀ i : Nat, (xs[i]? = none ∧ vs[i]? = none) ∨ ∃ x v, xs[i]? = some x ∧ vs[i]? = some v ∧ RV G m bs st H x v := by
  intro xs vs r i
  cases e : xs[i]? with
  | none =>
    refine .inl ⟨rfl, ?_⟩
    have := r.length
    rw [List.getElem?_eq_none_iff] at e ⊢
    omega
  | some x =>
    obtain ⟨v, e2, r2⟩ := r.get e
    exact .inr ⟨x, v, rfl, e2, r2⟩
theorem dcs_rvs : ∀ {ds : List DC}, RVs G m bs st H (ds.map DC.iv) (ds.map DC.v)
  | [] => by simp only [List.map_nil, RVs]
  | d :: ds => by
    simp only [List.map_cons, RVs]
    exact ⟨_, _, rfl, d.rv, dcs_rvs⟩
theorem dpick_rvs {xs ds zs : List IV} {vs dv ws : List V} (r1 : RVs G m bs st H xs vs) (r2 : RVs G m bs st H ds dv) (r3 : RVs G m bs st H zs ws) : ∀ {pl : List DSrc}, RVs G m bs st H (dpick pl xs ds zs) (dpick pl vs dv ws)
  | [] => by simp only [dpick, List.filterMap_nil, RVs]
  | s :: pl => by
    have ih := dpick_rvs r1 r2 r3 (pl := pl)
    unfold dpick at ih ⊢
    have key : ∀ {a : List IV} {b : List V} {i : Nat} {f : DSrc → Option IV} {g : DSrc → Option V}, RVs G m bs st H a b → f s = a[i]? → g s = b[i]? → RVs G m bs st H (pl.filterMap f) (pl.filterMap g) → RVs G m bs st H ((s :: pl).filterMap f) ((s :: pl).filterMap g) := fun {a b i f g} r ef eg h => by
      rcases rvs_at r i with ⟨e1, e2⟩ | ⟨v, u, e1, e2, e3⟩
      · rw [List.filterMap_cons_none (ef.trans e1), List.filterMap_cons_none (eg.trans e2)]; exact h
      · rw [List.filterMap_cons_some (ef.trans e1), List.filterMap_cons_some (eg.trans e2)]
        simp only [RVs]
        exact ⟨_, _, rfl, e3, h⟩
    cases s with
    | p i => exact key r1 rfl rfl ih
    | k i => exact key r3 rfl rfl ih
    | d i => exact key r2 rfl rfl ih
end
section
variable {X : Cx} {CX : CXT} {k n : Nat} {f C : Addr} {fd : FuncData} {ps ks : List Str} {sp : Sp} {E : L2.St → XK} {x : Str} {p pos : Pos} {e : Expr} {es : List Expr} {kws : List Keyword} {t tk : TA} {g : List Value → List Value → List Value} {gV : List V → List V → List V}
def tMakeNS (C : Addr) (n m : Nat) (sp : Sp) (gV : List V → List V → List V) (E : L2.St → XK) (t tk : TA) : TE := fun σ H Q => t σ H fun vs H1 => tk σ H1 fun zs H2 => vs.length = n ∧ zs.length = m ∧
  ∀ x dx, H2 x = none → H2 dx = none → dx ≠ x → sp (gV (.ref x :: vs) zs) (upd (upd H2 dx (.own x)) x (.ins C dx [])) (fun v H3 => v = .non ∧ Q (.ref x) H3) (E σ)
theorem run_makeNS {pins : List (Addr × Obj)} {σ : L2.St} {H : Hp} {s : Shared} {Q : VK} {us ws : List Value} {vs zs : List V} (M : Mk X.K C f) (F : FnOk X.prog X.w X.K X.mg X.base CX k f fd ps sp) (hr : Room (k + 1) X.A) (hb : KBn X.K fd ps (n + 1) ks g gV)
    (hx : PassesAt CX X σ (E σ)) (I : L2.Inv X pins σ H s) (r : Vals vs us) (rz : Vals zs ws) (l1 : vs.length = n) (l2 : zs.length = ks.length)
    (h : ∀ x dx, H x = none → H dx = none → dx ≠ x → sp (gV (.ref x :: vs) zs) (upd (upd H dx (.own x)) x (.ins C dx [])) (fun v H2 => v = .non ∧ Q (.ref x) H2) (E σ)) :
    wpAny (model X.prog X.w) X.A (call (.ref C) us (ks.zip ws)) (EP X pins σ Q) X.xe s := by
  have hq := h (s.heap.objs.size + 1) s.heap.objs.size (I.hok.fresh (Nat.le_succ _)) (I.hok.fresh (Nat.le_refl _)) (Nat.ne_of_lt (Nat.lt_succ_self _))
  have I2 := L2.Inv.made (C := C) I
  have r1 : Vals (V.ref (s.heap.objs.size + 1) :: vs) (Value.ref (s.heap.objs.size + 1) :: us) := .cons rfl r
  have r2 := hb.rel r1 rz
  have e1 : (Value.ref (s.heap.objs.size + 1) :: us).length = n + 1 := r1.length.symm.trans (congrArg Nat.succ l1)
  have e2 : ws.length = ks.length := rz.length.symm.trans l2
  refine wpAny_call (make_map (f := f) I.kIn M.makes M.init (beq_iff_eq.mp M.fn) (codeAny_mono (F.run _ X.stack _ _ ⟨Value.ref (s.heap.objs.size + 1) :: us, ks.zip ws⟩ (g (Value.ref (s.heap.objs.size + 1) :: us) ws) _ _ (E σ) (hr.make C us (ks.zip ws))
    (I2.env0.make C us (ks.zip ws)) (hb.to _ (Value.ref (s.heap.objs.size + 1) :: us) ws I2.kIn e1 e2) r2 hq) fun r s' hq' => ?_))
  cases r with
  | error e => exact hx pins _ _ e s' I2 hq'
  | ok fl =>
    cases fl with
    | ret u =>
      obtain ⟨v, H', I3, rv, ev, q3⟩ := I2.after hq'
      subst ev
      exact ⟨rv, ⟨V.ref (s.heap.objs.size + 1), H', I3, rfl, q3⟩⟩
    | next => exact False.elim hq'
    | brk => exact False.elim hq'
    | cont => exact False.elim hq'
theorem pe_makeNS (M : Mk X.K C f) (F : FnOk X.prog X.w X.K X.mg X.base CX k f fd ps sp) (hr : Room (k + 1) X.A) (hg : Gl X x) (hm : X.mg x = some (.ref C)) (hb : KBn X.K fd ps (n + 1) ks g gV) (hx : ∀ σ, PassesAt CX X σ (E σ)) (ha : PA X (e :: es) t) (hkw : PK X kws tk)
    (hall : (backToKw pos (keywordEach kws X.env)).all (·.1.isSome) = true := by rfl) (hks : (backToKw pos (keywordEach kws X.env)).filterMap (·.1) = ks := by rfl) (hdb : (x == ("__debug__" : Str)) = false := by decide)
    (he : starEach (e :: es) X.env = (false, eval e X.env) :: starEach es X.env := by rfl) (hpl : ((backTo pos (starEach (e :: es) X.env)).any (·.1) || (backToKw pos (keywordEach kws X.env)).any (·.1.isNone)) = false := by rfl) :
    PE X (.Call (.Name x p) (e :: es) kws pos) (tMakeNS C n ks.length sp gV E t tk) := by
  refine ⟨fun pins s σ H Q I h => ?_⟩
  refine wpAny_Call_Name_kw (ld_glob I hg hm ?_ hdb)
  refine PySem.W.callWith_KW (h₀ := X.base) I.ok.mod.kin M.kp hall (thn (ha.run pos pins s σ H _ I h) fun us s1 ⟨vs, H1, I1, r, q⟩ => ?_) hpl he
  refine thn (hkw.run pos pins s1 σ H1 _ I1 q) fun ws s2 ⟨zs, H2, I2, rz, l1, l2, q2⟩ => ⟨I2.kIn, ?_⟩
  rw [hks]
  exact run_makeNS M F hr hb (hx σ) I2 r rz l1 l2 q2
theorem pe_makeNS0 (M : Mk X.K C f) (F : FnOk X.prog X.w X.K X.mg X.base CX k f fd ps sp) (hr : Room (k + 1) X.A) (hg : Gl X x) (hm : X.mg x = some (.ref C)) (hb : KBn X.K fd ps 1 ks g gV) (hx : ∀ σ, PassesAt CX X σ (E σ)) (hkw : PK X kws tk)
    (hall : (backToKw pos (keywordEach kws X.env)).all (·.1.isSome) = true := by rfl) (hks : (backToKw pos (keywordEach kws X.env)).filterMap (·.1) = ks := by rfl) (hdb : (x == ("__debug__" : Str)) = false := by decide)
    (hpl : ((backTo pos (starEach [] X.env)).any (·.1) || (backToKw pos (keywordEach kws X.env)).any (·.1.isNone)) = false := by rfl) :
    PE X (.Call (.Name x p) [] kws pos) (tMakeNS C 0 ks.length sp gV E tNil tk) := by
  refine ⟨fun pins s σ H Q I h => ?_⟩
  refine wpAny_Call_Name_kw (ld_glob I hg hm ?_ hdb)
  refine PySem.W.callWith_KW0 (h₀ := X.base) I.ok.mod.kin M.kp hall ?_ hpl
  refine thn (hkw.run pos pins s σ H _ I h) fun ws s2 ⟨zs, H2, I2, rz, l1, l2, q2⟩ => ⟨I2.kIn, ?_⟩
  rw [hks]
  exact run_makeNS (us := []) (vs := []) M F hr hb (hx σ) I2 .nil rz rfl l2 q2
end
/-! keywords of the mirror -/
theorem PK.weak {X : Cx} {kws : List Keyword} {t t' : TA} (h : PK X kws t) (k : ∀ σ H Q, t' σ H Q → t σ H Q) : PK X kws t' := ⟨fun pos pins s σ H Q I q => h.run pos pins s σ H Q I (k σ H Q q)⟩
abbrev MK (X : Cx) (W : WX) (xa : Xa) (kws : List Keyword) (A : IA) : Prop := PK X kws (taOf (gd X) W xa A)
/-- a class whose __init__ has defaults -/
def MkDM (P : Program) (w : World) (K : PySem.W.Frag) (mg : Str → Option Value) (base : Heap) (c qual : Str) (st : Stmt) (k : Nat) (ps : List Str) (ds : List DC) (F : Fn) : Prop :=
  ∃ C f fd, mg c = some (.ref C) ∧ Mk K C f ∧ FunD K "__init__" qual (defArgs st) (defBody st) (defScope st) (ds.map DC.v) [] f fd ∧ FnOk P w K mg base (L2.CX P w) k f fd ps (spOf ⟨K, mg, P, w⟩ ps.length F)
/-- a def with defaults keeps its promise -/
theorem fn_okD {P : Program} {w : World} {K : PySem.W.Frag} {mg : Str → Option Value} {base : Heap} {x qual : Str} {st : Stmt} {f : Addr} {fd : FuncData} {N ps : List Str} {k j : Nat} {B : IS} {dvs : List V} (F : FunD K x qual (defArgs st) (defBody st) (defScope st) dvs [] f fd) (S : FnScope N ps (defScope st)) (hj : N.length - ps.length = j)
    (hb : ∀ (cdv : Value) (A : Around) (outer : List Env) (s : Shared) (H : Hp) (E : XK), Room k (A.deeper (envOfC qual (defScope st) s.heap.objs.size f cdv)) →
      MSs (cxOf (L2.CX P w) P w K mg base N qual (defScope st) f cdv A outer s H E) (fun cls d _ H => E cls d H) none (defBody st) B) : FnOk P w K mg base (L2.CX P w) (k + 1) f fd ps (spOf ⟨K, mg, P, w⟩ ps.length (fnOf j B)) := by
  refine F.ok S (fun vs H Q E h => h.1) (fun cdv A outer s H vs Q E hr h => ⟨_, hb cdv A outer s H E hr, ?_⟩)
  obtain ⟨hl, m, bs, st, args, R, r, h⟩ := h
  have P0 := re_start (k := j) (N := N) R r (by rw [hl, hj])
  show tsOf ⟨K, mg, P, w⟩ (fun cls d _ H => E cls d H) none B _ _ _
  refine ⟨m, [], bs, _, st, P0, ?_⟩
  unfold fnOf at h
  cases q : B (args.map (fun x => some (.v x)) ++ List.replicate j none) st with
  | nx ρ' st' =>
    rw [q] at h
    exact fun m' os' H' σ' g P' => h m' H' g.toE P'.rel.less .non (by simp only [RV])
  | rt v st' =>
    rw [q] at h
    exact fun m' os' H' u g R' ru => h m' H' g.toE R'.less u (RV.fits fits_less _ _ ru)
  | exc c fs ρ' st' =>
    rw [q] at h
    exact fun m' os' H' σ' cls d g P' x => h m' H' cls d g.toE P'.rel.less x.less
  | bk ρ' st' => rw [q] at h; exact h.elim
  | ct ρ' st' => rw [q] at h; exact h.elim
  | bad => rw [q] at h; exact h.elim
def iMakeD (c : Str) (F : Fn) (np n m : Nat) (pl : List DSrc) (ds : List DC) (As Ks : IA) : IE := fun ρ st => (As ρ st).bind fun args st1 => (Ks ρ st1).bind fun zs st2 => if args.length = n ∧ zs.length = m then
    (arity np F (dpick pl (.ref st2.length :: args) (ds.map DC.iv) zs) (st2 ++ [.ins c []])).bind fun v st' => match v with
      | .non => .ok (.ref st2.length) st'
      | _ => .bad
  else .bad
section
variable {X : Cx} {W : WX} {xa : Xa} {a b e o : Expr} {A B : IE} {pos p apos kpos : Pos} {es : List Expr} {kws : List Keyword} {As Ks : IA} {k n : Nat} {F : Fn} {c qual : Str} {st0 : Stmt} {ps ks : List Str} {ds : List DC} {pl : List DSrc}
theorem mk_nil : MK X W xa [] iNil := PK.weak pk_nil fun σ H Q h => by
  obtain ⟨m, os, rs, ρ, st, P, h⟩ := h
  exact h m H .refl P.rel [] (by simp only [RVs])
theorem md_weak {C : Addr} (hm : X.mg c = some (.ref C)) {σ : L2.St} {H : Hp} {Q : VK} (h : teOf (gd X) W xa (iMakeD c F ps.length n ks.length pl ds As Ks) σ H Q) :
    tMakeNS C n ks.length (spOf ⟨X.K, X.mg, X.prog, X.w⟩ ps.length F) (fun vs zs => dpick pl vs (ds.map DC.v) zs) (fun σ cls d H => W cls d σ H) (taOf (gd X) W xa As) (taOf (gd X) W xa Ks) σ H Q := by
  obtain ⟨m, os, rs, ρ, st, P, h⟩ := h
  refine ⟨m, os, rs, ρ, st, P, h.bind.mono fun args m1 st1 H1 g1 R1 h1 vs rv => ?_⟩
  refine ⟨m1, os, rs, ρ, st1, P.grow g1 R1, h1.bind.mono fun zs m2 st2 H2 g2 R2 h2 ws rz => ?_⟩
  split at h2
  · rename_i hl
    have rv2 := RVs.fits g2.fitsE _ _ rv
    refine ⟨by rw [← rv.length]; exact hl.1, by rw [← rz.length]; exact hl.2, fun x dx hx hdx ne => ?_⟩
    have hx2 : upd H2 dx (.own x) x = none := by rw [upd_ne (Ne.symm ne)]; exact hx
    have R3 : Rel (gd X) m2 (os ++ rs) st2 (upd H2 dx (.own x)) := R2.new hdx
    have g3 : GrowE m2 st2 H2 m2 st2 (upd H2 dx (.own x)) := grow_new hdx
    have g4 : GrowE m2 st2 (upd H2 dx (.own x)) (m2 ++ [x]) (st2 ++ [.ins c []]) (upd (upd H2 dx (.own x)) x (.ins C dx [])) := grow_live R3 hx2
    have R4 : Rel (gd X) (m2 ++ [x]) (os ++ rs) (st2 ++ [.ins c []]) (upd (upd H2 dx (.own x)) x (.ins C dx [])) := R3.live hx2 ⟨C, dx, [], hm, upd_same, rfl⟩
    have el : (m2 ++ [x])[st2.length]? = some x := by rw [← R2.len, List.getElem?_append_right (Nat.le_refl _)]; simp
    have h3 := h2.shift (g3.trans g4)
    unfold arity at h3
    split at h3
    · rename_i hl2
      have rA : RVs (gd X) (m2 ++ [x]) (os ++ rs) (st2 ++ [.ins c []]) (upd (upd H2 dx (.own x)) x (.ins C dx [])) (.ref st2.length :: args) (.ref x :: vs) := by
        simp only [RVs]
        exact ⟨.ref x, vs, rfl, by simp only [RV]; exact ⟨x, rfl, el⟩, RVs.fits (g3.trans g4).fitsE _ _ rv2⟩
      have rP := dpick_rvs (pl := pl) rA (dcs_rvs (ds := ds)) (RVs.fits (g3.trans g4).fitsE _ _ rz)
      refine ⟨by rw [← rP.length]; exact hl2, m2 ++ [x], _, st2 ++ [.ins c []], _, R4, rP, h3.bind.mono fun v m5 st5 H5 g5 R5 h5 u ru => ?_⟩
      cases v with
      | non =>
        simp only [RV] at ru
        refine ⟨ru, h5.v R5 ?_⟩
        simp only [RV]
        exact ⟨x, rfl, g5.at el⟩
      | _ => exact h5.elim
    · exact h3.elim
  · exact h2.elim
theorem mk_cons {nm : Option Str} (ha : ME X W xa a A) (hr : MK X W xa kws Ks) : MK X W xa (⟨nm, a, kpos⟩ :: kws) (iCons A Ks) := by
  refine PK.weak (pk_cons ha hr) fun σ H Q h => ?_
  obtain ⟨m, os, rs, ρ, st, P, h⟩ := h
  refine ⟨m, os, rs, ρ, st, P, h.bind.mono fun x m1 st1 H1 g1 R1 h1 x' rx => ⟨m1, os, rs, ρ, st1, P.grow g1 R1, h1.bind.mono fun xs m2 st2 H2 g2 R2 h2 xs' rxs => ?_⟩⟩
  refine h2.ok R2 _ ?_
  simp only [RVs]
  exact ⟨x', xs', rfl, RV.fits g2.fitsE _ _ rx, rxs⟩
abbrev BindD (qual : Str) (st0 : Stmt) (n : Nat) (ps ks : List Str) (ds : List DC) (pl : List DSrc) : Prop := ∀ (T : Addr) (kV doc pm : Value) (an : Option Addr) (cdv ct : Value) (us its ws : List Value), us.length = n + 1 → its.length = ds.length → ws.length = ks.length →
  ∃ kk, bindArgs (PySem.W.fnOf "__init__" qual (defArgs st0) (defBody st0) (defScope st0) (.ref T) kV doc pm an cdv ct) ⟨us, ks.zip ws⟩ = seqItems? (.ref T) >>= kk ∧ kk (some its.toArray) = pure (ps.zip (dpick pl us its ws))
theorem me_makeD (h : MkDM X.prog X.w X.K X.mg X.base c qual st0 k ps ds F) (hr : Room (k + 1) X.A) (tk : Takes X W) (hg : Gl X c) (ha : MA X W xa (e :: es) As) (hk : MK X W xa kws Ks) (hd : ds ≠ []) (hbd : BindD qual st0 n ps ks ds pl)
    (hall : (backToKw pos (keywordEach kws X.env)).all (·.1.isSome) = true := by rfl) (hks : (backToKw pos (keywordEach kws X.env)).filterMap (·.1) = ks := by rfl) (hdb : (c == ("__debug__" : Str)) = false := by decide)
    (he : starEach (e :: es) X.env = (false, eval e X.env) :: starEach es X.env := by rfl) (hpl : ((backTo pos (starEach (e :: es) X.env)).any (·.1) || (backToKw pos (keywordEach kws X.env)).any (·.1.isNone)) = false := by rfl) :
    ME X W xa (.Call (.Name c p) (e :: es) kws pos) (iMakeD c F ps.length n ks.length pl ds As Ks) := by
  obtain ⟨C, f, fd, hm, hM, FD, hf⟩ := h
  obtain ⟨its, hb⟩ := FD.kbindsD (n + 1) ks (fun us its ws => dpick pl us its ws) (fun z => hd (List.map_eq_nil_iff.mp z)) (fun r1 r2 r3 => dpick_vals r1 r2 r3) fun T kV doc pm an cdv ct us its ws l1 l2 l3 => hbd T kV doc pm an cdv ct us its ws l1 (by rw [l2, List.length_map]) l3
  exact PE.weak (pe_makeNS hM hf hr hg hm hb (E := fun σ cls d H => W cls d σ H) (fun σ => wish_of tk σ) ha hk hall hks hdb he hpl) fun σ H Q h => md_weak hm h
theorem me_makeD0 (h : MkDM X.prog X.w X.K X.mg X.base c qual st0 k ps ds F) (hr : Room (k + 1) X.A) (tk : Takes X W) (hg : Gl X c) (hk : MK X W xa kws Ks) (hd : ds ≠ []) (hbd : BindD qual st0 0 ps ks ds pl)
    (hall : (backToKw pos (keywordEach kws X.env)).all (·.1.isSome) = true := by rfl) (hks : (backToKw pos (keywordEach kws X.env)).filterMap (·.1) = ks := by rfl) (hdb : (c == ("__debug__" : Str)) = false := by decide)
    (hpl : ((backTo pos (starEach [] X.env)).any (·.1) || (backToKw pos (keywordEach kws X.env)).any (·.1.isNone)) = false := by rfl) :
    ME X W xa (.Call (.Name c p) [] kws pos) (iMakeD c F ps.length 0 ks.length pl ds iNil Ks) := by
  obtain ⟨C, f, fd, hm, hM, FD, hf⟩ := h
  obtain ⟨its, hb⟩ := FD.kbindsD 1 ks (fun us its ws => dpick pl us its ws) (fun z => hd (List.map_eq_nil_iff.mp z)) (fun r1 r2 r3 => dpick_vals r1 r2 r3) fun T kV doc pm an cdv ct us its ws l1 l2 l3 => hbd T kV doc pm an cdv ct us its ws l1 (by rw [l2, List.length_map]) l3
  refine PE.weak (pe_makeNS0 hM hf hr hg hm hb (E := fun σ cls d H => W cls d σ H) (fun σ => wish_of tk σ) hk hall hks hdb hpl) fun σ H Q h => ?_
  obtain ⟨m, os, rs, ρ, st, P, h⟩ := md_weak (As := iNil) hm h
  exact h m H .refl P.rel [] (by simp only [RVs])
theorem me_mkD {np mm : Nat} (hnp : ps.length = np) (hmm : ks.length = mm) (h : MkDM X.prog X.w X.K X.mg X.base c qual st0 k ps ds F) (hr : Room (k + 1) X.A) (tk : Takes X W) (hg : Gl X c) (ha : MA X W xa (e :: es) As) (hk : MK X W xa kws Ks) (hd : ds ≠ []) (hbd : BindD qual st0 n ps ks ds pl)
    (hall : (backToKw pos (keywordEach kws X.env)).all (·.1.isSome) = true := by rfl) (hks : (backToKw pos (keywordEach kws X.env)).filterMap (·.1) = ks := by rfl) (hdb : (c == ("__debug__" : Str)) = false := by decide)
    (he : starEach (e :: es) X.env = (false, eval e X.env) :: starEach es X.env := by rfl) (hpl : ((backTo pos (starEach (e :: es) X.env)).any (·.1) || (backToKw pos (keywordEach kws X.env)).any (·.1.isNone)) = false := by rfl) :
    ME X W xa (.Call (.Name c p) (e :: es) kws pos) (iMakeD c F np n mm pl ds As Ks) := by
  subst hnp hmm
  exact me_makeD h hr tk hg ha hk hd hbd hall hks hdb he hpl
theorem me_mkD0 {np mm : Nat} (hnp : ps.length = np) (hmm : ks.length = mm) (h : MkDM X.prog X.w X.K X.mg X.base c qual st0 k ps ds F) (hr : Room (k + 1) X.A) (tk : Takes X W) (hg : Gl X c) (hk : MK X W xa kws Ks) (hd : ds ≠ []) (hbd : BindD qual st0 0 ps ks ds pl)
    (hall : (backToKw pos (keywordEach kws X.env)).all (·.1.isSome) = true := by rfl) (hks : (backToKw pos (keywordEach kws X.env)).filterMap (·.1) = ks := by rfl) (hdb : (c == ("__debug__" : Str)) = false := by decide)
    (hpl : ((backTo pos (starEach [] X.env)).any (·.1) || (backToKw pos (keywordEach kws X.env)).any (·.1.isNone)) = false := by rfl) :
    ME X W xa (.Call (.Name c p) [] kws pos) (iMakeD c F np 0 mm pl ds iNil Ks) := by
  subst hnp hmm
  exact me_makeD0 h hr tk hg hk hd hbd hall hks hdb hpl
end

theorem fund_mk {K : PySem.W.Frag} {x qual : Str} {st : Stmt} {f T : Addr} {oc : Value} {od an : Option Addr} {osl : Array (Option Value)} {kV doc pm cdv ct : Value} {o : Obj} {ds : List DC} (l : K.lookup f = some ⟨oc, od, .func (PySem.W.fnOf x qual (defArgs st) (defBody st) (defScope st) (.ref T) kV doc pm an cdv ct), osl⟩)
    (c : PySem.W.codeIn K cdv qual = true) (k : PySem.W.keepIn K (.ref f) = true) (lT : K.lookup T = some o) (d : ∃ its n, o.data = .seq its n ∧ dcsB ds its.toList = true) (hd : ds ≠ []) : FunD K x qual (defArgs st) (defBody st) (defScope st) (ds.map DC.v) [] f (PySem.W.fnOf x qual (defArgs st) (defBody st) (defScope st) (.ref T) kV doc pm an cdv ct) := by
  obtain ⟨its, n, e, b⟩ := d
  exact ⟨⟨oc, od, _, kV, doc, pm, an, cdv, ct, osl, rfl, l, c, .inr ⟨fun z => hd (List.map_eq_nil_iff.mp z), T, o, its.toList, n, rfl, lT, by rw [e, Array.toArray_toList], dcsB_ok b⟩, .inl rfl⟩, k⟩
/-! ### a & b of own objects of one class -/
section
variable {X : Cx}
def rOwnBin (C : Addr) (sp : Sp) : R2 := fun x y H Q => ∃ a dx fs b dy gs, x = .ref a ∧ H a = some (.ins C dx fs) ∧ y = .ref b ∧ H b = some (.ins C dy gs) ∧ sp [x, y] H Q (fun _ _ _ => False)
theorem no_ni {v : V} {u : Value} (r : RelV v u) : u ≠ .notImplemented := by
  rintro rfl
  cases v <;> first | (cases r; done) | (obtain ⟨_, h⟩ := r; cases h; done) | (simp [RelV] at r; done)
theorem opOwnBin {op : Operator} {m : Str} {k : Nat} {f C : Addr} {fd : FuncData} {ps : List Str} {sp : Sp} (hm : PySem.dunder op.info.2 = m) (M : Meth X.K C m f) (sf : PySem.W.selfFirst X.K C = true) (F : FnOk X.prog X.w X.K X.mg X.base (L2.CX X.prog X.w) k f fd ps sp) (hb : Binds X.K fd ps []) (hr : Room k X.A) : OpR X (binaryOp op) (rOwnBin C sp) := by
  intro pins s σ H x y v u Q I rx ry hq
  obtain ⟨a, dx, fs, b, dy, gs, rfl, ha, rfl, hb2, hs⟩ := hq
  cases rx
  cases ry
  obtain ⟨mA, J, _⟩ := ins_get I.hok ha
  obtain ⟨od, J, _⟩ := J.look
  obtain ⟨mB, J2, _⟩ := ins_get I.hok hb2
  obtain ⟨od2, J2, _⟩ := J2.look
  obtain ⟨m', hF⟩ := I.fr
  have run := own_run F hb ⟨hr, rfl⟩ I (us := [.ref a, .ref b]) (vs := [.ref a, .ref b]) (.cons rfl (.cons rfl .nil)) hs
  refine PySem.W.binop_K hF I.ok.mod.kin J J2.type sf (by rw [hm]; exact M.at_) M.fn (wpAny_mono run (fun r s' q => ?_) fun _ _ z => z)
  have q0 := q
  obtain ⟨z, H', I', rz, q⟩ := q
  have nn := no_ni rz
  unfold PySem.W.CmpBack
  split
  · exact nn rfl
  · exact q0
def BinM (P : Program) (w : World) (K : PySem.W.Frag) (mg : Str → Option Value) (base : Heap) (c m : Str) (k : Nat) (F : Fn) : Prop := MethM P w K mg base c m k 2 F ∧ ∀ C, mg c = some (.ref C) → PySem.W.selfFirst K C = true
def gOwnBin (c : Str) (F : Fn) : IV → IV → Sto → R IV := fun x y st => match insAt st [c] x, insAt st [c] y with
  | some _, some _ => quiet (F [x, y] st)
  | _, _ => .bad
theorem opm_ownBin {op : Operator} {c m : Str} {k : Nat} {F : Fn} (hd : PySem.dunder op.info.2 = m) (h : BinM X.prog X.w X.K X.mg X.base c m k F) (hr : Room k X.A) : OpM X (binaryOp op) (gOwnBin c F) := by
  obtain ⟨⟨C, f, fd, ps, hm, hC, hM, hb, hf⟩, sf⟩ := h
  refine ⟨_, opOwnBin hd hM (sf C hm) hf hb hr, fun m bs st H x y x' y' Q W R rx ry h => ?_⟩
  unfold gOwnBin at h
  split at h
  · rename_i p q e1 e2
    obtain ⟨a, C', dx, gs, ev, h1, h2⟩ := ins_of R e1 rx
    obtain ⟨b, C2, dy, gy, ev2, h3, h4⟩ := ins_of R e2 ry
    have c1 : C' = C := by
      have h1' : X.mg c = some (.ref C') := h1
      rw [hm] at h1'; cases h1'; rfl
    have c2 : C2 = C := by
      have h1' : X.mg c = some (.ref C2) := h3
      rw [hm] at h1'; cases h1'; rfl
    rw [c1] at h2
    rw [c2] at h4
    refine ⟨a, dx, gs, b, dy, gy, ev, h2, ev2, h4, rfl, m, bs, st, [x, y], R, ?_, quiet_post (W := W) h⟩
    simp only [RVs]
    exact ⟨x', [y'], rfl, rx, y', [], rfl, ry, rfl⟩
  · exact h.elim
theorem dunder_and : PySem.dunder Operator.BitAnd.info.2 = "__and__" := by decide +kernel
end
end Mi
set_option Elab.async false
set_option linter.all false
set_option maxRecDepth 100000
set_option maxHeartbeats 4000000
/-! except C as n: a suite that raises out of the try -/
namespace Mi
open PySem PySem.Spec PyProof.Rows L2
section
variable {X : Cx} {pins : List (Addr × Obj)} {a0 : Addr} {oe0 : Obj} {i : Nat} {n : Str} {pos : Pos} {Wout : L2.WX} {R : Value → Shared → Prop} {E1 E2 : Value → Shared → Prop}
/-- the suite's context, with a wish of exceptions -/
abbrev suiteE (X : Cx) (a : Addr) (pn : List (Addr × Obj)) (xe : Value → Shared → Prop) : Cx := { X with A := X.A.mark (some (.ref a)), calm := false, pn := pn, xe := xe }
/-- what is raised in the suite: the clause's name goes, then the exception flies on -/
theorem suite_exc {xe : Value → Shared → Prop} {u : Value} {s' : Shared} (hs : X.stack = X.env :: X.outer) (hf : X.env.frame = some X.env.locals) (hex : X.ex = []) (hN : X.N.Nodup) (hi : X.N[i]? = some n) (hln : X.env.kindOf n = some .local) (ok : X.Ok)
    (k : ∀ u s8, L2.XE X Wout u s8 → R u s8) (xx : L2.XE (suiteE X a0 ((a0, oe0) :: (X.pn ++ pins)) xe) (fun cls d σ H => Wout cls d (σ.set i none) H) u s') :
    wpAny (model X.prog X.w) (X.A.mark (some (.ref a0))) (noteFrame u X.env) (fun _ s3 => wpAny (model X.prog X.w) (X.A.mark (some (.ref a0))) (do bindName X.env n .none; unbindBehindTheSuite X.env n pos)
      (fun _ s4 => wpAny (model X.prog X.w) (X.A.mark (some (.ref a0))) (passOn "try.except-as" u X.env : Sem Flow) (fun _ _ => False) R s4) E2 s3) E1 s' := by
  have hfr : (X.A.mark (some (.ref a0))).frames = some (X.env :: X.outer) := by show X.A.frames = _; rw [ok.frames, hs]
  obtain ⟨a, B, sI, pins', σ', H', cls, d, rfl, J', nb, up, sky, na, os, ag, w⟩ := xx
  have sky' : Sky B (X.env :: X.outer) a (Zc cls d) X.env.locals s'.heap := by rw [← hs]; exact sky
  have fin : ∀ h1, HandSPX.HeldZ B (X.env :: X.outer) a (Zc cls d) X.env.locals h1 → s'.heap.UpToSlots h1 → wpAny (model X.prog X.w) (X.A.mark (some (.ref a0))) (do bindName X.env n .none; unbindBehindTheSuite X.env n pos)
      (fun _ s4 => wpAny (model X.prog X.w) (X.A.mark (some (.ref a0))) (passOn "try.except-as" (.ref a) X.env : Sem Flow) (fun _ _ => False) R s4) E2 { s' with heap := h1 } := fun h1 hh1 up1 => by
    have J1 : L2.Inv (suiteE X a0 ((a0, oe0) :: (X.pn ++ pins)) xe) pins' σ' H' { s' with heap := h1 } := J'.landed nb hh1.1 (up.trans up1) os ag
    obtain ⟨_, hBa, ff, oe, vs, T, oT, ts, he, hz, hd, hv1, hBT, hTa, hT, hdT, ht3⟩ := id hh1
    have nT : H' T = none := (J'.inGround nb).gone hBT
    have offF : ∀ (b : Addr) (o : Obj) (fv : Array Value), h1.get? b = some o → o.data = .fields fv → b ∉ frs (X.env :: X.outer) := fun b o fv e dd hm => by
      obtain ⟨_, o', e', hnf⟩ := ff.mem hm
      cases Option.some.inj (e.symm.trans e')
      exact hnf _ dd
    have locF : X.env.locals ∈ frs (X.env :: X.outer) := List.mem_filterMap.mpr ⟨X.env, List.mem_cons_self, hf⟩
    have fsF : ∀ b, b ∈ X.fs → b ∈ frs (X.env :: X.outer) := fun b hm => by
      obtain ⟨e, he, q⟩ := List.mem_filterMap.mp hm
      exact List.mem_filterMap.mpr ⟨e, List.mem_cons_of_mem _ he, q⟩
    have fa := offF a oe vs he hd
    have fT := offF T oT ts hT hdT
    have pinO : ∀ (b : Addr) (o : Obj) (fv : Array Value), h1.get? b = some o → o.data = .fields fv → H' b = none → b ∉ frs (X.env :: X.outer) → h1.get? b = some o ∧ H' b = none ∧ b ≠ X.env.locals ∧ b ∉ X.fs ∧ ∀ v, o.data ≠ .cell v := fun b o fv e dd nb fb =>
      ⟨e, nb, fun z => fb (by rw [z]; exact locF), fun z => fb (fsF _ z), fun v z => by rw [dd] at z; cases z⟩
    have S1 : L2.Inv (X.suite a0 ((a, oe) :: (T, oT) :: (a0, oe0) :: (X.pn ++ pins))) [] σ' H' { s' with heap := h1 } :=
      ⟨ok.suite _ _, J1.os, J1.bare, J1.base, J1.loc, J1.cell, J1.free, J1.freeC, fun p hp => by
        rw [List.append_nil] at hp
        rcases List.mem_cons.mp hp with z | hp
        · rw [z]; exact pinO a oe vs he hd na fa
        · rcases List.mem_cons.mp hp with z | hp
          · rw [z]; exact pinO T oT ts hT hdT nT fT
          · exact J1.pin p (List.mem_append_left _ hp), J1.hok, J1.len⟩
    refine gone_ok (X := X.suite a0 ((a, oe) :: (T, oT) :: (a0, oe0) :: (X.pn ++ pins))) S1 hN hi hln fun s7 S7 => ?_
    have J7 : L2.Inv X pins (σ'.set i none) H' s7 := ⟨ok, S7.os, S7.bare, S7.base, S7.loc, S7.cell, S7.free, S7.freeC, fun p hp => S7.pin p (List.mem_append_left _ (List.mem_cons_of_mem _ (List.mem_cons_of_mem _ (List.mem_cons_of_mem _ hp)))), S7.hok, S7.len⟩
    have pa := S7.pin (a, oe) (List.mem_append_left _ List.mem_cons_self)
    have pT := S7.pin (T, oT) (List.mem_append_left _ (List.mem_cons_of_mem _ List.mem_cons_self))
    have ga : s7.heap.get? a = some oe := pa.1
    have gT : s7.heap.get? T = some oT := pT.1
    have far : ∀ b o, sI.heap.get? b = some o → b ≠ a ∧ b ≠ T := fun b o e => by
      by_cases hb : b ∈ frs X.stack
      · rw [hs] at hb
        exact ⟨fun z => fa (z ▸ hb), fun z => fT (z ▸ hb)⟩
      · have q := nb b o e hb
        have qa : b = a → False := fun z => by
          rw [z, hBa] at q
          cases q
        have qT : b = T → False := fun z => by
          rw [z, hBT] at q
          cases q
        exact ⟨qa, qT⟩
    have far0 : ∀ b o, X.s_0.heap.get? b = some o → b ≠ a ∧ b ≠ T := fun b o e => by
      obtain ⟨o', q⟩ := J'.base.there b o e (by show b ∉ X.ex; rw [hex]; simp)
      exact far b o' q
    have farP : ∀ p ∈ X.pn ++ pins, p.1 ≠ a ∧ p.1 ≠ T := fun p hp => far p.1 p.2 (J'.pin p (List.mem_append_left _ (List.mem_cons_of_mem _ hp))).1
    obtain ⟨G, g1, g2⟩ := restrict s7.heap fun b => !(decide (b = a) || decide (b = T))
    have gIn : ∀ b o, G.get? b = some o → s7.heap.get? b = some o ∧ b ≠ a ∧ b ≠ T := fun b o e => by
      cases q : (!(decide (b = a) || decide (b = T))) with
      | false => rw [g2 b q] at e; cases e
      | true =>
        rw [g1 b q] at e
        simp only [Bool.not_eq_true', Bool.or_eq_false_iff, decide_eq_false_iff_not] at q
        exact ⟨e, q.1, q.2⟩
    have gOf : ∀ b o, b ≠ a → b ≠ T → s7.heap.get? b = some o → G.get? b = some o := fun b o h1 h2 e => by rw [g1 b (by simp [h1, h2])]; exact e
    have I7 : L2.Inv X pins (σ'.set i none) H' { s7 with heap := G } := J7.less (fun b o e => (gIn b o e).1) gOf ⟨oe, vs, ga, hd⟩ ⟨oT, ts, gT, hdT⟩ na nT far0 farP
    have hid : ∀ b o, (PySem.W.hideAll G (frs X.stack)).get? b = some o → s7.heap.get? b = some o ∧ b ≠ a ∧ b ≠ T := fun b o e => gIn b o (PySem.W.of_hideAll _ e)
    have hno : ∀ b, (b = a ∨ b = T) → (PySem.W.hideAll G (frs X.stack)).get? b = none := fun b hb => by
      cases q : (PySem.W.hideAll G (frs X.stack)).get? b with
      | none => rfl
      | some o =>
        have z := hid b o q
        rcases hb with y | y
        · exact absurd y z.2.1
        · exact absurd y z.2.2
    have ff7 : s7.heap.FunFrames (PySem.W.hideAll G (frs X.stack)) (X.env :: X.outer) := by
      have q := funFrames_none (B := PySem.W.hideAll G (frs X.stack)) J7.stack fun b hb => PySem.W.hideAll_none _ hb
      rw [← hs]
      exact q
    unfold PySem.passOn
    refine wpAny_bind (wpAny_field ga hd hv1 ?_)
    rw [if_neg (show ¬ ((Value.ref T == Value.none) = true) from by simp)]
    have go : wpAny (model X.prog X.w) (X.A.mark (some (.ref a0))) (setFlight (.ref a) X.env.frame) (fun _ s8 => wpAny (model X.prog X.w) (X.A.mark (some (.ref a0))) (throw (.ref a) : Sem Flow) (fun _ _ => False) R s8) R s7 := by
      rw [hf]
      refine HandSPX.setFlight_anyZ (base := PySem.W.hideAll G (frs X.stack)) (l := X.env :: X.outer) (Z := Zc cls d) (fun b o e => (hid b o e).1) ff7 ⟨oe, vs, T, oT, ts, ga, hz, hd, hv1, hno T (.inr rfl), hTa, gT, hdT, ht3⟩ fun h8 k1 k2 k3 k4 => wpAny_throw (k _ _ ?_)
      refine ⟨a, PySem.W.hideAll G (frs X.stack), { s7 with heap := G }, pins, σ'.set i none, H', cls, d, rfl, I7, fun b o e hb => PySem.W.hideAll_get _ e hb, ?_, ?_, na, rfl, J7.bare, w⟩
      · exact Heap.UpToSlots.trans (Heap.UpToSlots.of_keeps fun b o e => (gIn b o e).1) k4
      · have held : HandSPX.HeldZ (PySem.W.hideAll G (frs X.stack)) (X.env :: X.outer) a (Zc cls d) X.env.locals h8 := ⟨k1, hno a (.inl rfl), k2, k3⟩
        rw [← hs] at held
        exact .inr (.inr held)
    first
      | exact wpAny_bind (wpAny_pure (wpAny_bind go))
      | exact wpAny_bind go
  rcases sky' with ⟨hB, hn, hl, oe, vs, he0, hz, hd, hv1⟩ | fl | hh
  · exact HandSPX.look_newZ Zc.steady hfr hl hf he0 hB hn hd hv1 hz fin
  · exact HandSPX.looks_onZ Zc.steady hfr hf fl fin
  · exact HandSPX.againZ hf hh.2.2.2 (fin s'.heap hh (Heap.UpToSlots.refl _))
end
/-! the try -/
section
variable {X : Cx} {x n : Str} {c : Value} {i : Nat} {body suite : List Stmt} {b₀ : Stmt} {np pos pos' : Pos} {tb : L2.WX → TS} {ts : Addr → Value → Option Addr → TS} {Wout : L2.WX}
abbrev wGone (i : Nat) (W : L2.WX) : L2.WX := fun cls d σ H => W cls d (σ.set i none) H
theorem ps_try_asX (hs : X.stack = X.env :: X.outer) (hf : X.env.frame = some X.env.locals) (hex : X.ex = []) (hN : X.N.Nodup) (hi : X.N[i]? = some n) (hln : X.env.kindOf n = some .local) (hc : Names X x c) (tk : L2.Takes X Wout)
    (hpa : ∀ hd : Option Value, PassesOwnAt (model X.prog X.w) (X.A.mark hd) X.A X.env X.xe)
    (hb : ∀ (W : L2.WX) (pn : List (Addr × Obj)) (xe : Value → Shared → Prop), L2N.Takes (X.tr pn xe) W → PassesOwn (model X.prog X.w) X.A X.env xe → PSs (X.tr pn xe) body (tb W))
    (hsu : ∀ (a : Addr) (oe : Obj) (cls : Value) (d : Option Addr) (pn : List (Addr × Obj)) (xe : Value → Shared → Prop), L2N.Zn cls d oe → (∃ vs, oe.data = .fields vs) → L2.Takes (suiteE X a ((a, oe) :: pn) xe) (wGone i Wout) → PSs (suiteE X a ((a, oe) :: pn) xe) (b₀ :: suite) (ts a cls d)) :
    PS X (.Try body [.ExceptHandler (some (.Name x np)) (some n) (b₀ :: suite) pos'] [] [] pos) (fun D σ H => tb (wAs X.K c i ts Wout D) D σ H) := by
  refine ⟨fun pins s σ H D I h => ?_⟩
  have ok := I.ok
  have hfr : X.A.frames = some (X.env :: X.outer) := by rw [ok.frames, hs]
  have hloc : Loc X.env.scope n := .inl hln
  refine wpAny_Try_except (wpAny_mono ((hb (wAs X.K c i ts Wout D) (X.pn ++ pins) (fun e s₁ => wpAny (model X.prog X.w) X.A (noteFrame e X.env) (fun _ s₂ => wpAny (model X.prog X.w) X.A (setFlight e none) (fun _ s₃ =>
    wpAny (model X.prog X.w) X.A (handleBy e X.env [.ExceptHandler (some (.Name x np)) (some n) (b₀ :: suite) pos']) (SP X pins D) X.xe s₃) X.xe s₂) X.xe s₁) (fun u s' xx => ?_) PassesOwn.looking).run [] s σ H D (I.toTry _) h) (fun f s1 hsp => ?_) fun e s1 he => he)
  · obtain ⟨a, B, sI, pins', σ', H', cls, d, rfl, J', nb, up, sky, na, os, ag, b, hb1, hyes, hno⟩ := xx
    have J : L2.Inv X pins σ' H' sI := J'.ofTry ok
    have sky' : Sky B (X.env :: X.outer) a (L2N.Zn cls d) X.env.locals s'.heap := by rw [← hs]; exact sky
    refine L2N.Sky.land L2N.Zn.steady hfr hf sky' fun h3 fl3 up3 => ?_
    have J3 : L2.Inv X pins σ' H' { s' with heap := h3 } := J.landed nb fl3.1 (up.trans up3) os ag
    obtain ⟨oe3, vs3, he3, hz3, hd3⟩ := fl3.there
    have nfr : a ∉ frs (X.env :: X.outer) := fun hm => by
      obtain ⟨_, o', e', hnf⟩ := fl3.2.2.1.mem hm
      cases Option.some.inj (he3.symm.trans e')
      exact hnf _ hd3
    have nL : a ≠ X.env.locals := fun z => nfr (List.mem_filterMap.mpr ⟨X.env, List.mem_cons_self, by rw [hf, z]⟩)
    have nF : a ∉ X.fs := fun hm => by
      obtain ⟨e, he, q⟩ := List.mem_filterMap.mp hm
      exact nfr (List.mem_filterMap.mpr ⟨e, List.mem_cons_of_mem _ he, q⟩)
    have S3 := J3.suite he3 hd3 na nL nF
    refine wpAny_handleBy_cons (codeAny_handlers_test ?_) (by intro q; cases q)
    have LT : PySem.W.Looks (model X.prog X.w) h3 (typeOf (.ref a)) cls := fun A Q E s k q => wpAny_typeOf_ref (k _ _ he3) (by rw [hz3.1]; exact q)
    have LM := PySem.W.exm_one (M := model X.prog X.w) (J3.kIn) LT hb1
    have test : ∀ {Q : Value → Shared → Prop} {E : Value → Shared → Prop}, Q c { s' with heap := h3 } → wpAny (model X.prog X.w) (X.A.mark (some (.ref a))) (eval (.Name x np) X.env) Q E { s' with heap := h3 } := fun {Q E} q => by
      obtain ⟨hg, hdbg, hm | ⟨hm, hv, hnn⟩⟩ := hc
      · exact ld_glob (X := X.suite a ((a, oe3) :: (X.pn ++ pins))) S3 hg hm q hdbg
      · exact ld_blt (X := X.suite a ((a, oe3) :: (X.pn ++ pins))) S3 hg hm hv q hnn hdbg
    refine test (LM.here ?_)
    cases b with
    | true =>
      refine codeAny_handlers_suite_as ?_
      refine HandSPX.lands_againZ fl3 fun h4 fl4 up4 => ?_
      have J4 : L2.Inv X pins σ' H' { s' with heap := h4 } := J.landed nb fl4.1 ((up.trans up3).trans up4) os ag
      obtain ⟨oe4, vs4, he4, hz4, hd4⟩ := fl4.there
      have S4 := J4.suite he4 hd4 na nL nF
      refine store_ok (X := X.suite a ((a, oe4) :: (X.pn ++ pins))) (v := .ref a) S4 hN hi hloc rfl (fun s5 S5 => ?_) (.inr hln)
      refine (hsu a oe4 cls d (X.pn ++ pins) _ hz4 ⟨_, hd4⟩ (fun u s' xx => suite_exc hs hf hex hN hi hln ok (fun u s8 z => hpa (some (.ref a)) u s8 (tk u s8 z)) xx)).run [] s5 _ H' _ ?_ (hyes rfl a na) |> fun z => wpAny_mono z (fun f s6 hsp => ?_) fun _ _ z => z
      · have back : ∀ {σ6 : L2.St} {H6 : Hp} {xe : Value → Shared → Prop}, L2.Inv (suiteE X a ((a, oe4) :: (X.pn ++ pins)) xe) [] σ6 H6 s6 → L2.Inv X pins σ6 H6 s6 := fun {σ6 H6 xe} S6 =>
          ⟨ok, S6.os, S6.bare, S6.base, S6.loc, S6.cell, S6.free, S6.freeC, fun p hp => S6.pin p (List.mem_append_left _ (List.mem_cons_of_mem _ hp)), S6.hok, S6.len⟩
        cases f with
        | next =>
          obtain ⟨σ6, H6, S6, q6⟩ := hsp
          exact gone_ok (back S6) hN hi hln fun s7 J7 => ⟨_, _, J7, q6⟩
        | brk =>
          obtain ⟨σ6, H6, S6, q6⟩ := hsp
          exact gone_ok (back S6) hN hi hln fun s7 J7 => ⟨_, _, J7, q6⟩
        | cont =>
          obtain ⟨σ6, H6, S6, q6⟩ := hsp
          exact gone_ok (back S6) hN hi hln fun s7 J7 => ⟨_, _, J7, q6⟩
        | ret u =>
          obtain ⟨v6, σ6, H6, S6, r6, q6⟩ := hsp
          exact gone_ok (back S6) hN hi hln fun s7 J7 => ⟨_, _, _, J7, r6, q6⟩
      · exact ⟨S5.ok.wish _, S5.os, S5.bare, S5.base, S5.loc, S5.cell, S5.free, S5.freeC, S5.pin, S5.hok, S5.len⟩
    | false =>
      refine wpAny_handleBy_nil ?_
      have fl5 : HandSPX.FlyingZ B (X.env :: X.outer) a (Zc cls d) h3 := L2H.flyingZ_imp (fun o z => z.zc) fl3
      obtain ⟨k1, k2, k3, oe, vs, T, oT, ts', he, hz, hd, h1, hr⟩ := id fl5
      unfold PySem.passOn
      refine wpAny_bind (wpAny_field he hd h1 ?_)
      rw [if_neg (show ¬ ((Value.ref T == Value.none) = true) from by simp)]
      have fin : wpAny (model X.prog X.w) X.A (setFlight (.ref a) X.env.frame) (fun _ s4 => wpAny (model X.prog X.w) X.A (throw (.ref a) : Sem Flow) (SP X pins D) X.xe s4) X.xe { s' with heap := h3 } := by
        rw [hf]
        refine HandSPX.setFlight_upZ fl5 fun h4 hh4 up4 => wpAny_throw (tk _ _ ?_)
        exact ⟨a, B, sI, pins, σ', H', cls, d, rfl, J, nb, (up.trans up3).trans up4, .inr (.inr (by rw [hs]; exact hh4)), na, os, ag, hno rfl⟩
      first
        | exact wpAny_bind (wpAny_pure (wpAny_bind fin))
        | exact wpAny_bind fin
  · cases f with
    | next =>
      obtain ⟨σ', H', J', q⟩ := hsp
      exact wpAny_execs_nil ⟨σ', H', J'.ofTry ok, q⟩
    | brk =>
      obtain ⟨σ', H', J', q⟩ := hsp
      exact ⟨σ', H', J'.ofTry ok, q⟩
    | cont =>
      obtain ⟨σ', H', J', q⟩ := hsp
      exact ⟨σ', H', J'.ofTry ok, q⟩
    | ret u =>
      obtain ⟨v, σ', H', J', r, q⟩ := hsp
      exact ⟨v, σ', H', J'.ofTry ok, r, q⟩
end
end Mi
set_option Elab.async false
set_option linter.all false
set_option maxRecDepth 100000
set_option maxHeartbeats 4000000
/-! exceptions whose context is None (L2N), and suites that raise, in the mirror -/
namespace Mi
open PySem PySem.Spec PyProof.Rows L2
section
variable {P : Program} {w : World} {K : PySem.W.Frag} {mg : Str → Option Value} {base : Heap}
theorem cx_ofN {outer : List Env} {H : Hp} {s s' : Shared} {E : XK} {u : Value} (h : L2N.CX P w outer H s E u s') : L2.CX P w outer H s E u s' := by
  obtain ⟨a, B, H', cls, d, e, fl, r⟩ := h
  exact ⟨a, B, H', cls, d, e, L2H.flyingZ_imp (fun o z => z.zc) fl, r⟩
theorem fnok_ofN {k : Nat} {f : Addr} {fd : FuncData} {ps : List Str} {sp : Sp} (F : FnOk P w K mg base (L2N.CX P w) k f fd ps sp) : FnOk P w K mg base (L2.CX P w) k f fd ps sp :=
  ⟨F.len, fun A outer s H args us vs Q E hr he hb hv hs => codeAny_mono (F.run A outer s H args us vs Q E hr he hb hv hs) fun r s' hq => by
    cases r with
    | error e => exact cx_ofN hq
    | ok fl => cases fl <;> exact hq⟩
theorem okCX {CX : CXT} {x qual : Str} {st : Stmt} {f : Addr} {fd : FuncData} {N ps : List Str} {k : Nat} {sp : Sp} (F : L2.Fun K x qual st f fd) (S : FnScope N ps (defScope st)) (len : ∀ vs H Q E, sp vs H Q E → vs.length = ps.length)
    (hbody : ∀ (cdv : Value) (A : Around) (outer : List Env) (s : Shared) (H : Hp) (vs : List V) (Q : VK) (E : XK), Room k (A.deeper (envOfC qual (defScope st) s.heap.objs.size f cdv)) → sp vs H Q E →
      ∃ t, PSs (cxOf CX P w K mg base N qual (defScope st) f cdv A outer s H E) (defBody st) t ∧ t { nx := fun _ H' => Q .non H', rt := Q } (start N vs) H) : FnOk P w K mg base CX (k + 1) f fd ps sp := by
  obtain ⟨oc, od, kV, doc, pm, an, cdv, ct, osl, rfl, lk, hcd⟩ := F.ex
  exact fn_of lk hcd S len fun A outer s H vs Q E hr hsp => hbody cdv A outer s H vs Q E hr hsp
theorem fn_okN {x qual : Str} {st : Stmt} {f : Addr} {fd : FuncData} {N ps : List Str} {k j : Nat} {B : IS} (F : L2.Fun K x qual st f fd) (S : FnScope N ps (defScope st)) (hj : N.length - ps.length = j)
    (hb : ∀ (cdv : Value) (A : Around) (outer : List Env) (s : Shared) (H : Hp) (E : XK), Room k (A.deeper (envOfC qual (defScope st) s.heap.objs.size f cdv)) →
      MSs (cxOf (L2N.CX P w) P w K mg base N qual (defScope st) f cdv A outer s H E) (fun cls d _ H => E cls d H) none (defBody st) B) : FnOk P w K mg base (L2N.CX P w) (k + 1) f fd ps (spOf ⟨K, mg, P, w⟩ ps.length (fnOf j B)) := by
  refine okCX F S (fun vs H Q E h => h.1) (fun cdv A outer s H vs Q E hr h => ⟨_, hb cdv A outer s H E hr, ?_⟩)
  obtain ⟨hl, m, bs, st, args, R, r, h⟩ := h
  have P0 := re_start (k := j) (N := N) R r (by rw [hl, hj])
  show tsOf ⟨K, mg, P, w⟩ (fun cls d _ H => E cls d H) none B _ _ _
  refine ⟨m, [], bs, _, st, P0, ?_⟩
  unfold fnOf at h
  cases q : B (args.map (fun x => some (.v x)) ++ List.replicate j none) st with
  | nx ρ' st' =>
    rw [q] at h
    exact fun m' os' H' σ' g P' => h m' H' g.toE P'.rel.less .non (by simp only [RV])
  | rt v st' =>
    rw [q] at h
    exact fun m' os' H' u g R' ru => h m' H' g.toE R'.less u (RV.fits fits_less _ _ ru)
  | exc c fs ρ' st' =>
    rw [q] at h
    exact fun m' os' H' σ' cls d g P' x => h m' H' cls d g.toE P'.rel.less x.less
  | bk ρ' st' => rw [q] at h; exact h.elim
  | ct ρ' st' => rw [q] at h; exact h.elim
  | bad => rw [q] at h; exact h.elim

def FnMN (P : Program) (w : World) (K : PySem.W.Frag) (mg : Str → Option Value) (base : Heap) (x : Str) (k n : Nat) (F : Fn) : Prop :=
  ∃ f fd ps, mg x = some (.ref f) ∧ PySem.W.keepIn K (.ref f) = true ∧ Binds K fd ps [] ∧ FnOk P w K mg base (L2N.CX P w) k f fd ps (spOf ⟨K, mg, P, w⟩ n F)
theorem FnMN.fnM {x : Str} {k n : Nat} {F : Fn} (h : FnMN P w K mg base x k n F) : FnM P w K mg base x k n F := by
  obtain ⟨f, fd, ps, h1, h2, h3, h4⟩ := h
  exact ⟨f, fd, ps, h1, h2, h3, fnok_ofN h4⟩
end
section
variable {X : Cx} {W : WX} {xa : Xa} {e : Expr} {A : IE} {pos p apos cpos : Pos} {es : List Expr} {As : IA} {k n : Nat} {F : Fn} {x c : Str}
theorem me_callN (h : FnMN X.prog X.w X.K X.mg X.base x k n F) (hr : Room k X.A) (tk : L2N.Takes X W) (hg : Gl X x) (ha : MA X W xa (e :: es) As)
    (hdb : (x == ("__debug__" : Str)) = false := by decide) (he : starEach (e :: es) X.env = (false, eval e X.env) :: starEach es X.env := by rfl) (hpl : (backTo pos (starEach es X.env)).any (·.1) = false := by rfl) :
    ME X W xa (.Call (.Name x p) (e :: es) [] pos) (iCall (arity n F) As) := by
  obtain ⟨f, fd, ps, hm, hk, hb, hf⟩ := h
  refine PE.weak (pe_callSD hf hr hg hm hk hb .nil (E := fun σ cls d H => W cls d σ H) (fun σ => L2N.passAt tk σ) ha hdb he hpl) fun σ H Q h => ?_
  obtain ⟨m, os, rs, ρ, st, P, h⟩ := h
  refine ⟨m, os, rs, ρ, st, P, h.bind.mono fun args m1 st1 H1 g1 R1 h1 vs rv => ?_⟩
  unfold arity at h1
  split at h1
  · rename_i hl
    exact ⟨by rw [List.append_nil, ← rv.length]; exact hl, m1, _, st1, args, R1, by rw [List.append_nil]; exact rv, h1⟩
  · exact h1.elim
/-- what a raise asks -/
theorem raise_weak {C : Addr} {f : Str} (hC : X.mg c = some (.ref C)) {D : Ends} {σ : L2.St} {H : Hp} (h : tsOf (gd X) W xa (iRaise c f A) D σ H) : tMkO C (spI X.K C f) [] (tCons (teOf (gd X) W xa A) tNil) σ H (fun cls d H' => W cls d σ H') := by
  obtain ⟨m, os, rs, ρ, st, P, h⟩ := h
  refine ⟨m, os, rs, ρ, st, P, (h.ofR P).mono fun v m1 st1 H1 g1 R1 h1 u ru => ⟨by show 1 ≤ 1000; decide, fun a ha => ⟨a, u, rfl, upd_same, fun d hd ne => ?_⟩⟩⟩
  have hd1 : H1 d = none := by rw [upd_ne ne] at hd; exact hd
  refine ⟨rfl, d, [(f, u)], upd_same, by rw [upd_ne ne, upd_same], hd1, ?_⟩
  have e : upd (del (upd (upd (upd H1 a (exo a C none)) d (exd d [(f, u)])) a (exo a C (some d))) a) d (.xd [(f, u)]) = upd H1 d (.xd [(f, u)]) := by
    funext b
    by_cases hb : b = d
    · rw [hb, upd_same, upd_same]
    · rw [upd_ne hb, upd_ne hb]
      by_cases hba : b = a
      · rw [hba, del_same, ha]
      · rw [del_ne hba, upd_ne hba, upd_ne hb, upd_ne hba]
  rw [e]
  have g2 : GrowE m1 st1 H1 m1 st1 (upd H1 d (.xd [(f, u)])) := grow_new hd1
  have R2 : Rel (gd X) m1 (os ++ rs) st1 (upd H1 d (.xd [(f, u)])) := R1.new hd1
  exact h1 m1 os _ σ _ _ (.ofE g2) ((P.grow g1 R1).grow g2 R2) ⟨C, hC, rfl, .inr ⟨d, _, rfl, upd_same, (R1.fresh hd1).1, (R1.fresh hd1).2, u, [], rfl, RV.fits g2.fitsE _ _ ru, rfl⟩⟩


/-- C(e, ..) where nothing is handled: the context is None -/
theorem pmk_oexN {CX : CXT} {C fI : Addr} {fd : FuncData} {ps : List Str} {sp : Sp} {ta : TA} (T : OexC X.K C) (iC : PySem.W.findIn X.K (.ref C) "__init__" = some (some (.ref fI))) (tI : PySem.W.typeIn X.K (.ref fI) = some (.type "function"))
    (F1 : FnOk X.prog X.w X.K X.mg X.base CX k fI fd ps sp) (hr : Room (k + 1) X.A) (hb : Binds X.K fd ps []) (hx : Passes CX X (fun _ _ _ => False)) (hg : Gl X x) (hm : X.mg x = some (.ref C)) (ha : PA X (e :: es) ta)
    (hdb : (x == ("__debug__" : Str)) = false := by decide) (he : starEach (e :: es) X.env = (false, eval e X.env) :: starEach es X.env := by rfl) (hpl : (backTo pos (starEach es X.env)).any (·.1) = false := by rfl) :
    L2N.PMk X (.Call (.Name x p) (e :: es) [] pos) (tMkO C sp [] ta) := by
  intro pins s σ H Q I h
  obtain ⟨nm, q, N, bs, bm, sn, sub, ab, col, dd, k0, k1, k2, k3, k5, hC, hbm⟩ := T.cls
  refine wpAny_Call_Name_kw (ld_glob I hg hm ?_ hdb)
  refine PySem.W.callWith_K (h₀ := X.base) I.ok.mod.kin T.kC (thn (ha.run pos pins s σ H _ I h) fun us s1 ⟨vs, H1, I1, r1, hz, q1⟩ => ⟨I1.kIn, ?_⟩) he hpl
  show wpAny _ _ (call (.ref C) us) _ _ _
  obtain ⟨hp, g, dr, tk, os⟩ := s1
  have hsz : hp.objs.size ≤ hp.objs.size + 1 := Nat.le_succ _
  have hq := q1 (hp.objs.size + 1) (I1.hok.fresh hsz)
  rw [List.append_nil] at hq
  have kk : ∀ b o, hp.get? b = some o → ((hp.push (PySem.W.kdv_tup us)).push (PySem.HandSPX.excO C hp.objs.size)).get? b = some o := fun b o e => Heap.get?_push_of_some _ (Heap.get?_push_of_some _ e)
  have hget : ((hp.push (PySem.W.kdv_tup us)).push (PySem.HandSPX.excO C hp.objs.size)).get? (hp.objs.size + 1) = some (PySem.HandSPX.excO C hp.objs.size) := by heap_get
  have I2 : L2.Inv X pins σ (upd H1 (hp.objs.size + 1) (exo (hp.objs.size + 1) C none)) ⟨(hp.push (PySem.W.kdv_tup us)).push (PySem.HandSPX.excO C hp.objs.size), g, dr, tk, os⟩ :=
    I1.laid (t' := tk) (a := hp.objs.size + 1) (o := exo (hp.objs.size + 1) C none) (h' := (hp.push (PySem.W.kdv_tup us)).push (PySem.HandSPX.excO C hp.objs.size)) kk hsz (exo_ok hget)
  have r2 : Vals (V.ref (hp.objs.size + 1) :: vs) (Value.ref (hp.objs.size + 1) :: us) := .cons rfl r1
  have hl : (Value.ref (hp.objs.size + 1) :: us ++ []).length = ps.length := by
    have e := r2.length
    rw [F1.len _ _ _ _ hq] at e
    rw [List.append_nil]
    exact e.symm
  have hus : us.length ≤ sizeLine := by
    rw [← Paired.length r1, sizeLine_eq]
    omega
  have b2 := hb _ (Value.ref (hp.objs.size + 1) :: us) I2.kIn hl
  rw [List.append_nil] at b2
  refine wpAny_call (PySem.HandSPX.call_own F.excBase_ValueError (fun Y => PySem.HandSPX.refsVE_contains Y bm hbm) (I1.kIn _ _ hC) (PySem.W.looks_findIn I1.kIn iC) (fun self => PySem.W.bind_fn I1.kIn self tI) hus
    (codeAny_mono (F1.run _ X.stack _ _ ⟨Value.ref (hp.objs.size + 1) :: us, []⟩ (Value.ref (hp.objs.size + 1) :: us) _ _ (fun _ _ _ => False) (hr.make C us []) (I2.env0.make C us []) b2 r2 hq) fun r s' hq' => ?_))
  cases r with
  | error er => exact hx pins σ _ _ er s' I2 hq'
  | ok fl =>
    cases fl with
    | ret u =>
      obtain ⟨v, H2, os2, bare2, un2, hok2, rv, ev, d, fs, ea, ed, hd1, q2⟩ := hq'
      subst ev
      obtain ⟨h2, g2, d2, t2, os'⟩ := s'
      obtain ⟨t0, G, J, kG, ge, hoe, na⟩ := mk_end0 (d2 := d2) (t2 := t2) I1 hsz kk un2 hok2 os2 bare2 ea ed hd1
      refine ⟨rv, ⟨hp.objs.size + 1, _, _, ⟨G, g2, d2, t2, os'⟩, _, .ref C, some d, rfl, J, kG, ge, hoe, ⟨rfl, rfl, fun vs hv => ?_⟩, rfl, rfl, na, rfl, bare2, raises_own T.exC T.tyC, q2⟩⟩
      cases hv
      rfl
    | next => exact False.elim hq'
    | brk => exact False.elim hq'
    | cont => exact False.elim hq'
theorem ms_raiseN {f : Str} (hc : X.calm = true) (h : ExcM X.prog X.w X.K X.mg X.base c f k) (hr : Room (k + 1) X.A) (tk : L2N.Takes X W) (hg : Gl X c) (ha : ME X W xa e A)
    (hs : starEach (e :: []) X.env = (false, eval e X.env) :: starEach [] X.env := by rfl) (hdb : (c == ("__debug__" : Str)) = false := by decide) (hpl : (backTo pos (starEach [] X.env)).any (·.1) = false := by rfl) :
    MS X W xa (.Raise (some (.Call (.Name c p) [e] [] pos)) none apos) (iRaise c f A) := by
  obtain ⟨C, fI, fd, ps, hC, hO, hX, hn, hI, hT, hb, hf⟩ := h
  exact PS.weak (L2N.ps_raise hc tk (pmk_oexN hO hI hT hf hr hb (fun _ _ _ _ _ _ _ z => by obtain ⟨_, _, _, _, _, _, _, _, _, _, _, _, z⟩ := z; exact z.elim) hg hC (pa_cons ha pa_nil hs) hdb hs hpl)) fun D σ H h => raise_weak hC h
/-- an exception's class, made while another is handled -/
def ExcHM (P : Program) (w : World) (K : PySem.W.Frag) (mg : Str → Option Value) (base : Heap) (c f : Str) (k : Nat) : Prop :=
  ∃ C fI fd ps, mg c = some (.ref C) ∧ OexC K C ∧ PySem.W.findIn K (.ref C) "__init__" = some (some (.ref fI)) ∧ PySem.W.typeIn K (.ref fI) = some (.type "function") ∧ Binds K fd ps [] ∧ L2H.FnH P w K mg base (L2.CX P w) k fI fd ps (spI K C f)
theorem ms_raiseHX {f : Str} {j : Nat} (hc : L2H.HotC X) (h : ExcHM X.prog X.w X.K X.mg X.base c f k) (hr : L2H.RoomH (k + 1) X.A) (tk : L2.Takes X W) (hg : Gl X c) (ha : ME X W xa e A)
    (hs : starEach (e :: []) X.env = (false, eval e X.env) :: starEach [] X.env := by rfl) (hdb : (c == ("__debug__" : Str)) = false := by decide) (hpl : (backTo pos (starEach [] X.env)).any (·.1) = false := by rfl) :
    MS X W xa (.Raise (some (.Call (.Name c p) [e] [] pos)) (some (.Constant .none j cpos)) apos) (iRaise c f A) := by
  obtain ⟨C, fI, fd, ps, hC, hO, hI, hT, hb, hf⟩ := h
  exact PS.weak (L2H.ps_raiseHN hc tk (L2H.pmk5_oexH hO hI hT hf hr hc hb (fun _ _ _ _ _ _ _ z => by obtain ⟨_, _, _, _, _, _, _, _, _, _, _, _, z⟩ := z; exact z.elim) hg hC (pa_cons ha pa_nil hs) hdb hs hpl)) fun D σ H h => raise_weak hC h
theorem hot_suite {a : Addr} {oe : Obj} {cls : Value} {d : Option Addr} {pn : List (Addr × Obj)} {xe : Value → Shared → Prop} (hz : L2N.Zn cls d oe) (hf : ∃ vs, oe.data = .fields vs) : L2H.HotC (suiteE X a ((a, oe) :: pn) xe) := by
  obtain ⟨vs, e⟩ := hf
  exact ⟨(a, oe), ⟨rfl, vs, e, hz.2.2 vs e⟩, List.mem_cons_self⟩
end
/-! ### the try -/
theorem XR.fitsS {G : Gd} {m bs : List Addr} {st st' : Sto} {H : Hp} {c : Str} {fs : List (Str × IV)} {cls : Value} {d : Option Addr} (f : Fits G m bs st H m bs st' H) (x : XR G m bs st H c fs cls d) : XR G m bs st' H c fs cls d := by
  obtain ⟨C, h1, h2, h3⟩ := x
  refine ⟨C, h1, h2, ?_⟩
  rcases h3 with h3 | ⟨dd, gs, e1, e2, e3, e4, e5⟩
  · exact .inl h3
  · exact .inr ⟨dd, gs, e1, e2, e3, e4, RFs.fits f _ _ e5⟩
def hEndX (i l : Nat) (r : RS) : RS := match r with
  | .nx ρ st => .nx (noExn (ρ.set i none)) (st.set l .dead)
  | .bk ρ st => .bk (noExn (ρ.set i none)) (st.set l .dead)
  | .ct ρ st => .ct (noExn (ρ.set i none)) (st.set l .dead)
  | .rt v st => .rt v (st.set l .dead)
  | .exc c fs ρ st => .exc c fs (noExn (ρ.set i none)) (st.set l .dead)
  | _ => .bad
theorem hEndX_post {G : Gd} {xa xa' : Xa} {m os rs : List Addr} {st : Sto} {H : Hp} {W : WX} {D : Ends} {i l : Nat} {r : RS} (h : PstS G xa m os rs st H W D (hEndX i l r)) :
    PstS G xa' m os rs st H (wGone i W) { nx := fun σ' H' => D.nx (σ'.set i none) H', rt := D.rt, bk := fun σ' H' => D.bk (σ'.set i none) H', ct := fun σ' H' => D.ct (σ'.set i none) H' } r := by
  cases r with
  | nx ρ' st' => exact fun m' os' H' σ' g P => h m' os' H' _ (g.trans (.ofE grow_kill)) (P.setN.noExn.grow grow_kill P.rel.kill)
  | bk ρ' st' => exact fun m' os' H' σ' g P => h m' os' H' _ (g.trans (.ofE grow_kill)) (P.setN.noExn.grow grow_kill P.rel.kill)
  | ct ρ' st' => exact fun m' os' H' σ' g P => h m' os' H' _ (g.trans (.ofE grow_kill)) (P.setN.noExn.grow grow_kill P.rel.kill)
  | rt v st' => exact fun m' os' H' u g R r => h m' os' H' u (g.trans (.ofE grow_kill)) R.kill (RV.fits (grow_kill (m := m') (H := H')).fitsE _ _ r)
  | exc c fs ρ' st' => exact fun m' os' H' σ' cls d g P x => h m' os' H' _ cls d (g.trans (.ofE grow_kill)) (P.setN.noExn.grow grow_kill P.rel.kill) (x.fitsS (grow_kill (m := m') (H := H')).fitsE)
  | bad => exact h
def iTryAsX (i : Nat) (M : Str → Option Bool) (B J : IS) : IS := fun ρ st => match B ρ st with
  | .exc c fs ρ1 st1 => (match M c with
    | some true => if fs.isEmpty = true ∨ ¬ i < ρ1.length then .bad else hEndX i st1.length (J ((noExn ρ1).set i (some (.exn st1.length))) (st1 ++ [.xd fs]))
    | some false => .exc c fs ρ1 st1
    | none => .bad)
  | r => r
section
variable {X : Cx} {W : WX} {xa : Xa} {pos : Pos}
theorem ms_tryAsX {x n : Str} {cv : Value} {i : Nat} {body suite : List Stmt} {b₀ : Stmt} {np pos' : Pos} {M : Str → Option Bool} {B J : IS} {q : Value → Prop} (hs : X.stack = X.env :: X.outer) (hex : X.ex = []) (hpa : ∀ hd : Option Value, PassesOwnAt (model X.prog X.w) (X.A.mark hd) X.A X.env X.xe) (hf : X.env.frame = some X.env.locals) (hN : X.N.Nodup) (hi : X.N[i]? = some n) (hln : X.env.kindOf n = some .local) (hc : Names X x cv) (tk : L2.Takes X W)
    (hM : ∀ c k C, M c = some k → X.mg c = some (.ref C) → PySem.W.exmOne X.K (.ref C) cv = some k ∧ (k = true → q (.ref C)))
    (hb : ∀ (W : WX) (pn : List (Addr × Obj)) (xe : Value → Shared → Prop), L2N.Takes (X.tr pn xe) W → PassesOwn (model X.prog X.w) X.A X.env xe → MSs (X.tr pn xe) W xa body B)
    (hsu : ∀ (a : Addr) (oe : Obj) (cls : Value) (dd : Addr) (pn : List (Addr × Obj)) (xe : Value → Shared → Prop), q cls → L2N.Zn cls (some dd) oe → (∃ vs, oe.data = .fields vs) → L2.Takes (suiteE X a ((a, oe) :: pn) xe) (wGone i W) → MSs (suiteE X a ((a, oe) :: pn) xe) (wGone i W) (some (a, dd)) (b₀ :: suite) J) :
    MS X W xa (.Try body [.ExceptHandler (some (.Name x np)) (some n) (b₀ :: suite) pos'] [] [] pos) (iTryAsX i M B J) := by
  refine PS.weak (ps_try_asX (tb := fun W => tsOf (gd X) W xa B) (ts := fun a cls d D σ H => (∃ dd, d = some dd ∧ q cls) ∧ tsOf (gd X) (wGone i W) (d.map fun dd => (a, dd)) J D σ H) hs hf hex hN hi hln hc tk hpa hb (fun a oe cls d pn xe hz hd tkS => PSs.under fun ⟨dd, ed, hq⟩ => by
    subst ed
    exact hsu a oe cls dd pn xe hq hz hd tkS)) fun D σ H h => ?_
  obtain ⟨m, os, rs, ρ, st, P, h⟩ := h
  refine ⟨m, os, rs, ρ, st, P, ?_⟩
  unfold iTryAsX at h
  cases r : B ρ st with
  | exc c fs ρ1 st1 =>
    simp only [r] at h
    intro m1 os1 H1 σ1 cls d g1 P1 hx
    obtain ⟨C, hC, ecls, hxs⟩ := hx
    subst ecls
    cases k : M c with
    | none => rw [k] at h; exact h.elim
    | some kk =>
      rw [k] at h
      obtain ⟨e1, e2⟩ := hM c kk C k hC
      refine ⟨kk, e1, fun hk a ha => ?_, fun hk => ?_⟩
      · subst hk
        simp only at h
        split at h
        · exact h.elim
        · rename_i hne
          simp only [not_or, Decidable.not_not] at hne
          rcases hxs with hxs | ⟨dd, gs, ed, hH, hdm, hdb, rf⟩
          · rw [hxs] at hne; exact absurd rfl hne.1
          · subst ed
            refine ⟨⟨dd, rfl, e2 rfl⟩, ?_⟩
            have hlen := P1.rel.len
            -- the exception's own dict comes under the mirror
            have f : Fits (gd X) m1 (os1 ++ rs) st1 H1 (m1 ++ [dd]) (os1 ++ rs) (st1 ++ [.xd fs]) H1 := by
              have nt : ∀ {a : Addr} {vs : List V}, Rd H1 a (.tup vs) → a ≠ dd := fun {a vs} h z => by
                rcases h with h | ⟨o, h⟩ <;> (rw [z, hH] at h; cases h)
              have nl : ∀ {a : Addr} {vs : List V}, Rd H1 a (.lst vs) → a ≠ dd := fun {a vs} h z => by
                rcases h with h | ⟨o, h⟩ <;> (rw [z, hH] at h; cases h)
              refine ⟨fun l a h => ?_, fun a vs h => ?_, fun a vs h => ?_, fun a o u h => ?_⟩
              · rw [List.getElem?_append_left (List.getElem?_eq_some_iff.mp h).1]; exact h
              · rcases h with ⟨h, n, z⟩ | h
                · exact .inl ⟨h, fun y => (lv_snoc hlen y).elim n (nt h), z⟩
                · exact .inr h
              · rcases h with ⟨h, n, z⟩ | h
                · exact .inl ⟨h, fun y => (lv_snoc hlen y).elim n (nl h), z⟩
                · exact .inr h
              · obtain ⟨h, n, z⟩ := h
                exact ⟨h, fun y => (lv_snoc hlen y).elim n (fun y => by rw [y, hH] at h; cases h), z⟩
            have el : (m1 ++ [dd])[st1.length]? = some dd := by rw [← hlen, List.getElem?_append_right (Nat.le_refl _)]; simp
            have R2 : Rel (gd X) (m1 ++ [dd]) (os1 ++ rs) (st1 ++ [.xd fs]) H1 := by
              refine ⟨by simp [hlen], fun i j x e1 e2 => ?_, fun l w x e1 e2 => ?_, fun x z => ⟨fun y => ?_, (P1.rel.bsd x z).2⟩⟩
              · rcases getElem?_snoc e1 with e1 | ⟨i1, e1⟩
                · rcases getElem?_snoc e2 with e2 | ⟨i2, e2⟩
                  · exact P1.rel.nd i j x e1 e2
                  · exact absurd (List.mem_of_getElem? e1) (by rw [e2]; exact hdm)
                · rcases getElem?_snoc e2 with e2 | ⟨i2, e2⟩
                  · exact absurd (List.mem_of_getElem? e2) (by rw [e1]; exact hdm)
                  · omega
              · rcases getElem?_snoc e2 with e2 | ⟨i2, e2⟩
                · have hlt : l < st1.length := by rw [← hlen]; exact (List.getElem?_eq_some_iff.mp e2).1
                  rw [List.getElem?_append_left hlt] at e1
                  exact (P1.rel.obj l w x e1 e2).fits f fun _ e => e
                · subst e2
                  rw [hlen] at i2; subst i2
                  rw [List.getElem?_append_right (Nat.le_refl _)] at e1
                  have ew : IO.xd fs = w := by simpa using e1
                  rw [← ew]; exact ⟨gs, hH, RFs.fits f _ _ rf⟩
              · rcases List.mem_append.mp y with y | y
                · exact (P1.rel.bsd x z).1 y
                · have : x = dd := by simpa using y
                  exact hdb (this ▸ z)
            have hi1 : i < σ1.length := by rw [← P1.re.len]; exact hne.2
            have Q1 : Pre (gd X) (some (a, dd)) σ1 H1 m1 os1 rs (noExn ρ1) st1 := P1.noExn
            have hi2 : i < (noExn ρ1).length := by simpa [noExn] using hne.2
            have P2 : Pre (gd X) (some (a, dd)) (σ1.set i (some (.ref a))) H1 (m1 ++ [dd]) os1 rs ((noExn ρ1).set i (some (.exn st1.length))) (st1 ++ [.xd fs]) := by
              refine ⟨R2, by simp [Q1.re.len], fun j y e => ?_, fun j xs e => ?_, fun j k xs ys w q1 q2 q3 q4 => ?_⟩
              · by_cases hj : i = j
                · subst hj
                  rw [List.getElem?_set_self hi2] at e
                  cases e
                  exact ⟨.ref a, by rw [List.getElem?_set_self hi1], a, dd, rfl, rfl, el⟩
                · rw [List.getElem?_set_ne hj] at e
                  obtain ⟨v, e1, r⟩ := Q1.re.at_ j y e
                  refine ⟨v, by rw [List.getElem?_set_ne hj]; exact e1, ?_⟩
                  cases y with
                  | v x => exact RV.fits f _ _ r
                  | own xs => obtain ⟨b, vs, eb, hb, rb, hbb⟩ := r; exact ⟨b, vs, eb, hb, RVs.fits f _ _ rb, hbb⟩
                  | exn l => exact absurd rfl ((noExn_at e).2 l)
              · have hj : i ≠ j := fun z => by
                  subst z
                  rw [List.getElem?_set_self hi2] at e
                  cases e
                rw [List.getElem?_set_ne hj] at e
                obtain ⟨b, e1, r⟩ := Q1.re.own j xs e
                exact ⟨b, by rw [List.getElem?_set_ne hj]; exact e1, r⟩
              · have key : ∀ {j : Nat} {xs : List IV}, ((noExn ρ1).set i (some (.exn st1.length)))[j]? = some (some (.own xs)) → i ≠ j := fun {j xs} e z => by
                  subst z
                  rw [List.getElem?_set_self hi2] at e
                  cases e
                have n1 := key q1
                have n2 := key q2
                rw [List.getElem?_set_ne n1] at q1 q3
                rw [List.getElem?_set_ne n2] at q2 q4
                exact Q1.re.uniq j k xs ys w q1 q2 q3 q4
            have g2 : Grow m1 st1 os1 H1 (m1 ++ [dd]) (st1 ++ [.xd fs]) os1 H1 := ⟨List.prefix_append _ _, fun b o hb nb qb nx => ⟨hb, fun z => (lv_snoc hlen z).elim nb (fun z => by rw [z, hH] at hb; cases hb; exact nx _ rfl), qb⟩, fun _ h => h⟩
            show tsOf (gd X) (wGone i W) (some (a, dd)) J _ _ _
            refine ⟨m1 ++ [dd], os1, rs, _, _, P2, ?_⟩
            exact hEndX_post ((PstS.shift g1 h).shift g2)
      · subst hk
        exact h m1 os1 H1 σ1 _ _ g1 P1 ⟨C, hC, rfl, hxs⟩
  | nx ρ1 st1 => simp only [r] at h; exact h
  | bk ρ1 st1 => simp only [r] at h; exact h
  | ct ρ1 st1 => simp only [r] at h; exact h
  | rt v st1 => simp only [r] at h; exact h
  | bad => simp only [r] at h; exact h

end
section
variable {P : Program} {w : World} {K : PySem.W.Frag} {mg : Str → Option Value} {base : Heap} {C : Addr}
theorem exc_initH {qual x y : Str} {st : Stmt} {f : Addr} {fd : FuncData} {fl : Str} {p1 p2 p3 p4 : Pos} (F : L2.Fun K "__init__" qual st f fd) (S : FnScope [x, y] [x, y] (defScope st)) (T : OexC K C) (hno : PySem.W.findIn K (.ref C) fl = some none)
    (hb : defBody st = [.Assign [.Attribute (.Name x p1) fl p2] (.Name y p3) p4]) (hx : Vis (defScope st) x) (hy : Vis (defScope st) y) (dx : (x == ("__debug__" : Str)) = false) (dy : (y == ("__debug__" : Str)) = false)
    (ex : (x == ("__classdict__" : Str)) = false) (ey : (y == ("__classdict__" : Str)) = false) : L2H.FnH P w K mg base (L2.CX P w) 1 f fd [x, y] (spI K C fl) := by
  obtain ⟨oc, od, kV, doc, pm, an, cdv, ct, osl, rfl, lk, hcd⟩ := F.ex
  refine L2H.fn_ofH lk hcd S (fun vs H Q E h => ?_) (fun A outer s H vs Q E p hot hr h => ?_)
  · obtain ⟨a, v, rfl, _⟩ := h
    rfl
  · obtain ⟨a, v, rfl, ha, k⟩ := h
    rw [hb]
    refine ⟨_, pss_one (ps_ost (pe_var (i := 0) rfl hx dx ex) (pe_var (i := 1) rfl hy dy ey) rfl), ?_⟩
    exact ⟨_, rfl, _, rfl, a, C, rfl, T, hno, .inl ⟨ha, fun d hd hne => k d hd hne⟩⟩
end
end Mi
set_option Elab.async false
set_option linter.all false
set_option maxRecDepth 100000
set_option maxHeartbeats 4000000
/-! str.split(a), str.strip() -/
namespace Mi
open PySem PySem.Spec PyProof.Rows L2
theorem rvs_strs {G : Gd} {m bs : List Addr} {st : Sto} {H : Hp} : ∀ {ys : List Str}, RVs G m bs st H (ys.map IV.str) (ys.map V.str)
  | [] => by simp only [List.map_nil, RVs]
  | y :: ys => by
    simp only [List.map_cons, RVs]
    exact ⟨_, _, rfl, by simp only [RV], rvs_strs⟩
def gSplit : IV → List IV → Sto → R IV
  | .str a, [.str b], st => if b.length ≠ 0 ∧ a.length ≤ 100000 then .ok (.lst ((Txt.split a b).map .str)) st else .bad
  | _, _, _ => .bad
def gStrip : IV → List IV → Sto → R IV
  | .str a, [], st => if a.length ≤ 100000 then .ok (.str (Txt.strip a)) st else .bad
  | _, _, _ => .bad
section
variable {X : Cx} {W : WX} {xa : Xa} {o : Expr} {A : IE} {pos apos : Pos}
theorem mtd_split : MtdM X "str.split" gSplit := by
  refine ⟨_, mt_split, fun m bs st H x xs x' xs' Q W R rx rs h => ?_⟩
  unfold gSplit at h
  split at h
  · rename_i a b
    split at h
    · rename_i hc
      simp only [RV] at rx
      simp only [RVs] at rs
      obtain ⟨v, t, ev, r1, et⟩ := rs
      subst et
      simp only [RV] at r1
      subst r1
      have big : (100002 : Nat) ≤ sizeLine := by decide
      exact ⟨a, b, rx, ev, by simpa using hc.1, by have := hc.2; omega, fun p hp => h.newL R rvs_strs hp⟩
    · exact h.elim
  · exact h.elim
theorem mtd_strip : MtdM X "str.strip" gStrip := by
  refine ⟨_, mt_strip, fun m bs st H x xs x' xs' Q W R rx rs h => ?_⟩
  unfold gStrip at h
  split at h
  · rename_i a
    split at h
    · rename_i hc
      simp only [RV] at rx
      simp only [RVs] at rs
      have big : (100002 : Nat) ≤ sizeLine := by decide
      exact ⟨a, rx, rs, by omega, h.v R (by simp only [RV])⟩
    · exact h.elim
  · exact h.elim
theorem me_sm0 {name : Str} {id : String} {g : IV → List IV → Sto → R IV} (hg : MtdM X id g) (slot : Slot "str" name id) (ty : typeOf (.builtin id) = pure (.type "method_descriptor")) (ho : ME X W xa o A)
    (hbase : attributeBase o name X.env (eval o X.env) = eval o X.env := by rfl) (hline : (apos.endLine == pos.line) = true := by rfl) :
    ME X W xa (.Call (.Attribute o name apos) [] [] pos) (iSm g A iNil) := by
  obtain ⟨r, hr, k⟩ := hg
  refine PE.weak (pe_m0 slot ty hr ho hbase hline) fun σ H Q h => ?_
  obtain ⟨m, os, rs, ρ, st, P, h⟩ := h
  refine ⟨m, os, rs, ρ, st, P, h.bind.mono fun x m1 st1 H1 g1 R1 h1 u ru => ?_⟩
  cases x with
  | str y =>
    refine ⟨⟨y, by simpa only [RV] using ru⟩, ?_⟩
    have h4 : Pst (gd X) m1 (os ++ rs) st1 H1 (fun cls d H' => W cls d σ H') (g (.str y) [] st1) (fun v m' st' H' => ∀ u, RV (gd X) m' (os ++ rs) st' H' v u → Q u H') := Pst.ok R1 h1.bind
    exact k m1 _ st1 H1 (.str y) [] u [] Q _ R1 ru (by simp only [RVs]) h4
  | _ => exact h1.elim
end
end Mi
set_option Elab.async false
set_option linter.all false
set_option maxRecDepth 100000
set_option maxHeartbeats 4000000
/-! dicts whose keys are tuples of ints and texts: made by a comprehension -/
namespace Mi
open PySem PySem.Spec PyProof.Rows L2
abbrev KT' (X : Cx) := tupleKind (mixKind X.prog X.w)
/-- a tuple of ints and texts stands at b -/
def KAt (K : PySem.W.Frag) (H : Hp) (b : Addr) (k : List Key) : Prop := SqT K H b (k.map kV)
theorem dho_new {P : Program} {w : World} {H : Hp} {h : Heap} {a : Addr} {xs : List (List Key × Addr × Value)} (d : h.DictOfH (tupleKind (mixKind P w)) a xs) : ObjOk P w H h a (DHo P w a xs) := by
  obtain ⟨o, es, ep, ho, hc, hd, he, _, hn⟩ := d
  exact ⟨⟨o, es, ep, ho, hc, hd, he, hn⟩, ⟨o, ho⟩, fun h1 h2 ⟨o1, e1, p1, q1, r⟩ k => ⟨o1, e1, p1, k o1 q1, r⟩⟩
section
variable {X : Cx} {pins : List (Addr × Obj)} {σ : L2.St} {H : Hp} {s : Shared}
theorem kat_is {b : Addr} {k : List Key} (I : Inv X pins σ H s) (h : KAt X.K H b k) : (KT' X).is s.heap k b := by
  obtain ⟨its, r, ⟨o, h1, h2, n, h3⟩, _⟩ := I.tuple h
  exact ⟨o, its.toArray, n, h1, h2, h3, by simpa using items_are r⟩
theorem dho_of {a : Addr} {xs : List (List Key × Addr × Value)} (I : Inv X pins σ H s) (e : H a = some (DHo X.prog X.w a xs)) (hk : ∀ x ∈ xs, KAt X.K H x.2.1 x.1) : s.heap.DictOfH (KT' X) a xs := by
  obtain ⟨⟨o, es, ep, ho, hc, hd, he, hn⟩, _⟩ := (show ObjOk X.prog X.w H s.heap a (DHo X.prog X.w a xs) from I.hok a _ e)
  exact ⟨o, es, ep, ho, hc, hd, he, fun x hx => kat_is I (hk x hx), hn⟩
theorem dho_set {A : Around} {E : Value → Shared → Prop} {a b : Addr} {xs : List (List Key × Addr × Value)} {k : List Key} {u : Value} {Q : Unit → Shared → Prop} (hu : A.units < cLine) (I : Inv X pins σ H s) (e : H a = some (DHo X.prog X.w a xs)) (hk : ∀ x ∈ xs, KAt X.K H x.2.1 x.1)
    (hb : KAt X.K H b k) (hz : xs.length ≤ sizeLine) (h : ∀ s', Inv X pins σ (upd H a (DHo X.prog X.w a (storedH xs k b u))) s' → Q () s') : wpAny (model X.prog X.w) A (dictSet a (.ref b) u) Q E s := by
  refine wpAny_dictSet_heap (knd := KT' X) (hsz := hz) hu (kat_is I hb) (dho_of I e hk) fun h' dd' hs => h _ ?_
  have he : ∃ q, h'.get? a = some q := let ⟨q, _, _, hq, _⟩ := dd'; ⟨q, hq⟩
  exact d_write I (by rw [e]; exact True.intro) hs he (dho_new dd')
end
section
variable {X : Cx}
/-- {k: v for tg in iter if ..}, the keys tuples of ints and texts -/
def tDcx (X : Cx) (wi : TI) (g : TG) (tt : TT) (tk tv : TE) (vs : List Nat) : TE := fun σ H Q => wi σ H fun J H1 => ∀ D, H1 D = none → (D == sysModules) = false → ∃ W : Nat → Nat → Hp → Prop, (∃ m, W 0 m (upd H1 D (DHo X.prog X.w D []))) ∧ ∀ i m H, W i m H →
  (J.stop i H ∧ Q (.ref D) H) ∨ (J.go i H ∧ ∃ Nx : Hp → Prop, (∀ H', Nx H' → ∃ m', m' < m ∧ W (i + 1) m' H') ∧ ∀ x H', J.yld i H x H' → g x (L2.wipe σ vs) H' fun σ2 H2 => L2.wipe σ2 vs = L2.wipe σ vs ∧ tt σ2 H2 fun c H3 =>
    if c = true then tk σ2 H3 fun y H4 => tv σ2 H4 fun z H5 => ∃ xs k b, y = .ref b ∧ KAt X.K H5 b k ∧ H5 D = some (DHo X.prog X.w D xs) ∧ xs.length < sizeLine ∧ (∀ x ∈ xs, KAt X.K H5 x.2.1 x.1) ∧ ∀ u, RelV z u → Nx (upd H5 D (DHo X.prog X.w D (storedH xs k b u))) else Nx H3)
theorem pe_dcx {kx vx tg iter : Expr} {ifs : List Expr} {scope : Scope} {own : List (Str × Nat)} {pos : Pos} {wi : TI} {g : TG} {tt : TT} {tk tv : TE} (hu : X.A.units < cLine) (hc : X.calm = true) (hN : X.N.Nodup) (hi : PI X tg iter wi) (ok : BlkOk X.N X.env.scope scope own)
    (hg : ∀ (s : Shared) (H : Hp) (C : Addr) (cl : List (Str × Addr)) (fp : List Addr), PG (X.blk s H scope (compEnvC scope cl C X.env) fp) tg g)
    (ht : ∀ (s : Shared) (H : Hp) (C : Addr) (cl : List (Str × Addr)) (fp : List Addr), PTs (X.blk s H scope (compEnvC scope cl C X.env) fp) ifs tt)
    (hk : ∀ (s : Shared) (H : Hp) (C : Addr) (cl : List (Str × Addr)) (fp : List Addr), PE (X.blk s H scope (compEnvC scope cl C X.env) fp) kx tk)
    (hv : ∀ (s : Shared) (H : Hp) (C : Addr) (cl : List (Str × Addr)) (fp : List Addr), PE (X.blk s H scope (compEnvC scope cl C X.env) fp) vx tv) (hs : ∀ x, foldedSetIterable iter X.env x = pure x := by intro _; rfl) :
    PE X (.DictComp kx vx [⟨tg, iter, ifs, 0⟩] scope pos) (tDcx X wi g tt tk tv (own.map (·.2))) := by
  refine ⟨fun pins s σ H Q I h => ?_⟩
  rw [arm_eval_DictComp]
  have free : ∀ y ∈ scope.names, y.2 = .free → ∃ c, X.env.cells.lookup y.1 = some c := fun y hy e => (ok.free y hy e).elim (fun k => I.ok.has _ (.inl k)) (fun k => I.ok.has _ (.inr k))
  refine wpAny_comprehension_free rfl hs (closure_ok free) ok.kind (fun y hy e => by rw [ok.uniq y hy, e]) (thn (hi.run pins s σ H _ I h) fun _ t1 hx => thn hx fun _ t2 h2 => ?_)
  obtain ⟨it, fp, tn, J, G2, rfl, I2, T, st2, f2, q⟩ := h2
  refine wpAny_newObj_type (newEnv_comp ?_)
  generalize eD : t2.heap.objs.size = D
  have nD : G2 D = none := I2.hok.fresh (Nat.le_of_eq eD)
  have sysD : (D == sysModules) = false := beq_eq_false_iff_ne.mpr (Ne.symm (Nat.ne_of_lt (eD ▸ I2.big)))
  obtain ⟨W, ⟨m0, w0⟩, turn⟩ := q D nD sysD
  generalize et3 : ({ t2 with heap := t2.heap.push { cls := .type "dict", data := .dict #[] } } : Shared) = t3
  have hp3 : t3.heap = t2.heap.push { cls := .type "dict", data := .dict #[] } := by rw [← et3]
  have I3 : Inv X pins σ (upd G2 D (DHo X.prog X.w D [])) t3 := by
    rw [← et3]
    refine I2.laid (t' := t2.toks) (fun b o e => Heap.get?_push_of_some _ e) (Nat.le_of_eq eD) ?_
    rw [← eD]
    exact dho_new (Heap.DictOfH.new t2.heap)
  have lt2 : ∀ b ∈ fp, b < t2.heap.objs.size := fun b hb => by
    obtain ⟨o, e, _⟩ := T.obj _ _ st2 b hb
    exact Heap.lt_size e
  have f3 : ∀ b ∈ fp, FpOk X pins (upd G2 D (DHo X.prog X.w D [])) b ∧ b < t3.heap.objs.size := fun b hb =>
    have lb := lt2 b hb
    ⟨⟨by rw [upd_ne (by rw [← eD]; exact Nat.ne_of_lt lb)]; exact (f2 b hb).1, (f2 b hb).2⟩, by rw [hp3, Heap.size_push]; exact Nat.lt_succ_of_lt lb⟩
  have st3 : tn 0 t3.heap := T.keep _ _ _ st2 fun b _ o e => by rw [hp3]; exact Heap.get?_push_of_some _ e
  have I4 := block_start I3 ok hN f3
  generalize ecl : cellsFrom (t3.heap.objs.size + 1) scope.names (cloFrom X.env.cells scope.names []) = cl at I4 ⊢
  have pg := hg t3 (upd G2 D (DHo X.prog X.w D [])) t3.heap.objs.size cl fp
  have pt := ht t3 (upd G2 D (DHo X.prog X.w D [])) t3.heap.objs.size cl fp
  have pk := hk t3 (upd G2 D (DHo X.prog X.w D [])) t3.heap.objs.size cl fp
  have pv := hv t3 (upd G2 D (DHo X.prog X.w D [])) t3.heap.objs.size cl fp
  have nfp : ∀ b ∈ fp, (upd G2 D (DHo X.prog X.w D [])) b = none := fun b hb => (f3 b hb).1.1
  show codeAny _ _ (.compStart (.DictComp kx vx [⟨tg, iter, ifs, 0⟩] scope pos) 0 (.ref it) (.ref D) (compEnvC scope cl t3.heap.objs.size X.env)) (compPost (model X.prog X.w) X.A X.xe none (EP X pins σ Q) (.ref D) t3.heap.objs.size) { t3 with heap := pushCells (t3.heap.push { cls := .type "dict", data := .dict #[] }) scope.names }
  generalize ece : compEnvC scope cl t3.heap.objs.size X.env = ce at I4 pg pt pk pv ⊢
  have cL : ce.locals = t3.heap.objs.size := by subst ece; rfl
  generalize eG3 : upd G2 D (DHo X.prog X.w D []) = G3 at I3 I4 pg pt pk pv w0 nfp f3
  generalize et4 : ({ t3 with heap := pushCells (t3.heap.push { cls := .type "dict", data := .dict #[] }) scope.names } : Shared) = t4 at I4 ⊢
  have st4 : tn 0 t4.heap := T.keep _ _ _ st3 fun b _ o e => by rw [← et4]; exact pushCells_keeps _ _ _ _ (Heap.get?_push_of_some _ e)
  -- the iterator's addresses are free in the block
  have out : ∀ {τ : L2.St} {G : Hp} {t : Shared}, Inv (X.blk t3 G3 scope ce fp) [] τ G t → (∀ b ∈ fp, G b = none) → ∀ b ∈ fp, FpOk (X.blk t3 G3 scope ce fp) [] G b := fun {τ G t} J hn b hb =>
    ⟨hn b hb, (J.ok.exf b hb).1, J.ok.exfs b hb, .inl hb, fun x c e => (J.ok.exf b hb).2 x c e, fun p hp => absurd (show p ∈ ([] : List (Addr × Obj)) ++ [] from hp) (by simp)⟩
  have loop : codeAny (model X.prog X.w) X.A (.compLoop (.DictComp kx vx [⟨tg, iter, ifs, 0⟩] scope pos) 0 (.ref it) (.ref D) ce) (compPost (model X.prog X.w) X.A X.xe none (EP X pins σ Q) (.ref D) t3.heap.objs.size) t4 := by
    refine compLoop_anyD (fun n t => ∃ i G, Inv (X.blk t3 G3 scope ce fp) [] (L2.wipe σ (own.map (·.2))) G t ∧ tn i t.heap ∧ (∀ b ∈ fp, G b = none) ∧ W i n G) ?_ m0 ⟨0, G3, I4, st4, nfp, w0⟩
    rintro n t5 ⟨i, G5, I5, st5, n5, w5⟩
    rcases turn i n G5 w5 with ⟨stop, qq⟩ | ⟨go, Nx, hNx, step⟩
    · refine thnF (T.done (X.blk t3 G3 scope ce fp) rfl rfl rfl hc i [] t5 _ G5 (fun _ _ => False) I5 (out I5 n5) st5 stop) fun r t6 ⟨er, I6⟩ => ?_
      subst er
      have I7 : Inv X pins σ G5 t6 := I3.call' (ch := fp) I6.os I6.base I6.hok I6.bare fun b hb => let z := (f3 b hb).1.2; ⟨z.2.2.1, z.1, z.2.2.2.1, z.2.2.2.2⟩
      have nC : G5 t3.heap.objs.size = none := by
        rw [← cL]; exact I6.free
      obtain ⟨m, hn, _⟩ := I6.loc
      have hn : t6.heap.Ns t3.heap.objs.size m := by rw [← cL]; exact hn
      obtain ⟨a0, a1, a2, a3, a4, a5⟩ := I3.fpOk (Nat.le_refl _) nC
      exact ⟨m, hn, fun h'' sb => ⟨.ref D, G5, I7.turned (t' := t6.toks) (fun b o hb e => (sb.2 b hb).trans e) a0 a1 a3 a4 a5, rfl, qq⟩⟩
    · refine thnF (T.item (X.blk t3 G3 scope ce fp) rfl rfl rfl hc i [] t5 _ G5 (fun _ _ => False) I5 (out I5 n5) st5 go) fun r t6 ⟨u, er, h6⟩ => ?_
      subst er
      refine thnF h6 fun _ t7 ⟨x, G7, I7, r7, y7, st7, n7⟩ => ?_
      refine thnF (pg.run _ t7 _ G7 x u _ (I7.pinned (out I7 n7) (T.obj _ _ st7)) r7 (step x G7 y7)) fun _ t8 ⟨τ, G8, I8, hw8, q8⟩ => ?_
      refine thnF (pt.run _ t8 τ G8 _ I8 q8) fun c t9 ⟨G9, I9, q9⟩ => ?_
      have fin : ∀ {t : Shared} {G : Hp}, Inv (X.blk t3 G3 scope ce fp) ([] ++ pinsAt fp t7.heap) τ G t → Nx G → ∃ m, m < n ∧ ∃ i G, Inv (X.blk t3 G3 scope ce fp) [] (L2.wipe σ (own.map (·.2))) G t ∧ tn i t.heap ∧ (∀ b ∈ fp, G b = none) ∧ W i m G := fun {t G} J nx => by
        obtain ⟨m', hm, w'⟩ := hNx G nx
        have held : ∀ b ∈ fp, ∀ o, t7.heap.get? b = some o → t.heap.get? b = some o ∧ G b = none := fun b hb o e =>
          have z := J.pin (b, o) (List.mem_append_right _ (List.mem_append_right _ (mem_pinsAt hb e)))
          ⟨z.1, z.2.1⟩
        refine ⟨m', hm, i + 1, G, (J.unpinned (pins := [])).weak (by rw [← hw8, wipe_length]) (fun j v e => by rw [← hw8] at e; exact (wipe_some e).1), T.keep _ _ _ st7 fun b hb o e => (held b hb o e).1, fun b hb => ?_, w'⟩
        obtain ⟨o, e, _⟩ := T.obj _ _ st7 b hb
        exact (held b hb o e).2
      cases c with
      | false =>
        simp only [Bool.false_eq_true, if_false] at q9 ⊢
        exact fin I9 q9
      | true =>
        simp only [if_true] at q9 ⊢
        refine thnF (pk.run _ t9 τ G9 _ I9 q9) fun z t10 ⟨yk, G10, I10, r10, q10⟩ => ?_
        refine thnF (pv.run _ t10 τ G10 _ I10 q10) fun z2 t11 ⟨yv, G11, I11, r11, xs, k, b, ek, hb, hD, hz, hk, nx⟩ => ?_
        subst ek
        cases (show z = Value.ref b from r10)
        exact dho_set (X := X.blk t3 G3 scope ce fp) hu I11 hD hk hb (Nat.le_of_lt hz) fun t12 I12 => fin I12 (nx z2 r11)
  exact codeAny_compStart_dict loop (T.self X.A 0 _ _ _ st4 loop)
end
end Mi
set_option Elab.async false
set_option linter.all false
set_option maxRecDepth 100000
set_option maxHeartbeats 4000000
/-! a dict comprehension in the mirror -/
namespace Mi
open PySem PySem.Spec PyProof.Rows L2
def keyI : IV → Option (List Key)
  | .tup xs => xs.mapM fun x => match x with
    | .int i => some (.inl i)
    | .str z => some (.inr z)
    | _ => none
  | _ => none
theorem keyI_eq {x : IV} {k : List Key} (h : keyI x = some k) : x = .tup (k.map kI) := by
  cases x with
  | tup xs =>
    simp only [keyI] at h
    congr 1
    induction xs generalizing k with
    | nil => cases h; rfl
    | cons y r ih =>
      rw [List.mapM_cons] at h
      cases y with
      | int i =>
        simp only [Option.pure_def, Option.bind_eq_bind, Option.bind_some, Option.bind_eq_some_iff] at h
        obtain ⟨t, h1, h2⟩ := h
        cases h2
        rw [ih h1]; rfl
      | str i =>
        simp only [Option.pure_def, Option.bind_eq_bind, Option.bind_some, Option.bind_eq_some_iff] at h
        obtain ⟨t, h1, h2⟩ := h
        cases h2
        rw [ih h1]; rfl
      | _ => cases h
  | _ => cases h
theorem keyI_ints {ns : List Int} : keyI (.tup (ns.map .int)) = some (ns.map .inl) := by
  simp only [keyI]
  induction ns with
  | nil => rfl
  | cons n r ih => rw [List.map_cons, List.mapM_cons, ih]; rfl
theorem rvs_keys {G : Gd} {m bs : List Addr} {st : Sto} {H : Hp} : ∀ {k : List Key} {vs : List V}, RVs G m bs st H (k.map kI) vs → vs = k.map kV
  | [], vs, h => by simpa only [List.map_nil, RVs] using h
  | x :: r, vs, h => by
    simp only [List.map_cons, RVs] at h
    obtain ⟨v, t, rfl, h1, h2⟩ := h
    rw [rvs_keys h2, List.map_cons]
    cases x with
    | inl i => simp only [kI, RV] at h1; rw [h1]; rfl
    | inr i => simp only [kI, RV] at h1; rw [h1]; rfl
theorem rv_key {G : Gd} {m bs : List Addr} {st : Sto} {H : Hp} {k : List Key} {v : V} (h : RV G m bs st H (.tup (k.map kI)) v) : ∃ b, v = .ref b ∧ KAt G.K H b k := by
  simp only [RV] at h
  obtain ⟨a, vs, e, t, r⟩ := h
  rw [rvs_keys r] at t
  exact ⟨a, e, t.sq⟩
/-- d[k] = v -/
def dputI (kvs : List (List Key × IV)) (k : List Key) (y : IV) : List (List Key × IV) := if (kvs.find? fun p => decide (p.1 = k)).isSome then kvs.map (fun p => if p.1 = k then (p.1, y) else p) else kvs ++ [(k, y)]
section
variable {G : Gd} {m bs : List Addr} {st : Sto} {H : Hp}
theorem RDs.find {k : List Key} : ∀ {kvs : List (List Key × IV)} {xs : List (List Key × Addr × Value)}, RDs G m bs st H kvs xs → (atKey xs k).isSome = (kvs.find? fun p => decide (p.1 = k)).isSome
  | [], xs, h => by
    have : xs = [] := h
    rw [this]; rfl
  | (j, x) :: r, xs, h => by
    obtain ⟨b, u, v, t, rfl, _, _, _, h3⟩ := h
    have ih := RDs.find (k := k) h3
    unfold atKey at ih ⊢
    rw [List.find?_cons, List.find?_cons]
    by_cases e : j = k
    · simp [e]
    · simp only [e, decide_false, Bool.false_eq_true, if_false]
      exact ih
theorem RDs.mapPut {k : List Key} {y : IV} {u : Value} {v : V} (ry : RelV v u) (r : RV G m bs st H y v) : ∀ {kvs : List (List Key × IV)} {xs : List (List Key × Addr × Value)}, RDs G m bs st H kvs xs → RDs G m bs st H (kvs.map (fun p => if p.1 = k then (p.1, y) else p)) (xs.map (putAt k u))
  | [], xs, h => by
    have : xs = [] := h
    rw [this]; rfl
  | (j, x) :: q, xs, h => by
    obtain ⟨b, u1, v1, t, rfl, h0, h1, h2, h3⟩ := h
    have ih := RDs.mapPut (k := k) ry r h3
    rw [List.map_cons, List.map_cons]
    by_cases e : j = k
    · rw [if_pos e]
      unfold putAt
      rw [if_pos e]
      exact ⟨b, u, v, _, rfl, h0, ry, r, ih⟩
    · rw [if_neg e]
      unfold putAt
      rw [if_neg e]
      exact ⟨b, u1, v1, _, rfl, h0, h1, h2, ih⟩
theorem RDs.snoc {k : List Key} {y : IV} {b : Addr} {u : Value} {v : V} (rk : RV G m bs st H (.tup (k.map kI)) (.ref b)) (ry : RelV v u) (r : RV G m bs st H y v) : ∀ {kvs : List (List Key × IV)} {xs : List (List Key × Addr × Value)}, RDs G m bs st H kvs xs → RDs G m bs st H (kvs ++ [(k, y)]) (xs ++ [(k, b, u)])
  | [], xs, h => by
    have : xs = [] := h
    rw [this]; exact ⟨b, u, v, [], rfl, rk, ry, r, rfl⟩
  | (j, x) :: q, xs, h => by
    obtain ⟨b1, u1, v1, t, rfl, h0, h1, h2, h3⟩ := h
    exact ⟨b1, u1, v1, _, rfl, h0, h1, h2, RDs.snoc rk ry r h3⟩
theorem RDs.put {k : List Key} {y : IV} {b : Addr} {u : Value} {v : V} (rk : RV G m bs st H (.tup (k.map kI)) (.ref b)) (ry : RelV v u) (r : RV G m bs st H y v) {kvs : List (List Key × IV)} {xs : List (List Key × Addr × Value)} (h : RDs G m bs st H kvs xs) : RDs G m bs st H (dputI kvs k y) (storedH xs k b u) := by
  unfold dputI storedH
  rw [h.find]
  split
  · exact h.mapPut ry r
  · exact h.snoc rk ry r
theorem RDs.keys : ∀ {kvs : List (List Key × IV)} {xs : List (List Key × Addr × Value)}, RDs G m bs st H kvs xs → ∀ x ∈ xs, KAt G.K H x.2.1 x.1
  | [], xs, h, x, hx => by
    have : xs = [] := h
    rw [this] at hx; cases hx
  | (j, y) :: q, xs, h, x, hx => by
    obtain ⟨b1, u1, v1, t, rfl, h0, h1, h2, h3⟩ := h
    rcases List.mem_cons.mp hx with rfl | hx
    · obtain ⟨b, e, hb⟩ := rv_key h0
      cases e; exact hb
    · exact RDs.keys h3 x hx
theorem RDs.len : ∀ {kvs : List (List Key × IV)} {xs : List (List Key × Addr × Value)}, RDs G m bs st H kvs xs → xs.length = kvs.length
  | [], xs, h => by
    have : xs = [] := h
    rw [this]; rfl
  | (j, y) :: q, xs, h => by
    obtain ⟨b1, u1, v1, t, rfl, h0, h1, h2, h3⟩ := h
    rw [List.length_cons, List.length_cons, RDs.len h3]
/-- a thing just made, blocked so far, comes into the store -/
theorem fresh_live {m' : List Addr} {st' : Sto} {H' : Hp} {D : Addr} {o : IO} (R0 : Rel G m bs st H) (hD : H D = none) (g : GrowE m st H m' st' H') (R : Rel G m' (D :: bs) st' H')
    (ho : Fits G m' (D :: bs) st' H' (m' ++ [D]) bs (st' ++ [o]) H' → OR G (m' ++ [D]) bs (st' ++ [o]) H' o D) : GrowE m st H (m' ++ [D]) (st' ++ [o]) H' ∧ Rel G (m' ++ [D]) bs (st' ++ [o]) H' ∧ RV G (m' ++ [D]) bs (st' ++ [o]) H' (.ref st'.length) (.ref D) := by
  have sub : ∀ a ∈ bs, a ∈ D :: bs := fun a z => List.mem_cons_of_mem _ z
  have hn := R.bsd D List.mem_cons_self
  have nb : D ∉ bs := fun z => by
    obtain ⟨_, u, e'⟩ := R0.bsd D z
    rw [hD] at e'; cases e'
  have f : Fits G m' (D :: bs) st' H' (m' ++ [D]) bs (st' ++ [o]) H' := by
    refine ⟨fun l a h => ?_, fun a vs h => ?_, fun a vs h => ?_, fun a q u h => ?_⟩
    · rw [List.getElem?_append_left (List.getElem?_eq_some_iff.mp h).1]; exact h
    · rcases h with ⟨h, n, z⟩ | h
      · exact .inl ⟨h, fun y => (lv_snoc R.len y).elim n fun y => z (y ▸ List.mem_cons_self), fun y => z (sub a y)⟩
      · exact .inr h
    · rcases h with ⟨h, n, z⟩ | h
      · exact .inl ⟨h, fun y => (lv_snoc R.len y).elim n fun y => z (y ▸ List.mem_cons_self), fun y => z (sub a y)⟩
      · exact .inr h
    · obtain ⟨h, n, z⟩ := h
      exact ⟨h, fun y => (lv_snoc R.len y).elim n fun y => z (y ▸ List.mem_cons_self), fun y => z (sub a y)⟩
  refine ⟨⟨g.pre.trans (List.prefix_append _ _), fun a u ha na qa nx => ?_, g.stay⟩, ⟨by simp [R.len], fun i j x e1 e2 => ?_, fun l w x e1 e2 => ?_, fun x z => ⟨fun y => ?_, (R.bsd x (sub x z)).2⟩⟩, ?_⟩
  · obtain ⟨h1, n1, _⟩ := g.keep a u ha na qa nx
    exact ⟨h1, fun y => (lv_snoc R.len y).elim n1 (fun y => by rw [y, hD] at ha; cases ha), qa⟩
  · rcases getElem?_snoc e1 with e1 | ⟨i1, e1⟩
    · rcases getElem?_snoc e2 with e2 | ⟨i2, e2⟩
      · exact R.nd i j x e1 e2
      · exact absurd (List.mem_of_getElem? e1) (by rw [e2]; exact hn.1)
    · rcases getElem?_snoc e2 with e2 | ⟨i2, e2⟩
      · exact absurd (List.mem_of_getElem? e2) (by rw [e1]; exact hn.1)
      · omega
  · rcases getElem?_snoc e2 with e2 | ⟨i2, e2⟩
    · have hlt : l < st'.length := by rw [← R.len]; exact (List.getElem?_eq_some_iff.mp e2).1
      rw [List.getElem?_append_left hlt] at e1
      exact (R.obj l w x e1 e2).fits f fun _ e => e
    · subst e2
      rw [R.len] at i2; subst i2
      rw [List.getElem?_append_right (Nat.le_refl _)] at e1
      have ew : o = w := by simpa using e1
      rw [← ew]; exact ho f
  · rcases List.mem_append.mp y with y | y
    · exact (R.bsd x (sub x z)).1 y
    · have : x = D := by simpa using y
      exact nb (this ▸ z)
  · simp only [RV]
    exact ⟨D, rfl, by rw [← R.len, List.getElem?_append_right (Nat.le_refl _)]; simp⟩
end
def dcL (g : GI) (all : List IV) (vs : List Nat) (T : ITg) (S : IT) (A B : IE) (ρ : Slots) : List IV → List (List Key × IV) → Sto → R (List (List Key × IV))
  | [], acc, st => if gokB g st all = true then .ok acc st else .bad
  | x :: r, acc, st => if gokB g st all = true ∧ acc.length < 100000 then
      match T x (wipeI ρ vs) st with
      | .nx ρ1 st1 => ((S ρ1 st1).noE).bind fun b st2 => if b = true then ((A ρ1 st2).noE).bind fun y st3 => ((B ρ1 st3).noE).bind fun z st4 => (match keyI y with
          | some k => dcL g all vs T S A B ρ r (dputI acc k z) st4
          | none => .bad) else dcL g all vs T S A B ρ r acc st2
      | _ => .bad
    else .bad
theorem dputI_len (kvs : List (List Key × IV)) (k : List Key) (y : IV) : (dputI kvs k y).length ≤ kvs.length + 1 := by
  unfold dputI
  split <;> simp
def iDc (I : IIt) (vs : List Nat) (T : ITg) (S : IT) (A B : IE) : IE := fun ρ st => (I ρ st).bind fun p st => (dcL p.2 p.1 vs T S A B ρ p.1 [] st).bind fun kvs st => .ok (.ref st.length) (st ++ [.dct kvs])
section
variable {X : Cx} {W : WX} {xa : Xa}
theorem bind_mono_rds {G : Gd} {m bs : List Addr} {st : Sto} {H : Hp} {m' : List Addr} {st' : Sto} {H' : Hp} {kvs : List (List Key × IV)} {xs : List (List Key × Addr × Value)} (g : GrowE m st H m' st' H') (h : RDs G m bs st H kvs xs) : RDs G m' bs st' H' kvs xs := RDs.fits g.fitsE _ _ h
theorem dc_weak {g : TG} {tt : TT} {I : IIt} {T : ITg} {S : IT} {A B : IE} {vs : List Nat} (hT : CTg (gd X) xa vs g T) (hS : TtOk (gd X) xa tt S) (hpl : ∀ x ρ st, match T x ρ st with | .nx _ st' => st' = st | _ => True)
    {σ : L2.St} {H : Hp} {Q : VK} (h : teOf (gd X) W xa (iDc I vs T S A B) σ H Q) : tDcx X (tiOf (gd X) W xa I) g tt (teOf (gd X) W0 xa A) (teOf (gd X) W0 xa B) vs σ H Q := by
  obtain ⟨m, os, rs, ρ, st, P, h⟩ := h
  refine ⟨m, os, rs, ρ, st, P, ?_⟩
  unfold iDc at h
  cases q : I ρ st with
  | exc c fs st1 => rw [q] at h; exact h
  | bad => rw [q] at h; exact h
  | ok p st1 =>
    rw [q] at h
    intro m1 H1 g1 R1 J hw D hD sysD
    obtain ⟨xs, gd0⟩ := p
    have h0 : Pst (gd X) m (os ++ rs) st H (fun cls d H' => W cls d σ H') ((dcL gd0 xs vs T S A B ρ xs [] st1).bind fun kvs st => .ok (.ref st.length) (st ++ [.dct kvs])) (fun x m' st' H' => ∀ v, RV (gd X) m' (os ++ rs) st' H' x v → Q v H') := h
    have blk : ∀ a ∈ os ++ (D :: rs), a = D ∨ a ∈ os ++ rs := fun a z => (List.mem_append.mp z).elim (fun z => .inr (List.mem_append_left _ z)) fun z => (List.mem_cons.mp z).elim .inl fun z => .inr (List.mem_append_right _ z)
    have perm : ∀ a ∈ D :: (os ++ rs), a ∈ os ++ (D :: rs) := fun a z => (List.mem_cons.mp z).elim (fun z => z ▸ List.mem_append_right _ List.mem_cons_self) fun z => (List.mem_append.mp z).elim (List.mem_append_left _) fun z => List.mem_append_right _ (List.mem_cons_of_mem _ z)
    have Dm : D ∈ os ++ (D :: rs) := List.mem_append_right _ List.mem_cons_self
    have hD0 : H D = none := back_fresh R1 g1 P.rel hD
    have P1 := P.grow g1 R1
    have f1 : Fits (gd X) m1 (os ++ rs) st1 H1 m1 (os ++ (D :: rs)) st1 (upd H1 D (DHo X.prog X.w D [])) := fits_block hD blk
    have Q1 : Pre (gd X) xa σ (upd H1 D (DHo X.prog X.w D [])) m1 os (D :: rs) ρ st1 := by
      refine ⟨P1.rel.block hD blk, P1.re.len, fun i x e => ?_, fun i xs e => let ⟨a, e1, e2, e3⟩ := P1.re.own i xs e; ⟨a, e1, e2, fun z => (List.mem_cons.mp z).elim (fun z => by obtain ⟨_, o, q⟩ := P1.rel.bsd a (List.mem_append_left _ e2); rw [z, hD] at q; cases q) e3⟩, P1.re.uniq⟩
      obtain ⟨v, e1, r⟩ := P1.re.at_ i x e
      refine ⟨v, e1, ?_⟩
      cases x with
      | v x => exact RV.fits f1 _ _ r
      | own xs =>
        obtain ⟨a, vs, ea, ha, ra, hb⟩ := r
        refine ⟨a, vs, ea, by rw [upd_ne (ne_of_none ha hD)]; exact ha, RVs.fits f1 _ _ ra, (List.mem_append.mp hb).elim (List.mem_append_left _) fun z => List.mem_append_right _ (List.mem_cons_of_mem _ z)⟩
      | exn l => exact r
    refine ⟨fun i n H2 => n = xs.length - i ∧ i ≤ xs.length ∧ ∃ m2 st2 acc ys, acc.length ≤ 100000 ∧ GrowE m st H m2 st2 H2 ∧ Fits (gd X) m1 (os ++ rs) st1 H1 m2 (os ++ (D :: rs)) st2 H2 ∧ Pre (gd X) xa σ H2 m2 os (D :: rs) ρ st2 ∧ H2 D = some (DHo X.prog X.w D ys) ∧ RDs (gd X) m2 (os ++ (D :: rs)) st2 H2 acc ys ∧
        Pst (gd X) m (os ++ rs) st H (fun cls d H' => W cls d σ H') ((dcL gd0 xs vs T S A B ρ (xs.drop i) acc st2).bind fun kvs st => .ok (.ref st.length) (st ++ [.dct kvs])) (fun x m' st' H' => ∀ v, RV (gd X) m' (os ++ rs) st' H' x v → Q v H'),
      ⟨xs.length, by simp, Nat.zero_le _, m1, st1, [], [], Nat.zero_le _, g1.trans (grow_new hD), f1, Q1, upd_same, rfl, by simpa using h0⟩, ?_⟩
    rintro i n H2 ⟨rfl, hi, m2, st2, acc, ys, ha, g2, f2, P2, eD, ra, h2⟩
    have w := hw i m2 _ st2 H2 f2 P2.rel
    by_cases hlt : i < xs.length
    · have ed : xs.drop i = xs[i] :: xs.drop (i + 1) := List.drop_eq_getElem_cons hlt
      rw [ed, dcL] at h2
      split at h2
      · rename_i gk
        obtain ⟨w1, _⟩ := w gk.1
        obtain ⟨go, yl⟩ := w1 xs[i] (List.getElem?_eq_getElem hlt)
        refine .inr ⟨go, fun H' => i + 1 ≤ xs.length ∧ ∃ m2 st2 acc ys, acc.length ≤ 100000 ∧ GrowE m st H m2 st2 H' ∧ Fits (gd X) m1 (os ++ rs) st1 H1 m2 (os ++ (D :: rs)) st2 H' ∧ Pre (gd X) xa σ H' m2 os (D :: rs) ρ st2 ∧ H' D = some (DHo X.prog X.w D ys) ∧ RDs (gd X) m2 (os ++ (D :: rs)) st2 H' acc ys ∧
          Pst (gd X) m (os ++ rs) st H (fun cls d H' => W cls d σ H') ((dcL gd0 xs vs T S A B ρ (xs.drop (i + 1)) acc st2).bind fun kvs st => .ok (.ref st.length) (st ++ [.dct kvs])) (fun x m' st' H' => ∀ v, RV (gd X) m' (os ++ rs) st' H' x v → Q v H'), fun H' q => ⟨xs.length - (i + 1), by omega, rfl, q⟩, fun v H3 y => ?_⟩
        obtain ⟨g3, R3, r3⟩ := yl v H3 y
        have P3 := (P2.grow g3 R3).wipe vs
        have hp := hpl xs[i] (wipeI ρ vs) st2
        cases q1 : T xs[i] (wipeI ρ vs) st2 with
        | nx ρ4 st4 =>
          rw [q1] at hp
          simp only at hp
          subst hp
          simp only [q1] at h2
          refine hT v (L2.wipe σ vs) H3 _ m2 os (D :: rs) (wipeI ρ vs) st4 xs[i] P3 r3 ⟨ρ4, q1, fun σ2 P4 ew => ⟨by rw [ew, wipe_wipe], ?_⟩⟩
          have keepD : ∀ {m' : List Addr} {st' : Sto} {H' : Hp}, GrowE m2 st4 H2 m' st' H' → H' D = some (DHo X.prog X.w D ys) := fun {m' st' H'} g => (g.keep D _ eD (fun z => (P2.rel.bsd D Dm).1 z.mem) (by simp) (fun _ z => by cases z)).1
          refine hS σ2 H3 _ ⟨m2, os, D :: rs, ρ4, st4, P4, ?_⟩
          cases q2 : S ρ4 st4 with
          | ok b st5 =>
            rw [q2] at h2
            intro m5 H5 g5 R5 b' eb
            subst eb
            have gg5 : GrowE m2 st4 H2 m5 st5 H5 := g3.trans g5
            cases b with
            | false =>
              simp only [R.noE, R.bind] at h2
              exact ⟨hlt, m5, st5, acc, ys, ha, g2.trans gg5, f2.trans gg5.fitsE, (P2.grow g3 R3).grow g5 R5, keepD gg5, bind_mono_rds gg5 ra, by simp only [Bool.false_eq_true, if_false] at h2; exact h2⟩
            | true =>
              simp only [R.noE, R.bind, if_true] at h2
              refine ⟨m5, os, D :: rs, ρ4, st5, P4.grow g5 R5, ?_⟩
              cases q3 : A ρ4 st5 with
              | ok y st6 =>
                rw [q3] at h2
                intro m6 H6 g6 R6 u ru
                refine ⟨m6, os, D :: rs, ρ4, st6, (P4.grow g5 R5).grow g6 R6, ?_⟩
                simp only at h2
                cases q4 : B ρ4 st6 with
                | ok z st7 =>
                  rw [q4] at h2
                  intro m7 H7 g7 R7 u2 ru2
                  have gg7 : GrowE m2 st4 H2 m7 st7 H7 := (gg5.trans g6).trans g7
                  simp only at h2
                  cases q5 : keyI y with
                  | some k =>
                    rw [q5] at h2
                    have ey := keyI_eq q5
                    subst ey
                    have rk := RV.fits g7.fitsE _ _ ru
                    obtain ⟨b, eb, hb⟩ := rv_key rk
                    subst eb
                    have ra7 := bind_mono_rds gg7 ra
                    have e7 := keepD gg7
                    refine ⟨ys, k, b, rfl, hb, e7, by rw [ra.len]; exact szlt gk.2, ra7.keys, fun uu ruu => ?_⟩
                    have fu : Fits (gd X) m7 (os ++ (D :: rs)) st7 H7 m7 (os ++ (D :: rs)) st7 (upd H7 D (DHo X.prog X.w D (storedH ys k b uu))) := fits_upd Dm
                    have P7 := ((P4.grow g5 R5).grow g6 R6).grow g7 R7
                    have P7' := (((P2.grow g3 R3).grow g5 R5).grow g6 R6).grow g7 R7
                    refine ⟨hlt, m7, st7, dputI acc k z, storedH ys k b uu, Nat.le_trans (dputI_len _ _ _) (by omega), ?_, (f2.trans gg7.fitsE).trans fu, ⟨P7'.rel.upd Dm, P7'.re.len, fun j x e => ?_, P7'.re.own, P7'.re.uniq⟩, upd_same, RDs.fits fu _ _ (ra7.put rk ruu ru2), h2⟩
                    · have gg := g2.trans gg7
                      exact ⟨gg.pre, fun a o ha na qa nx => by
                        obtain ⟨k1, k2, _⟩ := gg.keep a o ha na qa nx
                        exact ⟨by rw [upd_ne (ne_of_none ha hD0)]; exact k1, k2, qa⟩, fun a e => gg.stay a (upd_stay e)⟩
                    · obtain ⟨v, e1, r⟩ := P7'.re.at_ j x e
                      refine ⟨v, e1, ?_⟩
                      cases x with
                      | v x => exact RV.fits fu _ _ r
                      | own zs =>
                        obtain ⟨a, us, ea, ha, rz, hb⟩ := r
                        obtain ⟨a', e3, ho⟩ := P7'.re.own j zs e
                        have ne : a ≠ D := by
                          intro z
                          rw [e1, ea] at e3
                          have z2 : a = a' := by cases e3; rfl
                          obtain ⟨_, o, e4⟩ := P.rel.bsd a' (List.mem_append_left _ ho.1)
                          rw [← z2, z, hD0] at e4; cases e4
                        exact ⟨a, us, ea, by rw [upd_ne ne]; exact ha, RVs.fits fu _ _ rz, hb⟩
                      | exn l => exact r
                  | none => rw [q5] at h2; exact h2.elim
                | exc c fs st6 => rw [q4] at h2; exact h2.elim
                | bad => rw [q4] at h2; exact h2.elim
              | exc c fs st6 => rw [q3] at h2; exact h2.elim
              | bad => rw [q3] at h2; exact h2.elim
          | exc c fs st5 => rw [q2] at h2; exact h2.elim
          | bad => rw [q2] at h2; exact h2.elim
        | _ => simp only [q1] at h2; exact h2.elim
      · exact h2.elim
    · have ei : i = xs.length := by omega
      rw [List.drop_eq_nil_of_le (by omega), dcL] at h2
      split at h2
      · rename_i gk
        refine .inl ⟨(w gk).2 (by show xs.length ≤ i; omega), ?_⟩
        obtain ⟨gl, Rl, rv⟩ := fresh_live (o := .dct acc) P.rel hD0 g2 (P2.rel.sub perm) fun f => ⟨sysD, ha, ys, eD, RDs.fits f _ _ (RDs.fits (fits_sub perm) _ _ ra)⟩
        exact h2 _ _ gl Rl _ rv
      · exact h2.elim
theorem me_dc {kx vx tg iter : Expr} {ifs : List Expr} {scope : Scope} {own : List (Str × Nat)} {pos : Pos} {g : TG} {tt : TT} {I : IIt} {T : ITg} {S : IT} {A B : IE} (hu : X.A.units < cLine) (hc : X.calm = true) (hN : X.N.Nodup) (hi : MI X W xa tg iter I) (ok : BlkOk X.N X.env.scope scope own)
    (hg : ∀ (s : Shared) (H : Hp) (C : Addr) (cl : List (Str × Addr)) (fp : List Addr), PG (X.blk s H scope (compEnvC scope cl C X.env) fp) tg g) (hT : CTg (gd X) xa (own.map (·.2)) g T) (hpl : ∀ x ρ st, match T x ρ st with | .nx _ st' => st' = st | _ => True)
    (ht : ∀ (s : Shared) (H : Hp) (C : Addr) (cl : List (Str × Addr)) (fp : List Addr), PTs (X.blk s H scope (compEnvC scope cl C X.env) fp) ifs tt) (hS : TtOk (gd X) xa tt S)
    (hk : ∀ (s : Shared) (H : Hp) (C : Addr) (cl : List (Str × Addr)) (fp : List Addr), PE (X.blk s H scope (compEnvC scope cl C X.env) fp) kx (teOf (gd X) W0 xa A))
    (hv : ∀ (s : Shared) (H : Hp) (C : Addr) (cl : List (Str × Addr)) (fp : List Addr), PE (X.blk s H scope (compEnvC scope cl C X.env) fp) vx (teOf (gd X) W0 xa B)) (hs : ∀ x, foldedSetIterable iter X.env x = pure x := by intro _; rfl) :
    ME X W xa (.DictComp kx vx [⟨tg, iter, ifs, 0⟩] scope pos) (iDc I (own.map (·.2)) T S A B) :=
  PE.weak (pe_dcx hu hc hN hi ok hg ht hk hv hs) fun σ H Q h => dc_weak hT hS hpl h
end
end Mi
set_option Elab.async false
set_option linter.all false
set_option maxRecDepth 100000
set_option maxHeartbeats 4000000
/-! enumerate(t), t a tuple; int(text) -/
namespace Mi
open PySem PySem.Spec PyProof.Rows L2
/-- enumerate(v) by what iter(v) makes -/
theorem enum_newB {v : Value} {o : Obj} {Hq : Heap → Prop} (B : Begins v o Hq) :
    Meets (Builtin.«enumerate.__new__» ⟨[.type "enumerate", v], []⟩) (fun _ R s => Hq s.heap ∧
      R (.ok (.ret (.ref (s.heap.push o).objs.size))) { s with heap := (s.heap.push o).push { cls := .type "enumerate", data := .fields #[.none, .bool false, .ref s.heap.objs.size, rawInt 0, .none, .none] } }) :=
  .of_wp fun prog w A R s h => by
    obtain ⟨hp, g, d, tk, os⟩ := s
    obtain ⟨h1, h⟩ := h
    have hsub := sub_enumerate
    have it : ∀ {A' : Around} {E : Value → Shared → Prop} {Q : Value → Shared → Prop}, Q (.ref hp.objs.size) ⟨hp.push o, g, d, tk, os⟩ → wpAny (model prog w) A' (pyIter v) Q E ⟨hp, g, d, tk, os⟩ := fun q => B.iter prog w _ _ ⟨hp, g, d, tk, os⟩ _ h1 q
    wp_walk using it
    refine wpAny_stack_any fun st => wpAny_pure ?_
    split
    · rename_i c _ _ _ _ _
      cases (c == Value.type "enumerate") <;> (wp_walk using it; exact ⟨_, rfl, h⟩)
    · wp_walk using it; exact ⟨_, rfl, h⟩
theorem enum_begins1 {prog : Program} {w : World} {A : Around} {E : Value → Shared → Prop} {s : Shared} {v : Value} {o : Obj} {Hq : Heap → Prop} {Q : Value → Shared → Prop} (B : Begins v o Hq) (h1 : Hq s.heap)
    (h : ∀ h', IsEnum h' (s.heap.objs.size + 1) s.heap.objs.size 0 .none → h'.get? s.heap.objs.size = some o → h'.objs.size = s.heap.objs.size + 2 →
      (∀ b u, s.heap.get? b = some u → h'.get? b = some u) → Q (.ref (s.heap.objs.size + 1)) { s with heap := h' }) :
    wpAny (model prog w) A (call (.type "enumerate") [v]) Q E s := by
  refine callType_new F.called_enumerate (by decide) (F.typeCall_enumerate_1 _) (F.newCall_enumerate_1 _) (fun obj => F.args_object_init_2 obj _) F.entry_enumerate_new (enum_newB B) ⟨h1, ?_⟩
  have hz : (s.heap.push o).objs.size = s.heap.objs.size + 1 := Heap.size_push ..
  show _ ∧ _
  rw [hz]
  have he : IsEnum ((s.heap.push o).push { cls := .type "enumerate", data := .fields #[.none, .bool false, .ref s.heap.objs.size, rawInt 0, .none, .none] }) (s.heap.objs.size + 1) s.heap.objs.size 0 .none := by
    have := Heap.get?_push_size (s.heap.push o) (o := { cls := .type "enumerate", data := .fields #[.none, .bool false, .ref s.heap.objs.size, rawInt 0, .none, .none] }) rfl
    rw [hz] at this; exact this
  exact ⟨⟨_, he, rfl⟩, h _ he (Heap.get?_push_of_some _ (Heap.get?_push_size _ B.free)) (by rw [Heap.size_push, hz]) fun b u x => Heap.get?_push_of_some _ (Heap.get?_push_of_some _ x)⟩
theorem enum_endT {prog : Program} {w : World} {A : Around} {E : Value → Shared → Prop} {s : Shared} {e it a : Addr} {i : Nat} {c : Int} {items : Array Value} {old : Value} {Q : Option Value → Shared → Prop} (hh : A.handled = none)
    (he : IsEnum s.heap e it c old) (hit : s.heap.IsTupleIter it a i) (p : s.heap.IsTuple a items) (hx : items[i]? = none) (hQ : ∀ h', Heap.ExtBut it s.heap h' → Q none { s with heap := h' }) : wpAny (model prog w) A (pyNext (.ref e)) Q E s := by
  have ty : s.TypeIs (.ref e) "enumerate" := ⟨_, he, rfl⟩
  unfold pyNext
  refine wpAny_bind (wpAny_attempt (wpAny_callSpecial?_slot (name := Str.ofString "__next__") ty F.slot_enumerate_next (wpAny_call_entry F.slot_enumerate_next ty F.entry_enumerate_next ?_ (F.args_enumerate_next_1 _))))
  show wpAny _ _ (field (.ref e) 2 >>= _) _ _ _
  refine wpAny_bind (wpAny_field he rfl (x := .ref it) rfl (wpAny_bind (wpAny_nextOf_tuple_end hh hit p hx fun h' x he' hx' => ?_)))
  obtain ⟨o, ho, hc⟩ := hx'
  exact wpAny_bind (wpAny_isInstance (T := "StopIteration") (b := true) ⟨o, ho, hc⟩ isSubtype_stop (wpAny_pure (hQ _ he')))
def IteT (K : PySem.W.Frag) (a : Addr) : It :=
  ⟨fun i H => ∃ (xs : List V) (x : V), SqT K H a xs ∧ xs[i]? = some x, fun i H v H' => ∃ T x, v = .ref T ∧ H T = none ∧ H' = upd H T (.tup [.int (i : Nat), x]) ∧ ∀ xs, SqT K H a xs → xs[i]? = some x, fun i H => ∃ xs : List V, SqT K H a xs ∧ xs.length ≤ i⟩
theorem turn_enumT {P : Program} {w : World} {K : PySem.W.Frag} {elts : List Expr} {kk : Nat} {tpos : Pos} (a e it : Addr) (hai : a ≠ it) :
    Turn P w K (.Tuple elts kk tpos) (IteT K a) [e, it] e (fun i h => (∃ old, IsEnum h e it ((i : Nat) : Int) old) ∧ h.IsTupleIter it a i ∧ e ≠ it) where
  mem := by simp
  obj := fun i h st b hb => by
    obtain ⟨⟨old, he⟩, ⟨o, ho, hc, hd⟩, _⟩ := st
    rcases (show b = e ∨ b = it by simpa using hb) with z | z
    · rw [z]; exact ⟨_, he, fun v q => nomatch q⟩
    · rw [z]; exact ⟨o, ho, fun v q => by rw [hd] at q; cases q⟩
  keep := fun i h h' st k => let ⟨⟨old, he⟩, hi, hne⟩ := st; ⟨⟨old, k e (by simp) _ he⟩, hi.at fun o q => k it (by simp) o q, hne⟩
  item := by
    intro X hP hw hK hc i pins s σ H E I hf st hg
    subst hP hw hK
    obtain ⟨⟨old, he⟩, hit, hne⟩ := st
    obtain ⟨xs, x, hq, hx⟩ := hg
    obtain ⟨its, rv, p, hz⟩ := I.tuple hq
    obtain ⟨u, hu, ru⟩ := rv.get hx
    have hel : e < s.heap.objs.size := Heap.lt_size he
    have hil : it < s.heap.objs.size := by obtain ⟨_, q, _⟩ := hit; exact Heap.lt_size q
    have hea : e ≠ a := fun z => by
      subst z
      obtain ⟨o1, e1, c1, _⟩ := p
      have : s.heap.get? e = some _ := he
      rw [e1] at this
      have z := Option.some.inj this
      rw [z] at c1
      injection c1 with c1
      exact absurd c1 (by decide)
    refine wpAny_pyNext_enum_itemD (Draws.tuple (A := X.A.in1) (I.ok.hd hc) it a hai its.toArray) he ⟨hit, p⟩ (by have := (List.getElem?_eq_some_iff.mp hu).1; simpa using this) hne (by simp [hne, hea]) fun y h' tk hy ho st' hT hsz hk => ?_
    obtain ⟨hit', hp'⟩ := st'
    have eyu : y = u := by
      have h1 : its.toArray[i]? = some y := hy
      have h2 : its.toArray[i]? = some u := by simpa using hu
      rw [h2] at h1; exact (Option.some.inj h1).symm
    subst eyu
    refine ⟨_, rfl, wpAny_letOwnedTupleGo_enum (s := { s with heap := h', toks := tk + 1 }) ho fun h'' he' sb => ?_⟩
    have hT2 : h''.get? s.heap.objs.size = some { cls := .type "tuple", data := .seq #[.int i tk, y] } := (sb.2 _ (Nat.ne_of_gt hel)).trans hT
    have new : ObjOk X.prog X.w (upd H s.heap.objs.size (.tup [.int (i : Nat), x])) h'' s.heap.objs.size (.tup [.int (i : Nat), x]) :=
      ⟨by show 2 ≤ sizeLine; decide, [.int i tk, y], .cons ⟨_, rfl⟩ (.cons ru .nil), ⟨_, hT2, rfl, _, rfl⟩⟩
    have I1 : Inv X pins σ (upd H s.heap.objs.size (.tup [.int (i : Nat), x])) { s with heap := h'', toks := tk + 1 } :=
      I.turnedNew (ch := [e, it]) (fun b ob hb q => (sb.2 b (fun z => hb (by simp [z]))).trans (hk b ob (fun z => hb (by simp [z])) (fun z => hb (by simp [z])) q)) hf (Nat.le_refl _) new
    refine ⟨.ref s.heap.objs.size, _, I1, rfl, ⟨_, x, rfl, I.hok.fresh (Nat.le_refl _), rfl, fun ys hy => by rw [I.tuple_inj hy hq]; exact hx⟩, ⟨⟨y, ?_⟩, hit'.at fun o q => (sb.2 it (Ne.symm hne)).trans q, hne⟩, fun b hb => ?_⟩
    · rw [show ((i + 1 : Nat) : Int) = (i : Int) + 1 by omega]; exact he'
    · have hb' : b < s.heap.objs.size := by
        rcases (show b = e ∨ b = it by simpa using hb) with z | z
        · rw [z]; exact hel
        · rw [z]; exact hil
      rw [upd_ne (Nat.ne_of_lt hb')]
      exact (hf b hb).1
  done := by
    intro X hP hw hK hc i pins s σ H E I hf st hg
    subst hP hw hK
    obtain ⟨⟨old, he⟩, hit, hne⟩ := st
    obtain ⟨xs, hq, hx⟩ := hg
    obtain ⟨its, rv, p, hz⟩ := I.tuple hq
    obtain ⟨f0, f1, f2, f3, f4, f5⟩ := hf it (by simp)
    have hl := rv.length
    exact enum_endT (I.ok.hd hc) he hit p (by simp; omega) fun h' eb => ⟨rfl, I.turned (t' := s.toks) (fun b o hb q => eb b o hb q) f0 f1 f3 f4 f5⟩
  self := fun A i s Q E st h => let ⟨⟨_, he⟩, _⟩ := st; wpAny_pyIter_enum he h
section
variable {X : Cx} {W : WX} {xa : Xa}
def iEnumTT (K : PySem.W.Frag) (ta : TA) : TI := fun σ H R => ta σ H fun vs H1 => ∃ a xs, vs = [.ref a] ∧ SqT K H1 a xs ∧ R (IteT K a) H1
theorem pi_enumT {e : Expr} {ta : TA} {p pos tpos : Pos} {elts : List Expr} {kk : Nat} (hg : Gl X "enumerate") (hm : X.mg "enumerate" = none) (ha : PA X [e] ta) (hs : starEach [e] X.env = [(false, eval e X.env)] := by rfl) :
    PI X (.Tuple elts kk tpos) (.Call (.Name "enumerate" p) [e] [] pos) (iEnumTT X.K ta) := by
  refine ⟨fun pins s σ H R I h => ?_⟩
  refine Call_ (ld_blt I hg hm boot_enumerate (PyProof.Rows.callWith_type1 (thn (ha.run pos pins s σ H _ I h) fun us t ⟨vs, H1, I1, r1, a, xs, ex, hq, q⟩ => ?_) hs rfl))
  subst ex
  cases r1 with
  | cons r rr =>
    cases rr
    cases r
    obtain ⟨its, rv, tp, hz⟩ := I1.tuple hq
    have lt1 : a < t.heap.objs.size := by obtain ⟨_, o, _⟩ := tp; exact Heap.lt_size o
    refine enum_begins1 (begins_tuple a its.toArray) tp fun h' he hit hsz hk => wpAny_pyIter_enum he ?_
    have I2 : Inv X pins σ H1 { t with heap := h' } := I1.kept (t' := t.toks) hk
    refine ⟨t.heap.objs.size + 1, [t.heap.objs.size + 1, t.heap.objs.size], _, _, H1, rfl, I2, turn_enumT a (t.heap.objs.size + 1) t.heap.objs.size (Nat.ne_of_lt lt1), ⟨⟨.none, he⟩, ⟨_, hit, rfl, rfl⟩, Nat.succ_ne_self _⟩, fun b hb => ?_, q⟩
    have hle : t.heap.objs.size ≤ b := by
      rcases (show b = t.heap.objs.size + 1 ∨ b = t.heap.objs.size by simpa using hb) with z | z
      · rw [z]; exact Nat.le_add_right _ _
      · rw [z]; exact Nat.le_refl _
    exact I1.fpOk hle (I1.hok.fresh hle)
def gEnumT : List IV → Sto → R (List IV × GI)
  | [.tup xs], st => .ok (enumI 0 xs, none) st
  | _, _ => .bad
theorem mi_enumT {a : Expr} {As : IA} {p pos tpos : Pos} {elts : List Expr} {kk : Nat} (hg : Gl X "enumerate") (hm : X.mg "enumerate" = none) (ha : MA X W xa [a] As) (hs : starEach [a] X.env = [(false, eval a X.env)] := by rfl) :
    MI X W xa (.Tuple elts kk tpos) (.Call (.Name "enumerate" p) [a] [] pos) (iRng gEnumT As) := by
  refine PI.mi (pi_enumT hg hm ha hs) fun σ H R h => ?_
  obtain ⟨m, os, rs, ρ, st, P, h⟩ := h
  refine ⟨m, os, rs, ρ, st, P, h.bind.mono fun xs m1 st1 H1 g1 R1 h1 vs rv => ?_⟩
  unfold gEnumT at h1
  split at h1
  · rename_i ys
    obtain ⟨v, e, r⟩ := rvs1 rv
    simp only [RV] at r
    obtain ⟨a, ws, ea, hl, rs1⟩ := r
    subst ea
    refine ⟨a, ws, e, hl.sq, h1.ok R1 _ ?_⟩
    intro i m2 bs2 st2 H2 g R _
    have hl1 := (g.tup _ _ hl).sq
    have r1 := RVs.fits g _ _ rs1
    refine ⟨fun x hx => ?_, fun hl => ⟨ws, hl1, by rw [← rs1.length]; simpa [enumI_len] using hl⟩⟩
    obtain ⟨z, hz, ez⟩ := enumI_get _ _ _ _ hx
    subst ez
    obtain ⟨v, hv, rv⟩ := r1.get hz
    refine ⟨⟨ws, v, hl1, hv⟩, fun w H' y => ?_⟩
    obtain ⟨T, u, e1, hT, e2, hu⟩ := y
    subst e1 e2
    have e : u = v := Option.some.inj ((hu ws hl1).symm.trans hv)
    subst e
    have := rv_pair (x := .int ((i : Nat) : Int)) (v := .int ((i : Nat) : Int)) R hT (by simp only [RV]) rv
    simpa using this
  · exact h1.elim
/-- int(text) -/
def gIntS : List IV → Sto → R IV
  | [.str x], st => match PySem.intText? x with
    | some n => if x.length ≤ 640 then .ok (.int n) st else .bad
    | none => .bad
  | _, _ => .bad
theorem cm_intS : CallM X (.type "int") gIntS := by
  refine ⟨_, call_int_str, fun m bs st H xs xs' Q W R rx h => ?_⟩
  unfold gIntS at h
  split at h
  · split at h
    · rename_i n e2
      split at h
      · rename_i hl
        obtain ⟨v, e, r⟩ := rvs1 rx
        simp only [RV] at r
        subst r
        exact ⟨_, n, e, e2, hl, h.v R (by simp only [RV])⟩
      · exact h.elim
    · exact h.elim
  · exact h.elim
end
end Mi
set_option Elab.async false
set_option linter.all false
set_option maxRecDepth 100000
set_option maxHeartbeats 4000000
/-! == of two dicts whose keys are tuples -/
namespace Mi
open PySem PySem.Spec PyProof.Rows L2
section
variable {prog : Program} {w : World} {K : Type} [DecidableEq K] {knd : HeapKind prog w K} {A : Around} {E : Value → Shared → Prop} {s : Shared}
inductive HitsH {K : Type} [DecidableEq K] (prog : Program) (w : World) (A : Around) (s : Shared) (kb : List (K × Addr × Value)) : List (K × Addr × Value) → Bool → Prop
  | nil : HitsH prog w A s kb [] true
  | miss {x : K × Addr × Value} {r : List (K × Addr × Value)} : atKey kb x.1 = none → HitsH prog w A s kb (x :: r) false
  | no {x : K × Addr × Value} {r : List (K × Addr × Value)} {p : Addr × Value} : atKey kb x.1 = some p → SeqAt.EqP prog w A s x.2.2 p.2 false → HitsH prog w A s kb (x :: r) false
  | hit {x : K × Addr × Value} {r : List (K × Addr × Value)} {p : Addr × Value} {b : Bool} : atKey kb x.1 = some p → SeqAt.EqP prog w A s x.2.2 p.2 true → HitsH prog w A s kb r b → HitsH prog w A s kb (x :: r) b
theorem same_pairsH {nm : String} {a b : Addr} {ka kb : List (K × Addr × Value)} {r : Bool} {Q : Bool → Shared → Prop} (hu : knd.room A) (ha : (a == sysModules) = false) (hb : (b == sysModules) = false)
    (da : s.heap.DictOfH knd a ka) (db : s.heap.DictOfH knd b kb) (hits : ka.length = kb.length → HitsH prog w A s kb ka r) (h : Q (decide (ka.length = kb.length) && r) s) :
    wpAny (model prog w) A (Builtin.Dict.samePairs nm a b) Q E s := by
  obtain ⟨oa, es, ep, hoa, _, hda, hea, hia, hna⟩ := da
  obtain ⟨ob, fs, ep', hob, _, hdb, heb, hib, hnb⟩ := db
  have za : es.size = ka.length := size_of_entries hea
  have zb : fs.size = kb.length := size_of_entries heb
  unfold Builtin.Dict.samePairs Builtin.Dict.showsAll
  rw [if_neg (show ¬ (a == sysModules) = true by rw [ha]; exact Bool.false_ne_true), if_neg (show ¬ (b == sysModules) = true by rw [hb]; exact Bool.false_ne_true)]
  refine wpAny_bind (wpAny_pure (wpAny_bind (wpAny_pure (wpAny_bind (wpAny_dictEntries hoa hda ?_)))))
  dsimp only
  refine wpAny_bind (wpAny_dictEntries hob hdb ?_)
  by_cases hz : es.size = fs.size
  case neg =>
    rw [if_pos (by simpa using hz)]
    have : ¬ ka.length = kb.length := by omega
    rw [decide_eq_false this, Bool.false_and] at h
    exact wpAny_bind (wpAny_rule (wpAny_pure h))
  case pos =>
    have hl : ka.length = kb.length := by omega
    have hh := hits hl
    rw [decide_eq_true hl, Bool.true_and] at h
    rw [if_neg (by rw [hz]; simp)]
    refine wpAny_bind (wpAny_dictEpoch hoa hda (wpAny_bind ?_))
    rw [Std.Legacy.Range.forIn_eq_forIn_range']
    simp only [Std.Legacy.Range.size, Nat.sub_zero, Nat.add_sub_cancel, Nat.div_one]
    refine wpAny_forIn_list _ (fun rest q t => t = s ∧ q = (none, ()) ∧ ∃ i, rest = List.range' i (es.size - i) ∧ i ≤ es.size ∧ HitsH prog w A s kb (ka.drop i) r) _ ?_ ?_ _ _ ⟨rfl, rfl, 0, by simp, Nat.zero_le _, hh⟩
    · rintro x rest q t ⟨rfl, rfl, i, hr, hi, pre⟩
      have hlt : i < es.size := by
        apply Classical.byContradiction
        intro z
        rw [show es.size - i = 0 by omega] at hr
        simp at hr
      obtain ⟨ex, er⟩ : x = i ∧ rest = List.range' (i + 1) (es.size - (i + 1)) := by
        rw [show es.size - i = (es.size - (i + 1)) + 1 by omega, List.range'_succ] at hr
        injection hr with h1 h2
        exact ⟨h1, h2⟩
      subst ex
      have hlk : x < ka.length := by omega
      obtain ⟨y, hy⟩ : ∃ y, ka[x] = y := ⟨_, rfl⟩
      have ent : es[x]? = some (entryOfKey knd y) := by rw [entry_at hea x, List.getElem?_eq_getElem hlk, hy]; rfl
      have dr : ka.drop x = y :: ka.drop (x + 1) := by rw [← hy]; exact List.drop_eq_getElem_cons hlk
      rw [dr] at pre
      have ky := hia y (by rw [← hy]; exact List.getElem_mem hlk)
      refine wpAny_bind (wpAny_dictEntries hoa hda ?_)
      rw [ent]
      show wpAny _ _ (holding [Value.ref y.2.1, y.2.2] _ >>= _) _ _ _
      refine wpAny_bind (wpAny_holding (wpAny_bind (wpAny_dictFind_heap hu ky hob hdb heb hib hnb (fun hno => ?_) (fun j p hj => ?_))))
      · have hn := atKey_none_of_get hno
        have : r = false := by
          cases pre with
          | miss _ => rfl
          | no e _ => rfl
          | hit e _ _ => rw [hn] at e; cases e
        rw [this] at h
        refine wpAny_pure ?_
        show wpAny _ _ (if (!false) = true then _ else _) _ _ _
        rw [if_pos (by decide)]
        exact wpAny_pure (wpAny_pure h)
      · have hs := atKey_of_get hnb hj
        have ent2 : fs[j]? = some (entryOfKey knd (y.1, p)) := by rw [entry_at heb j, hj]; rfl
        refine wpAny_bind (wpAny_dictEntries hob hdb ?_)
        rw [ent2]
        show wpAny _ _ (holding [p.2] (eqBool y.2.2 p.2)) _ _ _
        cases pre with
        | miss e => rw [hs] at e; cases e
        | no e eq =>
          rw [hs] at e
          cases e
          refine wpAny_holding (eq _ _ ?_)
          show wpAny _ _ (if (!false) = true then _ else _) _ _ _
          rw [if_pos (by decide)]
          exact wpAny_pure (wpAny_pure h)
        | hit e eq more =>
          rw [hs] at e
          cases e
          refine wpAny_holding (eq _ _ ?_)
          show wpAny _ _ (if (!true) = true then _ else _) _ _ _
          rw [if_neg (by decide)]
          refine wpAny_bind (wpAny_dictEpoch hoa hda ?_)
          rw [if_neg (by simp)]
          exact wpAny_pure ⟨rfl, rfl, x + 1, er, hlt, more⟩
    · rintro q t ⟨rfl, rfl, i, hr, hi, pre⟩
      have hin : i = es.size := by
        apply Classical.byContradiction
        intro z
        rw [show es.size - i = (es.size - (i + 1)) + 1 by omega, List.range'_succ] at hr
        exact nomatch hr
      refine wpAny_pure ?_
      rw [hin, za, List.drop_length] at pre
      cases pre
      exact h
theorem rc_dictsH {a b : Addr} {ka kb : List (K × Addr × Value)} {r : Bool} (hr : knd.room A.in1) (hu : A.units < cLine) (ha : (a == sysModules) = false) (hb : (b == sysModules) = false) (da : s.heap.DictOfH knd a ka) (db : s.heap.DictOfH knd b kb)
    (hits : ka.length = kb.length → HitsH prog w A.in1 s kb ka r) (Q : Value → Shared → Prop) (h : Q (.bool (decide (ka.length = kb.length) && r)) s) : wpAny (model prog w) A (richCompare .Eq (.ref a) (.ref b)) Q E s := by
  refine wpAny_richCompare_same_room (op := .Eq) da.typeIs db.typeIs PySem.F.slot_dict_eq (wpAny_call_entry PySem.F.slot_dict_eq da.typeIs PySem.F.entry_dict_eq ?_ (PySem.F.args_dict_eq_2 _ _)) hu
  show wpAny _ _ (Builtin.Dict.dictSlotArgs "__eq__" ⟨[.ref a, .ref b], []⟩ >>= _) _ _ s
  refine wpAny_bind ?_
  unfold Builtin.Dict.dictSlotArgs
  refine wpAny_bind (wpAny_notOrdered_dict da.typeIs ?_)
  show wpAny _ _ (pure (Value.ref a, Value.ref b)) _ _ s
  refine wpAny_pure (wpAny_bind (wpAny_isInstance (T := "dict") db.typeIs PySem.F.sub_dict_dict ?_))
  simp only [Bool.not_true, Bool.false_eq_true, if_false]
  refine wpAny_bind (wpAny_pure (wpAny_bind (wpAny_pure (wpAny_bind (same_pairsH hr ha hb da db hits (wpAny_pure ⟨_, rfl, ?_, ?_⟩))))))
  · exact fun x => nomatch x
  · simpa using h
end
end Mi
set_option Elab.async false
set_option linter.all false
set_option maxRecDepth 100000
set_option maxHeartbeats 4000000
/-! d[k], k in d, d == e (keys: tuples), an own __call__, in the mirror -/
namespace Mi
open PySem PySem.Spec PyProof.Rows L2
section
variable {X : Cx} {W : WX} {xa : Xa} {a b e : Expr} {A B : IE} {pos p apos : Pos} {es : List Expr} {As : IA}
/-! ### d[k] -/
def rIxT (X : Cx) : R2 := fun x y H Q => ∃ c b ks k q v, x = .ref c ∧ y = .ref b ∧ H c = some (DHo X.prog X.w c ks) ∧ (∀ z ∈ ks, KAt X.K H z.2.1 z.1) ∧ KAt X.K H b k ∧ atKey ks k = some q ∧ RelV v q.2 ∧ Q v H
theorem ix_dho (hu : X.A.units + 1 < cLine) : IxR X (rIxT X) := by
  intro value slice pins s σ H x y v u Q I rx ry h hs
  obtain ⟨c, b, ks, k, q, v1, rfl, rfl, ec, hk, hb, ha, rv, hq⟩ := h
  obtain rfl : v = Value.ref c := rx
  obtain rfl : u = Value.ref b := ry
  have dd := dho_of I ec hk
  exact tail_any dd.typeIs PySem.F.slot_dict_getitem.lookup (wpAny_getItem_heap (knd := KT' X) (tupleKind_room_in1 hu) (kat_is I hb) dd ha ⟨v1, H, I.tok _, rv, hq⟩) hs
def getI (kvs : List (List Key × IV)) (k : List Key) : Option IV := (kvs.find? fun p => decide (p.1 = k)).map (·.2)
theorem RDs.at {G : Gd} {m bs : List Addr} {st : Sto} {H : Hp} {k : List Key} {x : IV} : ∀ {kvs : List (List Key × IV)} {xs : List (List Key × Addr × Value)}, RDs G m bs st H kvs xs → getI kvs k = some x → ∃ q v, atKey xs k = some q ∧ RelV v q.2 ∧ RV G m bs st H x v
  | [], xs, h, e => by cases e
  | (j, y) :: r, xs, h, e => by
    obtain ⟨b, u, v, t, rfl, h0, h1, h2, h3⟩ := h
    unfold getI at e
    rw [List.find?_cons] at e
    unfold atKey
    rw [List.find?_cons]
    by_cases c : j = k
    · simp only [c, decide_true, Option.map_some] at e ⊢
      cases e
      exact ⟨_, v, rfl, h1, h2⟩
    · simp only [c, decide_false] at e ⊢
      exact RDs.at h3 e
theorem RDs.no {G : Gd} {m bs : List Addr} {st : Sto} {H : Hp} {k : List Key} : ∀ {kvs : List (List Key × IV)} {xs : List (List Key × Addr × Value)}, RDs G m bs st H kvs xs → getI kvs k = none → atKey xs k = none
  | [], xs, h, e => by
    have : xs = [] := h
    rw [this]; rfl
  | (j, y) :: r, xs, h, e => by
    obtain ⟨b, u, v, t, rfl, h0, h1, h2, h3⟩ := h
    unfold getI at e
    rw [List.find?_cons] at e
    unfold atKey
    rw [List.find?_cons]
    by_cases c : j = k
    · simp [c] at e
    · simp only [c, decide_false] at e ⊢
      exact RDs.no h3 e
def dctAt (st : Sto) : IV → Option (List (List Key × IV))
  | .ref l => match st[l]? with
    | some (.dct kvs) => some kvs
    | _ => none
  | _ => none
theorem dctAt_re {G : Gd} {m bs : List Addr} {st : Sto} {H : Hp} (R : Rel G m bs st H) {x : IV} {v : V} {kvs : List (List Key × IV)} (e : dctAt st x = some kvs) (r : RV G m bs st H x v) : ∃ c xs, v = .ref c ∧ (c == sysModules) = false ∧ H c = some (DHo G.P G.w c xs) ∧ RDs G m bs st H kvs xs := by
  cases x with
  | ref l =>
    simp only [dctAt] at e
    split at e
    · rename_i k eo
      cases e
      simp only [RV] at r
      obtain ⟨c, ev, hm⟩ := r
      obtain ⟨z1, z2, xs, h1, h2⟩ := R.obj l _ c eo hm
      exact ⟨c, xs, ev, z1, h1, h2⟩
    · cases e
  | _ => cases e
def gIxT : IV → IV → Sto → R IV := fun x y st => match dctAt st x with
  | some kvs => match keyI y with
    | some k => match getI kvs k with
      | some z => .ok z st
      | none => .bad
    | none => .bad
  | none => .bad
theorem me_ixT (hu : X.A.units + 1 < cLine) (ha : ME X W xa a A) (hb : ME X W xa b B) (hs : PlainIx b := by exact fun _ _ => rfl) : ME X W xa (.Subscript a b pos) (iBin gIxT A B) := by
  refine PE.weak (pe_ix (ix_dho hu) ha hb hs) fun σ H Q h => ?_
  obtain ⟨m, os, rs, ρ, st, P, h⟩ := h
  refine ⟨m, os, rs, ρ, st, P, h.bind.mono fun x m1 st1 H1 g1 R1 h1 x' rx => ⟨m1, os, rs, ρ, st1, P.grow g1 R1, h1.bind.mono fun y m2 st2 H2 g2 R2 h2 y' ry => ?_⟩⟩
  have rx := RV.fits g2.fitsE _ _ rx
  unfold gIxT at h2
  split at h2
  · rename_i kvs e1
    obtain ⟨c, xs, rfl, _, hc, rd⟩ := dctAt_re R2 e1 rx
    split at h2
    · rename_i k e2
      have ey := keyI_eq e2
      subst ey
      obtain ⟨b', rfl, hb'⟩ := rv_key ry
      split at h2
      · rename_i z e3
        obtain ⟨q, v, hq, rv, rz⟩ := rd.at e3
        exact ⟨c, b', xs, k, q, v, rfl, rfl, hc, rd.keys, hb', hq, rv, h2.v R2 rz⟩
      · exact h2.elim
    · exact h2.elim
  · exact h2.elim
/-! ### k in d -/
def rInT (X : Cx) (neg : Bool) : R2 := fun y x H Q => ∃ c b ks k, x = .ref c ∧ y = .ref b ∧ (c == sysModules) = false ∧ H c = some (DHo X.prog X.w c ks) ∧ (∀ z ∈ ks, KAt X.K H z.2.1 z.1) ∧ KAt X.K H b k ∧ Q (.bl (if neg then !(atKey ks k).isSome else (atKey ks k).isSome)) H
theorem op_inT (hu : X.A.units + 1 < cLine) : OpR X (compareOp .In) (rInT X false) := by
  intro pins s σ H y x u v Q I ry rx h
  obtain ⟨c, b, ks, k, rfl, rfl, hs, ec, hk, hb, q⟩ := h
  obtain rfl : v = Value.ref c := rx
  obtain rfl : u = Value.ref b := ry
  exact wpAny_in_heap (knd := KT' X) (tupleKind_room_in1 hu) (kat_is I hb) hs (dho_of I ec hk) ⟨.bl _, H, I.tok _, rfl, q⟩
theorem op_notInT (hu : X.A.units + 1 < cLine) : OpR X (compareOp .NotIn) (rInT X true) := by
  intro pins s σ H y x u v Q I ry rx h
  obtain ⟨c, b, ks, k, rfl, rfl, hs, ec, hk, hb, q⟩ := h
  obtain rfl : v = Value.ref c := rx
  obtain rfl : u = Value.ref b := ry
  exact wpAny_notIn_heap (knd := KT' X) (tupleKind_room_in1 hu) (kat_is I hb) hs (dho_of I ec hk) ⟨.bl _, H, I.tok _, rfl, q⟩
def gInT (neg : Bool) : IV → IV → Sto → R IV := fun y x st => match dctAt st x with
  | some kvs => match keyI y with
    | some k => .ok (.bl (if neg then !(getI kvs k).isSome else (getI kvs k).isSome)) st
    | none => .bad
  | none => .bad
theorem inT_weak {op : CmpOp} {neg : Bool} (ho : OpR X (compareOp op) (rInT X neg)) : OpM X (compareOp op) (gInT neg) := by
  refine ⟨_, ho, fun m bs st H y x y' x' Q W R ry rx h => ?_⟩
  unfold gInT at h
  split at h
  · rename_i kvs e1
    obtain ⟨c, xs, rfl, hs, hc, rd⟩ := dctAt_re R e1 rx
    split at h
    · rename_i k e2
      have ey := keyI_eq e2
      subst ey
      obtain ⟨b', rfl, hb'⟩ := rv_key ry
      have es : (getI kvs k).isSome = (atKey xs k).isSome := by
        cases q : getI kvs k with
        | none => rw [rd.no q]; rfl
        | some z =>
          obtain ⟨q', _, h1, _⟩ := rd.at q
          rw [h1]; rfl
      rw [es] at h
      exact ⟨c, b', xs, k, rfl, rfl, hs, hc, rd.keys, hb', h.v R (by simp only [RV])⟩
    · exact h.elim
  · exact h.elim
theorem opm_inT (hu : X.A.units + 1 < cLine) : OpM X (compareOp .In) (gInT false) := inT_weak (op_inT hu)
theorem opm_notInT (hu : X.A.units + 1 < cLine) : OpM X (compareOp .NotIn) (gInT true) := inT_weak (op_notInT hu)
/-! ### d == e -/
def EqDt (K : PySem.W.Frag) (H : Hp) (u1 u2 : Value) (b : Bool) : Prop := ∃ v1 v2 d e, RelV v1 u1 ∧ RelV v2 u2 ∧ Dp K H v1 d ∧ Dp K H v2 e ∧ d.canLay0 = true ∧ e.canLay0 = true ∧ d.depth ≤ 60 ∧ b = PyData.eqv d e
inductive HitsD (K : PySem.W.Frag) (H : Hp) (kb : List (List Key × Addr × Value)) : List (List Key × Addr × Value) → Bool → Prop
  | nil : HitsD K H kb [] true
  | miss {x : List Key × Addr × Value} {r : List (List Key × Addr × Value)} : atKey kb x.1 = none → HitsD K H kb (x :: r) false
  | no {x : List Key × Addr × Value} {r : List (List Key × Addr × Value)} {p : Addr × Value} : atKey kb x.1 = some p → EqDt K H x.2.2 p.2 false → HitsD K H kb (x :: r) false
  | hit {x : List Key × Addr × Value} {r : List (List Key × Addr × Value)} {p : Addr × Value} {b : Bool} : atKey kb x.1 = some p → EqDt K H x.2.2 p.2 true → HitsD K H kb r b → HitsD K H kb (x :: r) b
theorem eqdt_eqp {pins : List (Addr × Obj)} {σ : L2.St} {H : Hp} {s : Shared} (hu : X.A.units + 64 < cLine) (I : Inv X pins σ H s) {u1 u2 : Value} {b : Bool} (h : EqDt X.K H u1 u2 b) : SeqAt.EqP X.prog X.w X.A.in1 s u1 u2 b := by
  obtain ⟨v1, v2, d, e, r1, r2, d1, d2, c1, c2, hd, rfl⟩ := h
  obtain ⟨as, h1⟩ := Dp.reads I d v1 u1 d1 r1
  obtain ⟨bs, h2⟩ := Dp.reads I e v2 u2 d2 r2
  exact (SeqAt.eqAt_reads d e X.A.in1 s u1 u2 as bs h1 h2 c1 c2 (by have := Nat.min_le_left d.depth e.depth; have e1 : X.A.in1.units = X.A.units + 1 := rfl; rw [e1]; omega)).eqP
theorem hitsD_H {pins : List (Addr × Obj)} {σ : L2.St} {H : Hp} {s : Shared} (hu : X.A.units + 64 < cLine) (I : Inv X pins σ H s) {kb ka : List (List Key × Addr × Value)} {b : Bool} (h : HitsD X.K H kb ka b) : HitsH X.prog X.w X.A.in1 s kb ka b := by
  induction h with
  | nil => exact .nil
  | miss e => exact .miss e
  | no e q => exact .no e (eqdt_eqp hu I q)
  | hit e q _ ih => exact .hit e (eqdt_eqp hu I q) ih
def rEqT (X : Cx) : R2 := fun x y H Q => ∃ a b ka kb r, x = .ref a ∧ y = .ref b ∧ (a == sysModules) = false ∧ (b == sysModules) = false ∧ H a = some (DHo X.prog X.w a ka) ∧ H b = some (DHo X.prog X.w b kb) ∧ (∀ z ∈ ka, KAt X.K H z.2.1 z.1) ∧ (∀ z ∈ kb, KAt X.K H z.2.1 z.1) ∧ (ka.length = kb.length → HitsD X.K H kb ka r) ∧ Q (.bl (decide (ka.length = kb.length) && r)) H
theorem op_eqT (hu : X.A.units + 64 < cLine) : OpR X (compareOp .Eq) (rEqT X) := by
  intro pins s σ H x y v u Q I rx ry h
  obtain ⟨a, b, ka, kb, r, rfl, rfl, sa, sb, ea, eb, ha, hb, hits, q⟩ := h
  obtain rfl : v = Value.ref a := rx
  obtain rfl : u = Value.ref b := ry
  exact rc_dictsH (knd := KT' X) (tupleKind_room_in1 (by omega)) (by omega) sa sb (dho_of I ea ha) (dho_of I eb hb) (fun hl => hitsD_H hu I (hits hl)) _ ⟨.bl _, H, I, rfl, q⟩
def eqVs (st : Sto) (x y : IV) : Option Bool := match toD st x, toD st y with
  | some d, some e => if d.canLay0 = true ∧ e.canLay0 = true ∧ d.depth ≤ 60 then some (PyData.eqv d e) else none
  | _, _ => none
def hitsI (st : Sto) (kb : List (List Key × IV)) : List (List Key × IV) → Option Bool
  | [] => some true
  | (k, x) :: r => match getI kb k with
    | none => some false
    | some y => match eqVs st x y with
      | some true => hitsI st kb r
      | some false => some false
      | none => none
theorem hitsI_D {G : Gd} {m bs : List Addr} {st : Sto} {H : Hp} (R : Rel G m bs st H) {kb : List (List Key × IV)} {xb : List (List Key × Addr × Value)} (rb : RDs G m bs st H kb xb) : ∀ {ka : List (List Key × IV)} {xs : List (List Key × Addr × Value)} {r : Bool}, RDs G m bs st H ka xs → hitsI st kb ka = some r → HitsD G.K H xb xs r
  | [], xs, r, h, e => by
    have : xs = [] := h
    rw [this]
    cases e
    exact .nil
  | (k, x) :: q, xs, r, h, e => by
    obtain ⟨b, u, v, t, rfl, h0, h1, h2, h3⟩ := h
    simp only [hitsI] at e
    split at e
    · rename_i e1
      cases e
      exact .miss (rb.no e1)
    · rename_i y e1
      obtain ⟨p, v2, hp, rp, ry⟩ := rb.at e1
      cases q2 : eqVs st x y with
      | none => rw [q2] at e; cases e
      | some bb =>
        have dt : EqDt G.K H u p.2 bb := by
          unfold eqVs at q2
          split at q2
          · rename_i d d' g1 g2
            split at q2
            · rename_i c
              cases q2
              exact ⟨v, v2, d, d', h1, rp, toD_dp R g1 h2, toD_dp R g2 ry, c.1, c.2.1, c.2.2, rfl⟩
            · cases q2
          · cases q2
        rw [q2] at e
        cases bb with
        | true => exact .hit hp dt (hitsI_D R rb h3 e)
        | false => cases e; exact .no hp dt
def gEqT : IV → IV → Sto → R IV := fun x y st => match dctAt st x, dctAt st y with
  | some ka, some kb => if ka.length = kb.length then (match hitsI st kb ka with | some r => .ok (.bl r) st | none => .bad) else .ok (.bl false) st
  | _, _ => .bad
theorem opm_eqT (hu : X.A.units + 64 < cLine) : OpM X (compareOp .Eq) gEqT := by
  refine ⟨_, op_eqT hu, fun m bs st H x y x' y' Q W R rx ry h => ?_⟩
  unfold gEqT at h
  split at h
  · rename_i ka kb e1 e2
    obtain ⟨a, xa, rfl, sa, ha, ra⟩ := dctAt_re R e1 rx
    obtain ⟨b, xb, rfl, sb, hb, rb⟩ := dctAt_re R e2 ry
    have la := ra.len
    have lb := rb.len
    split at h
    · rename_i hl
      split at h
      · rename_i r e3
        refine ⟨a, b, xa, xb, r, rfl, rfl, sa, sb, ha, hb, ra.keys, rb.keys, fun _ => hitsI_D R rb ra e3, ?_⟩
        have : xa.length = xb.length := by omega
        rw [decide_eq_true this, Bool.true_and]
        exact h.v R (by simp only [RV])
      · exact h.elim
    · rename_i hl
      have hn : ¬ xa.length = xb.length := by omega
      refine ⟨a, b, xa, xb, true, rfl, rfl, sa, sb, ha, hb, ra.keys, rb.keys, fun z => absurd z hn, ?_⟩
      rw [decide_eq_false hn, Bool.false_and]
      exact h.v R (by simp only [RV])
  · exact h.elim
end
/-! ### x(..), x an object whose class has __call__ -/
def CallOM (P : Program) (w : World) (K : PySem.W.Frag) (mg : Str → Option Value) (base : Heap) (c : Str) (k n : Nat) (F : Fn) : Prop :=
  ∃ C f fd ps, mg c = some (.ref C) ∧ Cls K C ∧ Meth K C "__call__" f ∧ PySem.W.fnIn K f = true ∧ Binds K fd ps [] ∧ FnOk P w K mg base (L2.CX P w) k f fd ps (spOf ⟨K, mg, P, w⟩ n F)
def tCallO (C : Addr) (sp : Sp) (E : L2.St → XK) (ta : TE) (t : TA) : TE := fun σ H Q => ta σ H fun x H1 => ∃ a dx fs, x = .ref a ∧ H1 a = some (.ins C dx fs) ∧ t σ H1 fun vs H2 => (∃ dx fs, H2 a = some (.ins C dx fs)) ∧ sp (x :: vs) H2 Q (E σ)
section
variable {X : Cx} {W : WX} {xa : Xa} {e : Expr} {A : IE} {pos p : Pos} {es : List Expr} {As : IA}
theorem inst_is {pins : List (Addr × Obj)} {σ : L2.St} {H : Hp} {s : Shared} {a C dx : Addr} {fs : List (Str × V)} (I : Inv X pins σ H s) (h : H a = some (.ins C dx fs)) : ∃ od, PySem.W.InstAt s.heap a (PySem.W.instObj C dx) C od := by
  obtain ⟨_, _, _, e, mA, ⟨od, es, ep, e2, _⟩, _⟩ := (show ObjOk X.prog X.w H s.heap a (.ins C dx fs) from I.hok a _ h)
  exact ⟨some od, e, rfl, rfl, e2⟩
/-- callWith of an object whose class is looked at behind the arguments alone -/
theorem own_callWith {M : Model} {A : Around} {E : Value → Shared → Prop} {s : Shared} {pos : Pos} {x : Addr} {args : List (Bool × Sem Value)} {Q : Value → Shared → Prop} (hp : (args.any (·.1)) = false)
    (h : wpAny M A (evalArgs (.ref x) true args []) (fun a t => (∃ C ox od, PySem.W.InstAt t.heap x ox C od ∧ ox.data = .plain) ∧ wpAny M A (call (.ref x) ([] ++ a.pos) a.kw) Q E t) E s) : wpAny M A (callWith pos (.ref x) [] args []) Q E s := by
  unfold callWith
  refine wpAny_bind (wpAny_holding (wpAny_mono h (fun a t ⟨⟨C, ox, od, i, pl⟩, hc⟩ => wpAny_bind (wpAny_standAt ?_)) fun _ _ y => y))
  simp only [hp, List.any_nil, Bool.or_false]
  refine wpAny_bind ((PySem.W.kco_keeper (M := M) i pl).here ?_)
  exact wpAny_bind (wpAny_mono (wpAny_operateT hc) (fun r u hr => wpAny_bind (wpAny_holding (wpAny_point (wpAny_pure hr)))) fun _ _ y => y)
theorem pe_callO {CX : CXT} {C f : Addr} {fd : FuncData} {ps : List Str} {k : Nat} {sp : Sp} {x : Str} {ta : TE} {t : TA} {E : L2.St → XK} (hM : Meth X.K C "__call__" f) (hfn : PySem.W.fnIn X.K f = true) (F : FnOk X.prog X.w X.K X.mg X.base CX k f fd ps sp) (hr : Room k X.A) (hb : Binds X.K fd ps []) (hx : ∀ σ, PassesAt CX X σ (E σ))
    (hv : PE X (.Name x p) ta) (ha : PA X (e :: es) t)
    (he : starEach (e :: es) X.env = (false, eval e X.env) :: starEach es X.env := by rfl) (hpl : (backTo pos (starEach es X.env)).any (·.1) = false := by rfl) : PE X (.Call (.Name x p) (e :: es) [] pos) (tCallO C sp E ta t) := by
  refine ⟨fun pins s σ H Q I h => ?_⟩
  refine wpAny_Call_Name_kw (thn (hv.run pins s σ H _ I h) fun u s1 ⟨v, H1, I1, r1, a, dx, fs, ev, ei, q1⟩ => ?_)
  subst ev
  obtain rfl : u = Value.ref a := r1
  show wpAny _ _ (callWith pos (.ref a) [] (backTo pos (starEach (e :: es) X.env)) []) _ _ _
  have hp : ((backTo pos (starEach (e :: es) X.env)).any (·.1)) = false := by
    rw [he]
    show (false || (backTo pos (starEach es X.env)).any (·.1)) = false
    rw [hpl]; rfl
  have ar := ha.run pos pins s1 σ H1 _ I1 q1
  refine own_callWith hp ?_
  rw [he] at ar ⊢
  refine PySem.Calls.evalArgs_plain (thn ar fun us s2 ⟨vs, H2, I2, r, ⟨dx2, fs2, ei2⟩, q2⟩ => ?_)
  obtain ⟨od2, at2⟩ := inst_is I2 ei2
  refine ⟨⟨C, _, od2, at2, rfl⟩, ?_⟩
  have r2 : Vals (V.ref a :: vs) (Value.ref a :: us) := .cons rfl r
  have hl : (Value.ref a :: us ++ []).length = ps.length := by
    rw [List.append_nil, ← r2.length]; exact F.len _ _ _ _ q2
  have bb := hb s2 (Value.ref a :: us) I2.kIn hl
  rw [List.append_nil] at bb
  refine wpAny_call (PySem.W.kco_code I2.kIn at2 rfl hM.at_ hM.fn hfn (codeAny_mono (F.run X.A X.stack s2 H2 ⟨Value.ref a :: us, []⟩ (Value.ref a :: us) (V.ref a :: vs) Q (E σ) hr I2.env0 bb r2 q2) fun r s' hq => ?_))
  cases r with
  | error er => exact hx σ pins H2 s2 er s' I2 hq
  | ok fl =>
    cases fl with
    | ret u => exact I2.after hq
    | next => exact False.elim hq
    | brk => exact False.elim hq
    | cont => exact False.elim hq
end
end Mi
namespace Mi
open PySem PySem.Spec PyProof.Rows L2
section
variable {X : Cx} {W : WX} {xa : Xa} {e : Expr} {A : IE} {pos p : Pos} {es : List Expr} {As : IA}
def iCallO (c : Str) (F : Fn) (A : IE) (As : IA) : IE := fun ρ st => (A ρ st).bind fun x st => match insAt st [c] x with
  | some _ => (As ρ st).bind fun args st => (match insAt st [c] x with
    | some _ => F (x :: args) st
    | none => .bad)
  | none => .bad
theorem me_callO {c x : Str} {k n : Nat} {F : Fn} (h : CallOM X.prog X.w X.K X.mg X.base c k (n + 1) F) (hr : Room k X.A) (tk : Takes X W) (hv : ME X W xa (.Name x p) A) (ha : MA X W xa (e :: es) As)
    (he : starEach (e :: es) X.env = (false, eval e X.env) :: starEach es X.env := by rfl) (hpl : (backTo pos (starEach es X.env)).any (·.1) = false := by rfl) : ME X W xa (.Call (.Name x p) (e :: es) [] pos) (iCallO c (arity (n + 1) F) A As) := by
  obtain ⟨C, f, fd, ps, hC, hCl, hM, hfn, hb, hf⟩ := h
  refine PE.weak (pe_callO hM hfn hf hr hb (E := fun σ cls d H => W cls d σ H) (fun σ => wish_of tk σ) hv ha he hpl) fun σ H Q h => ?_
  obtain ⟨m0, os, rs, ρ, st, P, h⟩ := h
  refine ⟨m0, os, rs, ρ, st, P, h.bind.mono fun x m1 st1 H1 g1 R1 h1 u ru => ?_⟩
  split at h1
  · rename_i z e1
    obtain ⟨l, c', fs⟩ := z
    obtain ⟨ex, hc, _, p, C', dx, gs, ev, hm, hC', hH, rf⟩ := insAt_at R1 e1 ru
    have ec : c' = c := by simpa using hc
    subst ec
    have hC2 : X.mg c' = some (.ref C') := hC'
    rw [hC] at hC2
    cases hC2
    refine ⟨p, dx, gs, ev, hH, m1, os, rs, ρ, st1, P.grow g1 R1, h1.bind.mono fun args m2 st2 H2 g2 R2 h2 vs rv => ?_⟩
    have ru2 := RV.fits g2.fitsE _ _ ru
    split at h2
    · rename_i z2 e2
      obtain ⟨l2, c2, fs2⟩ := z2
      obtain ⟨_, hc2, _, p2, C2, dx2, gs2, ev2, _, hC2', hH2, _⟩ := insAt_at R2 e2 ru2
      have ec2 : c2 = c' := by simpa using hc2
      subst ec2
      have hC3 : X.mg c2 = some (.ref C2) := hC2'
      rw [hC] at hC3
      cases hC3
      have : p2 = p := by rw [ev] at ev2; cases ev2; rfl
      subst this
      refine ⟨⟨dx2, gs2, hH2⟩, ?_⟩
      unfold arity at h2
      split at h2
      · rename_i hl
        refine ⟨by rw [List.length_cons, ← rv.length]; simpa using hl, m2, _, st2, x :: args, R2, ?_, h2⟩
        simp only [RVs]
        exact ⟨u, vs, rfl, ru2, rv⟩
      · exact h2.elim
    · exact h2.elim
  · exact h1.elim
/-- a list of the store that is never changed again -/
def iFz (A : IE) : IE := fun ρ st => (A ρ st).bind fun x st => match x with
  | .ref l => match st[l]? with
    | some (.lst xs) => .ok (.lst xs) (st.set l .dead)
    | _ => .bad
  | _ => .bad
theorem me_fz (h : ME X W xa e A) : ME X W xa e (iFz A) := by
  refine PE.weak h fun σ H Q h => ?_
  obtain ⟨m, os, rs, ρ, st, P, h⟩ := h
  refine ⟨m, os, rs, ρ, st, P, h.bind.mono fun x m1 st1 H1 g1 R1 h1 u ru => ?_⟩
  cases x with
  | ref l =>
    simp only at h1
    split at h1
    · rename_i xs e1
      simp only [RV] at ru
      obtain ⟨a, rfl, hm⟩ := ru
      obtain ⟨vs, hH, rv⟩ := R1.obj l _ a e1 hm
      refine h1 m1 H1 grow_kill R1.kill _ ?_
      simp only [RV]
      refine ⟨a, vs, rfl, .inl ⟨.inl hH, fun z => ?_, fun z => (R1.bsd a z).1 (List.mem_of_getElem? hm)⟩, RVs.fits grow_kill.fitsE _ _ rv⟩
      obtain ⟨i, o, h1, h2, h3⟩ := z
      have ei : i = l := R1.nd _ _ _ h1 hm
      subst ei
      rw [List.getElem?_set_self (List.getElem?_eq_some_iff.mp e1).1] at h2
      exact h3 (by rw [← Option.some.inj h2]; rfl)
    · exact h1.elim
  | _ => exact h1.elim
end
end Mi
namespace Mi
open PySem PySem.Spec PyProof.Rows L2
/-- a block without free names, whatever is around it -/
theorem blkOk_any {N : List Str} {sc sc' scope : Scope} {own : List (Str × Nat)} (h : blkC N sc scope own = true) (hf : (scope.names.all fun y => match y.2 with | .free => false | _ => true) = true) : BlkOk N sc' scope own := by
  have b := blkOk_by h
  refine ⟨b.kind, b.uniq, b.ix, fun y hy e => ?_, b.own⟩
  have := List.all_eq_true.mp hf y hy
  rw [e] at this
  cases this
end Mi
set_option Elab.async false
set_option linter.all false
set_option maxRecDepth 100000
set_option maxHeartbeats 4000000
namespace Mi
open PySem PySem.Spec PyProof.Rows L2
/-! ### match of a text against texts -/
def pickM (z : Str) : List (Str × IS) → IS
  | [] => iSkip
  | (x, I) :: r => if z = x then I else pickM z r
def iMatch (A : IE) (cs : List (Str × IS)) : IS := fun ρ st => RS.ofR (A ρ st) ρ fun x st => match x with
  | .str z => pickM z cs ρ st
  | _ => .bad
section
variable {X : Cx} {W : WX} {xa : Xa} {e : Expr} {A : IE} {pos : Pos}
inductive MCs (X : Cx) (W : WX) (xa : Xa) : List MatchCase → List (Str × IS) → Prop
  | nil : MCs X W xa [] []
  | cons {x : Str} {j : Nat} {p1 p2 : Pos} {body : List Stmt} {r : List MatchCase} {I : IS} {cs : List (Str × IS)} (h : MSs X W xa body I) (t : MCs X W xa r cs) : MCs X W xa (⟨.MatchValue (.Constant (.str x) j p1) p2, none, body⟩ :: r) ((x, I) :: cs)
theorem MCs.run {cases : List MatchCase} {cs : List (Str × IS)} (hc : MCs X W xa cases cs) : ∀ (z : Str) (tk : Nat) (first : Bool) (pins : List (Addr × Obj)) (s : Shared) (σ : L2.St) (H : Hp) (D : Ends), Inv X pins σ H s → tsOf (gd X) W xa (pickM z cs) D σ H →
    wpAny (model X.prog X.w) X.A (matchCases cases X.env (.str z tk) first) (SP X pins D) X.xe s := by
  induction hc with
  | nil =>
    intro z tk first pins s σ H D I h
    refine wpAny_matchCases_nil ?_
    obtain ⟨m, os, rs, ρ, st, P, h⟩ := h
    exact ⟨σ, H, I, h.here P⟩
  | @cons x j p1 p2 body r J cs hb _ ih =>
    intro z tk first pins s σ H D I h
    refine wpAny_matchCases_cons (wpAny_matchPattern_Value (Calls.Constant_str ?_))
    have I1 := I.tok (s.toks + 1)
    refine thn (op_eq pins _ σ H (.str z) (.str x) _ _ (fun v H' => v = .bl (decide (z = x)) ∧ H' = H) I1 ⟨_, rfl⟩ ⟨_, rfl⟩ ⟨rfl, ?_⟩) fun v s2 h2 => ?_
    · simp
    · obtain ⟨v', H2, I2, r2, e2, e3⟩ := h2
      subst e2 e3
      cases r2
      refine wpAny_truthy_bool ?_
      by_cases c : z = x
      · rw [pickM, if_pos c] at h
        simp only [c, decide_true, if_true]
        exact wpAny_assignInOrder_none (hb.run pins s2 σ _ D I2 h)
      · rw [pickM, if_neg c] at h
        simp only [c, decide_false]
        exact ih z tk false pins s2 σ _ D I2 h
theorem ms_match {cases : List MatchCase} {cs : List (Str × IS)} (ha : ME X W xa e A) (hc : MCs X W xa cases cs) : MS X W xa (.Match e cases pos) (iMatch A cs) := by
  refine ⟨fun pins s σ H D I h => ?_⟩
  obtain ⟨m, os, rs, ρ, st, P, h⟩ := h
  refine wpAny_Match (thn (ha.run pins s σ H (fun v H1 => ∃ z, v = .str z ∧ tsOf (gd X) W xa (pickM z cs) D σ H1) I ⟨m, os, rs, ρ, st, P, ?_⟩) fun u s1 h1 => ?_)
  · refine (h.ofR P).mono fun x m1 st1 H1 g1 R1 h1 u ru => ?_
    cases x with
    | str z =>
      simp only [RV] at ru
      exact ⟨z, ru, m1, os, rs, ρ, st1, P.grow g1 R1, h1⟩
    | _ => exact h1.elim
  · obtain ⟨v, H1, I1, r1, z, e1, h1⟩ := h1
    subst e1
    obtain ⟨tk, rfl⟩ := r1
    exact hc.run z tk true pins s1 σ H1 D I1 h1
end
end Mi
set_option Elab.async false
set_option linter.all false
set_option maxRecDepth 100000
set_option maxHeartbeats 4000000
namespace Mi
open PySem PySem.Spec PyProof.Rows L2
/-! ### the truth of a value -/
section
variable {X : Cx} {W : WX} {xa : Xa} {e : Expr} {A : IE}
theorem truS {G : Gd} {m bs : List Addr} {st : Sto} {H : Hp} {x : IV} {u : V} {b : Bool} (R : Rel G m bs st H) (h : (asS st x).map (fun xs => !xs.isEmpty) = some b) (ru : RV G m bs st H x u) : TruV G.K u H b := by
  obtain ⟨xs, e1, e2⟩ := Option.map_eq_some_iff.mp h
  obtain ⟨a, vs, ea, hq, r⟩ := asS_sq R e1 ru
  subst ea
  have hl := r.length
  have hb : b = !vs.isEmpty := by
    rw [← e2]
    cases xs with
    | nil => cases vs with
      | nil => rfl
      | cons _ _ => simp at hl
    | cons _ _ => cases vs with
      | nil => simp at hl
      | cons _ _ => rfl
  rcases hq with hq | hq
  · exact .inl ⟨vs, hq, hb⟩
  · exact .inr (.inl ⟨vs, hq, hb⟩)
theorem mt_tru (ha : ME X W xa e A) (hs : ∀ whole, isTrue e X.env whole = (do let v ← whole; standAt e.pos; holding [v] (truthy v)) := by intro _; rfl) : MT X W xa e (iTru A) := by
  refine PT.weak (pt_truth ha hs) fun σ H Q h => ?_
  obtain ⟨m, os, rs, ρ, st, P, h⟩ := h
  refine ⟨m, os, rs, ρ, st, P, h.bind.mono fun x m1 st1 H1 g1 R1 h1 u ru => ?_⟩
  split at h1
  · rename_i b e1
    refine ⟨b, ?_, h1.ok R1 _ rfl⟩
    cases x with
    | non => simp only [RV] at ru; subst ru; simp only [truI, Option.some.injEq] at e1; exact e1.symm
    | bl c => simp only [RV] at ru; subst ru; simp only [truI, Option.some.injEq] at e1; exact e1.symm
    | int i => simp only [RV] at ru; subst ru; simp only [truI, Option.some.injEq] at e1; exact e1.symm
    | str z =>
      simp only [RV] at ru
      subst ru
      simp only [truI] at e1
      split at e1
      · rename_i c
        have hs : sizeLine = 16777216 := sizeLine_eq
        refine ⟨by omega, ?_⟩
        rw [← Option.some.inj e1]
        rw [Bool.eq_iff_iff]; simp
      · cases e1
    | tup ys => exact truS R1 (by simpa only [truI] using e1) ru
    | lst ys => exact truS R1 (by simpa only [truI] using e1) ru
    | ref l => exact truS R1 (by simpa only [truI] using e1) ru
    | ptp ys => exact truS R1 (by simpa only [truI] using e1) ru
    | ty t => exact truS R1 (by simpa only [truI] using e1) ru
  · exact h1.elim
end
end Mi
set_option Elab.async false
set_option linter.all false
set_option maxRecDepth 100000
set_option maxHeartbeats 4000000
namespace Mi
open PySem PySem.Spec PyProof.Rows L2
/-! ### dict displays with texts as keys, and d[k] of a dict whose keys are ints and texts -/
def evP : List (Str × IE) → Slots → Sto → R (List (Key × IV))
  | [], _, st => .ok [] st
  | (k, A) :: r, ρ, st => (A ρ st).bind fun x st => (evP r ρ st).bind fun xs st => .ok ((.inr k, x) :: xs) st
def keyK : IV → Option Key
  | .int i => some (.inl i)
  | .str z => some (.inr z)
  | _ => none
def valI (kvs : List (Key × IV)) (k : Key) : Option IV := (kvs.find? fun p => decide (p.1 = k)).map (·.2)
def dicAt (st : Sto) : IV → Option (List (Key × IV))
  | .ref l => match st[l]? with
    | some (.dic kvs) => some kvs
    | some (.fdic kvs) => some kvs
    | _ => none
  | _ => none
def iDisp (ps : List (Str × IE)) : IE := fun ρ st => (evP ps ρ (st ++ [.dic []])).bind fun kvs st1 => match st1[st.length]? with
  | some (.dic []) => .ok (.ref st.length) (st1.set st.length (.dic kvs))
  | _ => .bad
def gIxK : IV → IV → Sto → R IV := fun x y st => match dicAt st x with
  | some kvs => match keyK y with
    | some k => match valI kvs k with
      | some z => .ok z st
      | none => .bad
    | none => .bad
  | none => .bad
section
variable {G : Gd} {m bs : List Addr} {st : Sto} {H : Hp}
theorem keyK_eq {y : IV} {k : Key} {v : V} (e : keyK y = some k) (r : RV G m bs st H y v) : v = kV k := by
  cases y with
  | int i => cases e; simp only [RV] at r; exact r
  | str z => cases e; simp only [RV] at r; exact r
  | _ => cases e
theorem RKs.val {k : Key} : ∀ {kvs : List (Key × IV)} {ws : List (Key × V)} {z : IV}, RKs G m bs st H kvs ws → valI kvs k = some z → ∃ v, valV ws k = some v ∧ RV G m bs st H z v
  | [], ws, z, h, e => by cases e
  | (f, x) :: r, ws, z, h, e => by
    obtain ⟨v, t, ew, h1, h2⟩ := h
    subst ew
    unfold valI at e
    rw [List.find?_cons] at e
    by_cases c : f = k
    · simp only [c, decide_true, Option.map_some, Option.some.injEq] at e
      subst e
      exact ⟨v, valV_pos c, h1⟩
    · simp only [c, decide_false] at e
      obtain ⟨u, e1, e2⟩ := RKs.val h2 (show valI r k = some z from e)
      refine ⟨u, ?_, e2⟩
      simp only [valV, List.find?_cons, c, decide_false]
      exact e1
theorem dicAt_of (R : Rel G m bs st H) {x : IV} {v : V} {kvs : List (Key × IV)} (e : dicAt st x = some kvs) (r : RV G m bs st H x v) : ∃ a ws, v = .ref a ∧ Rd H a (.dK ws) ∧ RKs G m bs st H kvs ws := by
  cases x with
  | ref l =>
    simp only [dicAt] at e
    simp only [RV] at r
    obtain ⟨a, ea, hm⟩ := r
    split at e
    · rename_i ks e1
      cases e
      obtain ⟨ws, h1, h2⟩ := R.obj l _ a e1 hm
      exact ⟨a, ws, ea, .inl h1, h2⟩
    · rename_i ks e1
      cases e
      obtain ⟨od, ws, h1, h2⟩ := R.obj l _ a e1 hm
      exact ⟨a, ws, ea, .inr ⟨od, h1⟩, h2⟩
    · cases e
  | _ => cases e
theorem put_new {kvs : List (Key × V)} {k : Key} {v : V} (h : ∀ p ∈ kvs, p.1 ≠ k) : putK kvs k v = kvs ++ [(k, v)] := by
  unfold putK
  rw [if_neg]
  intro z
  obtain ⟨p, hp, e⟩ := List.any_eq_true.mp z
  exact h p hp (of_decide_eq_true e)
theorem merge_new : ∀ {more kvs : List (Key × V)}, ((kvs ++ more).map (·.1)).Nodup → mergeK kvs more = kvs ++ more
  | [], kvs, _ => by simp [mergeK]
  | p :: r, kvs, h => by
    show mergeK (putK kvs p.1 p.2) r = _
    have h' : (kvs.map (·.1) ++ p.1 :: r.map (·.1)).Nodup := by simpa using h
    rw [put_new fun q hq z => ?_]
    · rw [merge_new (by simpa using h)]; simp
    · exact (List.nodup_append.mp h').2.2 _ (List.mem_map_of_mem hq) p.1 List.mem_cons_self z
theorem RKs.keys : ∀ {kvs : List (Key × IV)} {ws : List (Key × V)}, RKs G m bs st H kvs ws → ws.map (·.1) = kvs.map (·.1)
  | [], ws, h => by rw [show ws = [] from h]; rfl
  | (f, x) :: r, ws, h => by
    obtain ⟨v, t, ew, _, h2⟩ := h
    subst ew
    rw [List.map_cons, List.map_cons, RKs.keys h2]
end
theorem evP_keys {ps : List (Str × IE)} {ρ : Slots} : ∀ {st st' : Sto} {kvs : List (Key × IV)}, evP ps ρ st = .ok kvs st' → kvs.map (·.1) = ps.map fun p => .inr p.1 := by
  induction ps with
  | nil => intro st st' kvs h; cases h; rfl
  | cons p r ih =>
    intro st st' kvs h
    obtain ⟨k, A⟩ := p
    rw [evP] at h
    cases q : A ρ st with
    | ok x st1 =>
      rw [q] at h
      simp only [R.bind] at h
      cases q2 : evP r ρ st1 with
      | ok xs st2 =>
        rw [q2] at h
        simp only [R.bind, R.ok.injEq] at h
        rw [← h.1, List.map_cons, List.map_cons, ih q2]
      | exc c fs st2 => rw [q2] at h; cases h
      | bad => rw [q2] at h; cases h
    | exc c fs st1 => rw [q] at h; cases h
    | bad => rw [q] at h; cases h
section
variable {X : Cx} {W : WX} {xa : Xa} {a b : Expr} {A B : IE} {pos : Pos}
abbrev trP (X : Cx) (W : WX) (xa : Xa) (ps : List (Str × IE)) : List (TE × TE) := ps.map fun p => (tC (.str p.1), teOf (gd X) W xa p.2)
theorem tpairs_of {σ : L2.St} {Q : List (V × V) → Hp → Prop} {os rs : List Addr} {ρ : Slots} : ∀ {ps : List (Str × IE)} {m : List Addr} {st : Sto} {H : Hp}, Pre (gd X) xa σ H m os rs ρ st →
    Pst (gd X) m (os ++ rs) st H (fun cls d H' => W cls d σ H') (evP ps ρ st) (fun kvs m1 st1 H1 => ∀ ws, RKs (gd X) m1 (os ++ rs) st1 H1 kvs ws → Q (ws.map fun kv => (kV kv.1, kv.2)) H1) → tPairs (trP X W xa ps) σ H Q
  | [], m, st, H, P, h => h.ok P.rel [] rfl
  | (k, A) :: r, m, st, H, P, h => by
    rw [evP] at h
    show teOf (gd X) W xa A σ H fun y H2 => tPairs (trP X W xa r) σ H2 fun ps H3 => Q ((.str k, y) :: ps) H3
    refine ⟨m, os, rs, ρ, st, P, h.bind.mono fun x m1 st1 H1 g1 R1 h1 u ru => ?_⟩
    refine tpairs_of (P.grow g1 R1) (h1.bind.mono fun kvs m2 st2 H2 g2 R2 h2 ws rws => ?_)
    exact h2.ok R2 ((.inr k, u) :: ws) ⟨u, ws, rfl, RV.fits g2.fitsE _ _ ru, rws⟩
inductive DPs (X : Cx) (W : WX) (xa : Xa) (pos : Pos) : List (Option Expr) → List Expr → List (Str × IE) → Prop
  | nil : DPs X W xa pos [] [] []
  | cons {x : Str} {j : Nat} {p : Pos} {v : Expr} {B : IE} {ks : List (Option Expr)} {vs : List Expr} {ps : List (Str × IE)} (hv : ME X W xa v B) (t : DPs X W xa pos ks vs ps) : DPs X W xa pos (some (.Constant (.str x) j p) :: ks) (v :: vs) ((x, B) :: ps)
theorem DPs.pps {ks : List (Option Expr)} {vs : List Expr} {ps : List (Str × IE)} (h : DPs X W xa pos ks vs ps) : PPs X pos ks vs (trP X W xa ps) := by
  induction h with
  | nil => exact pps_nil
  | cons hv _ ih => exact pps_cons pe_str hv ih
theorem DPs.len {ks : List (Option Expr)} {vs : List Expr} {ps : List (Str × IE)} (h : DPs X W xa pos ks vs ps) : ks.length = ps.length ∧ vs.length = ps.length ∧ ks.all (·.isSome) = true := by
  induction h with
  | nil => exact ⟨rfl, rfl, rfl⟩
  | cons _ _ ih => exact ⟨by simp [ih.1], by simp [ih.2.1], by simpa using ih.2.2⟩
theorem me_disp {ks : List (Option Expr)} {vs : List Expr} {ps : List (Str × IE)} (h : DPs X W xa pos ks vs ps) (h0 : ps ≠ []) (h15 : ps.length ≤ 15) (nd : (ps.map (·.1)).Nodup) : ME X W xa (.Dict ks vs pos) (iDisp ps) := by
  obtain ⟨l1, l2, al⟩ := h.len
  refine PE.weak (pe_disp h.pps al (l1.trans l2.symm) (fun z => h0 (List.eq_nil_of_length_eq_zero (by rw [← l1, z]; rfl))) (by omega)) fun σ H Q h => ?_
  intro p hp
  obtain ⟨m, os, rs, ρ, st, P, h⟩ := h
  have R := P.rel
  have g0 : GrowE m st H (m ++ [p]) (st ++ [.dic []]) (upd H p (.dK [])) := grow_live R hp
  have R0 : Rel (gd X) (m ++ [p]) (os ++ rs) (st ++ [.dic []]) (upd H p (.dK [])) := R.live hp ⟨[], upd_same, rfl⟩
  have P0 := P.grow g0 R0
  have h0' := h.shift g0
  unfold iDisp at h0'
  have key : ∀ kvs st1, evP ps ρ (st ++ [.dic []]) = .ok kvs st1 → kvs.map (·.1) = ps.map fun q => .inr q.1 := fun kvs st1 e => evP_keys e
  have hb := h0'.bind
  refine tpairs_of P0 ?_
  cases q : evP ps ρ (st ++ [.dic []]) with
  | ok kvs st1 =>
    rw [q] at hb
    have ek := key _ _ q
    intro m1 H1 g1 R1 ws rws
    have h1 := hb m1 H1 g1 R1
    dsimp only at h1
    have hm : m1[st.length]? = some p := by
      obtain ⟨t, et⟩ := g1.pre
      rw [← et, List.append_assoc, ← R.len, List.getElem?_append_right (Nat.le_refl _)]
      simp
    split at h1
    · rename_i e
      obtain ⟨ws0, e1, e2⟩ := R1.obj _ _ p e hm
      have e2' : ws0 = [] := e2
      subst e2'
      have hd : ND (IO.dic []) := fun z => by cases z
      have ekw := rws.keys
      have lw : ws.length = ps.length := by
        have := congrArg List.length (ekw.trans ek)
        simpa using this
      have ndw : (ws.map (·.1)).Nodup := by
        rw [ekw, ek, show (ps.map fun q => (Sum.inr q.1 : Key)) = (ps.map (·.1)).map .inr by rw [List.map_map]; rfl]
        exact List.pairwise_map.mpr (List.Pairwise.imp (fun h z => h (Sum.inr.inj z)) nd)
      refine ⟨e1, ws, rfl, by omega, ?_⟩
      rw [show mergeK [] ws = ws by rw [merge_new (by simpa using ndw)]; rfl]
      have gs : GrowE m1 st1 H1 m1 (st1.set st.length (.dic kvs)) (upd H1 p (.dK ws)) := grow_set hm e hd
      exact h1 m1 _ gs (R1.set hm e hd ⟨ws, upd_same, RKs.fits gs.fitsE _ _ rws⟩) (.ref p) (by simp only [RV]; exact ⟨p, rfl, hm⟩)
    · exact h1.elim
  | exc c fs st1 => rw [q] at hb; exact hb
  | bad => rw [q] at hb; exact hb.elim
theorem me_ixK (hu : X.A.units + 1 < cLine) (ha : ME X W xa a A) (hb : ME X W xa b B) (hs : NoSl b := by exact fun _ _ => rfl) : ME X W xa (.Subscript a b pos) (iBin gIxK A B) := by
  refine PE.weak (pe_dget hu ha hb hs) fun σ H Q h => ?_
  obtain ⟨m, os, rs, ρ, st, P, h⟩ := h
  refine ⟨m, os, rs, ρ, st, P, h.bind.mono fun x m1 st1 H1 g1 R1 h1 x' rx => ⟨m1, os, rs, ρ, st1, P.grow g1 R1, h1.bind.mono fun y m2 st2 H2 g2 R2 h2 y' ry => ?_⟩⟩
  have rx := RV.fits g2.fitsE _ _ rx
  unfold gIxK at h2
  split at h2
  · rename_i kvs e1
    obtain ⟨p, ws, ep, hp, rk⟩ := dicAt_of R2 e1 rx
    split at h2
    · rename_i k e2
      have ey := keyK_eq e2 ry
      split at h2
      · rename_i z e3
        obtain ⟨v, ev, rv⟩ := rk.val e3
        subst ey
        exact ⟨p, v, ep, by rw [← ev]; exact .inl ⟨_, _, hp, rfl, rfl⟩, h2.v R2 rv⟩
      · exact h2.elim
    · exact h2.elim
  · exact h2.elim
end
section
variable {X : Cx} {W : WX} {xa : Xa} {ss : List Stmt}
theorem mss_bad : MSs X W xa ss iBadS := ⟨by
  intros
  rename_i h
  obtain ⟨m, os, rs, ρ, st, P, h⟩ := h
  exact h.elim⟩
end
end Mi
set_option Elab.async false
set_option linter.all false
set_option maxRecDepth 100000
set_option maxHeartbeats 4000000
namespace Mi
open PySem PySem.Spec PyProof.Rows L2
/-! ### x in ys, where all are data of any depth -/
def rInDT (K : PySem.W.Frag) (neg : Bool) : R2 := fun x y H Q => ∃ d e ds, Dp K H x d ∧ Dp K H y e ∧ (e = .list ds ∨ e = .tuple ds) ∧ SeqAt.shaped d = true ∧ SeqAt.shaped (.list ds) = true ∧ Q (.bl (neg != ds.any fun z => PyData.eqv z d)) H
def itD : PyData → Option (List PyData)
  | .list ds => some ds
  | .tuple ds => some ds
  | _ => none
theorem itD_some {e : PyData} {ds : List PyData} (h : itD e = some ds) : e = .list ds ∨ e = .tuple ds := by
  cases e <;> first | (cases h; exact .inl rfl) | (cases h; exact .inr rfl) | cases h
def gInD (neg : Bool) : IV → IV → Sto → R IV := fun x y st => match toD st x, (toD st y).bind itD with
  | some d, some ds => if SeqAt.shaped d = true ∧ SeqAt.shaped (.list ds) = true then .ok (.bl (neg != ds.any fun z => PyData.eqv z d)) st else .bad
  | _, _ => .bad
theorem room65 {k : Nat} {A : Around} (r : Room k A) : A.units + 65 < cLine := by have := r.un; omega
section
variable {X : Cx}
theorem op_inDT (hu : X.A.units + 65 < cLine) : OpR X (compareOp .In) (rInDT X.K false) := by
  intro pins s σ H x y v u Q I rx ry h
  obtain ⟨d, e, ds, hd, he, hh, sd, se, q⟩ := h
  obtain ⟨as, r1⟩ := Dp.reads I d x v hd rx
  obtain ⟨bs, r2⟩ := Dp.reads I e y u he ry
  have q' : Q (.bl (ds.any fun z => PyData.eqv z d)) H := by simpa using q
  rcases hh with rfl | rfl
  · exact SeqAt.in_list_reads r2 r1 (SeqAt.canLay_of_shaped se) (SeqAt.canLay_of_shaped sd) (room_in_shaped sd hu) ⟨.bl _, H, I, rfl, q'⟩
  · exact SeqAt.in_tuple_reads r2 r1 (SeqAt.canLay_of_shaped se) (SeqAt.canLay_of_shaped sd) (room_in_shaped sd hu) ⟨.bl _, H, I, rfl, q'⟩
theorem op_notInDT (hu : X.A.units + 65 < cLine) : OpR X (compareOp .NotIn) (rInDT X.K true) := by
  intro pins s σ H x y v u Q I rx ry h
  obtain ⟨d, e, ds, hd, he, hh, sd, se, q⟩ := h
  obtain ⟨as, r1⟩ := Dp.reads I d x v hd rx
  obtain ⟨bs, r2⟩ := Dp.reads I e y u he ry
  have q' : Q (.bl (!ds.any fun z => PyData.eqv z d)) H := by simpa using q
  rcases hh with rfl | rfl
  · exact SeqAt.notIn_list_reads r2 r1 (SeqAt.canLay_of_shaped se) (SeqAt.canLay_of_shaped sd) (room_in_shaped sd hu) ⟨.bl _, H, I, rfl, q'⟩
  · exact SeqAt.notIn_tuple_reads r2 r1 (SeqAt.canLay_of_shaped se) (SeqAt.canLay_of_shaped sd) (room_in_shaped sd hu) ⟨.bl _, H, I, rfl, q'⟩
theorem inDT_weak {f : Value → Value → Sem Value} {neg : Bool} (ho : OpR X f (rInDT X.K neg)) : OpM X f (gInD neg) := by
  refine ⟨_, ho, fun m bs st H x y x' y' Q W R rx ry h => ?_⟩
  unfold gInD at h
  split at h
  · rename_i d ds e1 e2
    obtain ⟨e, e3, e4⟩ := Option.bind_eq_some_iff.mp e2
    split at h
    · rename_i c
      exact ⟨d, e, ds, toD_dp R e1 rx, toD_dp R e3 ry, itD_some e4, c.1, c.2, h.v R (by simp only [RV])⟩
    · exact h.elim
  · exact h.elim
theorem opm_inD (hu : X.A.units + 65 < cLine) : OpM X (compareOp .In) (gInD false) := inDT_weak (op_inDT hu)
theorem opm_notInD (hu : X.A.units + 65 < cLine) : OpM X (compareOp .NotIn) (gInD true) := inDT_weak (op_notInDT hu)
end
end Mi
set_option Elab.async false
set_option linter.all false
set_option maxRecDepth 100000
set_option maxHeartbeats 4000000
namespace Mi
open PySem PySem.Spec PyProof.Rows L2
/-! ### ~ a of an own object -/
section
variable {X : Cx} {W : WX} {xa : Xa} {a : Expr} {A : IE} {pos : Pos}
def rOwnInv (C : Addr) (sp : Sp) : V → Hp → VK → Prop := fun x H Q => ∃ p dx fs, x = .ref p ∧ H p = some (.ins C dx fs) ∧ sp [x] H Q (fun _ _ _ => False)
theorem unOwnInv {k : Nat} {f C : Addr} {fd : FuncData} {ps : List Str} {sp : Sp} (M : Meth X.K C "__invert__" f) (F : FnOk X.prog X.w X.K X.mg X.base (L2.CX X.prog X.w) k f fd ps sp) (hb : Binds X.K fd ps []) (hr : Room k X.A) : UnR X (unaryOp .Invert) (rOwnInv C sp) := by
  intro pins s σ H x v Q I rx hq
  obtain ⟨p, dx, fs, rfl, ha, hs⟩ := hq
  cases rx
  obtain ⟨mA, J, _⟩ := ins_get I.hok ha
  obtain ⟨od, J, _⟩ := J.look
  obtain ⟨m', hF⟩ := I.fr
  have run := own_run F hb ⟨hr, rfl⟩ I (us := [.ref p]) (vs := [.ref p]) (.cons rfl .nil) hs
  exact PySem.W.ksp_inv hF I.ok.mod.kin J M.at_ M.fn run
def iOwnInv (c : Str) (F : Fn) (A : IE) : IE := fun ρ st => (A ρ st).bind fun x st => match insAt st [c] x with
  | some _ => quiet (F [x] st)
  | none => .bad
theorem me_ownInv {c : Str} {k : Nat} {F : Fn} (h : MethM X.prog X.w X.K X.mg X.base c "__invert__" k 1 F) (hr : Room k X.A) (ha : ME X W xa a A) : ME X W xa (.UnaryOp .Invert a pos) (iOwnInv c F A) := by
  obtain ⟨C, f, fd, ps, hm, hC, hM, hb, hf⟩ := h
  refine PE.weak (pe_un (unOwnInv hM hf hb hr) ha) fun σ H Q h => ?_
  obtain ⟨m, os, rs, ρ, st, P, h⟩ := h
  unfold iOwnInv at h
  refine ⟨m, os, rs, ρ, st, P, h.bind.mono fun x m1 st1 H1 g1 R1 h1 x' rx => ?_⟩
  split at h1
  · rename_i p e1
    obtain ⟨b, C', dx, gs, ev, h1', h2⟩ := ins_of R1 e1 rx
    have c1 : C' = C := by
      have h1'' : X.mg c = some (.ref C') := h1'
      rw [hm] at h1''; cases h1''; rfl
    rw [c1] at h2
    refine ⟨b, dx, gs, ev, h2, rfl, m1, _, st1, [x], R1, ?_, quiet_post h1⟩
    simp only [RVs]
    exact ⟨x', [], rfl, rx, rfl⟩
  · exact h1.elim
end
theorem dunder_or : PySem.dunder Operator.BitOr.info.2 = "__or__" := by decide +kernel
end Mi
set_option Elab.async false
set_option linter.all false
set_option maxRecDepth 100000
set_option maxHeartbeats 4000000
/-! dicts with the key None, beside keys that are tuples -/
namespace Mi
open PySem PySem.Spec PyProof.Rows L2
section
variable {P : Program} {w : World} {A : Around} {E : Value → Shared → Prop} {s : Shared}
/-- what stands in a dict under keys that are refs -/
theorem tell_quiet {v : Value} {stored : List Value} {Q : Bool → Shared → Prop} (hv : ∀ (R : Bool → Shared → Prop), R true s → wpAny (model P w) A (eqIsQuiet 8 v) R E s)
    (hst : ∀ u ∈ stored, ∀ (R : Bool → Shared → Prop), R true s → wpAny (model P w) A (eqIsQuiet 8 u) R E s) (h : Q false s) : wpAny (model P w) A (tableMayTell v stored) Q E s := by
  unfold tableMayTell
  split
  · exact wpAny_pure h
  · refine wpAny_bind (hv _ ?_)
    simp only [Bool.not_true, Bool.false_eq_true, if_false]
    refine wpAny_bind ?_
    refine wpAny_forIn_list _ (fun rest r s' => s' = s ∧ r = (none, ()) ∧ ∀ u ∈ rest, ∀ (R : Bool → Shared → Prop), R true s → wpAny (model P w) A (eqIsQuiet 8 u) R E s) _ ?_ ?_ _ _ ⟨rfl, rfl, hst⟩
    · rintro x rest r s' ⟨rfl, rfl, hr⟩
      refine wpAny_bind (hr x List.mem_cons_self _ ?_)
      simp only [Bool.not_true, Bool.false_eq_true, if_false]
      exact wpAny_pure ⟨rfl, rfl, fun v hv => hr v (List.mem_cons_of_mem _ hv)⟩
    · rintro r s' ⟨rfl, rfl, _⟩
      exact wpAny_pure h
theorem quiet_none {R : Bool → Shared → Prop} (h : R true s) : wpAny (model P w) A (eqIsQuiet 8 .none) R E s := by
  unfold eqIsQuiet
  exact wpAny_pure h
/-- a key that equals none of the stored ones -/
theorem find_miss_none {d : Addr} {o : Obj} {es : Array DictEntry} {ep : Nat} {hh : Int} {Q : Option Nat → Shared → Prop} (ho : s.heap.get? d = some o) (hd : o.data = .dict es ep)
    (hr : ∀ e ∈ es, ∃ a, e.key = .ref a) (hq : ∀ e ∈ es, ∀ (R : Bool → Shared → Prop), R true s → wpAny (model P w) A (eqIsQuiet 8 e.key) R E s) (hne : ∀ e ∈ es, SeqAt.EqAt A s e.key .none false) (h : Q none s) :
    wpAny (model P w) A (dictFind d .none hh) Q E s := by
  have hst : ∀ v ∈ (placesWithHash es.size (fun i => es[i]?.map (·.hash)) hh).filterMap (fun i => es[i]?.map (·.key)), ∃ e ∈ es, v = e.key := by
    intro v hv
    obtain ⟨i, _, hi⟩ := List.mem_filterMap.mp hv
    cases hei : es[i]? with
    | none => rw [hei] at hi; cases hi
    | some e =>
      rw [hei] at hi
      obtain rfl : e.key = v := by simpa using hi
      exact ⟨e, Array.mem_of_getElem? hei, rfl⟩
  unfold dictFind
  try with_reducible refine wpAny_holding ?_
  refine wpAny_bind (wpAny_dictEntries ho hd ?_)
  dsimp only
  by_cases hc : ((Value.none :: (placesWithHash es.size (fun i => es[i]?.map (·.hash)) hh).filterMap (fun i => es[i]?.map (·.key))).all carriedByValue) = true
  · rw [if_pos hc]
    have emp : (placesWithHash es.size (fun i => es[i]?.map (·.hash)) hh).filterMap (fun i => es[i]?.map (·.key)) = [] := by
      apply List.eq_nil_iff_forall_not_mem.mpr
      intro v hv
      obtain ⟨e, he, rfl⟩ := hst v hv
      obtain ⟨a, ea⟩ := hr e he
      rw [List.all_cons, Bool.and_eq_true] at hc
      have := List.all_eq_true.mp hc.2 _ hv
      rw [ea] at this
      cases this
    have pl : placesWithHash es.size (fun i => es[i]?.map (·.hash)) hh = [] := by
      apply List.eq_nil_iff_forall_not_mem.mpr
      intro i hi
      have hp := (List.mem_filter.mp hi).2
      cases hei : es[i]? with
      | none => simp [hei] at hp
      | some e =>
        have : e.key ∈ (placesWithHash es.size (fun i => es[i]?.map (·.hash)) hh).filterMap (fun i => es[i]?.map (·.key)) := List.mem_filterMap.mpr ⟨i, hi, by rw [hei]; rfl⟩
        rw [emp] at this
        cases this
    rw [pl]
    unfold dictWalkPlain
    rw [List.forIn_nil]
    exact wpAny_bind (wpAny_pure (wpAny_pure h))
  · rw [if_neg hc]
    by_cases hone : (((placesWithHash es.size (fun i => es[i]?.map (·.hash)) hh).filterMap (fun i => es[i]?.map (·.key))) == [Value.none]) = true <;>
    (first | rw [if_pos hone] | rw [if_neg hone]) <;> (first | refine wpAny_bind (wpAny_pure ?_) | refine wpAny_bind (tell_quiet (fun R hR => quiet_none hR) (fun u hu => ?q) ?_)) <;> (try (
      case q =>
        obtain ⟨e, he, rfl⟩ := hst u hu
        exact hq e he)) <;> (
      rw [if_neg (by simp)]
      refine wpAny_bind ?_
      refine wpAny_forIn_list _ (fun rest b s' => s' = s ∧ b = (none, none)) _ ?_ ?_ _ _ ⟨rfl, rfl⟩
      · rintro x rest b s' ⟨rfl, rfl⟩
        cases hex : es[x]? with
        | none => exact wpAny_pure ⟨rfl, rfl⟩
        | some e =>
          have hm := Array.mem_of_getElem? hex
          dsimp only
          by_cases hh2 : (e.hash == hh) = true
          · rw [if_pos hh2]
            refine wpAny_bind (wpAny_dictEpoch ho hd (wpAny_bind (hne e hm P w _ _ (wpAny_bind (wpAny_dictEpoch ho hd ?_)))))
            show wpAny _ _ (if (ep != ep) = true then _ else _) _ E _
            rw [if_neg (by simp)]
            simp only [Bool.false_eq_true, if_false]
            refine wpAny_bind (wpAny_rule ?_)
            first | rw [if_neg (by simp)] | skip
            first
              | exact wpAny_pure ⟨rfl, rfl⟩
              | exact wpAny_bind (wpAny_pure (wpAny_pure ⟨rfl, rfl⟩))
          · rw [if_neg hh2]
            exact wpAny_pure ⟨rfl, rfl⟩
      · rintro b s' ⟨rfl, rfl⟩
        exact wpAny_pure h)
/-- a ref that equals none of the stored keys, all of them None -/
theorem find_miss_ref {d a : Addr} {o : Obj} {es : Array DictEntry} {ep : Nat} {hh : Int} {Q : Option Nat → Shared → Prop} (ho : s.heap.get? d = some o) (hd : o.data = .dict es ep)
    (hr : ∀ e ∈ es, e.key = .none) (hq : ∀ (R : Bool → Shared → Prop), R true s → wpAny (model P w) A (eqIsQuiet 8 (.ref a)) R E s) (hne : SeqAt.EqAt A s .none (.ref a) false) (h : Q none s) :
    wpAny (model P w) A (dictFind d (.ref a) hh) Q E s := by
  have hst : ∀ v ∈ (placesWithHash es.size (fun i => es[i]?.map (·.hash)) hh).filterMap (fun i => es[i]?.map (·.key)), v = .none := by
    intro v hv
    obtain ⟨i, _, hi⟩ := List.mem_filterMap.mp hv
    cases hei : es[i]? with
    | none => rw [hei] at hi; cases hi
    | some e =>
      rw [hei] at hi
      obtain rfl : e.key = v := by simpa using hi
      exact hr e (Array.mem_of_getElem? hei)
  have hany : ¬ (es.any fun e => e.key == Value.ref a && e.hash != hh) = true := by
    rw [← Array.any_toList, List.any_eq_true]
    rintro ⟨e, hin, hc⟩
    rw [hr e (Array.mem_toList_iff.mp hin)] at hc
    simp at hc
  unfold dictFind
  try with_reducible refine wpAny_holding ?_
  refine wpAny_bind (wpAny_dictEntries ho hd ?_)
  dsimp only
  rw [if_neg (show ¬ ((Value.ref a :: (placesWithHash es.size (fun i => es[i]?.map (·.hash)) hh).filterMap (fun i => es[i]?.map (·.key))).all carriedByValue) = true by simp [carriedByValue])]
  rw [if_neg hany]
  by_cases hone : (((placesWithHash es.size (fun i => es[i]?.map (·.hash)) hh).filterMap (fun i => es[i]?.map (·.key))) == [Value.ref a]) = true <;>
  (first | rw [if_pos hone] | rw [if_neg hone]) <;> (first | refine wpAny_bind (wpAny_pure ?_) | refine wpAny_bind (tell_quiet hq (fun u hu => ?q) ?_)) <;> (try (
    case q =>
      rw [hst u hu]
      exact fun R hR => quiet_none hR)) <;> (
    rw [if_neg (by simp)]
    refine wpAny_bind ?_
    refine wpAny_forIn_list _ (fun rest b s' => s' = s ∧ b = (none, none)) _ ?_ ?_ _ _ ⟨rfl, rfl⟩
    · rintro x rest b s' ⟨rfl, rfl⟩
      cases hex : es[x]? with
      | none => exact wpAny_pure ⟨rfl, rfl⟩
      | some e =>
        have hm := Array.mem_of_getElem? hex
        have ek := hr e hm
        dsimp only
        by_cases hh2 : (e.hash == hh) = true
        · rw [if_pos hh2]
          refine wpAny_bind (wpAny_dictEpoch ho hd (wpAny_bind ?_))
          rw [ek]
          refine hne P w _ _ (wpAny_bind (wpAny_dictEpoch ho hd ?_))
          show wpAny _ _ (if (ep != ep) = true then _ else _) _ E _
          rw [if_neg (by simp)]
          simp only [Bool.false_eq_true, if_false]
          refine wpAny_bind (wpAny_rule ?_)
          first | rw [if_neg (by simp)] | skip
          first
            | exact wpAny_pure ⟨rfl, rfl⟩
            | exact wpAny_bind (wpAny_pure (wpAny_pure ⟨rfl, rfl⟩))
        · rw [if_neg hh2]
          exact wpAny_pure ⟨rfl, rfl⟩
    · rintro b s' ⟨rfl, rfl⟩
      exact wpAny_pure h)
end
section
variable {X : Cx} {pins : List (Addr × Obj)} {σ : L2.St} {H : Hp} {s : Shared} {A : Around} {E : Value → Shared → Prop}
theorem nho_new {P : Program} {w : World} {H : Hp} {h : Heap} {a : Addr} {u : Value} (d : h.DictOf (leafKind P w) a [(Leaf.none, u)]) : ObjOk P w H h a (NHo P w a u) := by
  obtain ⟨o, es, ep, ho, hc, hd, hk, hp, hn⟩ := d
  exact ⟨⟨o, es, ep, ho, hc, hd, hk, hp, hn⟩, ⟨o, ho⟩, fun h1 h2 ⟨o1, e1, p1, q1, r⟩ k => ⟨o1, e1, p1, k o1 q1, r⟩⟩
theorem nho_of {a : Addr} {u : Value} (I : Inv X pins σ H s) (e : H a = some (NHo X.prog X.w a u)) : s.heap.DictOf (leafKind X.prog X.w) a [(Leaf.none, u)] :=
  (show ObjOk X.prog X.w H s.heap a (NHo X.prog X.w a u) from I.hok a _ e).1
/-- what a dict with keys that are tuples, or with the key None, holds under a key -/
def Lk (X : Cx) (H : Hp) (c : Addr) (y : V) (r : Option Value) : Prop :=
  (∃ ks b k, H c = some (DHo X.prog X.w c ks) ∧ (∀ z ∈ ks, KAt X.K H z.2.1 z.1) ∧ y = .ref b ∧ KAt X.K H b k ∧ r = (atKey ks k).map (·.2)) ∨
  (∃ ks, H c = some (DHo X.prog X.w c ks) ∧ (∀ z ∈ ks, KAt X.K H z.2.1 z.1) ∧ y = .non ∧ r = none) ∨
  (∃ u, H c = some (NHo X.prog X.w c u) ∧ y = .non ∧ r = some u) ∨
  (∃ u b k, H c = some (NHo X.prog X.w c u) ∧ y = .ref b ∧ KAt X.K H b k ∧ r = none)
theorem tup_of_key {h : Heap} {k : List Key} {b : Addr} (x : (KT' X).is h k b) : ∃ items, h.IsTuple b items := by
  obtain ⟨o, items, n, ho, hc, hd, _⟩ := x
  exact ⟨items, o, ho, hc, n, hd⟩
theorem get_lk {c : Addr} {y : V} {u : Value} {r : Option Value} {Q : Option Value → Shared → Prop} (hu : A.units < cLine) (I : Inv X pins σ H s) (l : Lk X H c y r) (ry : RelV y u) (h : ∀ s', Inv X pins σ H s' → Q r s') : wpAny (model X.prog X.w) A (dictGet c u) Q E s := by
  rcases l with ⟨ks, b, k, ec, hk, rfl, hb, rfl⟩ | ⟨ks, ec, hk, rfl, rfl⟩ | ⟨v, ec, rfl, rfl⟩ | ⟨v, b, k, ec, rfl, hb, rfl⟩
  · obtain rfl : u = Value.ref b := ry
    exact wpAny_dictGet_heap (knd := KT' X) hu (kat_is I hb) (dho_of I ec hk) (h _ (I.tok _))
  · obtain rfl : u = Value.none := ry
    obtain ⟨o, es, ep, ho, _, hd, he, his, hn⟩ := dho_of I ec hk
    have ent : ∀ e ∈ es, ∃ x ∈ ks, e = entryOfKey (KT' X) x := fun e hin => by
      have : e ∈ ks.map (entryOfKey (KT' X)) := he ▸ Array.mem_toList_iff.mpr hin
      obtain ⟨x, hx, rfl⟩ := List.mem_map.mp this
      exact ⟨x, hx, rfl⟩
    unfold dictGet
    try with_reducible refine wpAny_holding ?_
    refine wpAny_bind (pyHash_leaf (k := Leaf.none) rfl (wpAny_bind (find_miss_none (s := { s with toks := s.toks + 1 }) ho hd (fun e hin => ?_) (fun e hin R hR => ?_) (fun e hin => ?_) ?_)))
    · obtain ⟨x, _, rfl⟩ := ent e hin
      exact ⟨_, rfl⟩
    · obtain ⟨x, hx, rfl⟩ := ent e hin
      exact (KT' X).quiet (his x hx) hR
    · obtain ⟨x, hx, rfl⟩ := ent e hin
      obtain ⟨items, it⟩ := tup_of_key (his x hx)
      exact SeqAt.EqAt.tuple_none it hu
    · exact wpAny_pure (h _ (I.tok _))
  · obtain rfl : u = Value.none := ry
    exact wpAny_dictGet_of (knd := leafKind X.prog X.w) (k := Leaf.none) rfl (nho_of I ec).mapOf (h _ (I.tok _))
  · obtain rfl : u = Value.ref b := ry
    obtain ⟨o, es, ep, ho, _, hd, hk, hp, hn⟩ := nho_of I ec
    have hb' := kat_is I hb
    unfold dictGet
    try with_reducible refine wpAny_holding ?_
    refine wpAny_bind ((KT' X).pyHash hu hb' (wpAny_bind (find_miss_ref (s := { s with toks := s.toks + _ }) ho hd (fun e hin => ?_) (fun R hR => ?_) ?_ ?_)))
    · cases hl : es.toList with
      | nil => rw [hl] at hp; cases hp
      | cons e1 r1 =>
        rw [hl] at hp
        cases hp with
        | cons q1 q2 q3 =>
          cases q3
          have : e ∈ [e1] := by rw [← hl]; exact Array.mem_toList_iff.mpr hin
          rw [List.mem_singleton.mp this]
          cases ek : e1.key <;> rw [ek] at q1 <;> first | rfl | cases q1
    · exact (KT' X).quiet hb' hR
    · obtain ⟨items, it⟩ := tup_of_key hb'
      exact SeqAt.EqAt.none_tuple it hu
    · exact wpAny_pure (h _ (I.tok _))
theorem lk_type {c : Addr} {y : V} {r : Option Value} (I : Inv X pins σ H s) (l : Lk X H c y r) : s.TypeIs (.ref c) "dict" := by
  rcases l with ⟨ks, b, k, ec, hk, rfl, hb, rfl⟩ | ⟨ks, ec, hk, rfl, rfl⟩ | ⟨v, ec, rfl, rfl⟩ | ⟨v, b, k, ec, rfl, hb, rfl⟩
  · exact (dho_of I ec hk).typeIs
  · exact (dho_of I ec hk).typeIs
  · exact (nho_of I ec).typeIs
  · exact (nho_of I ec).typeIs
theorem has_lk {c : Addr} {y : V} {u : Value} {r : Option Value} {Q : Bool → Shared → Prop} (hu : A.units + 1 < cLine) (I : Inv X pins σ H s) (l : Lk X H c y r) (ry : RelV y u) (hd : (c == sysModules) = false) (h : ∀ s', Inv X pins σ H s' → Q r.isSome s') : wpAny (model X.prog X.w) A (contains (.ref c) u) Q E s := by
  have T := lk_type I l
  refine wpAny_contains_slot T PySem.F.slot_dict_contains ?_
  refine call_meetsIn PySem.F.slot_dict_contains T PySem.F.entry_dict_contains (PySem.F.args_dict_contains_2 _ _) (S := fun A' R s' => A'.in1.units < cLine ∧ s' = s ∧ ∀ s'', Inv X pins σ H s'' → R (.ok (.ret (.bool r.isSome))) s'') (fun A' R s' hS => ?_) ⟨hu, rfl, fun s'' I'' => wpAny_truthy_bool (h s'' I'')⟩
  obtain ⟨hu', rfl, hq⟩ := hS
  show wpAny _ _ (dictGet c u >>= _) _ _ _
  refine wpAny_bind (get_lk hu' I l ry fun s'' I'' => ?_)
  cases r with
  | some p =>
    show wpAny _ _ (ret (.bool true)) _ _ _
    exact wpAny_pure (hq _ I'')
  | none =>
    show wpAny _ _ (Builtin.Dict.pendingKey? c u >>= _) _ _ _
    exact wpAny_bind (wpAny_pendingKey_other hd (wpAny_pure (hq _ I'')))
theorem item_lk {c : Addr} {y : V} {u q : Value} {Q : Value → Shared → Prop} (hu : A.units + 1 < cLine) (I : Inv X pins σ H s) (l : Lk X H c y (some q)) (ry : RelV y u) (h : ∀ s', Inv X pins σ H s' → Q q s') : wpAny (model X.prog X.w) A (getItem (.ref c) u) Q E s := by
  have T := lk_type I l
  unfold getItem
  try with_reducible refine wpAny_holding ?_
  refine wpAny_bind (wpAny_sequenceKey T (by decide) ?_)
  refine wpAny_bind (wpAny_callSpecial?_slot (name := Str.ofString "__getitem__") T PySem.F.slot_dict_getitem
    (wpAny_call_entry PySem.F.slot_dict_getitem T PySem.F.entry_dict_getitem ?_ (args_dict_getitem _ _)))
  show wpAny _ _ (dictGet c u >>= _) _ _ s
  refine wpAny_bind (get_lk ?_ I l ry fun s'' I'' => ?_)
  · exact hu
  · exact wpAny_pure ⟨q, rfl, wpAny_pure (h _ I'')⟩
def rInR (X : Cx) (neg : Bool) : R2 := fun y x H Q => ∃ c r, x = .ref c ∧ (c == sysModules) = false ∧ Lk X H c y r ∧ Q (.bl (if neg then !r.isSome else r.isSome)) H
theorem op_inR (hu : X.A.units + 1 < cLine) : OpR X (compareOp .In) (rInR X false) := by
  intro pins s σ H y x u v Q I ry rx h
  obtain ⟨c, r, rfl, hs, l, q⟩ := h
  obtain rfl : v = Value.ref c := rx
  show wpAny _ _ (do return Value.bool (← contains (.ref c) u)) _ _ s
  exact wpAny_bind (has_lk hu I l ry hs fun s' I' => wpAny_pure ⟨.bl _, H, I', rfl, q⟩)
theorem op_notInR (hu : X.A.units + 1 < cLine) : OpR X (compareOp .NotIn) (rInR X true) := by
  intro pins s σ H y x u v Q I ry rx h
  obtain ⟨c, r, rfl, hs, l, q⟩ := h
  obtain rfl : v = Value.ref c := rx
  show wpAny _ _ (do return Value.bool (!(← contains (.ref c) u))) _ _ s
  exact wpAny_bind (has_lk hu I l ry hs fun s' I' => wpAny_pure ⟨.bl _, H, I', rfl, q⟩)
def rIxR (X : Cx) : R2 := fun x y H Q => ∃ c q v, x = .ref c ∧ Lk X H c y (some q) ∧ RelV v q ∧ Q v H
theorem ix_lk (hu : X.A.units + 1 < cLine) : IxR X (rIxR X) := by
  intro value slice pins s σ H x y v u Q I rx ry h hs
  obtain ⟨c, q, v1, rfl, l, rv, hq⟩ := h
  obtain rfl : v = Value.ref c := rx
  exact tail_any (lk_type I l) PySem.F.slot_dict_getitem.lookup (item_lk hu I l ry fun s' I' => ⟨v1, H, I', rv, hq⟩) hs
end
end Mi
set_option Elab.async false
set_option linter.all false
set_option maxRecDepth 100000
set_option maxHeartbeats 4000000
/-! {None: v}, k in d, d[k] where keys are tuples or None, in the mirror -/
namespace Mi
open PySem PySem.Spec PyProof.Rows L2
section
variable {X : Cx} {W : WX} {xa : Xa} {a b v : Expr} {A B : IE} {pos p : Pos}
def kDispN (P : Program) (w : World) (p : Addr) (Q : VK) (ps : List (V × V)) (H2 : Hp) : Prop := H2 p = some (.dK []) ∧ ∃ y, ps = [(V.non, y)] ∧ ∀ u, RelV y u → Q (.ref p) (upd H2 p (NHo P w p u))
def tDispN (P : Program) (w : World) (tv : TE) : TE := fun σ H Q => ∀ p, H p = none → (p == sysModules) = false → tv σ (upd H p (.dK [])) fun y H2 => kDispN P w p Q [(.non, y)] H2
theorem dict_nil {P : Program} {w : World} {h : Heap} {a : Addr} (d : h.DictOf (mixKind P w) a []) : h.DictOf (leafKind P w) a [] := by
  obtain ⟨o, es, ep, ho, hc, hd, hk, hp, hn⟩ := d
  have e : es.toList = [] := by
    generalize es.toList = l at hp
    cases hp; rfl
  refine ⟨o, es, ep, ho, hc, hd, fun x hx => ?_, by rw [e]; exact .nil, List.nodup_nil⟩
  have : x ∈ es.toList := Array.mem_toList_iff.mpr hx
  rw [e] at this
  cases this
theorem pe_dispN {j : Nat} {tv : TE} (hv : PE X v tv) : PE X (.Dict [some (.Constant .none j p)] [v] pos) (tDispN X.prog X.w tv) := by
  refine ⟨fun pins s σ H Q I q => ?_⟩
  have hn := I.hok.fresh (Nat.le_refl s.heap.objs.size)
  have hs : (s.heap.objs.size == sysModules) = false := beq_eq_false_iff_ne.mpr (Ne.symm (Nat.ne_of_lt I.big))
  have I1 := I.laid (a := s.heap.objs.size) (o := .dK []) (h' := s.heap.push { cls := .type "dict", data := .dict #[] }) (t' := s.toks) (fun _ _ q => Heap.get?_push_of_some _ q) (Nat.le_refl _) (dk_empty s.heap I.big)
  have h : PPs X pos [some (.Constant .none j p)] [v] [(tC .non, tv)] := pps_cons pe_non hv pps_nil
  refine wpAny_Dict_walk (knd := leafKind X.prog X.w) rfl rfl (by simp) (by simp) (thn (h.run pins _ σ _ (kDispN X.prog X.w s.heap.objs.size Q) I1 (q _ hn hs)) fun ws s2 ⟨ps, H2, I2, rel, e, y, ep, q2⟩ => ?_)
  subst ep
  cases rel with
  | @cons a b as bs h1 t =>
    cases t
    obtain ⟨b1, b2⟩ := b
    obtain rfl : b1 = Value.none := h1.1
    obtain ⟨z, hd, vs0, r0, dd⟩ := dk_of I2.hok e
    cases r0
    refine ⟨[(Leaf.none, b2)], ⟨rfl, rfl, True.intro⟩, dict_nil dd, fun h' dd' hs => ⟨.ref s.heap.objs.size, _, ?_, rfl, q2 b2 h1.2⟩⟩
    have he : ∃ q, h'.get? s.heap.objs.size = some q := let ⟨q, _, _, hq, _⟩ := dd'; ⟨q, hq⟩
    exact d_write I2 (by rw [e]; exact True.intro) hs he (nho_new dd')
/-- {None: v} -/
def iDispN (A : IE) : IE := fun ρ st => (A ρ (st ++ [.dic []])).bind fun y st1 => match st1[st.length]? with
  | some (.dic []) => .ok (.ref st.length) (st1.set st.length (.nod y))
  | _ => .bad
theorem me_dispN {j : Nat} (hv : ME X W xa v B) : ME X W xa (.Dict [some (.Constant .none j p)] [v] pos) (iDispN B) := by
  refine PE.weak (pe_dispN hv) fun σ H Q h => ?_
  intro p hp hs
  obtain ⟨m, os, rs, ρ, st, P, h⟩ := h
  have R := P.rel
  have g0 : GrowE m st H (m ++ [p]) (st ++ [.dic []]) (upd H p (.dK [])) := grow_live R hp
  have R0 : Rel (gd X) (m ++ [p]) (os ++ rs) (st ++ [.dic []]) (upd H p (.dK [])) := R.live hp ⟨[], upd_same, rfl⟩
  have P0 := P.grow g0 R0
  have h0' := h.shift g0
  unfold iDispN at h0'
  have hb := h0'.bind
  refine ⟨m ++ [p], os, rs, ρ, st ++ [.dic []], P0, hb.mono fun y m1 st1 H1 g1 R1 h1 u ru => ?_⟩
  have hm : m1[st.length]? = some p := by
    obtain ⟨t, et⟩ := g1.pre
    rw [← et, List.append_assoc, ← R.len, List.getElem?_append_right (Nat.le_refl _)]
    simp
  split at h1
  · rename_i e
    obtain ⟨ws0, e1, e2⟩ := R1.obj _ _ p e hm
    have e2' : ws0 = [] := e2
    subst e2'
    have hd : ND (IO.dic []) := fun z => by cases z
    refine ⟨e1, u, rfl, fun u' ru' => ?_⟩
    have gs : GrowE m1 st1 H1 m1 (st1.set st.length (.nod y)) (upd H1 p (NHo X.prog X.w p u')) := grow_set hm e hd
    exact h1 m1 _ gs (R1.set hm e hd ⟨hs, u', u, upd_same, ru', RV.fits gs.fitsE _ _ ru⟩) (.ref p) (by simp only [RV]; exact ⟨p, rfl, hm⟩)
  · exact h1.elim
/-- what a dict of the store holds under a key -/
def lkI (st : Sto) (x y : IV) : Option (Option IV) := match x with
  | .ref l => match st[l]? with
    | some (.dct kvs) => match y with
      | .non => some none
      | _ => (keyI y).map fun k => getI kvs k
    | some (.nod z) => match y with
      | .non => some (some z)
      | _ => (keyI y).map fun _ => none
    | _ => none
  | _ => none
theorem lkI_re {m bs : List Addr} {st : Sto} {H : Hp} (R : Rel (gd X) m bs st H) {x y : IV} {x' y' : V} {r : Option IV} (e : lkI st x y = some r) (rx : RV (gd X) m bs st H x x') (ry : RV (gd X) m bs st H y y') :
    ∃ c q, x' = .ref c ∧ (c == sysModules) = false ∧ Lk X H c y' q ∧ (r = none ↔ q = none) ∧ ∀ z, r = some z → ∃ u v, q = some u ∧ RelV v u ∧ RV (gd X) m bs st H z v := by
  cases x with
  | ref l =>
    simp only [RV] at rx
    obtain ⟨a, rfl, hm⟩ := rx
    simp only [lkI] at e
    split at e
    · rename_i kvs el
      obtain ⟨hs, _, xs, ha, rd⟩ := R.obj l _ a el hm
      split at e
      · cases e
        have ey : y' = .non := by simpa only [RV] using ry
        subst ey
        exact ⟨a, none, rfl, hs,   .inr (.inl ⟨xs, ha, rd.keys, rfl, rfl⟩), by simp, fun z hz => by cases hz⟩
      · obtain ⟨k, ek, rfl⟩ := Option.map_eq_some_iff.mp e
        have ey := keyI_eq ek
        subst ey
        obtain ⟨b, rfl, hb⟩ := rv_key ry
        refine ⟨a, (atKey xs k).map (·.2), rfl, hs, .inl ⟨xs, b, k, ha, rd.keys, rfl, hb, rfl⟩, ?_, fun z hz => ?_⟩
        · cases q : getI kvs k with
          | none => rw [rd.no q]; simp
          | some z =>
            obtain ⟨q', _, h1, _⟩ := rd.at q
            rw [h1]; simp
        · obtain ⟨q', v, h1, h2, h3⟩ := rd.at hz
          exact ⟨q'.2, v, by rw [h1]; rfl, h2, h3⟩
    · rename_i z el
      obtain ⟨hs, u, v, ha, ru, rz⟩ := R.obj l _ a el hm
      split at e
      · cases e
        have ey : y' = .non := by simpa only [RV] using ry
        subst ey
        exact ⟨a, some u, rfl, hs, .inr (.inr (.inl ⟨u, ha, rfl, rfl⟩)), by simp, fun z' hz => by cases hz; exact ⟨u, v, rfl, ru, rz⟩⟩
      · obtain ⟨k, ek, rfl⟩ := Option.map_eq_some_iff.mp e
        have ey := keyI_eq ek
        subst ey
        obtain ⟨b, rfl, hb⟩ := rv_key ry
        exact ⟨a, none, rfl, hs, .inr (.inr (.inr ⟨u, b, k, ha, rfl, hb, rfl⟩)), by simp, fun z hz => by cases hz⟩
    · cases e
  | _ => cases e
def gInR (neg : Bool) : IV → IV → Sto → R IV := fun y x st => match lkI st x y with
  | some r => .ok (.bl (if neg then !r.isSome else r.isSome)) st
  | none => .bad
theorem inR_weak {op : CmpOp} {neg : Bool} (ho : OpR X (compareOp op) (rInR X neg)) : OpM X (compareOp op) (gInR neg) := by
  refine ⟨_, ho, fun m bs st H y x y' x' Q W R ry rx h => ?_⟩
  unfold gInR at h
  split at h
  · rename_i r e
    obtain ⟨c, q, rfl, hs, l, hn, _⟩ := lkI_re R e rx ry
    have es : r.isSome = q.isSome := by
      cases r with
      | none => rw [hn.mp rfl]; rfl
      | some z =>
        cases q with
        | none => cases hn.mpr rfl
        | some u => rfl
    rw [es] at h
    exact ⟨c, q, rfl, hs, l, h.v R (by simp only [RV])⟩
  · exact h.elim
theorem opm_inR (hu : X.A.units + 1 < cLine) : OpM X (compareOp .In) (gInR false) := inR_weak (op_inR hu)
theorem opm_notInR (hu : X.A.units + 1 < cLine) : OpM X (compareOp .NotIn) (gInR true) := inR_weak (op_notInR hu)
def gIxR : IV → IV → Sto → R IV := fun x y st => match lkI st x y with
  | some (some z) => .ok z st
  | _ => .bad
theorem me_ixR (hu : X.A.units + 1 < cLine) (ha : ME X W xa a A) (hb : ME X W xa b B) (hs : PlainIx b := by exact fun _ _ => rfl) : ME X W xa (.Subscript a b pos) (iBin gIxR A B) := by
  refine PE.weak (pe_ix (ix_lk hu) ha hb hs) fun σ H Q h => ?_
  obtain ⟨m, os, rs, ρ, st, P, h⟩ := h
  refine ⟨m, os, rs, ρ, st, P, h.bind.mono fun x m1 st1 H1 g1 R1 h1 x' rx => ⟨m1, os, rs, ρ, st1, P.grow g1 R1, h1.bind.mono fun y m2 st2 H2 g2 R2 h2 y' ry => ?_⟩⟩
  have rx := RV.fits g2.fitsE _ _ rx
  unfold gIxR at h2
  split at h2
  · rename_i z e
    obtain ⟨c, q, rfl, hs, l, _, hz⟩ := lkI_re R2 e rx ry
    obtain ⟨u, v, rfl, rv, rz⟩ := hz z rfl
    exact ⟨c, u, v, rfl, l, rv, h2.v R2 rz⟩
  · exact h2.elim
end
end Mi
set_option Elab.async false
set_option linter.all false
set_option maxRecDepth 100000
set_option maxHeartbeats 4000000
/-! methods and making of objects where an exception's context must be None (L2N) -/
namespace Mi
open PySem PySem.Spec PyProof.Rows L2
section
variable {P : Program} {w : World} {K : PySem.W.Frag} {mg : Str → Option Value} {base : Heap}
def qF (F : Fn) : Fn := fun xs st => quiet (F xs st)
theorem fnok_quiet {k n : Nat} {f : Addr} {fd : FuncData} {ps : List Str} {F : Fn} (h : FnOk P w K mg base (L2.CX P w) k f fd ps (spOf ⟨K, mg, P, w⟩ n F)) : FnOk P w K mg base (L2N.CX P w) k f fd ps (spOf ⟨K, mg, P, w⟩ n (qF F)) :=
  ⟨fun vs H Q E z => h.len vs H Q (fun _ _ _ => False) ⟨z.1, by obtain ⟨m, bs, st, args, R, r, z⟩ := z.2; exact ⟨m, bs, st, args, R, r, quiet_post z⟩⟩,
    fun A outer s H args us vs Q E hr he hb hv hs => codeAny_mono (h.run A outer s H args us vs Q (fun _ _ _ => False) hr he hb hv ⟨hs.1, by obtain ⟨m, bs, st, args, R, r, z⟩ := hs.2; exact ⟨m, bs, st, args, R, r, quiet_post z⟩⟩) fun r s' hq => by
    cases r with
    | error e =>
      obtain ⟨_, _, _, _, _, _, _, _, _, _, _, _, z⟩ := hq
      exact z.elim
    | ok fl => cases fl <;> exact hq⟩
def MethMN (P : Program) (w : World) (K : PySem.W.Frag) (mg : Str → Option Value) (base : Heap) (c m : Str) (k n : Nat) (F : Fn) : Prop :=
  ∃ C f fd ps, mg c = some (.ref C) ∧ Cls K C ∧ Meth K C m f ∧ Binds K fd ps [] ∧ FnOk P w K mg base (L2N.CX P w) k f fd ps (spOf ⟨K, mg, P, w⟩ n F)
def MkMN (P : Program) (w : World) (K : PySem.W.Frag) (mg : Str → Option Value) (base : Heap) (c : Str) (k n : Nat) (F : Fn) : Prop :=
  ∃ C f fd ps, mg c = some (.ref C) ∧ Mk K C f ∧ Binds K fd ps [] ∧ FnOk P w K mg base (L2N.CX P w) k f fd ps (spOf ⟨K, mg, P, w⟩ n F)
theorem MethM.quiet {c m : Str} {k n : Nat} {F : Fn} (h : MethM P w K mg base c m k n F) : MethMN P w K mg base c m k n (qF F) := by
  obtain ⟨C, f, fd, ps, h1, h2, h3, h4, h5⟩ := h
  exact ⟨C, f, fd, ps, h1, h2, h3, h4, fnok_quiet h5⟩
theorem MkM.quiet {c : Str} {k n : Nat} {F : Fn} (h : MkM P w K mg base c k n F) : MkMN P w K mg base c k n (qF F) := by
  obtain ⟨C, f, fd, ps, h1, h2, h3, h4⟩ := h
  exact ⟨C, f, fd, ps, h1, h2, h3, fnok_quiet h4⟩
theorem FnM.quiet {x : Str} {k n : Nat} {F : Fn} (h : FnM P w K mg base x k n F) : FnMN P w K mg base x k n (qF F) := by
  obtain ⟨f, fd, ps, h1, h2, h3, h4⟩ := h
  exact ⟨f, fd, ps, h1, h2, h3, fnok_quiet h4⟩
end
section
variable {X : Cx} {W : WX} {xa : Xa} {a b e o : Expr} {A B : IE} {pos p apos : Pos} {es : List Expr} {As : IA} {k n : Nat} {F : Fn} {x c m : Str}
theorem me_methN {pl : Sem Bool} (h : MethMN X.prog X.w X.K X.mg X.base c m k (n + 1) F) (hr : Room k X.A) (tk : L2N.Takes X W) (ho : ME X W xa o A) (ha : MA X W xa (e :: es) As)
    (hst : starEach (e :: es) X.env = (false, eval e X.env) :: starEach es X.env := by rfl) (hpl : (backTo pos (starEach es X.env)).any (·.1) = false := by rfl)
    (ht : eval (.Call (.Attribute o m apos) (e :: es) [] pos) X.env = (do
      let ov ← eval o X.env
      standAt apos.atName
      let (f, first) ← holding [ov] (getMethod ov m pl)
      callWith pos f first (backTo pos (starEach (e :: es) X.env)) (backToKw pos (keywordEach [] X.env))) := by rfl) :
    ME X W xa (.Call (.Attribute o m apos) (e :: es) [] pos) (iMeth c m (arity (n + 1) F) A As) := by
  obtain ⟨C, f, fd, ps, hm, hC, hM, hb, hf⟩ := h
  exact PE.weak (pe_methSD ho hC hM hf hr hb (E := fun σ cls d H => W cls d σ H) (fun σ => L2N.passAt tk σ) ha hst hpl ht) fun σ H Q h => meth_weak (f := f) (fd := fd) (ps := ps) hm (fun _ _ _ h => h) h
theorem me_meth0N {pl : Sem Bool} (h : MethMN X.prog X.w X.K X.mg X.base c m k 1 F) (hr : Room k X.A) (tk : L2N.Takes X W) (ho : ME X W xa o A)
    (ht : eval (.Call (.Attribute o m apos) [] [] pos) X.env = (do
      let ov ← eval o X.env
      standAt apos.atName
      let (f, first) ← holding [ov] (getMethod ov m pl)
      callWith pos f first (backTo pos (starEach [] X.env)) (backToKw pos (keywordEach [] X.env))) := by rfl) :
    ME X W xa (.Call (.Attribute o m apos) [] [] pos) (iMeth c m (arity 1 F) A iNil) := by
  obtain ⟨C, f, fd, ps, hm, hC, hM, hb, hf⟩ := h
  refine PE.weak (pe_meth0SD ho hC hM hf hr hb (E := fun σ cls d H => W cls d σ H) (fun σ => L2N.passAt tk σ) ht) fun σ H Q h => meth_weak (n := 0) (f := f) (fd := fd) (ps := ps) hm (fun σ H Q h => ?_) h
  obtain ⟨m, os, rs, ρ, st, P, h⟩ := h
  exact h.ok P.rel [] (by simp only [RVs])
theorem me_makeN (h : MkMN X.prog X.w X.K X.mg X.base c k (n + 1) F) (hr : Room (k + 1) X.A) (tk : L2N.Takes X W) (hg : Gl X c) (ha : MA X W xa (e :: es) As)
    (hdb : (c == ("__debug__" : Str)) = false := by decide) (he : starEach (e :: es) X.env = (false, eval e X.env) :: starEach es X.env := by rfl) (hpl : (backTo pos (starEach es X.env)).any (·.1) = false := by rfl) :
    ME X W xa (.Call (.Name c p) (e :: es) [] pos) (iMake c (arity (n + 1) F) As) := by
  obtain ⟨C, f, fd, ps, hm, hM, hb, hf⟩ := h
  refine PE.weak (pe_makeS hM hf hr hg hm hb (E := fun σ cls d H => W cls d σ H) (fun σ => L2N.passAt tk σ) ha hdb he hpl) fun σ H Q h => ?_
  obtain ⟨m, os, rs, ρ, st, P, h⟩ := h
  refine ⟨m, os, rs, ρ, st, P, h.bind.mono fun args m1 st1 H1 g1 R1 h1 vs rv => fun x dx hx hdx ne => ?_⟩
  have hx2 : upd H1 dx (.own x) x = none := by rw [upd_ne (Ne.symm ne)]; exact hx
  have R2 : Rel (gd X) m1 (os ++ rs) st1 (upd H1 dx (.own x)) := R1.new hdx
  have g2 : GrowE m1 st1 H1 m1 st1 (upd H1 dx (.own x)) := grow_new hdx
  have g3 : GrowE m1 st1 (upd H1 dx (.own x)) (m1 ++ [x]) (st1 ++ [.ins c []]) (upd (upd H1 dx (.own x)) x (.ins C dx [])) := grow_live R2 hx2
  have R3 : Rel (gd X) (m1 ++ [x]) (os ++ rs) (st1 ++ [.ins c []]) (upd (upd H1 dx (.own x)) x (.ins C dx [])) := R2.live hx2 ⟨C, dx, [], hm, upd_same, rfl⟩
  have el : (m1 ++ [x])[st1.length]? = some x := by rw [← R1.len, List.getElem?_append_right (Nat.le_refl _)]; simp
  have h2 : Pst (gd X) (m1 ++ [x]) (os ++ rs) (st1 ++ [.ins c []]) (upd (upd H1 dx (.own x)) x (.ins C dx [])) (fun cls d H' => W cls d σ H') ((arity (n + 1) F (.ref st1.length :: args) (st1 ++ [.ins c []])).bind fun v st' => match v with
      | .non => .ok (.ref st1.length) st'
      | _ => .bad) (fun v m' st' H' => ∀ u, RV (gd X) m' (os ++ rs) st' H' v u → Q u H') := h1.shift (g2.trans g3)
  unfold arity at h2
  split at h2
  · rename_i hl
    refine ⟨by rw [List.length_cons, ← rv.length]; simpa using hl, m1 ++ [x], _, st1 ++ [.ins c []], .ref st1.length :: args, R3, ?_, h2.bind.mono fun v m4 st4 H4 g4 R4 h4 u ru => ?_⟩
    · simp only [RVs]
      exact ⟨.ref x, vs, rfl, by simp only [RV]; exact ⟨x, rfl, el⟩, RVs.fits (g2.trans g3).fitsE _ _ rv⟩
    · cases v with
      | non =>
        simp only [RV] at ru
        refine ⟨ru, h4.v R4 ?_⟩
        simp only [RV]
        exact ⟨x, rfl, g4.at el⟩
      | _ => exact h4.elim
  · exact h2.elim
end
end Mi
set_option Elab.async false
set_option linter.all false
set_option maxRecDepth 100000
set_option maxHeartbeats 4000000
/-! list + list, a list that may change later -/
namespace Mi
open PySem PySem.Spec PyProof.Rows L2
section
variable {X : Cx}
def gAddS : IV → IV → Sto → R IV := fun x y st => match asL st x, asL st y with
  | some xs, some ys => if xs.length + ys.length ≤ 100000 then .ok (.ref st.length) (st ++ [.lst (xs ++ ys)]) else .bad
  | _, _ => .bad
theorem opm_addS : OpM X (binaryOp .Add) gAddS := by
  refine ⟨_, op_catL, fun m bs st H x y x' y' Q W R rx ry h => ?_⟩
  unfold gAddS at h
  split at h
  · rename_i xs ys e1 e2
    split at h
    · rename_i c
      obtain ⟨a, vs, ea, h1, r1⟩ := asL_sq R e1 rx
      obtain ⟨b, ws, eb, h2, r2⟩ := asL_sq R e2 ry
      exact ⟨a, b, vs, ws, ea, eb, h1, h2, by rw [← r1.length, ← r2.length]; exact szl c, fun p hp => h.newS (o := .lst (xs ++ ys)) R hp fun m' st' H' g e => ⟨_, e, RVs.fits g.fitsE _ _ (r1.append r2)⟩⟩
    · exact h.elim
  · exact h.elim
end
end Mi
set_option Elab.async false
set_option linter.all false
set_option maxRecDepth 100000
set_option maxHeartbeats 4000000
namespace Mi
open PySem PySem.Spec PyProof.Rows L2 PySem.W
/-! ### rows of numbers: order -/
def intD (r : List Int) : List PyData := r.map .int
def flatT (r : List Int) : List (Int ⊕ List Nat) := r.flatMap fun n => [.inl 1, .inl n]
theorem toks_ints : ∀ {r : List Int} {t : List PyData}, keyToksAll (intD r ++ t) = flatT r ++ keyToksAll t
  | [], _ => rfl
  | n :: r, t => by
    show keyToksAll (PyData.int n :: (intD r ++ t)) = _
    rw [toks_all_cons, toks_ints]
    rfl
theorem lex_flat : ∀ {r r' : List Int} {t t' : List (Int ⊕ List Nat)}, r.length = r'.length → lexLt itemOrd (flatT r ++ .inl 0 :: t) (flatT r' ++ .inl 0 :: t') = lexLt itemOrd (flatT r ++ t) (flatT r' ++ t')
  | [], [], t, t', _ => lex_pre [.inl 0] t t'
  | [], _ :: _, _, _, h => by simp at h
  | _ :: _, [], _, _, h => by simp at h
  | n :: r, n' :: r', t, t', h => by
    have h2 : r.length = r'.length := by simpa using h
    show lexLt itemOrd ([.inl 1] ++ (.inl n :: (flatT r ++ .inl 0 :: t))) ([.inl 1] ++ (.inl n' :: (flatT r' ++ .inl 0 :: t'))) = lexLt itemOrd ([.inl 1] ++ (.inl n :: (flatT r ++ t))) ([.inl 1] ++ (.inl n' :: (flatT r' ++ t')))
    rw [lex_pre, lex_pre]
    by_cases e : n = n'
    · subst e
      show lexLt itemOrd ([.inl n] ++ (flatT r ++ .inl 0 :: t)) ([.inl n] ++ (flatT r' ++ .inl 0 :: t')) = lexLt itemOrd ([.inl n] ++ (flatT r ++ t)) ([.inl n] ++ (flatT r' ++ t'))
      rw [lex_pre, lex_pre]
      exact lex_flat h2
    · have ne : (Sum.inl n : Int ⊕ List Nat) ≠ .inl n' := fun z => e (by cases z; rfl)
      rw [lex_atom ne, lex_atom ne (flatT r ++ t)]
/-- a place's rank, as the program and as a law keeps it -/
def rkD (r : List Int) (s w : Int) : PyData := .tuple [.tuple (intD r), .int s, .int w]
def rlD (r : List Int) : PyData := .list (intD r)
theorem lt_ranks {r r' : List Int} {s w s' w' : Int} (h : r.length = r'.length) : dataLt (rkD r s w) (rkD r' s' w') = dataLt (rlD (r ++ [s, w])) (rlD (r' ++ [s', w'])) := by
  unfold rkD rlD
  rw [dataLt_tuple, dataLt_list]
  have e : ∀ (r : List Int) (s w : Int), keyToksAll [.tuple (intD r), .int s, .int w] = [.inl 1] ++ (flatT r ++ .inl 0 :: keyToksAll [.int s, .int w]) := fun r s w => by
    rw [toks_all_cons]
    have : keyToks (.tuple (intD r)) = flatT r ++ [.inl 0] := by
      have := toks_ints (r := r) (t := [])
      rw [List.append_nil] at this
      exact this
    rw [this]; simp
  have e2 : ∀ (r : List Int) (s w : Int), keyToksAll (intD (r ++ [s, w])) = flatT r ++ keyToksAll [.int s, .int w] := fun r s w => by
    rw [← toks_ints]; simp [intD]
  rw [e, e, lex_pre, e2, e2, lex_flat h]
theorem alike_ints : ∀ {r r' : List Int}, alikeAll (intD r) (intD r') = true
  | [], r' => rfl
  | _ :: _, [] => rfl
  | n :: r, n' :: r' => by
    show (alike (.int n) (.int n') && alikeAll (intD r) (intD r')) = true
    rw [alike_ints]; rfl
theorem alike_rl {r r' : List Int} : alike (rlD r) (rlD r') = true := by unfold rlD; rw [alike]; exact alike_ints
theorem alike_rk {r r' : List Int} {s w s' w' : Int} : alike (rkD r s w) (rkD r' s' w') = true := by
  unfold rkD
  simp [alike, alikeAll, alike_ints]
theorem depth_ints : ∀ {r : List Int}, PyData.depthAll (intD r) ≤ 1
  | [] => by decide
  | n :: r => by
    have := depth_ints (r := r)
    show PyData.depthAll (PyData.int n :: intD r) ≤ 1
    simp only [PyData.depthAll, PyData.depth]
    omega
theorem depth_rl {r : List Int} : (rlD r).depth ≤ 60 := by
  have := depth_ints (r := r)
  simp only [rlD, PyData.depth]; omega
theorem depth_rk {r : List Int} {s w : Int} : (rkD r s w).depth ≤ 60 := by
  have := depth_ints (r := r)
  simp only [rkD, PyData.depth, PyData.depthAll]; omega
theorem toD0s_ints : ∀ {r : List Int}, toD0s (r.map IV.int) = some (intD r)
  | [] => rfl
  | n :: r => by
    rw [List.map_cons]
    simp only [toD0s, toD0, toD0s_ints, Option.bind_some, Option.map_some]
    rfl
def rkI (r : List Int) (s w : Int) : IV := .tup [.tup (r.map .int), .int s, .int w]
theorem toD_rk {r : List Int} {s w : Int} {st : Sto} : toD st (rkI r s w) = some (rkD r s w) := by
  simp [rkI, toD, toD0, toD0s, toD0s_ints, rkD]
theorem toD_rl {r : List Int} {st : Sto} : toD st (.lst (r.map .int)) = some (rlD r) := by
  simp [toD, toD0, toD0s_ints, rlD]
variable {f : PyData → PyData → Bool} {st : Sto}
theorem cmp_rk {r r' : List Int} {s w s' w' : Int} : gCmpD f (rkI r s w) (rkI r' s' w') st = .ok (.bl (f (rkD r s w) (rkD r' s' w'))) st := by
  unfold gCmpD cmpB
  rw [toD_rk, toD_rk]
  simp [alike_rk, depth_rk, rkD, nnD]
  simp [show alike (.tuple [.tuple (intD r), .int s, .int w]) (.tuple [.tuple (intD r'), .int s', .int w']) = true from alike_rk, show (PyData.tuple [.tuple (intD r), .int s, .int w]).depth ≤ 60 from depth_rk]
theorem cmp_rl {r r' : List Int} : gCmpD f (.lst (r.map .int)) (.lst (r'.map .int)) st = .ok (.bl (f (rlD r) (rlD r'))) st := by
  unfold gCmpD cmpB
  rw [toD_rl, toD_rl]
  simp only [alike_rl, depth_rl, rlD, nnD]
  simp [show alike (.list (intD r)) (.list (intD r')) = true from alike_rl, show (PyData.list (intD r)).depth ≤ 60 from depth_rl]
theorem okv_ints {r : List Int} : (r.map IV.int).all (okV 0) = true := List.all_eq_true.mpr fun x hx => by
  obtain ⟨n, _, rfl⟩ := List.mem_map.mp hx; rfl
theorem nb_ints {r : List Int} : (r.map IV.int).all nb = true := List.all_eq_true.mpr fun x hx => by
  obtain ⟨n, _, rfl⟩ := List.mem_map.mp hx; rfl
theorem ints_inj {r r' : List Int} : r.map IV.int = r'.map IV.int ↔ r = r' := by
  constructor
  · intro h
    induction r generalizing r' with
    | nil => cases r' with
      | nil => rfl
      | cons _ _ => simp at h
    | cons n r ih => cases r' with
      | nil => simp at h
      | cons n' r' =>
        rw [List.map_cons, List.map_cons] at h
        injection h with h1 h2
        injection h1 with h1
        rw [h1, ih h2]
  · rintro rfl; rfl
theorem app2_inj {r r' : List Int} {s w s' w' : Int} (h : r.length = r'.length) : r ++ [s, w] = r' ++ [s', w'] ↔ r = r' ∧ s = s' ∧ w = w' := by
  constructor
  · intro e
    have := List.append_inj e h
    exact ⟨this.1, by have := this.2; simp at this; exact this⟩
  · rintro ⟨rfl, rfl, rfl⟩; rfl
theorem eq_rk {r r' : List Int} {s w s' w' : Int} : gEq (rkI r s w) (rkI r' s' w') st = .ok (.bl (decide (r = r' ∧ s = s' ∧ w = w'))) st := by
  have ok : ∀ r s w, okV 2 (rsv st (rkI r s w)) = true := fun r s w => by
    simp only [rkI, rsv_tup, okV, List.all_cons, List.all_nil, Bool.and_true]
    exact okv_ints
  rw [eq_pE (ok _ _ _) (ok _ _ _) (by decide)]
  congr 1
  congr 1
  have n : ∀ r s w, nb (rkI r s w) = true := fun r s w => by simp only [rkI, nb, nbs, nbs_all, nb_ints, Bool.and_true]
  rw [show rsv st (rkI r s w) = rkI r s w from rfl, show rsv st (rkI r' s' w') = rkI r' s' w' from rfl, Bool.eq_iff_iff, pE_iff _ _ (n _ _ _) (n _ _ _), decide_eq_true_iff]
  simp [rkI, ints_inj]
theorem eq_rl {r r' : List Int} : gEq (.lst (r.map .int)) (.lst (r'.map .int)) st = .ok (.bl (decide (r = r'))) st := by
  have ok : ∀ r : List Int, okV 1 (rsv st (.lst (r.map .int))) = true := fun r => by
    simp only [rsv_lst, okV]; exact okv_ints
  rw [eq_pE (ok _) (ok _) (by decide)]
  congr 1
  congr 1
  have n : ∀ r : List Int, nb (.lst (r.map .int)) = true := fun r => by simp only [nb, nbs_all, nb_ints]
  rw [rsv_lst, rsv_lst, Bool.eq_iff_iff, pE_iff _ _ (n _) (n _), decide_eq_true_iff]
  simp [ints_inj]
theorem ne_rl {r r' : List Int} : gNe (.lst (r.map .int)) (.lst (r'.map .int)) st = .ok (.bl (!decide (r = r'))) st := by
  have h := eq_rl (st := st) (r := r) (r' := r')
  unfold gEq at h
  unfold gNe
  split at h
  · rename_i b e
    cases h
    rfl
  · cases h
theorem wp_own_cmp {c : Str} {F : Fn} {x y : IV} {p q : Nat × Str × List (Str × IV)} {P : IV → Sto → Prop} {E : Str → List (Str × IV) → Sto → Prop} (e : insAt st [c] x = some p) (e2 : insAt st [c] y = some q) (h : (F [x, y] st).wp (fun v st' => ∃ b, v = .bl b ∧ P (.bl b) st') nE) : (gOwnCmp c F x y st).wp P E := by
  unfold gOwnCmp
  rw [e, e2]
  simp only [wpb]
  refine quiet_wp (wp_mono h fun v s1 z => ?_)
  obtain ⟨b, rfl, z⟩ := z
  exact (by simpa using z : P (.bl (false != b)) s1)
theorem lt_near {r : List Int} {s s' w w' : Int} (h : s < s') : dataLt (rkD r s w) (rkD r s' w') = true := by
  unfold rkD
  rw [dataLt_tuple, dataLt_all_yes (by simp [alike, alike_ints]) (eqv_refl_alike _ (by simp [alike, alike_ints])), dataLt_all_no (by simp [alike]) (by simp [PyData.eqv]; omega), dataLt_int]
  simpa using h
end Mi
set_option Elab.async false
set_option linter.all false
set_option maxRecDepth 100000
set_option maxHeartbeats 4000000
namespace Mi
open PySem PySem.Spec PyProof.Rows L2
variable {ρ : Slots} {st : Sto} {E : Str → List (Str × IV) → Sto → Prop} {P : IV → Sto → Prop}
@[simp] theorem wp_iMakeD {c : Str} {F : Fn} {np n m : Nat} {pl : List DSrc} {ds : List DC} {As Ks : IA} : (iMakeD c F np n m pl ds As Ks ρ st).wq P E .mk = (As ρ st).wp (fun args st1 => (Ks ρ st1).wp (fun zs st2 => if args.length = n ∧ zs.length = m then (arity np F (dpick pl (.ref st2.length :: args) (ds.map DC.iv) zs) (st2 ++ [.ins c []])).wp (fun v st' => v = .non ∧ P (.ref st2.length) st') E else False) E) E := by
  unfold iMakeD
  simp only [R.wq, wpb]
  congr 1; funext args st1
  congr 1; funext zs st2
  split
  · rw [wpb]
    congr 1; funext v st'
    cases v <;> simp [R.wp]
  · rfl
@[simp] theorem dpick_p {α : Type} {i : Nat} {pl : List DSrc} {vs ds zs : List α} : dpick (.p i :: pl) vs ds zs = match vs[i]? with | some x => x :: dpick pl vs ds zs | none => dpick pl vs ds zs := by
  unfold dpick
  cases e : vs[i]? with
  | none => rw [List.filterMap_cons_none (by exact e)]
  | some x => rw [List.filterMap_cons_some (by exact e)]
@[simp] theorem dpick_k {α : Type} {i : Nat} {pl : List DSrc} {vs ds zs : List α} : dpick (.k i :: pl) vs ds zs = match zs[i]? with | some x => x :: dpick pl vs ds zs | none => dpick pl vs ds zs := by
  unfold dpick
  cases e : zs[i]? with
  | none => rw [List.filterMap_cons_none (by exact e)]
  | some x => rw [List.filterMap_cons_some (by exact e)]
@[simp] theorem dpick_d {α : Type} {i : Nat} {pl : List DSrc} {vs ds zs : List α} : dpick (.d i :: pl) vs ds zs = match ds[i]? with | some x => x :: dpick pl vs ds zs | none => dpick pl vs ds zs := by
  unfold dpick
  cases e : ds[i]? with
  | none => rw [List.filterMap_cons_none (by exact e)]
  | some x => rw [List.filterMap_cons_some (by exact e)]
@[simp] theorem dpick_nil {α : Type} {vs ds zs : List α} : dpick [] vs ds zs = [] := rfl
@[simp] theorem dc_non : DC.iv .non = .non := rfl
theorem wp_own_bin {c : Str} {F : Fn} {x y : IV} {p q : Nat × Str × List (Str × IV)} (e : insAt st [c] x = some p) (e2 : insAt st [c] y = some q) (h : (F [x, y] st).wp P nE) : (gOwnBin c F x y st).wp P E := by
  unfold gOwnBin
  rw [e, e2]
  exact quiet_wp h
end Mi
set_option Elab.async false
set_option linter.all false
set_option maxRecDepth 100000
set_option maxHeartbeats 4000000
/-! the laws of split and strip -/
namespace Mi
open PySem PySem.Spec PyProof.Rows L2
theorem cps_app {a b : Str} : (a ++ b).cps.toList = a.cps.toList ++ b.cps.toList := by
  show (a.cps ++ b.cps).toList = _
  rw [Array.toList_append]
theorem cps_ext {a b : Str} (h : a.cps.toList = b.cps.toList) : a = b := by
  cases a; cases b
  congr 1
  exact Array.toList_inj.mp h
/-- texts put together with a sign between -/
def glue (c : Nat) : List Str → List Nat
  | [] => []
  | [x] => x.cps.toList
  | x :: y :: r => x.cps.toList ++ c :: glue c (y :: r)
theorem join_glue {c : Nat} : ∀ {ps : List Str}, (Str.join ⟨#[c]⟩ ps).cps.toList = glue c ps
  | [] => rfl
  | [x] => rfl
  | x :: y :: r => by
    show (x ++ ⟨#[c]⟩ ++ Str.join ⟨#[c]⟩ (y :: r)).cps.toList = _
    rw [cps_app, cps_app, join_glue]
    simp [glue]
theorem cut_first {c : Nat} : ∀ {a b r t : List Nat}, c ∉ a → c ∉ b → a ++ c :: r = b ++ c :: t → a = b ∧ r = t
  | [], [], r, t, _, _, e => ⟨rfl, by simpa using e⟩
  | [], y :: b, r, t, _, hb, e => by
    have : c = y := by simp at e; exact e.1
    exact absurd List.mem_cons_self (this ▸ hb)
  | x :: a, [], r, t, ha, _, e => by
    have : x = c := by simp at e; exact e.1
    exact absurd List.mem_cons_self (this ▸ ha)
  | x :: a, y :: b, r, t, ha, hb, e => by
    simp only [List.cons_append, List.cons.injEq] at e
    obtain ⟨h1, h2⟩ := cut_first (fun z => ha (List.mem_cons_of_mem _ z)) (fun z => hb (List.mem_cons_of_mem _ z)) e.2
    exact ⟨by rw [e.1, h1], h2⟩
theorem glue_inj {c : Nat} : ∀ {ps qs : List Str}, ps ≠ [] → qs ≠ [] → (∀ p ∈ ps, c ∉ p.cps.toList) → (∀ p ∈ qs, c ∉ p.cps.toList) → glue c ps = glue c qs → ps = qs
  | [], _, h, _, _, _, _ => absurd rfl h
  | _ :: _, [], _, h, _, _, _ => absurd rfl h
  | [p], [q], _, _, _, _, e => by rw [cps_ext (show p.cps.toList = q.cps.toList from e)]
  | [p], q :: q2 :: r, _, _, hp, _, e => by
    have : c ∈ p.cps.toList := by rw [show p.cps.toList = _ from e]; simp [glue]
    exact absurd this (hp p List.mem_cons_self)
  | p :: p2 :: r, [q], _, _, _, hq, e => by
    have : c ∈ q.cps.toList := by rw [show q.cps.toList = _ from e.symm]; simp [glue]
    exact absurd this (hq q List.mem_cons_self)
  | p :: p2 :: r, q :: q2 :: t, _, _, hp, hq, e => by
    obtain ⟨e1, e2⟩ := cut_first (hp p List.mem_cons_self) (hq q List.mem_cons_self) (show p.cps.toList ++ c :: glue c (p2 :: r) = q.cps.toList ++ c :: glue c (q2 :: t) from e)
    have ih := glue_inj (by simp) (by simp) (fun x hx => hp x (List.mem_cons_of_mem _ hx)) (fun x hx => hq x (List.mem_cons_of_mem _ hx)) e2
    rw [cps_ext e1, ih]
/-- a text of pieces without the sign falls into them -/
theorem split_glue {c : Nat} {x : Str} {ps : List Str} (h0 : ps ≠ []) (hx : x.cps.toList ≠ []) (hf : ∀ p ∈ ps, c ∉ p.cps.toList) (e : x.cps.toList = glue c ps) : Txt.split x ⟨#[c]⟩ = ps := by
  have j := StrLaws.join_split x ⟨#[c]⟩
  have ne : Txt.split x ⟨#[c]⟩ ≠ [] := fun z => by
    rw [z] at j
    exact hx (by rw [← j]; rfl)
  refine glue_inj ne h0 (StrLaws.split_free x c) hf ?_
  rw [← join_glue, j, e]
theorem sp32 : Unicode.isSpace 32 = true := by decide +kernel
theorem takeWhile_stop {p : Nat → Bool} : ∀ {a : Nat} {l : List Nat}, p 32 = true → (∀ c r, l = c :: r → p c = false) → (List.replicate a 32 ++ l).takeWhile p = List.replicate a 32
  | 0, [], _, _ => rfl
  | 0, c :: r, _, h => by simp [h c r rfl]
  | a + 1, l, hp, h => by
    rw [List.replicate_succ, List.cons_append, List.takeWhile_cons, if_pos hp, takeWhile_stop hp h]
/-- blanks around a text that begins and ends with none -/
theorem strip_blanks {a b : Nat} {s p : Str} (hs : s.cps.toList = List.replicate a 32 ++ p.cps.toList ++ List.replicate b 32) (h0 : p.cps.toList ≠ []) (h1 : ∀ c r, p.cps.toList = c :: r → Unicode.isSpace c = false) (h2 : ∀ c r, p.cps.toList = r ++ [c] → Unicode.isSpace c = false) : Txt.strip s = p := by
  have lo : stripLo Unicode.isSpace true s = a := by
    unfold stripLo
    rw [if_pos rfl, hs, List.append_assoc, takeWhile_stop sp32, List.length_replicate]
    intro c r e
    cases q : p.cps.toList with
    | nil => exact absurd q h0
    | cons d t =>
      rw [q] at e
      injection e with e1 e2
      rw [← e1]; exact h1 d t q
  have hl : s.length = a + p.cps.toList.length + b := by
    have := congrArg List.length hs
    simp only [List.length_append, List.length_replicate, Array.length_toList] at this
    exact this
  have hi : stripHi Unicode.isSpace true s a = a + p.cps.toList.length := by
    unfold stripHi
    rw [if_pos rfl, hs, List.append_assoc, List.drop_left' (by simp), List.reverse_append, List.reverse_replicate, takeWhile_stop sp32, List.length_replicate, hl]
    · omega
    · intro c r e
      have : p.cps.toList = r.reverse ++ [c] := by
        have := congrArg List.reverse e
        simpa using this
      exact h2 c _ this
  have sub : Builtin.Str.strSub s a (a + p.cps.toList.length) = p := by
    apply cps_ext
    show (s.cps.extract a (a + p.cps.toList.length)).toList = _
    rw [Array.toList_extract, hs]
    simp [List.extract_eq_drop_take, List.append_assoc]
  unfold Txt.strip Txt.stripBy
  split
  · rename_i c
    unfold stripSame at c
    simp only [lo, hi, Bool.and_eq_true, beq_iff_eq] at c
    obtain ⟨c1, c2⟩ := c
    apply cps_ext
    have b0 : b = 0 := by omega
    rw [hs, c1, b0]; simp
  · unfold stripped
    rw [lo, hi, sub]
end Mi
set_option Elab.async false
set_option linter.all false
set_option maxRecDepth 100000
set_option maxHeartbeats 4000000
namespace Mi
open PySem PySem.Spec PyProof.Rows L2
section
variable {ρ : Slots} {st : Sto} {D : Post}
theorem hEndX_wp {i l : Nat} {r : RS} : (hEndX i l r).wp D = r.wp ⟨fun ρ st => D.nx (noExn (ρ.set i none)) (st.set l .dead), fun v st => D.rt v (st.set l .dead), fun ρ st => D.bk (noExn (ρ.set i none)) (st.set l .dead), fun ρ st => D.ct (noExn (ρ.set i none)) (st.set l .dead), fun c fs ρ st => D.ex c fs (noExn (ρ.set i none)) (st.set l .dead)⟩ := by
  cases r <;> rfl
@[simp] theorem wps_iTryAsX {i : Nat} {M : Str → Option Bool} {B J : IS} : (iTryAsX i M B J ρ st).wq D .mk = (B ρ st).wp { D with ex := fun c fs ρ1 st1 => match M c with
  | some true => (fs.isEmpty = false ∧ i < ρ1.length) ∧ (J ((noExn ρ1).set i (some (.exn st1.length))) (st1 ++ [.xd fs])).wp ⟨fun ρ st => D.nx (noExn (ρ.set i none)) (st.set st1.length .dead), fun v st => D.rt v (st.set st1.length .dead), fun ρ st => D.bk (noExn (ρ.set i none)) (st.set st1.length .dead), fun ρ st => D.ct (noExn (ρ.set i none)) (st.set st1.length .dead), fun c fs ρ st => D.ex c fs (noExn (ρ.set i none)) (st.set st1.length .dead)⟩
  | some false => D.ex c fs ρ1 st1
  | none => False } := by
  unfold iTryAsX RS.wq
  cases B ρ st with
  | exc c fs ρ1 st1 =>
    simp only
    show RS.wp _ _ = (match M c with | some true => _ | some false => _ | none => _ : Prop)
    cases M c with
    | none => rfl
    | some b =>
      cases b with
      | false => rfl
      | true =>
        simp only
        by_cases h : fs.isEmpty = true ∨ ¬ i < ρ1.length
        · rw [if_pos h]
          rcases h with h | h
          · simp [h, RS.wp]
          · simp [h, RS.wp]
        · rw [if_neg h, hEndX_wp]
          have h1 : fs.isEmpty = false := by cases q : fs.isEmpty with | false => rfl | true => exact absurd (.inl q) h
          have h2 : i < ρ1.length := Classical.byContradiction fun z => h (.inr z)
          simp [h1, h2]
  | _ => rfl
end
end Mi
set_option Elab.async false
set_option linter.all false
set_option maxRecDepth 100000
set_option maxHeartbeats 4000000
namespace Mi
open PySem PySem.Spec PyProof.Rows L2
@[simp] theorem wp_iDc {I : IIt} {vs : List Nat} {T : ITg} {S : IT} {A B : IE} {ρ : Slots} {st : Sto} {P : IV → Sto → Prop} {E : Str → List (Str × IV) → Sto → Prop} : (iDc I vs T S A B ρ st).wq P E .mk = (I ρ st).wp (fun p st => (dcL p.2 p.1 vs T S A B ρ p.1 [] st).wp (fun kvs st => P (.ref st.length) (st ++ [.dct kvs])) E) E := by
  unfold iDc; simp only [R.wq, wpb, wpo]
theorem wp_dcL' {g : GI} {all : List IV} {vs : List Nat} {T : ITg} {S : IT} {A B : IE} {ρ : Slots} {P : List (List Key × IV) → Sto → Prop} {E : Str → List (Str × IV) → Sto → Prop} (Inv : Nat → List (List Key × IV) → Sto → Prop) : ∀ {xs : List IV} {n : Nat} {acc : List (List Key × IV)} {st : Sto}, Inv n acc st →
    (∀ i x acc st, xs[i]? = some x → Inv (n + i) acc st → gokB g st all = true ∧ acc.length < 100000 ∧ (T x (wipeI ρ vs) st).wp ⟨fun ρ1 st1 => (S ρ1 st1).wp (fun b st2 => if b = true then (A ρ1 st2).wp (fun y st3 => (B ρ1 st3).wp (fun z st4 => ∃ k, keyI y = some k ∧ Inv (n + i + 1) (dputI acc k z) st4) nE) nE else Inv (n + i + 1) acc st2) nE, fun _ _ => False, fun _ _ => False, fun _ _ => False, fun _ _ _ _ => False⟩) →
    (∀ acc st, Inv (n + xs.length) acc st → gokB g st all = true ∧ P acc st) → (dcL g all vs T S A B ρ xs acc st).wp P E
  | [], n, acc, st, h0, _, done => by
    obtain ⟨e, h⟩ := done acc st h0
    simp only [dcL, e, if_true]
    exact h
  | x :: r, n, acc, st, h0, step, done => by
    obtain ⟨e, e2, h⟩ := step 0 x acc st rfl h0
    simp only [dcL, e, e2, and_self, if_true]
    have next : ∀ acc2 st2, Inv (n + 1) acc2 st2 → (dcL g all vs T S A B ρ r acc2 st2).wp P E := fun acc2 st2 hi =>
      wp_dcL' Inv (n := n + 1) hi (fun i x acc st e hi => by
        have := step (i + 1) x acc st (by simpa using e) (by rw [show n + (i + 1) = n + 1 + i by omega]; exact hi)
        rw [show n + (i + 1) = n + 1 + i by omega] at this
        exact this) (fun acc st hi => done acc st (by rw [List.length_cons, show n + (r.length + 1) = n + 1 + r.length by omega]; exact hi))
    cases q : T x (wipeI ρ vs) st with
    | nx ρ1 st1 =>
      rw [q] at h
      obtain ⟨b, st2, e3, h2⟩ := eq_of_wp h
      simp only [e3, R.noE, R.bind]
      cases b with
      | false => simp only [Bool.false_eq_true, if_false] at h2 ⊢; exact next _ _ h2
      | true =>
        simp only [if_true] at h2 ⊢
        obtain ⟨y, st3, e4, h3⟩ := eq_of_wp h2
        obtain ⟨z, st4, e5, k, hk, h4⟩ := eq_of_wp h3
        simp only [e4, e5, hk]
        exact next _ _ h4
    | _ => rw [q] at h; exact h.elim
theorem wp_dcL {g : GI} {all : List IV} {vs : List Nat} {T : ITg} {S : IT} {A B : IE} {ρ : Slots} {st : Sto} {xs : List IV} {P : List (List Key × IV) → Sto → Prop} {E : Str → List (Str × IV) → Sto → Prop} (Inv : Nat → List (List Key × IV) → Sto → Prop) (h0 : Inv 0 [] st)
    (step : ∀ i x acc st, xs[i]? = some x → Inv i acc st → gokB g st all = true ∧ acc.length < 100000 ∧ (T x (wipeI ρ vs) st).wp ⟨fun ρ1 st1 => (S ρ1 st1).wp (fun b st2 => if b = true then (A ρ1 st2).wp (fun y st3 => (B ρ1 st3).wp (fun z st4 => ∃ k, keyI y = some k ∧ Inv (i + 1) (dputI acc k z) st4) nE) nE else Inv (i + 1) acc st2) nE, fun _ _ => False, fun _ _ => False, fun _ _ => False, fun _ _ _ _ => False⟩)
    (done : ∀ acc st, Inv xs.length acc st → gokB g st all = true ∧ P acc st) : (dcL g all vs T S A B ρ xs [] st).wp P E :=
  wp_dcL' Inv (n := 0) h0 (fun i x acc st e h => by rw [Nat.zero_add] at h ⊢; exact step i x acc st e h) (fun acc st h => done acc st (by rw [Nat.zero_add] at h; exact h))
@[simp] theorem en_enumT {st : Sto} {xs : List IV} : gEnumT [.tup xs] st = .ok (enumI 0 xs, none) st := nr rfl
theorem int_str {st : Sto} {x : Str} {n : Int} (h : PySem.intText? x = some n) (hl : x.length ≤ 640) : gIntS [.str x] st = .ok (.int n) st := by
  simp only [gIntS, h, hl, if_true]
end Mi
set_option Elab.async false
set_option linter.all false
set_option maxRecDepth 100000
set_option maxHeartbeats 4000000
namespace Mi
open PySem PySem.Spec PyProof.Rows L2
section
variable {ρ : Slots} {st : Sto} {P : IV → Sto → Prop} {E : Str → List (Str × IV) → Sto → Prop}
def gFz : IV → Sto → R IV := fun x st => match x with
  | .ref l => match st[l]? with
    | some (.lst xs) => .ok (.lst xs) (st.set l .dead)
    | _ => .bad
  | _ => .bad
@[simp] theorem wp_iFz {A : IE} : (iFz A ρ st).wq P E .mk = (A ρ st).wp (fun x st => (gFz x st).wp P E) E := by
  unfold iFz; simp only [R.wq, wpb]; rfl
theorem fz_ref {l : Nat} {xs : List IV} (h : st[l]? = some (.lst xs)) : gFz (.ref l) st = .ok (.lst xs) (st.set l .dead) := by
  simp only [gFz, h]
@[simp] theorem wp_iCallO {c : Str} {F : Fn} {A : IE} {As : IA} : (iCallO c F A As ρ st).wq P E .mk = (A ρ st).wp (fun x st => match insAt st [c] x with
  | some _ => (As ρ st).wp (fun args st => match insAt st [c] x with
    | some _ => (F (x :: args) st).wp P E
    | none => False) E
  | none => False) E := by
  unfold iCallO
  simp only [R.wq, wpb]
  congr 1
  funext x st
  cases insAt st [c] x with
  | none => rfl
  | some z =>
    simp only [wpb]
    congr 1
    funext args st
    cases insAt st [c] x <;> rfl
theorem dct_ref {l : Nat} {kvs : List (List Key × IV)} (h : st[l]? = some (.dct kvs)) : dctAt st (.ref l) = some kvs := by simp [dctAt, h]
theorem ixT_ref {l : Nat} {kvs : List (List Key × IV)} {y z : IV} {k : List Key} (h : st[l]? = some (.dct kvs)) (hk : keyI y = some k) (hz : getI kvs k = some z) : gIxT (.ref l) y st = .ok z st := by
  simp only [gIxT, dct_ref h, hk, hz]
theorem eqT_ref {l l' : Nat} {ka kb : List (List Key × IV)} {r : Bool} (h : st[l]? = some (.dct ka)) (h' : st[l']? = some (.dct kb)) (hl : ka.length = kb.length) (hr : hitsI st kb ka = some r) : gEqT (.ref l) (.ref l') st = .ok (.bl r) st := by
  simp only [gEqT, dct_ref h, dct_ref h', hl, if_true, hr]
theorem getI_put {kvs : List (List Key × IV)} {k j : List Key} {y : IV} : getI (dputI kvs k y) j = if j = k then some y else getI kvs j := by
  have mp : ∀ kvs : List (List Key × IV), getI (kvs.map fun p => if p.1 = k then (p.1, y) else p) j = if j = k then (if (kvs.find? fun p => decide (p.1 = k)).isSome then some y else none) else getI kvs j := by
    intro kvs
    induction kvs with
    | nil => by_cases c : j = k <;> simp [getI, c]
    | cons p r ih =>
      unfold getI at ih ⊢
      rw [List.map_cons, List.find?_cons, List.find?_cons, List.find?_cons]
      by_cases c1 : p.1 = k
      · by_cases c2 : j = k
        · simp [c1, c2]
        · have c3 : ¬ k = j := fun z => c2 z.symm
          simp only [c1, if_true, c3, decide_false, c2, if_false] at ih ⊢
          exact ih
      · by_cases c2 : j = k
        · subst c2
          simp only [c1, if_false, decide_false] at ih ⊢
          exact ih
        · by_cases c3 : p.1 = j
          · simp [c1, c2, c3]
          · simp only [c1, if_false, c3, decide_false, c2] at ih ⊢
            exact ih
  have ap : ∀ (kvs : List (List Key × IV)) , (kvs.find? fun p => decide (p.1 = k)).isSome = false → getI (kvs ++ [(k, y)]) j = if j = k then some y else getI kvs j := by
    intro kvs h
    induction kvs with
    | nil =>
      unfold getI
      by_cases c : k = j
      · simp [c]
      · have : ¬ j = k := fun z => c z.symm
        simp [c, this]
    | cons p r ih =>
      rw [List.find?_cons] at h
      by_cases c1 : p.1 = k
      · simp [c1] at h
      · simp only [c1, decide_false] at h
        have ih := ih h
        unfold getI at ih ⊢
        rw [List.cons_append, List.find?_cons, List.find?_cons]
        by_cases c3 : p.1 = j
        · have : ¬ j = k := fun z => c1 (c3.trans z)
          simp [c3, this]
        · simp only [c3, decide_false]
          exact ih
  unfold dputI
  cases q : (kvs.find? fun p => decide (p.1 = k)).isSome with
  | true =>
    rw [if_pos rfl, mp, q]; rfl
  | false =>
    rw [if_neg (by simp)]
    exact ap kvs q
end
end Mi
set_option Elab.async false
set_option linter.all false
set_option maxRecDepth 100000
set_option maxHeartbeats 4000000
namespace Mi
open PySem PySem.Spec PyProof.Rows L2
section
variable {ρ : Slots} {st : Sto} {D : Post} {P : IV → Sto → Prop} {E : Str → List (Str × IV) → Sto → Prop}
theorem wp_match {A : IE} {cs : List (Str × IS)} (h : (A ρ st).wp (fun x st => ∃ z, x = .str z ∧ (pickM z cs ρ st).wp D) (fun c fs st => D.ex c fs ρ st)) : (iMatch A cs ρ st).wp D := by
  unfold iMatch
  cases q : A ρ st with
  | ok x st1 =>
    rw [q] at h
    obtain ⟨z, e, h⟩ := h
    subst e
    exact h
  | exc c fs st1 => rw [q] at h; exact h
  | bad => rw [q] at h; exact h
theorem pick_yes {z : Str} {I : IS} {r : List (Str × IS)} : pickM z ((z, I) :: r) = I := by rw [pickM, if_pos rfl]
theorem pick_no {z x : Str} {I : IS} {r : List (Str × IS)} (h : ¬ z = x) : pickM z ((x, I) :: r) = pickM z r := by rw [pickM, if_neg h]
@[simp] theorem wp_iTru {A : IE} {P : Bool → Sto → Prop} : (iTru A ρ st).wq P E .mk = (A ρ st).wp (fun x st => match truI st x with | some b => P b st | none => False) E := by
  unfold iTru
  simp only [R.wq, wpb]
  congr 1
  funext x st
  cases truI st x <;> rfl
theorem tru_ref {l : Nat} {xs : List IV} (h : st[l]? = some (.lst xs)) : truI st (.ref l) = some (!xs.isEmpty) := by
  simp only [truI, asS_ref h, Option.map_some]
@[simp] theorem wp_iDisp {ps : List (Str × IE)} : (iDisp ps ρ st).wq P E .mk = (evP ps ρ (st ++ [.dic []])).wp (fun kvs st1 => match st1[st.length]? with
  | some (.dic []) => P (.ref st.length) (st1.set st.length (.dic kvs))
  | _ => False) E := by
  unfold iDisp
  simp only [R.wq, wpb]
  congr 1
  funext kvs st1
  split <;> simp_all
@[simp] theorem wp_evP0 {P : List (Key × IV) → Sto → Prop} : (evP [] ρ st).wq P E .mk = P [] st := nr rfl
@[simp] theorem wp_evP1 {k : Str} {A : IE} {r : List (Str × IE)} {P : List (Key × IV) → Sto → Prop} : (evP ((k, A) :: r) ρ st).wq P E .mk = (A ρ st).wp (fun x st => (evP r ρ st).wp (fun xs st => P ((.inr k, x) :: xs) st) E) E := by
  rw [evP]; simp only [R.wq, wpb, wpo]
theorem ixK_ref {l : Nat} {kvs : List (Key × IV)} {y z : IV} {k : Key} (h : st[l]? = some (.dic kvs)) (hk : keyK y = some k) (hz : valI kvs k = some z) : gIxK (.ref l) y st = .ok z st := by
  simp only [gIxK, dicAt, h, hk, hz]
end
/-- a list comprehension that may leave things behind -/
theorem wp_lcI' {g : GI} {all : List IV} {vs : List Nat} {T : ITg} {S : IT} {A : IE} {ρ : Slots} {P : List IV → Sto → Prop} {E : Str → List (Str × IV) → Sto → Prop} (Inv : Nat → List IV → Sto → Prop) : ∀ {xs : List IV} {n m : Nat} {acc : List IV} {st : Sto}, Inv n acc st →
    (∀ i x acc st, xs[i]? = some x → Inv (n + i) acc st → gokB g st all = true ∧ acc.length < 100000 ∧ (T x (wipeI ρ vs) st).wp ⟨fun ρ1 st1 => (S ρ1 st1).wp (fun b st2 => if b = true then (A ρ1 st2).wp (fun y st3 => Inv (n + i + 1) (acc ++ [y]) st3) nE else Inv (n + i + 1) acc st2) nE, fun _ _ => False, fun _ _ => False, fun _ _ => False, fun _ _ _ _ => False⟩) →
    (∀ acc st, Inv (n + xs.length) acc st → gokB g st all = true ∧ P acc st) → (lcL g all vs T S A ρ xs m acc st).wp P E
  | [], n, m, acc, st, h0, _, done => by
    obtain ⟨e, h⟩ := done acc st h0
    simp only [lcL, e, if_true]
    exact h
  | x :: r, n, m, acc, st, h0, step, done => by
    obtain ⟨e, e2, h⟩ := step 0 x acc st rfl h0
    simp only [lcL, e, e2, and_self, if_true]
    have next : ∀ acc2 st2, Inv (n + 1) acc2 st2 → (lcL g all vs T S A ρ r (m + 1) acc2 st2).wp P E := fun acc2 st2 hi =>
      wp_lcI' Inv (n := n + 1) hi (fun i x acc st e hi => by
        have := step (i + 1) x acc st (by simpa using e) (by rw [show n + (i + 1) = n + 1 + i by omega]; exact hi)
        rw [show n + (i + 1) = n + 1 + i by omega] at this
        exact this) (fun acc st hi => done acc st (by rw [List.length_cons, show n + (r.length + 1) = n + 1 + r.length by omega]; exact hi))
    cases q : T x (wipeI ρ vs) st with
    | nx ρ1 st1 =>
      rw [q] at h
      obtain ⟨b, st2, e3, h2⟩ := eq_of_wp h
      simp only [e3, R.noE, R.bind]
      cases b with
      | false => simp only [Bool.false_eq_true, if_false] at h2 ⊢; exact next _ _ h2
      | true =>
        simp only [if_true] at h2 ⊢
        obtain ⟨y, st3, e4, h3⟩ := eq_of_wp h2
        simp only [e4]
        exact next _ _ h3
    | _ => rw [q] at h; exact h.elim
theorem wp_lcI {g : GI} {all : List IV} {vs : List Nat} {T : ITg} {S : IT} {A : IE} {ρ : Slots} {st : Sto} {xs : List IV} {m : Nat} {P : List IV → Sto → Prop} {E : Str → List (Str × IV) → Sto → Prop} (Inv : Nat → List IV → Sto → Prop) (h0 : Inv 0 [] st)
    (step : ∀ i x acc st, xs[i]? = some x → Inv i acc st → gokB g st all = true ∧ acc.length < 100000 ∧ (T x (wipeI ρ vs) st).wp ⟨fun ρ1 st1 => (S ρ1 st1).wp (fun b st2 => if b = true then (A ρ1 st2).wp (fun y st3 => Inv (i + 1) (acc ++ [y]) st3) nE else Inv (i + 1) acc st2) nE, fun _ _ => False, fun _ _ => False, fun _ _ => False, fun _ _ _ _ => False⟩)
    (done : ∀ acc st, Inv xs.length acc st → gokB g st all = true ∧ P acc st) : (lcL g all vs T S A ρ xs m [] st).wp P E :=
  wp_lcI' Inv (n := 0) h0 (fun i x acc st e h => by rw [Nat.zero_add] at h ⊢; exact step i x acc st e h) (fun acc st h => done acc st (by rw [Nat.zero_add] at h; exact h))
end Mi
set_option Elab.async false
set_option linter.all false
set_option maxRecDepth 100000
set_option maxHeartbeats 4000000
namespace Mi
open PySem PySem.Spec PyProof.Rows L2
section
variable {ρ : Slots} {st : Sto} {P : IV → Sto → Prop} {E : Str → List (Str × IV) → Sto → Prop}
def gOwnInv (c : Str) (F : Fn) (x : IV) (st : Sto) : R IV := match insAt st [c] x with
  | some _ => quiet (F [x] st)
  | none => .bad
@[simp] theorem wp_iOwnInv {c : Str} {F : Fn} {A : IE} : (iOwnInv c F A ρ st).wq P E .mk = (A ρ st).wp (fun x st => (gOwnInv c F x st).wp P E) E := by
  unfold iOwnInv
  simp only [R.wq, wpb]
  rfl
theorem wp_own_inv {c : Str} {F : Fn} {x : IV} {p : Nat × Str × List (Str × IV)} (e : insAt st [c] x = some p) (h : (F [x] st).wp P nE) : (gOwnInv c F x st).wp P E := by
  unfold gOwnInv
  rw [e]
  exact quiet_wp h
end
end Mi
set_option Elab.async false
set_option linter.all false
set_option maxRecDepth 100000
set_option maxHeartbeats 4000000
/-! what {None: v}, k in d, d[k] with None or tuples as keys, and quiet calls give -/
namespace Mi
open PySem PySem.Spec PyProof.Rows L2
section
variable {ρ : Slots} {st : Sto} {P : IV → Sto → Prop} {E : Str → List (Str × IV) → Sto → Prop}
@[simp] theorem wp_iDispN {A : IE} : (iDispN A ρ st).wq P E .mk = (A ρ (st ++ [.dic []])).wp (fun y st1 => match st1[st.length]? with
  | some (.dic []) => P (.ref st.length) (st1.set st.length (.nod y))
  | _ => False) E := by
  unfold iDispN
  simp only [R.wq, wpb]
  congr 1
  funext kvs st1
  split <;> simp_all
theorem wp_qF {F : Fn} {xs : List IV} (h : (F xs st).wp P nE) : (qF F xs st).wp P E := quiet_wp h
theorem lk_nod {l : Nat} {z : IV} (h : st[l]? = some (.nod z)) : lkI st (.ref l) .non = some (some z) := by simp only [lkI, h]
theorem lk_nodT {l : Nat} {z : IV} {ns : List Int} (h : st[l]? = some (.nod z)) : lkI st (.ref l) (.tup (ns.map .int)) = some none := by
  simp only [lkI, h, keyI_ints, Option.map_some]
theorem lk_dct {l : Nat} {kvs : List (List Key × IV)} (h : st[l]? = some (.dct kvs)) : lkI st (.ref l) .non = some none := by simp only [lkI, h]
theorem lk_dctT {l : Nat} {kvs : List (List Key × IV)} {ns : List Int} (h : st[l]? = some (.dct kvs)) : lkI st (.ref l) (.tup (ns.map .int)) = some (getI kvs (ns.map .inl)) := by
  simp only [lkI, h, keyI_ints, Option.map_some]
theorem inR_of {x y : IV} {r : Option IV} {neg : Bool} (h : lkI st x y = some r) : gInR neg y x st = .ok (.bl (if neg then !r.isSome else r.isSome)) st := by simp only [gInR, h]
theorem ixR_of {x y z : IV} (h : lkI st x y = some (some z)) : gIxR x y st = .ok z st := by simp only [gIxR, h]
end
end Mi
set_option Elab.async false
set_option linter.all false
set_option maxRecDepth 100000
set_option maxHeartbeats 4000000
/-! dicts whose keys are ints and texts, that change -/
namespace Mi
open PySem PySem.Spec PyProof.Rows L2
def putD (kvs : List (Key × IV)) (k : Key) (x : IV) : List (Key × IV) :=
  if (kvs.any fun p => decide (p.1 = k)) = true then kvs.map (fun p => if p.1 = k then (p.1, x) else p) else kvs ++ [(k, x)]
def dropD (kvs : List (Key × IV)) (k : Key) : List (Key × IV) := kvs.filter fun p => decide (p.1 ≠ k)
section
variable {G : Gd} {m bs : List Addr} {st : Sto} {H : Hp}
theorem RKs.len : ∀ {kvs : List (Key × IV)} {ws : List (Key × V)}, RKs G m bs st H kvs ws → kvs.length = ws.length
  | [], ws, h => by have h : ws = [] := h; rw [h]; rfl
  | (f, x) :: r, ws, h => by
    obtain ⟨v, t, ew, h1, h2⟩ := h
    subst ew
    rw [List.length_cons, List.length_cons, RKs.len h2]
theorem RKs.keys' : ∀ {kvs : List (Key × IV)} {ws : List (Key × V)}, RKs G m bs st H kvs ws → kvs.map (·.1) = ws.map (·.1)
  | [], ws, h => by have h : ws = [] := h; rw [h]; rfl
  | (f, x) :: r, ws, h => by
    obtain ⟨v, t, ew, h1, h2⟩ := h
    subst ew
    rw [List.map_cons, List.map_cons, RKs.keys' h2]
theorem RKs.noval {k : Key} : ∀ {kvs : List (Key × IV)} {ws : List (Key × V)}, RKs G m bs st H kvs ws → valI kvs k = none → valV ws k = none
  | [], ws, h, _ => by have h : ws = [] := h; rw [h]; rfl
  | (f, x) :: r, ws, h, e => by
    obtain ⟨v, t, ew, h1, h2⟩ := h
    subst ew
    unfold valI at e
    rw [List.find?_cons] at e
    by_cases c : f = k
    · simp [c] at e
    · simp only [c, decide_false] at e
      rw [valV_neg c]
      exact RKs.noval h2 e
theorem RKs.isSome {k : Key} {kvs : List (Key × IV)} {ws : List (Key × V)} (h : RKs G m bs st H kvs ws) : (valV ws k).isSome = (valI kvs k).isSome := by
  cases e : valI kvs k with
  | none => rw [h.noval e]; rfl
  | some z =>
    obtain ⟨v, e1, _⟩ := h.val e
    rw [e1]; rfl
theorem RKs.app : ∀ {a b : List (Key × IV)} {as' bs' : List (Key × V)}, RKs G m bs st H a as' → RKs G m bs st H b bs' → RKs G m bs st H (a ++ b) (as' ++ bs')
  | [], b, as', bs', h, hb => by have h : as' = [] := h; rw [h]; exact hb
  | (f, x) :: r, b, as', bs', h, hb => by
    obtain ⟨v, t, ew, h1, h2⟩ := h
    subst ew
    exact ⟨v, t ++ bs', rfl, h1, RKs.app h2 hb⟩
theorem RKs.anyK {k : Key} {kvs : List (Key × IV)} {ws : List (Key × V)} (h : RKs G m bs st H kvs ws) : (kvs.any fun p => decide (p.1 = k)) = (ws.any fun p => decide (p.1 = k)) := by
  have e : ∀ {α : Type} (l : List (Key × α)), (l.any fun p => decide (p.1 = k)) = ((l.map (·.1)).any fun q => decide (q = k)) := fun l => by
    rw [List.any_map]; rfl
  rw [e, e, h.keys']
theorem RKs.mapk {k : Key} {x : IV} {v : V} (rx : RV G m bs st H x v) : ∀ {kvs : List (Key × IV)} {ws : List (Key × V)}, RKs G m bs st H kvs ws → RKs G m bs st H (kvs.map fun p => if p.1 = k then (p.1, x) else p) (ws.map fun p => if p.1 = k then (p.1, v) else p)
  | [], ws, h => by have h : ws = [] := h; rw [h]; rfl
  | (f, y) :: r, ws, h => by
    obtain ⟨u, t, ew, h1, h2⟩ := h
    subst ew
    rw [List.map_cons, List.map_cons]
    have ih := RKs.mapk (k := k) rx h2
    by_cases c : f = k
    · simp only [c, if_true]; exact ⟨v, _, rfl, rx, ih⟩
    · simp only [c, if_false]; exact ⟨u, _, rfl, h1, ih⟩
theorem RKs.put {k : Key} {x : IV} {v : V} {kvs : List (Key × IV)} {ws : List (Key × V)} (h : RKs G m bs st H kvs ws) (rx : RV G m bs st H x v) : RKs G m bs st H (putD kvs k x) (putK ws k v) := by
  unfold putD putK
  rw [h.anyK]
  split
  · exact h.mapk rx
  · exact h.app ⟨v, [], rfl, rx, rfl⟩
theorem RKs.drop {k : Key} : ∀ {kvs : List (Key × IV)} {ws : List (Key × V)}, RKs G m bs st H kvs ws → RKs G m bs st H (dropD kvs k) (dropK ws k)
  | [], ws, h => by have h : ws = [] := h; rw [h]; rfl
  | (f, y) :: r, ws, h => by
    obtain ⟨u, t, ew, h1, h2⟩ := h
    subst ew
    have ih := RKs.drop (k := k) h2
    unfold dropD dropK at ih ⊢
    rw [List.filter_cons, List.filter_cons]
    by_cases c : f = k
    · simp only [c, ne_eq, not_true_eq_false, decide_false]; exact ih
    · simp only [c, ne_eq, not_false_eq_true, decide_true, if_true]; exact ⟨u, _, rfl, h1, ih⟩
theorem RKs.ks : ∀ {kvs : List (Key × IV)} {ws : List (Key × V)}, RKs G m bs st H kvs ws → RVs G m bs st H (kvs.map fun p => kI p.1) (ws.map fun p => kV p.1)
  | [], ws, h => by have h : ws = [] := h; rw [h]; simp only [List.map_nil, RVs]
  | (f, y) :: r, ws, h => by
    obtain ⟨u, t, ew, h1, h2⟩ := h
    subst ew
    simp only [List.map_cons, RVs]
    refine ⟨kV f, _, rfl, ?_, RKs.ks h2⟩
    cases f with
    | inl i => simp only [kI, RV]; rfl
    | inr z => simp only [kI, RV]; rfl
theorem dicObj {l : Nat} {v : V} {kvs : List (Key × IV)} (R : Rel G m bs st H) (r : RV G m bs st H (.ref l) v) (e : st[l]? = some (.dic kvs)) : ∃ p ws, v = .ref p ∧ m[l]? = some p ∧ H p = some (.dK ws) ∧ RKs G m bs st H kvs ws := by
  simp only [RV] at r
  obtain ⟨p, ev, hp⟩ := r
  obtain ⟨ws, e1, r1⟩ := R.obj _ _ p e hp
  exact ⟨p, ws, ev, hp, e1, r1⟩
theorem set_dic {l : Nat} {p : Addr} {xs ys : List (Key × IV)} {ws : List (Key × V)} (R : Rel G m bs st H) (hp : m[l]? = some p) (e : st[l]? = some (.dic xs)) (r : RKs G m bs st H ys ws) :
    GrowE m st H m (st.set l (.dic ys)) (upd H p (.dK ws)) ∧ Rel G m bs (st.set l (.dic ys)) (upd H p (.dK ws)) := by
  have g : GrowE m st H m (st.set l (.dic ys)) (upd H p (.dK ws)) := grow_set hp e (by simp)
  exact ⟨g, R.set hp e (by simp) ⟨ws, upd_same, RKs.fits g.fitsE _ _ r⟩⟩
end
/-! ### d[k] = v -/
def gSetDc : IV → IV → IV → Sto → Option Sto := fun o i x st => match o with
  | .ref l => match st[l]? with
    | some (.dic kvs) => match keyK i with
      | some k => if kvs.length < 100000 then some (st.set l (.dic (putD kvs k x))) else none
      | none => none
    | _ => none
  | _ => none
def tgSubD (A B : IE) : ITg := fun x ρ st => match A ρ st with
  | .ok o st1 => match B ρ st1 with
    | .ok i st2 => match gSetDc o i x st2 with
      | some st3 => .nx ρ st3
      | none => .bad
    | _ => .bad
  | _ => .bad
section
variable {X : Cx} {W : WX} {xa : Xa} {a b e o i : Expr} {A B : IE} {pos p apos tpos : Pos}
theorem mg_subD (hu : X.A.units + 1 < cLine) (ho : ME X (fun _ _ _ _ => False) xa o A) (hi : ME X (fun _ _ _ _ => False) xa i B)
    (ha : ∀ v, assign (.Subscript o i pos) X.env v = (do
      let ov ← holding [v] (eval o X.env)
      let iv ← holding [v, ov] (eval i X.env)
      standAt pos
      holding [v, ov, iv] (setItem ov iv v)
      release [v, ov, iv] []) := by intro _; rfl) : MG X xa (.Subscript o i pos) (tgSubD A B) := by
  refine PG.weak (pg_sub ho hi (set_dict hu) ha) fun v σ H Q h => ?_
  obtain ⟨m, os, rs, ρ, st, x, P, r, h⟩ := h
  refine ⟨m, os, rs, ρ, st, P, ?_⟩
  unfold tgSubD at h
  cases q1 : A ρ st with
  | ok o st1 =>
    simp only [q1] at h
    intro m1 H1 g1 R1 u1 ru1
    refine ⟨m1, os, rs, ρ, st1, P.grow g1 R1, ?_⟩
    cases q2 : B ρ st1 with
    | ok i st2 =>
      simp only [q2] at h
      intro m2 H2 g2 R2 u2 ru2
      cases q3 : gSetDc o i x st2 with
      | none => simp only [q3] at h; exact h.elim
      | some st3 =>
        simp only [q3] at h
        unfold gSetDc at q3
        split at q3
        · rename_i l
          split at q3
          · rename_i kvs hx
            split at q3
            · rename_i k ek
              split at q3
              · rename_i c
                cases q3
                have ey := keyK_eq ek ru2
                obtain ⟨p, ws, ep, hp2, hv, rk⟩ := dicObj R2 (RV.fits g2.fitsE _ _ ru1) hx
                have rx := RV.fits (g1.trans g2).fitsE _ _ r
                obtain ⟨g3, R3⟩ := set_dic R2 hp2 hx (rk.put (k := k) rx)
                refine ⟨p, _, ep, ?_, h m2 os _ σ (.ofE ((g1.trans g2).trans g3)) (((P.grow g1 R1).grow g2 R2).grow g3 R3)⟩
                rw [ey]
                exact DPut.k hv (by rw [← rk.len]; exact szlt c)
              · cases q3
            · cases q3
          · cases q3
        · cases q3
    | exc c fs st2 => simp only [q2] at h; exact h.elim
    | bad => simp only [q2] at h; exact h.elim
  | exc c fs st1 => simp only [q1] at h; exact h.elim
  | bad => simp only [q1] at h; exact h.elim
theorem tgok_subD {A B : IE} : TgOk (tgSubD A B) := fun x ρ st => by
  unfold tgSubD
  cases A ρ st with
  | ok o st1 =>
    cases q : B ρ st1 with
    | ok i st2 =>
      simp only [q]
      cases gSetDc o i x st2 <;> rfl
    | _ => simp only [q]; rfl
  | _ => rfl
/-! ### del d[k] -/
def gDelD : IV → IV → Sto → R IV := fun x y st => match x with
  | .ref l => match st[l]? with
    | some (.dic kvs) => match keyK y with
      | some k => if (valI kvs k).isSome = true then .ok .non (st.set l (.dic (dropD kvs k))) else .bad
      | none => .bad
    | _ => .bad
  | _ => .bad
def iDelD (A B : IE) : IS := fun ρ st => RS.ofR ((A ρ st).bind fun x st => (B ρ st).bind fun y st => gDelD x y st) ρ fun _ st => .nx ρ st
theorem ms_del (ha : ME X W xa o A) (hb : ME X W xa i B) : MS X W xa (.Delete [.Subscript o i tpos] pos) (iDelD A B) := by
  refine PS.weak (ps_ddel ha hb) fun D σ H h => ?_
  obtain ⟨m, os, rs, ρ, st, P, h⟩ := h
  unfold iDelD at h
  refine ⟨m, os, rs, ρ, st, P, (h.ofR P).bind.mono fun x m1 st1 H1 g1 R1 h1 x' rx => ⟨m1, os, rs, ρ, st1, P.grow g1 R1, h1.bind.mono fun y m2 st2 H2 g2 R2 h2 y' ry => ?_⟩⟩
  have rx := RV.fits g2.fitsE _ _ rx
  unfold gDelD at h2
  split at h2
  · rename_i l
    split at h2
    · rename_i kvs hx
      split at h2
      · rename_i k ek
        split at h2
        · rename_i c
          have ey := keyK_eq ek ry
          obtain ⟨p, ws, ep, hp2, hv, rk⟩ := dicObj R2 rx hx
          obtain ⟨g3, R3⟩ := set_dic R2 hp2 hx (rk.drop (k := k))
          refine ⟨p, ws, k, ep, hv, ey, by rw [rk.isSome]; exact c, ?_⟩
          exact (h2 m2 _ g3 R3).here (((P.grow g1 R1).grow g2 R2).grow g3 R3)
        · exact h2.elim
      · exact h2.elim
    · exact h2.elim
  · exact h2.elim
end
end Mi
set_option Elab.async false
set_option linter.all false
set_option maxRecDepth 100000
set_option maxHeartbeats 4000000
/-! dicts whose keys are ints and texts: in, get, pop, len, list, {} -/
namespace Mi
open PySem PySem.Spec PyProof.Rows L2
section
variable {X : Cx} {W : WX} {xa : Xa} {a b e o i : Expr} {A B : IE} {pos p apos cpos : Pos}
def rInK (neg : Bool) : R2 := fun y x H Q => ∃ a kvs k, x = .ref a ∧ Rd H a (.dK kvs) ∧ y = kV k ∧ Q (.bl (if neg then !(valV kvs k).isSome else (valV kvs k).isSome)) H
theorem op_inK (hu : X.A.units + 1 < cLine) : OpR X (compareOp .In) (rInK false) := by
  intro pins s σ H y x u v Q I ry rx h
  obtain ⟨a, kvs, k, rfl, ha, ey, q⟩ := h
  obtain rfl : v = Value.ref a := rx
  exact d_in hu I (by rw [ey]; exact .inl ⟨_, _, ha, rfl, rfl⟩) ry fun s3 I3 => ⟨.bl _, H, I3, rfl, q⟩
theorem op_notInK (hu : X.A.units + 1 < cLine) : OpR X (compareOp .NotIn) (rInK true) := by
  intro pins s σ H y x u v Q I ry rx h
  obtain ⟨a, kvs, k, rfl, ha, ey, q⟩ := h
  obtain rfl : v = Value.ref a := rx
  exact d_notIn hu I (by rw [ey]; exact .inl ⟨_, _, ha, rfl, rfl⟩) ry fun s3 I3 => ⟨.bl _, H, I3, rfl, q⟩
def gInK (neg : Bool) : IV → IV → Sto → R IV := fun y x st => match dicAt st x with
  | some kvs => match keyK y with
    | some k => .ok (.bl (if neg then !(valI kvs k).isSome else (valI kvs k).isSome)) st
    | none => .bad
  | none => .bad
theorem inK_weak {op : CmpOp} {neg : Bool} (ho : OpR X (compareOp op) (rInK neg)) : OpM X (compareOp op) (gInK neg) := by
  refine ⟨_, ho, fun m bs st H y x y' x' Q W R ry rx h => ?_⟩
  unfold gInK at h
  split at h
  · rename_i kvs e
    split at h
    · rename_i k ek
      obtain ⟨c, ws, rfl, hc, rk⟩ := dicAt_of R e rx
      exact ⟨c, ws, k, rfl, hc, keyK_eq ek ry, by rw [rk.isSome]; exact h.v R (by simp only [RV])⟩
    · exact h.elim
  · exact h.elim
theorem opm_inK (hu : X.A.units + 1 < cLine) : OpM X (compareOp .In) (gInK false) := inK_weak (op_inK hu)
theorem opm_notInK (hu : X.A.units + 1 < cLine) : OpM X (compareOp .NotIn) (gInK true) := inK_weak (op_notInK hu)
def isDic (st : Sto) (x : IV) : Bool := (dicAt st x).isSome
/-- d.get(k) -/
def iDGet (A B : IE) : IE := fun ρ st => (A ρ st).bind fun x st => if isDic st x = true then (B ρ st).bind fun y st => match dicAt st x with
  | some kvs => match keyK y with
    | some k => .ok ((valI kvs k).getD .non) st
    | none => .bad
  | none => .bad else .bad
theorem isDic_at {G : Gd} {m bs : List Addr} {st : Sto} {H : Hp} {x : IV} {v : V} (R : Rel G m bs st H) (e : isDic st x = true) (r : RV G m bs st H x v) : ∃ a, v = .ref a ∧ IsD H a := by
  unfold isDic at e
  cases q : dicAt st x with
  | none => rw [q] at e; cases e
  | some kvs =>
    obtain ⟨a, ws, ev, h, _⟩ := dicAt_of R q r
    exact ⟨a, ev, .inl ⟨ws, h⟩⟩
theorem me_dget (hu : X.A.units + 1 < cLine) (ha : ME X W xa o A) (hb : ME X W xa e B) (m1 : M1 X o "get" apos e cpos) : ME X W xa (.Call (.Attribute o "get" apos) [e] [] cpos) (iDGet A B) := by
  refine PE.weak (pe_dget1 hu ha hb m1) fun σ H Q h => ?_
  obtain ⟨m, os, rs, ρ, st, P, h⟩ := h
  refine ⟨m, os, rs, ρ, st, P, h.bind.mono fun x m1 st1 H1 g1 R1 h1 x' rx => ?_⟩
  split at h1
  · rename_i c
    obtain ⟨a, ea, isd⟩ := isDic_at R1 c rx
    refine ⟨a, ea, isd, m1, os, rs, ρ, st1, P.grow g1 R1, h1.bind.mono fun y m2 st2 H2 g2 R2 h2 y' ry => ?_⟩
    have rx := RV.fits g2.fitsE _ _ rx
    split at h2
    · rename_i kvs ek
      split at h2
      · rename_i k e2
        obtain ⟨c, ws, ec, hc, rk⟩ := dicAt_of R2 ek rx
        rw [ea] at ec
        cases ec
        have ey := keyK_eq e2 ry
        refine ⟨valV ws k, by rw [ey]; exact .inl ⟨_, _, hc, rfl, rfl⟩, ?_⟩
        cases q : valI kvs k with
        | none =>
          rw [rk.noval q]
          rw [q] at h2
          exact h2.v R2 (by simp only [Option.getD, RV])
        | some z =>
          obtain ⟨v, ev, rv⟩ := rk.val q
          rw [ev]
          rw [q] at h2
          exact h2.v R2 rv
      · exact h2.elim
    · exact h2.elim
  · exact h1.elim
/-- d.pop(k), k there -/
def gDPop (x y : IV) (st : Sto) : R IV := match x with
  | .ref l => match st[l]? with
    | some (.dic kvs) => match keyK y with
      | some k => match valI kvs k with
        | some z => .ok z (st.set l (.dic (dropD kvs k)))
        | none => .bad
      | none => .bad
    | _ => .bad
  | _ => .bad
def iDPop (A B : IE) : IE := fun ρ st => (A ρ st).bind fun x st => if isDic st x = true then (B ρ st).bind fun y st => gDPop x y st else .bad
theorem me_dpop (ha : ME X W xa o A) (hb : ME X W xa e B) (m1 : M1 X o "pop" apos e cpos) : ME X W xa (.Call (.Attribute o "pop" apos) [e] [] cpos) (iDPop A B) := by
  refine PE.weak (pe_dpop1 ha hb m1) fun σ H Q h => ?_
  obtain ⟨m, os, rs, ρ, st, P, h⟩ := h
  refine ⟨m, os, rs, ρ, st, P, h.bind.mono fun x m1 st1 H1 g1 R1 h1 x' rx => ?_⟩
  split at h1
  · rename_i c
    obtain ⟨a, ea, isd⟩ := isDic_at R1 c rx
    refine ⟨a, ea, isd, m1, os, rs, ρ, st1, P.grow g1 R1, h1.bind.mono fun y m2 st2 H2 g2 R2 h2 y' ry => ?_⟩
    have rx := RV.fits g2.fitsE _ _ rx
    unfold gDPop at h2
    split at h2
    · rename_i l
      split at h2
      · rename_i kvs hx
        split at h2
        · rename_i k ek
          split at h2
          · rename_i z ez
            have ey := keyK_eq ek ry
            obtain ⟨p, ws, ep, hp2, hv, rk⟩ := dicObj R2 rx hx
            rw [ea] at ep
            cases ep
            obtain ⟨v, ev, rv⟩ := rk.val ez
            obtain ⟨g3, R3⟩ := set_dic R2 hp2 hx (rk.drop (k := k))
            exact ⟨ws, k, v, hv, ey, ev, h2 m2 _ g3 R3 v (RV.fits g3.fitsE _ _ rv)⟩
          · exact h2.elim
        · exact h2.elim
      · exact h2.elim
    · exact h2.elim
  · exact h1.elim
/-- {} -/
def iDNew : IE := fun _ st => .ok (.ref st.length) (st ++ [.dic []])
theorem me_dnew : ME X W xa (.Dict [] [] pos) iDNew := by
  refine PE.weak pe_dnewK fun σ H Q h => ?_
  obtain ⟨m, os, rs, ρ, st, P, h⟩ := h
  intro p hp
  exact h.newS (o := .dic []) P.rel hp fun m' st' H' g e => ⟨[], e, rfl⟩
/-- a dict that may change -/
def dicU (st : Sto) : IV → Option (List (Key × IV))
  | .ref l => match st[l]? with
    | some (.dic kvs) => some kvs
    | _ => none
  | _ => none
theorem dicU_of {G : Gd} {m bs : List Addr} {st : Sto} {H : Hp} (R : Rel G m bs st H) {x : IV} {v : V} {kvs : List (Key × IV)} (e : dicU st x = some kvs) (r : RV G m bs st H x v) : ∃ a ws, v = .ref a ∧ H a = some (.dK ws) ∧ RKs G m bs st H kvs ws := by
  cases x with
  | ref l =>
    simp only [dicU] at e
    simp only [RV] at r
    obtain ⟨a, ea, hm⟩ := r
    split at e
    · rename_i ks e1
      cases e
      obtain ⟨ws, h1, h2⟩ := R.obj l _ a e1 hm
      exact ⟨a, ws, ea, h1, h2⟩
    · cases e
  | _ => cases e
def gLenD : List IV → Sto → R IV
  | [x], st => match dicU st x with
    | some kvs => .ok (.int kvs.length) st
    | none => .bad
  | _, _ => .bad
theorem cm_lenD : CallM X (.builtin "len") gLenD := by
  refine ⟨_, call_lenD, fun m bs st H xs xs' Q W R rx h => ?_⟩
  unfold gLenD at h
  split at h
  · split at h
    · rename_i kvs e
      obtain ⟨v, ev, r⟩ := rvs1 rx
      obtain ⟨a, ws, ea, ha, rk⟩ := dicU_of R e r
      refine ⟨a, ws, by rw [ev, ea], ha, ?_⟩
      rw [← rk.len]
      exact h.v R (by simp only [RV])
    · exact h.elim
  · exact h.elim
def gListD : List IV → Sto → R IV
  | [x], st => match dicU st x with
    | some kvs => .ok (.lst (kvs.map fun p => kI p.1)) st
    | none => .bad
  | _, _ => .bad
theorem cm_listD (hc : X.calm = true) : CallM X (.type "list") gListD := by
  refine ⟨_, call_list_dK hc, fun m bs st H xs xs' Q W R rx h => ?_⟩
  unfold gListD at h
  split at h
  · split at h
    · rename_i kvs e
      obtain ⟨v, ev, r⟩ := rvs1 rx
      obtain ⟨a, ws, ea, ha, rk⟩ := dicU_of R e r
      exact ⟨a, ws, by rw [ev, ea], ha, fun q hq => h.newL R rk.ks hq⟩
    · exact h.elim
  · exact h.elim
end
end Mi
set_option Elab.async false
set_option linter.all false
set_option maxRecDepth 100000
set_option maxHeartbeats 4000000
/-! sorted ints; dict of pairs -/
namespace Mi
open PySem PySem.Spec PyProof.Rows L2
def insI (x : Int) : List Int → List Int
  | [] => [x]
  | y :: r => if x ≤ y then x :: y :: r else y :: insI x r
def isort : List Int → List Int
  | [] => []
  | x :: r => insI x (isort r)
theorem insI_perm {x : Int} : ∀ {xs : List Int}, (insI x xs).Perm (x :: xs)
  | [] => .refl _
  | y :: r => by
    rw [insI]
    split
    · exact .refl _
    · exact (List.Perm.cons y insI_perm).trans (.swap x y r)
theorem isort_perm : ∀ {xs : List Int}, (isort xs).Perm xs
  | [] => .refl _
  | x :: r => by rw [isort]; exact insI_perm.trans (List.Perm.cons x isort_perm)
theorem insI_sorted {x : Int} : ∀ {xs : List Int}, xs.Pairwise (· ≤ ·) → (insI x xs).Pairwise (· ≤ ·)
  | [], _ => by simp [insI]
  | y :: r, h => by
    rw [List.pairwise_cons] at h
    rw [insI]
    split
    · rename_i c
      rw [List.pairwise_cons, List.pairwise_cons]
      refine ⟨fun z hz => ?_, h⟩
      rcases List.mem_cons.mp hz with rfl | hz
      · exact c
      · exact Int.le_trans c (h.1 z hz)
    · rename_i c
      rw [List.pairwise_cons]
      refine ⟨fun z hz => ?_, insI_sorted h.2⟩
      rcases List.mem_cons.mp (insI_perm.mem_iff.mp hz) with rfl | hz
      · omega
      · exact h.1 z hz
theorem isort_sorted : ∀ {xs : List Int}, (isort xs).Pairwise (· ≤ ·)
  | [] => List.Pairwise.nil
  | x :: r => by rw [isort]; exact insI_sorted isort_sorted
theorem sorted_unique : ∀ {a b : List Int}, a.Perm b → a.Pairwise (· ≤ ·) → b.Pairwise (· ≤ ·) → a = b
  | [], b, h, _, _ => (List.Perm.nil_eq h)
  | x :: xs, [], h, _, _ => by have := h.length_eq; simp at this
  | x :: xs, y :: ys, h, ha, hb => by
    rw [List.pairwise_cons] at ha hb
    have e : x = y := by
      have h1 : x ∈ y :: ys := h.mem_iff.mp List.mem_cons_self
      have h2 : y ∈ x :: xs := h.mem_iff.mpr List.mem_cons_self
      rcases List.mem_cons.mp h1 with e | h1
      · exact e
      · rcases List.mem_cons.mp h2 with e | h2
        · exact e.symm
        · have := ha.1 y h2
          have := hb.1 x h1
          omega
    subst e
    rw [sorted_unique (List.perm_cons x |>.mp h) ha.2 hb.2]
def intsI : List IV → Option (List Int)
  | [] => some []
  | .int i :: r => (intsI r).map (i :: ·)
  | _ => none
theorem intsI_eq : ∀ {xs : List IV} {ns : List Int}, intsI xs = some ns → xs = ns.map .int
  | [], ns, h => by cases h; rfl
  | x :: r, ns, h => by
    cases x with
    | int i =>
      simp only [intsI, Option.map_eq_some_iff] at h
      obtain ⟨ms, h1, rfl⟩ := h
      rw [intsI_eq h1]; rfl
    | _ => cases h
theorem intsI_map {ns : List Int} : intsI (ns.map .int) = some ns := by
  induction ns with
  | nil => rfl
  | cons n r ih => rw [List.map_cons, intsI, ih]; rfl
section
variable {G : Gd} {m bs : List Addr} {st : Sto} {H : Hp}
theorem rvs_intsV : ∀ {ns : List Int} {vs : List V}, RVs G m bs st H (ns.map .int) vs → vs = ns.map V.int
  | [], vs, h => by simpa only [List.map_nil, RVs] using h
  | n :: r, vs, h => by
    simp only [List.map_cons, RVs] at h
    obtain ⟨v, t, rfl, h1, h2⟩ := h
    simp only [RV] at h1
    rw [h1, rvs_intsV h2]; rfl
theorem intsV_rvs : ∀ {ns : List Int}, RVs G m bs st H (ns.map .int) (ns.map V.int)
  | [] => by simp only [List.map_nil, RVs]
  | n :: r => by
    simp only [List.map_cons, RVs]
    exact ⟨_, _, rfl, by simp only [RV], intsV_rvs⟩
end
section
variable {X : Cx} {W : WX} {xa : Xa}
def gSortI : List IV → Sto → R IV
  | [x], st => match asL st x with
    | some xs => match intsI xs with
      | some ns => .ok (.lst ((isort ns).map .int)) st
      | none => .bad
    | none => .bad
  | _, _ => .bad
theorem cm_sortI : CallM X (.builtin "sorted") gSortI := by
  refine ⟨_, cr_sortedI, fun m bs st H xs xs' Q W R rx h => ?_⟩
  unfold gSortI at h
  split at h
  · split at h
    · rename_i ys e
      split at h
      · rename_i ns en
        obtain ⟨v, ev, r⟩ := rvs1 rx
        obtain ⟨a, vs, ea, h1, r1⟩ := asL_sq R e r
        have ey := intsI_eq en
        subst ey
        have e2 := rvs_intsV r1
        subst e2
        refine ⟨a, ns, by rw [ev, ea], h1, fun ns' p hp hs hn => ?_⟩
        have e3 : ns' = isort ns := sorted_unique (hp.trans isort_perm.symm) hs isort_sorted
        subst e3
        exact h.newL R intsV_rvs hn
      · exact h.elim
    · exact h.elim
  · exact h.elim
end
end Mi
set_option Elab.async false
set_option linter.all false
set_option maxRecDepth 100000
set_option maxHeartbeats 4000000
/-! dict(pairs); o.f += e; list.insert; sets of ints and texts -/
namespace Mi
open PySem PySem.Spec PyProof.Rows L2
def pairsI : List IV → Option (List (Key × IV))
  | [] => some []
  | .tup [k, v] :: r => match keyK k with
    | some q => (pairsI r).map ((q, v) :: ·)
    | none => none
  | _ => none
def mergeD (kvs more : List (Key × IV)) : List (Key × IV) := more.foldl (fun acc p => putD acc p.1 p.2) kvs
section
variable {G : Gd} {m bs : List Addr} {st : Sto} {H : Hp}
theorem RKs.merge : ∀ {more : List (Key × IV)} {ms : List (Key × V)} {kvs : List (Key × IV)} {ws : List (Key × V)}, RKs G m bs st H more ms → RKs G m bs st H kvs ws → RKs G m bs st H (mergeD kvs more) (mergeK ws ms)
  | [], ms, kvs, ws, h, hk => by have h : ms = [] := h; rw [h]; exact hk
  | (f, x) :: r, ms, kvs, ws, h, hk => by
    obtain ⟨v, t, ew, h1, h2⟩ := h
    subst ew
    show RKs G m bs st H (mergeD (putD kvs f x) r) (mergeK (putK ws f v) t)
    exact RKs.merge h2 (hk.put h1)
theorem pairs_rel : ∀ {xs : List IV} {kvs : List (Key × IV)} {vs : List V}, pairsI xs = some kvs → RVs G m bs st H xs vs → ∃ ps ws, vs = ps.map V.ref ∧ Paired (fun p (kv : Key × V) => SqT G.K H p [kV kv.1, kv.2]) ps ws ∧ RKs G m bs st H kvs ws
  | [], kvs, vs, e, r => by
    cases e
    simp only [RVs] at r
    exact ⟨[], [], r, .nil, rfl⟩
  | x :: xs, kvs, vs, e, r => by
    simp only [RVs] at r
    obtain ⟨v, t, rfl, h1, h2⟩ := r
    unfold pairsI at e
    split at e
    · rename_i e0; cases e0
    · rename_i k y r' e0
      cases e0
      split at e
      · rename_i q eq
        obtain ⟨ks, e1, rfl⟩ := Option.map_eq_some_iff.mp e
        obtain ⟨ps, ws, rfl, hp, hk⟩ := pairs_rel e1 h2
        obtain ⟨a, us, ea, hs, hu⟩ := asT_sq (x := .tup [k, y]) rfl h1
        simp only [RVs] at hu
        obtain ⟨u1, t1, rfl, hu1, u2, t2, rfl, hu2, rfl⟩ := hu
        have ek := keyK_eq eq hu1
        subst ek
        exact ⟨a :: ps, (q, u2) :: ws, by rw [ea]; rfl, .cons hs hp, u2, ws, rfl, hu2, hk⟩
      · cases e
    · cases e
end
section
variable {X : Cx} {W : WX} {xa : Xa} {a b e o : Expr} {A B : IE} {pos p apos tpos : Pos} {f : Str} {cs : List Str}
def gDictP : List IV → Sto → R IV
  | [x], st => match asL st x with
    | some xs => match pairsI xs with
      | some kvs => .ok (.ref st.length) (st ++ [.dic (mergeD [] kvs)])
      | none => .bad
    | none => .bad
  | _, _ => .bad
theorem cm_dictP (hc : X.calm = true) : CallM X (.type "dict") gDictP := by
  refine ⟨_, call_dictP hc, fun m bs st H xs xs' Q W R rx h => ?_⟩
  unfold gDictP at h
  split at h
  · split at h
    · rename_i ys e
      split at h
      · rename_i kvs en
        obtain ⟨v, ev, r⟩ := rvs1 rx
        obtain ⟨a, vs, ea, h1, r1⟩ := asL_sq R e r
        obtain ⟨ps, ws, rfl, hp, hk⟩ := pairs_rel en r1
        refine ⟨a, ps, ws, by rw [ev, ea], h1, hp, fun q hq => h.newS (o := .dic (mergeD [] kvs)) R hq fun m' st' H' g e => ⟨_, e, RKs.fits g.fitsE _ _ (RKs.merge hk (show RKs _ _ _ _ _ [] [] from rfl))⟩⟩
      · exact h.elim
    · exact h.elim
  · exact h.elim
/-- o.f += e, ints -/
def iFldAug (cs : List Str) (f : Str) (A B : IE) : IS := fun ρ st => RS.ofR ((A ρ st).bind fun x st => match insAt st cs x with
  | some (l, c, fs) => match fs.lookup f with
    | some (.int i) => (B ρ st).bind fun y st1 => match y, insAt st1 cs x with
      | .int j, some (_, c', fs') => if c' = c ∧ fs'.length < 1000 then .ok IV.non (st1.set l (.ins c (putI f (.int (i + j)) fs'))) else .bad
      | _, _ => .bad
    | _ => .bad
  | none => .bad) ρ fun _ st => .nx ρ st
theorem ms_fldAug (hf : FdM X.K X.mg cs f) (ha : ME X W xa o A) (hb : ME X W xa b B) : MS X W xa (.AugAssign (.Attribute o f tpos) .Add b pos) (iFldAug cs f A B) := by
  refine PS.weak (ps_fldaug ha hb in_add) fun D σ H h => ?_
  obtain ⟨m, os, rs, ρ, st, P, h⟩ := h
  refine ⟨m, os, rs, ρ, st, P, (h.ofR P).bind.mono fun x m1 st1 H1 g1 R1 h1 u ru => ?_⟩
  split at h1
  · rename_i l c fs e
    obtain ⟨ex, hc, hst, p, C, dx, gs, ev, hm, hC, hH, rf⟩ := insAt_at R1 e ru
    split at h1
    · rename_i i hv
      obtain ⟨w, e1, r1⟩ := rf.look hv
      obtain ⟨c1, c2⟩ := hf c hc C hC
      simp only [RV] at r1
      refine ⟨p, C, dx, gs, w, ev, hH, c1, c2, e1, m1, os, rs, ρ, st1, P.grow g1 R1, h1.bind.mono fun y m2 st2 H2 g2 R2 h2 v rv => ?_⟩
      split at h2
      · rename_i j l' c' fs' e2
        split at h2
        · rename_i hh
          obtain ⟨rfl, hl⟩ := hh
          obtain ⟨ex2, hc2, hst2, p2, C2, dx2, gs2, ev2, hm2, hC2, hH2, rf2⟩ := insAt_at R2 e2 (RV.fits g2.fitsE _ _ ru)
          rw [ex] at ex2
          cases ex2
          rw [ev] at ev2
          cases ev2
          rw [hC] at hC2
          cases hC2
          simp only [RV] at rv
          refine ⟨i, j, r1, rv, dx2, gs2, hH2, by rw [← rf2.length]; exact hl, ?_⟩
          have g3 : GrowE m2 st2 H2 m2 (st2.set l (.ins c' (putI f (.int (i + j)) fs'))) (upd H2 p (.ins C dx2 (putF f (.int (i + j)) gs2))) := grow_set hm2 hst2 (by simp)
          have R3 := R2.set (o' := .ins c' (putI f (.int (i + j)) fs')) (u := .ins C dx2 (putF f (.int (i + j)) gs2)) hm2 hst2 (by simp) ⟨C, dx2, _, hC, upd_same, RFs.fits g3.fitsE _ _ (rf2.put (by simp only [RV]))⟩
          exact (h2 m2 _ g3 R3).here (((P.grow g1 R1).grow g2 R2).grow g3 R3)
        · exact h2.elim
      · exact h2.elim
    · exact h1.elim
  · exact h1.elim
/-- xs.insert(i, y) -/
def gIns : IV → List IV → Sto → R IV
  | .ref l, [.int i, y], st => match st[l]? with
    | some (.lst xs) => if xs.length < 100000 ∧ 0 ≤ i ∧ i < 1000000 then .ok .non (st.set l (.lst (xs.take i.toNat ++ [y] ++ xs.drop i.toNat))) else .bad
    | _ => .bad
  | _, _, _ => .bad
theorem mtd_insert : MtdM X "list.insert" gIns := by
  refine ⟨_, mt_insert, fun m bs st H x xs x' xs' Q W R rx rxs h => ?_⟩
  unfold gIns at h
  split at h
  · rename_i l i y
    split at h
    · rename_i zs hz
      split at h
      · rename_i c
        obtain ⟨p, vs, ev, hp, hH, r⟩ := lstObj R rx hz
        simp only [RVs] at rxs
        obtain ⟨w1, t1, rfl, rw1, w2, t2, rfl, rw2, rfl⟩ := rxs
        simp only [RV] at rw1
        subst rw1
        obtain ⟨g, R'⟩ := set_lst (ys := zs.take i.toNat ++ [y] ++ zs.drop i.toNat) (ws := vs.take i.toNat ++ [w2] ++ vs.drop i.toNat) R hp hz (((RVs.take _ r).append (by simp only [RVs]; exact ⟨w2, [], rfl, rw2, rfl⟩)).append (RVs.drop _ r))
        exact ⟨p, vs, i, w2, ev, rfl, hH, by rw [← r.length]; exact szlt c.1, c.2.1, by have := c.2.2; omega, h m _ g R' .non (by simp only [RV])⟩
      · exact h.elim
    · exact h.elim
  · exact h.elim
end
end Mi
set_option Elab.async false
set_option linter.all false
set_option maxRecDepth 100000
set_option maxHeartbeats 4000000
/-! sets of ints and texts -/
namespace Mi
open PySem PySem.Spec PyProof.Rows L2
def setAt (st : Sto) : IV → Option (List Key)
  | .ref l => match st[l]? with
    | some (.set ks) => some ks
    | _ => none
  | _ => none
def hasK (ks : List Key) (k : Key) : Bool := ks.any fun j => decide (j = k)
theorem hasK_iff {ks : List Key} {k : Key} : hasK ks k = true ↔ k ∈ ks := by
  simp [hasK]
section
variable {G : Gd} {m bs : List Addr} {st : Sto} {H : Hp}
theorem setAt_of (R : Rel G m bs st H) {x : IV} {v : V} {ks : List Key} (e : setAt st x = some ks) (r : RV G m bs st H x v) : ∃ l a S n, x = .ref l ∧ v = .ref a ∧ m[l]? = some a ∧ st[l]? = some (.set ks) ∧ H a = some (SetK G.P G.w a S n) ∧ n ≤ ks.length ∧ ∀ k, S k = true ↔ k ∈ ks := by
  cases x with
  | ref l =>
    simp only [setAt] at e
    simp only [RV] at r
    obtain ⟨a, ea, hm⟩ := r
    split at e
    · rename_i ks' e1
      cases e
      obtain ⟨S, n, h1, h2, h3⟩ := R.obj l _ a e1 hm
      exact ⟨l, a, S, n, rfl, ea, hm, e1, h1, h2, h3⟩
    · cases e
  | _ => cases e
end
section
variable {X : Cx} {W : WX} {xa : Xa} {a b e o : Expr} {es : List Expr} {A B : IE} {As : IA} {pos p apos cpos : Pos}
/-- set() -/
def iSetNew : IE := fun _ st => .ok (.ref st.length) (st ++ [.set []])
theorem me_setNew (hg : Gl X "set") (hm : X.mg "set" = none) (hv : bootBuiltins "set" = some (.type "set")) : ME X W xa (.Call (.Name "set" p) [] [] pos) iSetNew := by
  refine PE.weak (pe_callTy0 cr_set0K hg hm hv) fun σ H Q h => ?_
  obtain ⟨m, os, rs, ρ, st, P, h⟩ := h
  refine ⟨rfl, fun q hq => ?_⟩
  exact h.newS (o := .set []) P.rel hq fun m' st' H' g e => ⟨fun _ => false, 0, e, Nat.le_refl _, fun k => by simp⟩
def gInS (neg : Bool) : IV → IV → Sto → R IV := fun y x st => match setAt st x with
  | some ks => match keyK y with
    | some k => .ok (.bl (if neg then !hasK ks k else hasK ks k)) st
    | none => .bad
  | none => .bad
theorem inS_weak {op : CmpOp} {neg : Bool} (ho : OpR X (compareOp op) (rSInK X.prog X.w neg)) : OpM X (compareOp op) (gInS neg) := by
  refine ⟨_, ho, fun m bs st H y x y' x' Q W R ry rx h => ?_⟩
  unfold gInS at h
  split at h
  · rename_i ks e
    split at h
    · rename_i k ek
      obtain ⟨l, a, S, n, _, ea, _, _, ha, _, hS⟩ := setAt_of R e rx
      have e2 : S k = hasK ks k := by
        rw [Bool.eq_iff_iff, hasK_iff]; exact hS k
      refine ⟨k, a, S, n, keyK_eq ek ry, ea, ha, ?_⟩
      rw [e2]
      exact h.v R (by simp only [RV])
    · exact h.elim
  · exact h.elim
theorem opm_inS : OpM X (compareOp .In) (gInS false) := inS_weak or_sinK
theorem opm_notInS : OpM X (compareOp .NotIn) (gInS true) := inS_weak or_snotinK
/-- s.add(k) -/
def gSAdd : IV → List IV → Sto → R IV
  | .ref l, [y], st => match st[l]? with
    | some (.set ks) => match keyK y with
      | some k => if ks.length < 4000 then .ok .non (st.set l (.set (if hasK ks k = true then ks else ks ++ [k]))) else .bad
      | none => .bad
    | _ => .bad
  | _, _, _ => .bad
def iSAdd (A : IE) (As : IA) : IE := fun ρ st => (A ρ st).bind fun x st => if (setAt st x).isSome = true then (As ρ st).bind fun xs st => gSAdd x xs st else .bad
theorem me_sadd (ha : ME X W xa o A) (hes : MA X W xa (e :: es) As)
    (hbase : attributeBase o "add" X.env (eval o X.env) = eval o X.env := by rfl)
    (hfew : ((backTo cpos (starEach (e :: es) X.env)).all (fun x => !x.1) && (backToKw cpos (keywordEach [] X.env)).all (fun x => x.1.isSome)
      && decide ((e :: es).length + ([] : List Keyword).length + (if ([] : List Keyword).isEmpty then 0 else 1) < 30)) = true := by rfl)
    (hline : (apos.endLine == cpos.line) = true := by rfl) (hs : starEach (e :: es) X.env = (false, eval e X.env) :: starEach es X.env := by rfl) (hplain : (backTo cpos (starEach es X.env)).any (·.1) = false := by rfl) :
    ME X W xa (.Call (.Attribute o "add" apos) (e :: es) [] cpos) (iSAdd A As) := by
  refine PE.weak (pe_saddK ha hes hbase hfew hline hs hplain) fun σ H Q h => ?_
  obtain ⟨m, os, rs, ρ, st, P, h⟩ := h
  refine ⟨m, os, rs, ρ, st, P, h.bind.mono fun x m1 st1 H1 g1 R1 h1 x' rx => ?_⟩
  split at h1
  · rename_i c
    cases q : setAt st1 x with
    | none => rw [q] at c; cases c
    | some ks =>
      obtain ⟨l, a, S, n, ex, ea, hm, hst, hH, hn, hS⟩ := setAt_of R1 q rx
      refine ⟨⟨a, S, n, ea, hH⟩, m1, os, rs, ρ, st1, P.grow g1 R1, h1.bind.mono fun ys m2 st2 H2 g2 R2 h2 ys' ry => ?_⟩
      have rx2 := RV.fits g2.fitsE _ _ rx
      unfold gSAdd at h2
      split at h2
      · rename_i l2 y
        split at h2
        · rename_i ks2 hs2
          split at h2
          · rename_i k ek
            split at h2
            · rename_i hl
              have es2 : setAt st2 (.ref l2) = some ks2 := by simp only [setAt, hs2]
              obtain ⟨l3, a3, S3, n3, ex3, ea3, hm3, hst3, hH3, hn3, hS3⟩ := setAt_of R2 es2 rx2
              cases ex3
              obtain ⟨w, ew, rw'⟩ := rvs1 ry
              have ek2 := keyK_eq ek rw'
              refine ⟨a3, k, S3, n3, ea3, by rw [ew, ek2], hH3, by show n3 + 1 < 4096; omega, ?_⟩
              have eS : S3 k = hasK ks2 k := by
                rw [Bool.eq_iff_iff, hasK_iff]; exact hS3 k
              have g3 : GrowE m2 st2 H2 m2 (st2.set l2 (.set (if hasK ks2 k = true then ks2 else ks2 ++ [k]))) (upd H2 a3 (SetK X.prog X.w a3 (fun j => S3 j || decide (j = k)) (if S3 k = true then n3 else n3 + 1))) := grow_set hm3 hst3 (by simp)
              have R3 := R2.set (o' := .set (if hasK ks2 k = true then ks2 else ks2 ++ [k])) (u := SetK X.prog X.w a3 (fun j => S3 j || decide (j = k)) (if S3 k = true then n3 else n3 + 1)) hm3 hst3 (by simp) ⟨_, _, upd_same, by
                rw [eS]
                split
                · exact hn3
                · rw [List.length_append]; simp; exact hn3, fun j => by
                rw [Bool.or_eq_true, decide_eq_true_eq, hS3]
                split
                · rename_i c2
                  have hk := hasK_iff.mp c2
                  exact ⟨fun z => z.elim id fun z => by rw [z]; exact hk, .inl⟩
                · rw [List.mem_append, List.mem_singleton]⟩
              exact h2 m2 _ g3 R3 .non (by simp only [RV])
            · exact h2.elim
          · exact h2.elim
        · exact h2.elim
      · exact h2.elim
  · exact h1.elim
end
end Mi
set_option Elab.async false
set_option linter.all false
set_option maxRecDepth 100000
set_option maxHeartbeats 4000000
/-! C(e, .., k = v, ..), keyword-only parameters with defaults -/
namespace Mi
open PySem PySem.Spec PyProof.Rows L2
def kdV (kds : List (Str × DC)) : List (Str × V) := kds.map fun q => (q.1, q.2.v)
/-- a class whose __init__ has keyword-only parameters, each with a default -/
def MkKM (P : Program) (w : World) (K : PySem.W.Frag) (mg : Str → Option Value) (base : Heap) (c qual : Str) (st : Stmt) (k : Nat) (ps : List Str) (kds : List (Str × DC)) (F : Fn) : Prop :=
  ∃ C f fd, mg c = some (.ref C) ∧ Mk K C f ∧ FunD K "__init__" qual (defArgs st) (defBody st) (defScope st) [] (kdV kds) f fd ∧ FnOk P w K mg base (L2.CX P w) k f fd ps (spOf ⟨K, mg, P, w⟩ ps.length F)
abbrev BindK (qual : Str) (st0 : Stmt) (n : Nat) (ps ks ms : List Str) (pl : List DSrc) : Prop := ∀ (D : Addr) (doc pm : Value) (an : Option Addr) (cdv ct : Value) (us mv ws : List Value), us.length = n + 1 → mv.length = ms.length → ws.length = ks.length →
  KwChain D (ms.zip mv) (bindArgs (PySem.W.fnOf "__init__" qual (defArgs st0) (defBody st0) (defScope st0) .none (.ref D) doc pm an cdv ct) ⟨us, ks.zip ws⟩) (ps.zip (dpick pl us mv ws))
section
variable {X : Cx} {W : WX} {xa : Xa} {a b e o : Expr} {A B : IE} {pos p apos kpos : Pos} {es : List Expr} {kws : List Keyword} {As Ks : IA} {k n : Nat} {F : Fn} {c qual : Str} {st0 : Stmt} {ps ks : List Str} {kds ms : List (Str × DC)} {pl : List DSrc}
theorem me_mkK {np mm : Nat} (hnp : ps.length = np) (hmm : ks.length = mm) (h : MkKM X.prog X.w X.K X.mg X.base c qual st0 k ps kds F) (hr : Room (k + 1) X.A) (tk : Takes X W) (hg : Gl X c) (ha : MA X W xa (e :: es) As) (hk : MK X W xa kws Ks) (hd : kds ≠ []) (hms : ∀ q ∈ ms, q ∈ kds) (hbd : BindK qual st0 n ps ks (ms.map (·.1)) pl)
    (hall : (backToKw pos (keywordEach kws X.env)).all (·.1.isSome) = true := by rfl) (hks : (backToKw pos (keywordEach kws X.env)).filterMap (·.1) = ks := by rfl) (hdb : (c == ("__debug__" : Str)) = false := by decide)
    (he : starEach (e :: es) X.env = (false, eval e X.env) :: starEach es X.env := by rfl) (hpl : ((backTo pos (starEach (e :: es) X.env)).any (·.1) || (backToKw pos (keywordEach kws X.env)).any (·.1.isNone)) = false := by rfl) :
    ME X W xa (.Call (.Name c p) (e :: es) kws pos) (iMakeD c F np n mm pl (ms.map (·.2)) As Ks) := by
  subst hnp hmm
  obtain ⟨C, f, fd, hm, hM, FD, hf⟩ := h
  have ev : (kdV ms).map (·.2) = (ms.map (·.2)).map DC.v := by simp [kdV]
  have ek : (kdV ms).map (·.1) = ms.map (·.1) := by simp [kdV]
  obtain ⟨mv, hb⟩ := FD.kbinds0 (n + 1) ks (kdV ms) (fun us its ws => dpick pl us its ws) (fun z => hd (List.map_eq_nil_iff.mp z)) (fun q hq => by
    obtain ⟨r, hr, rfl⟩ := List.mem_map.mp hq
    exact List.mem_map.mpr ⟨r, hms r hr, rfl⟩) (fun r1 r2 r3 => dpick_vals r1 r2 r3) fun D doc pm an cdv ct us mv ws l1 l2 l3 => by
      rw [ek]
      exact hbd D doc pm an cdv ct us mv ws l1 (by rw [l2]; simp [kdV]) l3
  rw [ev] at hb
  exact PE.weak (pe_makeNS hM hf hr hg hm hb (E := fun σ cls d H => W cls d σ H) (fun σ => wish_of tk σ) ha hk hall hks hdb he hpl) fun σ H Q h => md_weak hm h
end
end Mi
set_option Elab.async false
set_option linter.all false
set_option maxRecDepth 100000
set_option maxHeartbeats 4000000
/-! a def with keyword-only defaults keeps its promise -/
namespace Mi
open PySem PySem.Spec PyProof.Rows L2
theorem fn_okK {P : Program} {w : World} {K : PySem.W.Frag} {mg : Str → Option Value} {base : Heap} {x qual : Str} {st : Stmt} {f : Addr} {fd : FuncData} {N ps : List Str} {k j : Nat} {B : IS} {kws : List (Str × V)} (F : FunD K x qual (defArgs st) (defBody st) (defScope st) [] kws f fd) (S : FnScope N ps (defScope st)) (hj : N.length - ps.length = j)
    (hb : ∀ (cdv : Value) (A : Around) (outer : List Env) (s : Shared) (H : Hp) (E : XK), Room k (A.deeper (envOfC qual (defScope st) s.heap.objs.size f cdv)) →
      MSs (cxOf (L2.CX P w) P w K mg base N qual (defScope st) f cdv A outer s H E) (fun cls d _ H => E cls d H) none (defBody st) B) : FnOk P w K mg base (L2.CX P w) (k + 1) f fd ps (spOf ⟨K, mg, P, w⟩ ps.length (fnOf j B)) := by
  refine F.ok S (fun vs H Q E h => h.1) (fun cdv A outer s H vs Q E hr h => ⟨_, hb cdv A outer s H E hr, ?_⟩)
  obtain ⟨hl, m, bs, st, args, R, r, h⟩ := h
  have P0 := re_start (k := j) (N := N) R r (by rw [hl, hj])
  show tsOf ⟨K, mg, P, w⟩ (fun cls d _ H => E cls d H) none B _ _ _
  refine ⟨m, [], bs, _, st, P0, ?_⟩
  unfold fnOf at h
  cases q : B (args.map (fun x => some (.v x)) ++ List.replicate j none) st with
  | nx ρ' st' =>
    rw [q] at h
    exact fun m' os' H' σ' g P' => h m' H' g.toE P'.rel.less .non (by simp only [RV])
  | rt v st' =>
    rw [q] at h
    exact fun m' os' H' u g R' ru => h m' H' g.toE R'.less u (RV.fits fits_less _ _ ru)
  | exc c fs ρ' st' =>
    rw [q] at h
    exact fun m' os' H' σ' cls d g P' x => h m' H' cls d g.toE P'.rel.less x.less
  | bk ρ' st' => rw [q] at h; exact h.elim
  | ct ρ' st' => rw [q] at h; exact h.elim
  | bad => rw [q] at h; exact h.elim
theorem fund_mkK {K : PySem.W.Frag} {x qual : Str} {st : Stmt} {f D : Addr} {oc : Value} {od an : Option Addr} {osl : Array (Option Value)} {doc pm cdv ct : Value} {kds : List (Str × DC)} (l : K.lookup f = some ⟨oc, od, .func (PySem.W.fnOf x qual (defArgs st) (defBody st) (defScope st) .none (.ref D) doc pm an cdv ct), osl⟩)
    (c : PySem.W.codeIn K cdv qual = true) (k : PySem.W.keepIn K (.ref f) = true) (d : ∀ q ∈ kds, ∃ u, PySem.W.nsIn K D q.1 = some (some u) ∧ dcB q.2 u = true) (hd : kds ≠ []) : FunD K x qual (defArgs st) (defBody st) (defScope st) [] (kdV kds) f (PySem.W.fnOf x qual (defArgs st) (defBody st) (defScope st) .none (.ref D) doc pm an cdv ct) := by
  refine ⟨⟨oc, od, _, .ref D, doc, pm, an, cdv, ct, osl, rfl, l, c, .inl ⟨rfl, rfl⟩, .inr ⟨D, rfl, fun q hq => ?_⟩⟩, k⟩
  obtain ⟨r, hr, rfl⟩ := List.mem_map.mp hq
  obtain ⟨u, h1, h2⟩ := d r hr
  exact ⟨u, h1, dcB_ok h2⟩
end Mi
set_option Elab.async false
set_option linter.all false
set_option maxRecDepth 100000
set_option maxHeartbeats 4000000
/-! walks over a dict: it stands locked meanwhile -/
namespace Mi
open PySem PySem.Spec PyProof.Rows L2
section
variable {G : Gd} {m m' bs os os' rs : List Addr} {st st' : Sto} {H H' : Hp} {xa : Xa} {σ : L2.St} {ρ : Slots} {l : Nat} {kvs : List (Key × IV)} {d : Addr} {od : Obj} {ws : List (Key × V)}
theorem RKs.get : ∀ {kvs : List (Key × IV)} {ws : List (Key × V)} {i : Nat} {k : Key} {x : IV}, RKs G m bs st H kvs ws → kvs[i]? = some (k, x) → ∃ v, ws[i]? = some (k, v) ∧ RV G m bs st H x v
  | [], ws, i, k, x, h, e => by simp at e
  | (f, y) :: r, ws, 0, k, x, h, e => by
    obtain ⟨v, t, e1, h1, h2⟩ := h
    simp at e
    obtain ⟨rfl, rfl⟩ := e
    exact ⟨v, by rw [e1]; rfl, h1⟩
  | (f, y) :: r, ws, i + 1, k, x, h, e => by
    obtain ⟨v, t, e1, h1, h2⟩ := h
    obtain ⟨w, e2, h3⟩ := RKs.get (i := i) h2 (by simpa using e)
    exact ⟨w, by rw [e1]; simpa using e2, h3⟩
/-- what is locked is not live -/
theorem fz_lock (R : Rel G m bs st H) (hm : m[l]? = some d) (hs : st[l]? = some (.fdic kvs)) : Fz m bs st d := by
  refine ⟨fun ⟨i, o, h1, h2, h3⟩ => ?_, fun z => (R.bsd d z).1 (List.mem_of_getElem? hm)⟩
  have e := R.nd i l d h1 hm
  subst e
  rw [hs] at h2
  cases h2
  exact h3 rfl
def keysI (kvs : List (Key × IV)) : List IV := kvs.map fun p => kI p.1
theorem rv_kI {k : Key} : RV G m bs st H (kI k) (kV k) := by
  cases k <;> simp only [kI, kV, RV]
theorem walks_k (hd : H d = some (.frz od (.dK ws))) (hz : Fz m bs st d) (r : RKs G m bs st H kvs ws) : Walks G m bs st H (keysI kvs) none (Itk d od ws) := by
  intro i m2 bs2 st2 H2 f R _
  obtain ⟨e2, _⟩ := f.frz d od _ ⟨hd, hz⟩
  have r2 := RKs.fits f _ _ r
  have ln : kvs.length = ws.length := r2.len
  refine ⟨fun x hx => ?_, fun hl => ⟨e2, by simp [keysI] at hl; omega⟩⟩
  unfold keysI at hx
  rw [List.getElem?_map] at hx
  cases q : kvs[i]? with
  | none => rw [q] at hx; cases hx
  | some p =>
    rw [q] at hx
    have hx : kI p.1 = x := by simpa using hx
    obtain ⟨k, y⟩ := p
    obtain ⟨v, ev, rv⟩ := r2.get q
    refine ⟨⟨e2, (List.getElem?_eq_some_iff.mp ev).1⟩, fun w H3 y3 => ?_⟩
    obtain ⟨e3, k', v', ek, ew⟩ := y3
    subst e3
    have ek := ev.symm.trans ek
    cases ek
    subst ew
    rw [← hx]
    exact ⟨.refl, R, rv_kI⟩

/-! ### unlocking -/
theorem rd_nl {a : Addr} {u : HO} (hd : H' d = some (.frz od (.dK ws))) (nx : ∀ zs, u ≠ .dK zs) (nf : ∀ o w, u ≠ .frz o w) (h : Rd H' a u) : a ≠ d ∧ Rd (upd H' d (.dK ws)) a u := by
  have ne : a ≠ d := fun z => by
    subst z
    rcases h with h | ⟨o, h⟩
    · rw [hd] at h; cases h; exact nf _ _ rfl
    · rw [hd] at h; cases h; exact nx _ rfl
  refine ⟨ne, ?_⟩
  rcases h with h | ⟨o, h⟩
  · exact .inl (by rw [upd_ne ne]; exact h)
  · exact .inr ⟨o, by rw [upd_ne ne]; exact h⟩
theorem lv_unlock {a : Addr} (hm : m[l]? = some d) (ne : a ≠ d) (n : ¬ Lv m st a) {o : IO} : ¬ Lv m (st.set l o) a := fun ⟨i, u, h1, h2, h3⟩ => by
  by_cases e : l = i
  · subst e
    rw [hm] at h1; cases h1; exact ne rfl
  · rw [List.getElem?_set_ne e] at h2
    exact n ⟨i, u, h1, h2, h3⟩
theorem fits_unlock (hm : m[l]? = some d) (hd : H d = some (.frz od (.dK ws))) : Fits0 G m bs st H m bs (st.set l (.dic kvs)) (upd H d (.dK ws)) := by
  refine ⟨fun _ _ h => h, fun a vs h => ?_, fun a vs h => ?_, fun a vs h => ?_⟩
  · rcases h with ⟨h, n, q⟩ | h
    · obtain ⟨ne, h⟩ := rd_nl hd (fun _ z => by cases z) (fun _ _ z => by cases z) h
      exact .inl ⟨h, lv_unlock hm ne n, q⟩
    · exact .inr h
  · rcases h with ⟨h, n, q⟩ | h
    · obtain ⟨ne, h⟩ := rd_nl hd (fun _ z => by cases z) (fun _ _ z => by cases z) h
      exact .inl ⟨h, lv_unlock hm ne n, q⟩
    · exact .inr h
  · obtain ⟨o, h, e, n, q⟩ := h
    have ne : a ≠ d := fun z => by
      subst z
      rw [hd] at h; cases h
    exact ⟨o, by rw [upd_ne ne]; exact h, e, lv_unlock hm ne n, q⟩
theorem rel_unlock (R : Rel G m bs st H) (hm : m[l]? = some d) (hs : st[l]? = some (.fdic kvs)) (hd : H d = some (.frz od (.dK ws))) : Rel G m bs (st.set l (.dic kvs)) (upd H d (.dK ws)) := by
  have f : Fits0 G m bs st H m bs (st.set l (.dic kvs)) (upd H d (.dK ws)) := fits_unlock hm hd
  refine ⟨by simp [R.len], R.nd, fun i w a e1 e2 => ?_, fun a z => ⟨(R.bsd a z).1, ?_⟩⟩
  · by_cases e : l = i
    · subst e
      have ea : d = a := Option.some.inj (hm.symm.trans e2)
      subst ea
      rw [List.getElem?_set_self (List.getElem?_eq_some_iff.mp hs).1] at e1
      cases e1
      obtain ⟨od', ws', h1, h2⟩ := R.obj _ _ d hs hm
      rw [hd] at h1
      cases h1
      exact ⟨ws, upd_same, RKs.fits0 f _ _ h2⟩
    · rw [List.getElem?_set_ne e] at e1
      have ne : a ≠ d := fun z => e (R.nd _ _ _ hm (by rw [← z]; exact e2))
      refine (R.obj i w a e1 e2).fits0 f fun w e => ?_
      rw [upd_ne ne]; exact e
  · obtain ⟨o, e⟩ := (R.bsd a z).2
    by_cases e' : a = d
    · exact ⟨_, by rw [e']; exact upd_same⟩
    · exact ⟨o, by rw [upd_ne e']; exact e⟩
/-- from the lock on to behind it -/
theorem grow_lock (hm : m[l]? = some d) (hs : st[l]? = some (.dic kvs)) (g : Grow m (st.set l (.fdic kvs)) os (upd H d (.frz od (.dK ws))) m' st' os' H') {o : IO} {u : HO} : Grow m st os H m' (st'.set l o) os' (upd H' d u) := by
  refine ⟨g.pre, fun a w e n q nx => ?_, fun a e => ?_⟩
  · have ne : a ≠ d := fun z => n ⟨l, _, by rw [z]; exact hm, hs, by simp⟩
    obtain ⟨h1, n1, q1⟩ := g.keep a w (by rw [upd_ne ne]; exact e) (lv_unlock hm ne n) q nx
    exact ⟨by rw [upd_ne ne]; exact h1, lv_unlock (g.at hm) ne n1, q1⟩
  · have := g.stay a (upd_stay e)
    exact upd_stay this
theorem pre_unlock (P : Pre G xa σ H m os rs ρ st) (hm : m[l]? = some d) (hs : st[l]? = some (.fdic kvs)) (hd : H d = some (.frz od (.dK ws))) : Pre G xa σ (upd H d (.dK ws)) m os rs ρ (st.set l (.dic kvs)) := by
  have f : Fits0 G m (os ++ rs) st H m (os ++ rs) (st.set l (.dic kvs)) (upd H d (.dK ws)) := fits_unlock hm hd
  refine ⟨rel_unlock P.rel hm hs hd, P.re.len, fun i x e => ?_, P.re.own, P.re.uniq⟩
  obtain ⟨v, e1, r⟩ := P.re.at_ i x e
  refine ⟨v, e1, ?_⟩
  cases x with
  | v x => exact RV.fits0 f _ _ r
  | own xs =>
    obtain ⟨a, vs, ea, ha, ra, hb⟩ := r
    have ne : a ≠ d := fun z => by rw [z, hd] at ha; cases ha
    exact ⟨a, vs, ea, by rw [upd_ne ne]; exact ha, RVs.fits0 f _ _ ra, hb⟩
  | exn l => exact r
/-- the lock -/
theorem pre_lock (P : Pre G xa σ H m os rs ρ st) (hm : m[l]? = some d) (hs : st[l]? = some (.dic kvs)) (hd : H d = some (.dK ws)) (od : Obj) : Pre G xa σ (upd H d (.frz od (.dK ws))) m os rs ρ (st.set l (.fdic kvs)) := by
  have g : GrowE m st H m (st.set l (.fdic kvs)) (upd H d (.frz od (.dK ws))) := grow_set hm hs (by simp)
  obtain ⟨ws', h1, h2⟩ := P.rel.obj _ _ d hs hm
  rw [hd] at h1
  cases h1
  exact P.grow g (P.rel.set hm hs (by simp) ⟨od, ws, upd_same, RKs.fits g.fitsE _ _ h2⟩)
end
def iKeysD (A : IE) : IIt := fun ρ st => (A ρ st).bind fun x st => match x with
  | .ref l => match st[l]? with
    | some (.fdic kvs) => .ok (keysI kvs, none) st
    | _ => .bad
  | _ => .bad
def unlk (l : Nat) (st : Sto) : Option Sto := match st[l]? with
  | some (.fdic kvs) => some (st.set l (.dic kvs))
  | _ => none
def RS.unlk (l : Nat) : RS → RS
  | .nx ρ st => match Mi.unlk l st with | some st' => .nx ρ st' | none => .bad
  | .bk ρ st => match Mi.unlk l st with | some st' => .bk ρ st' | none => .bad
  | .ct ρ st => match Mi.unlk l st with | some st' => .ct ρ st' | none => .bad
  | .rt v st => match Mi.unlk l st with | some st' => .rt v st' | none => .bad
  | .exc _ _ _ _ => .bad
  | .bad => .bad
/-- the dict that A tells is locked while B runs -/
def iLockS (A : IE) (B : IS) : IS := fun ρ st => match A ρ st with
  | .ok (.ref l) _ => match st[l]? with
    | some (.dic kvs) => RS.unlk l (B ρ (st.set l (.fdic kvs)))
    | _ => .bad
  | _ => .bad
def iLockF (A : IE) (B : IA) : IA := fun ρ st => match A ρ st with
  | .ok (.ref l) _ => match st[l]? with
    | some (.dic kvs) => match B ρ (st.set l (.fdic kvs)) with
      | .ok xs st1 => match Mi.unlk l st1 with | some st' => .ok xs st' | none => .bad
      | _ => .bad
    | _ => .bad
  | _ => .bad
theorem unlk_some {l : Nat} {st st' : Sto} (h : unlk l st = some st') : ∃ kvs, st[l]? = some (.fdic kvs) ∧ st' = st.set l (.dic kvs) := by
  unfold unlk at h
  split at h
  · rename_i kvs e
    cases h
    exact ⟨kvs, e, rfl⟩
  · cases h
section
variable {X : Cx} {W : WX} {xa : Xa} {e tg : Expr} {s : Stmt} {A : IE} {B : IS} {BA : IA}
theorem mi_keys (he : ME X W xa e A) : MI X W xa tg e (iKeysD A) := by
  refine PI.weak (pi_keys he) fun σ H R h => ?_
  obtain ⟨m, os, rs, ρ, st, P, h⟩ := h
  refine ⟨m, os, rs, ρ, st, P, h.bind.mono fun x m1 st1 H1 g1 R1 h1 x' rx => ?_⟩

  split at h1
  · rename_i l
    split at h1
    · rename_i kvs hs
      simp only [RV] at rx
      obtain ⟨d, ed, hm⟩ := rx
      obtain ⟨od, ws, hd, rk⟩ := R1.obj _ _ d hs hm
      exact ⟨d, od, ed, .inl ⟨ws, hd, h1.ok R1 _ (walks_k hd (fz_lock R1 hm hs) rk)⟩⟩
    · exact h1.elim
  · exact h1.elim
theorem ms_lock (hb : MS X W xa s B) : MS X W xa s (iLockS A B) := by
  refine PS.weak (ps_lock hb) fun D σ H h => ?_
  obtain ⟨m, os, rs, ρ, st, P, h⟩ := h
  unfold iLockS at h
  split at h
  · rename_i l st0 q
    split at h
    · rename_i kvs hs
      have hl : l < m.length := by rw [P.rel.len]; exact (List.getElem?_eq_some_iff.mp hs).1
      have hm : m[l]? = some m[l] := List.getElem?_eq_getElem hl
      generalize m[l] = d at hm
      obtain ⟨ws, hd, rk⟩ := P.rel.obj _ _ d hs hm
      refine ⟨d, _, hd, trivial, fun od => ⟨m, os, rs, ρ, _, pre_lock P hm hs hd od, ?_⟩⟩
      have F1 : (upd H d (.frz od (.dK ws))) d = some (.frz od (.dK ws)) := upd_same
      have key : ∀ {m' os' H' st'}, Grow m (st.set l (.fdic kvs)) os (upd H d (.frz od (.dK ws))) m' st' os' H' → H' d = some (.frz od (.dK ws)) := fun {m' os' H' st'} g => by
        have hs1 : (st.set l (.fdic kvs))[l]? = some (.fdic kvs) := List.getElem?_set_self (List.getElem?_eq_some_iff.mp hs).1
        have z := fz_lock (pre_lock P hm hs hd od).rel hm hs1
        exact (g.keep d _ F1 z.1 (fun y => z.2 (List.mem_append_left _ y)) nxf).1
      cases r : B ρ (st.set l (.fdic kvs)) with
      | nx ρ' st' =>
        rw [r] at h
        dsimp only [RS.unlk] at h
        split at h
        · rename_i st2 e
          obtain ⟨kvs', e1, e2⟩ := unlk_some e
          subst e2
          intro m' os' H' σ' g P'
          exact ⟨key g, h m' os' _ σ' (grow_lock hm hs g) (pre_unlock P' (g.at hm) e1 (key g))⟩
        · exact h.elim
      | bk ρ' st' =>
        rw [r] at h
        dsimp only [RS.unlk] at h
        split at h
        · rename_i st2 e
          obtain ⟨kvs', e1, e2⟩ := unlk_some e
          subst e2
          intro m' os' H' σ' g P'
          exact ⟨key g, h m' os' _ σ' (grow_lock hm hs g) (pre_unlock P' (g.at hm) e1 (key g))⟩
        · exact h.elim
      | ct ρ' st' =>
        rw [r] at h
        dsimp only [RS.unlk] at h
        split at h
        · rename_i st2 e
          obtain ⟨kvs', e1, e2⟩ := unlk_some e
          subst e2
          intro m' os' H' σ' g P'
          exact ⟨key g, h m' os' _ σ' (grow_lock hm hs g) (pre_unlock P' (g.at hm) e1 (key g))⟩
        · exact h.elim
      | rt v st' =>
        rw [r] at h
        dsimp only [RS.unlk] at h
        split at h
        · rename_i st2 e
          obtain ⟨kvs', e1, e2⟩ := unlk_some e
          subst e2
          intro m' os' H' u g R' ru
          exact ⟨key g, h m' os' _ u (grow_lock hm hs g) (rel_unlock R' (g.at hm) e1 (key g)) (RV.fits0 (fits_unlock (g.at hm) (key g)) _ _ ru)⟩
        · exact h.elim
      | exc c fs ρ' st' => rw [r] at h; exact h.elim
      | bad => rw [r] at h; exact h.elim
    · exact h.elim
  · exact h.elim
theorem mf_lock (hb : MF X W xa e BA) : MF X W xa e (iLockF A BA) := by
  refine PE.weak (pe_lock hb) fun σ H Q h => ?_
  obtain ⟨m, os, rs, ρ, st, P, h⟩ := h
  unfold iLockF at h
  split at h
  · rename_i l st0 q
    split at h
    · rename_i kvs hs
      have hl : l < m.length := by rw [P.rel.len]; exact (List.getElem?_eq_some_iff.mp hs).1
      have hm : m[l]? = some m[l] := List.getElem?_eq_getElem hl
      generalize m[l] = d at hm
      obtain ⟨ws, hd, rk⟩ := P.rel.obj _ _ d hs hm
      refine ⟨d, _, hd, trivial, fun od => ⟨m, os, rs, ρ, _, pre_lock P hm hs hd od, ?_⟩⟩
      have F1 : (upd H d (.frz od (.dK ws))) d = some (.frz od (.dK ws)) := upd_same
      have key : ∀ {m' H' st'}, GrowE m (st.set l (.fdic kvs)) (upd H d (.frz od (.dK ws))) m' st' H' → H' d = some (.frz od (.dK ws)) := fun {m' H' st'} g => by
        have hs1 : (st.set l (.fdic kvs))[l]? = some (.fdic kvs) := List.getElem?_set_self (List.getElem?_eq_some_iff.mp hs).1
        have z := fz_lock (pre_lock P hm hs hd od).rel hm hs1
        exact (g.keep d _ F1 z.1 (by simp) nxf).1
      cases r : BA ρ (st.set l (.fdic kvs)) with
      | ok xs st' =>
        rw [r] at h
        dsimp only at h
        split at h
        · rename_i st2 e
          obtain ⟨kvs', e1, e2⟩ := unlk_some e
          subst e2
          intro m' H' D vs hD g R' eD r'
          have kd := key g
          refine ⟨kd, ?_⟩
          have neD : D ≠ d := fun z => by rw [z, kd] at eD; cases eD
          refine h m' _ D vs ?_ (grow_lock hm hs g) (rel_unlock R' (g.at hm) e1 kd) (by rw [upd_ne neD]; exact eD) (RVs.fits0 (fits_unlock (g.at hm) kd) _ _ r')
          exact upd_stay hD
        · exact h.elim
      | exc c fs st' => rw [r] at h; exact h.elim
      | bad => rw [r] at h; exact h.elim
    · exact h.elim
  · exact h.elim
end
end Mi
set_option Elab.async false
set_option linter.all false
set_option maxRecDepth 100000
set_option maxHeartbeats 4000000
/-! properties, constants of a class, calls of what an attribute holds, methods with defaults -/
namespace Mi
open PySem PySem.Spec PyProof.Rows L2
theorem passes_none {P : Program} {w : World} {Y : Cx} : Passes (L2.CX P w) Y (fun _ _ _ => False) := fun _ _ _ _ _ _ _ h => by
  obtain ⟨_, _, _, _, _, _, _, _, _, _, _, _, z⟩ := h
  exact z.elim
theorem arity_at {n : Nat} {F : Fn} {xs : List IV} {st : Sto} (h : xs.length = n) : arity n F xs st = F xs st := by unfold arity; rw [if_pos h]
/-! ### e.f, a property -/
def PropM (P : Program) (w : World) (K : PySem.W.Frag) (mg : Str → Option Value) (base : Heap) (c f : Str) (k : Nat) (F : Fn) : Prop :=
  ∃ C p g fd ps, mg c = some (.ref C) ∧ Cls K C ∧ PropOf K C f p g ∧ Binds K fd ps [] ∧ FnOk P w K mg base (L2.CX P w) k g fd ps (spOf ⟨K, mg, P, w⟩ 1 F)
def iProp (c : Str) (F : Fn) (A : IE) : IE := fun ρ st => (A ρ st).bind fun x st => match insAt st [c] x with
  | some _ => quiet (F [x] st)
  | none => .bad
def ConM (K : PySem.W.Frag) (mg : Str → Option Value) (c f : Str) (d : DC) : Prop := ∀ C, mg c = some (.ref C) → Cls K C ∧ ∃ u, Con K C f d.v u
def iCon (c f : Str) (d : DC) (A : IE) : IE := fun ρ st => (A ρ st).bind fun x st => match insAt st [c] x with
  | some (_, _, fs) => if (fs.lookup f).isNone = true then .ok d.iv st else .bad
  | none => .bad
section
variable {X : Cx} {W : WX} {xa : Xa} {a b e o : Expr} {A B : IE} {pos p apos : Pos} {es : List Expr} {As : IA} {k n : Nat} {F : Fn} {x c f m : Str}
theorem me_prop (h : PropM X.prog X.w X.K X.mg X.base c f k F) (hr : Room (k + 1) X.A) (ha : ME X W xa a A) (hb : attributeBase a f X.env (eval a X.env) = eval a X.env := by rfl) : ME X W xa (.Attribute a f pos) (iProp c (arity 1 F) A) := by
  obtain ⟨C, q, g, fd, ps, hm, hC, hP, hbd, hf⟩ := h
  refine PE.weak (pe_prop (E := fun _ _ _ => False) ha hC hP hf hr hbd .nil passes_none hb) fun σ H Q h => ?_
  obtain ⟨m0, os, rs, ρ, st, P, h⟩ := h
  refine ⟨m0, os, rs, ρ, st, P, h.bind.mono fun x m1 st1 H1 g1 R1 h1 u ru => ?_⟩
  split at h1
  · rename_i z e1
    obtain ⟨l, c', fs⟩ := z
    obtain ⟨ex, hc, _, q2, C', dx, gs, ev, hm1, hC', hH, rf⟩ := insAt_at R1 e1 ru
    have ec : c' = c := by simpa using hc
    subst ec
    have hC2 : X.mg c' = some (.ref C') := hC'
    rw [hm] at hC2
    cases hC2
    subst ev
    have ea : arity 1 F [x] st1 = F [x] st1 := arity_at rfl
    rw [ea] at h1
    refine ⟨q2, dx, gs, rfl, hH, rfl, m1, _, st1, [x], R1, ?_, quiet_post h1⟩
    simp only [RVs]
    exact ⟨_, [], rfl, ru, rfl⟩
  · exact h1.elim
theorem me_con {d : DC} (h : ConM X.K X.mg c f d) (ha : ME X W xa a A) (hb : attributeBase a f X.env (eval a X.env) = eval a X.env := by rfl) : ME X W xa (.Attribute a f pos) (iCon c f d A) := by
  refine PE.weak (pe_con ha hb) fun σ H Q hh => ?_
  obtain ⟨m0, os, rs, ρ, st, P, hh⟩ := hh
  refine ⟨m0, os, rs, ρ, st, P, hh.bind.mono fun x m1 st1 H1 g1 R1 h1 u ru => ?_⟩
  split at h1
  · rename_i l c' fs e1
    obtain ⟨ex, hc, _, q2, C', dx, gs, ev, hm1, hC', hH, rf⟩ := insAt_at R1 e1 ru
    have ec : c' = c := by simpa using hc
    subst ec
    split at h1
    · rename_i hn
      obtain ⟨hC, w0, hw⟩ := h C' hC'
      exact ⟨q2, C', dx, gs, d.v, w0, ev, hH, hC, hw, rf.look_none (by simpa using hn), h1.v R1 d.rv⟩
    · exact h1.elim
  · exact h1.elim
/-! ### o.f(e, ..), an own object in the attribute, its class has __call__ -/
def tCallA (C : Addr) (m : Str) (sp : Sp) (E : L2.St → XK) (K : PySem.W.Frag) (ta : TE) (t : TA) : TE := fun σ H Q => ta σ H fun x H1 => ∃ a Ca dxa fsa c dx fs, x = .ref a ∧ H1 a = some (.ins Ca dxa fsa) ∧ Cls K Ca ∧ NoAttr K Ca m ∧ fsa.lookup m = some (.ref c) ∧
  H1 c = some (.ins C dx fs) ∧ t σ H1 fun vs H2 => (∃ dx fs, H2 c = some (.ins C dx fs)) ∧ sp (.ref c :: vs) H2 Q (E σ)
theorem pe_callA {CX : CXT} {C g : Addr} {fd : FuncData} {ps : List Str} {sp : Sp} {ta : TE} {t : TA} {E : L2.St → XK} {pl : Sem Bool} (hM : Meth X.K C "__call__" g) (hfn : PySem.W.fnIn X.K g = true) (FO : FnOk X.prog X.w X.K X.mg X.base CX k g fd ps sp) (hr : Room k X.A) (hb : Binds X.K fd ps []) (hx : ∀ σ, PassesAt CX X σ (E σ))
    (ho : PE X o ta) (ha : PA X (e :: es) t)
    (he : starEach (e :: es) X.env = (false, eval e X.env) :: starEach es X.env := by rfl) (hpl : (backTo pos (starEach es X.env)).any (·.1) = false := by rfl)
    (ht : eval (.Call (.Attribute o m apos) (e :: es) [] pos) X.env = (do
      let ov ← eval o X.env
      standAt apos.atName
      let (f, first) ← holding [ov] (getMethod ov m pl)
      callWith pos f first (backTo pos (starEach (e :: es) X.env)) (backToKw pos (keywordEach [] X.env))) := by rfl) : PE X (.Call (.Attribute o m apos) (e :: es) [] pos) (tCallA C m sp E X.K ta t) := by
  refine ⟨fun pins s σ H Q I h => ?_⟩
  refine PySem.W.methodCall_KW (pl := pl) (thn (ho.run pins s σ H _ I h) fun u s1 ⟨v, H1, I1, r1, a, Ca, dxa, fsa, c, dx, fs, ev, ei, hCa, nA, lk, eic, q1⟩ => ?_) ht
  subst ev
  obtain rfl : u = Value.ref a := r1
  obtain ⟨mA, O, _, _, _, _⟩ := ins_get I1.hok ei
  obtain ⟨od, J, hl⟩ := O.look
  refine PySem.W.method_usual (r := none) I1.kIn J (PySem.W.plainGet_of (hCa.get m)).1 (PySem.W.plainGet_of (hCa.get m)).2 nA rfl ?_
  refine getattr_ok I1 ei hCa nA lk fun u2 s2 I2 ru2 => ?_
  obtain rfl : u2 = Value.ref c := ru2
  show wpAny _ _ (callWith pos (.ref c) [] (backTo pos (starEach (e :: es) X.env)) []) _ _ _
  have hp : ((backTo pos (starEach (e :: es) X.env)).any (·.1)) = false := by
    rw [he]
    show (false || (backTo pos (starEach es X.env)).any (·.1)) = false
    rw [hpl]; rfl
  have ar := ha.run pos pins s2 σ H1 _ I2 q1
  refine own_callWith hp ?_
  rw [he] at ar ⊢
  refine PySem.Calls.evalArgs_plain (thn ar fun us s3 ⟨vs, H2, I3, r, ⟨dx2, fs2, ei2⟩, q2⟩ => ?_)
  obtain ⟨od2, at2⟩ := inst_is I3 ei2
  refine ⟨⟨C, _, od2, at2, rfl⟩, ?_⟩
  have r2 : Vals (V.ref c :: vs) (Value.ref c :: us) := .cons rfl r
  have ln : (Value.ref c :: us ++ []).length = ps.length := by
    rw [List.append_nil, ← r2.length]; exact FO.len _ _ _ _ q2
  have bb := hb s3 (Value.ref c :: us) I3.kIn ln
  rw [List.append_nil] at bb
  refine wpAny_call (PySem.W.kco_code I3.kIn at2 rfl hM.at_ hM.fn hfn (codeAny_mono (FO.run X.A X.stack s3 H2 ⟨Value.ref c :: us, []⟩ (Value.ref c :: us) (V.ref c :: vs) Q (E σ) hr I3.env0 bb r2 q2) fun r s' hq => ?_))
  cases r with
  | error er => exact hx σ pins H2 s3 er s' I3 hq
  | ok fl =>
    cases fl with
    | ret u => exact I3.after hq
    | next => exact False.elim hq
    | brk => exact False.elim hq
    | cont => exact False.elim hq
/-- cs: the classes that hold the attribute m; c: the class of what it holds -/
def iCallA (cs : List Str) (m c : Str) (F : Fn) (A : IE) (As : IA) : IE := fun ρ st => (A ρ st).bind fun x st => match insAt st cs x with
  | some (_, _, fs) => match fs.lookup m with
    | some y => (match insAt st [c] y with
      | some _ => (As ρ st).bind fun args st => (match insAt st [c] y with
        | some _ => F (y :: args) st
        | none => .bad)
      | none => .bad)
    | none => .bad
  | none => .bad
theorem me_callA {cs : List Str} {pl : Sem Bool} (h : CallOM X.prog X.w X.K X.mg X.base c k (n + 1) F) (hr : Room k X.A) (tk : Takes X W) (hfd : FdM X.K X.mg cs m) (ho : ME X W xa o A) (ha : MA X W xa (e :: es) As)
    (he : starEach (e :: es) X.env = (false, eval e X.env) :: starEach es X.env := by rfl) (hpl : (backTo pos (starEach es X.env)).any (·.1) = false := by rfl)
    (ht : eval (.Call (.Attribute o m apos) (e :: es) [] pos) X.env = (do
      let ov ← eval o X.env
      standAt apos.atName
      let (f, first) ← holding [ov] (getMethod ov m pl)
      callWith pos f first (backTo pos (starEach (e :: es) X.env)) (backToKw pos (keywordEach [] X.env))) := by rfl) : ME X W xa (.Call (.Attribute o m apos) (e :: es) [] pos) (iCallA cs m c (arity (n + 1) F) A As) := by
  obtain ⟨C, g, fd, ps, hC, hCl, hM, hfn, hb, hf⟩ := h
  refine PE.weak (pe_callA hM hfn hf hr hb (E := fun σ cls d H => W cls d σ H) (fun σ => wish_of tk σ) ho ha he hpl ht) fun σ H Q h => ?_
  obtain ⟨m0, os, rs, ρ, st, P, h⟩ := h
  refine ⟨m0, os, rs, ρ, st, P, h.bind.mono fun x m1 st1 H1 g1 R1 h1 u ru => ?_⟩
  split at h1
  · rename_i la ca fsa e1
    obtain ⟨ex, hca, _, pa, Ca, dxa, gsa, eva, hma, hCa, hHa, rfa⟩ := insAt_at R1 e1 ru
    obtain ⟨c1, c2⟩ := hfd ca hca Ca hCa
    split at h1
    · rename_i y ey
      obtain ⟨vy, lvy, ry⟩ := rfa.look ey
      split at h1
      · rename_i z e2
        obtain ⟨l, c', fs⟩ := z
        obtain ⟨eyl, hc, _, pc, C', dx, gs, ev, hm1, hC', hH, rf⟩ := insAt_at R1 e2 ry
        have ec : c' = c := by simpa using hc
        subst ec
        have hC2 : X.mg c' = some (.ref C') := hC'
        rw [hC] at hC2
        cases hC2
        subst ev
        refine ⟨pa, Ca, dxa, gsa, pc, dx, gs, eva, hHa, c1, c2, lvy, hH, m1, os, rs, ρ, st1, P.grow g1 R1, h1.bind.mono fun args m2 st2 H2 g2 R2 h2 vs rv => ?_⟩
        have ry2 := RV.fits g2.fitsE _ _ ry
        split at h2
        · rename_i z2 e3
          obtain ⟨l2, c2', fs2⟩ := z2
          obtain ⟨_, hc2, _, p2, C2, dx2, gs2, ev2, _, hC2', hH2, _⟩ := insAt_at R2 e3 ry2
          have ec2 : c2' = c' := by simpa using hc2
          subst ec2
          have hC3 : X.mg c2' = some (.ref C2) := hC2'
          rw [hC] at hC3
          cases hC3
          cases ev2
          refine ⟨⟨dx2, gs2, hH2⟩, ?_⟩
          unfold arity at h2
          split at h2
          · rename_i hl
            refine ⟨by rw [List.length_cons, ← rv.length]; simpa using hl, m2, _, st2, y :: args, R2, ?_, h2⟩
            simp only [RVs]
            exact ⟨_, vs, rfl, ry2, rv⟩
          · exact h2.elim
        · exact h2.elim
      · exact h1.elim
    · exact h1.elim
  · exact h1.elim
end
end Mi
set_option Elab.async false
set_option linter.all false
set_option maxRecDepth 100000
set_option maxHeartbeats 4000000
/-! methods with defaults, called with or without keywords -/
namespace Mi
open PySem PySem.Spec PyProof.Rows L2
def tMethNS (C : Addr) (m : Str) (n mm : Nat) (sp : Sp) (gV : List V → List V → List V) (E : L2.St → XK) (ta : TE) (t tk : TA) : TE := fun σ H Q => ta σ H fun x H1 => ∃ a dx fs, x = .ref a ∧ H1 a = some (.ins C dx fs) ∧ fs.lookup m = none ∧
  t σ H1 fun vs H2 => tk σ H2 fun zs H3 => vs.length = n ∧ zs.length = mm ∧ sp (gV (x :: vs) zs) H3 Q (E σ)
section
variable {X : Cx} {CX : CXT} {k n : Nat} {f C : Addr} {fd : FuncData} {ps ks : List Str} {sp : Sp} {E : L2.St → XK} {x m : Str} {p pos apos : Pos} {e o : Expr} {es : List Expr} {kws : List Keyword} {ta : TE} {t tk : TA} {g : List Value → List Value → List Value} {gV : List V → List V → List V}
theorem run_methNS {pins : List (Addr × Obj)} {σ : L2.St} {H : Hp} {s : Shared} {Q : VK} {us ws : List Value} {vs zs : List V} (F : FnOk X.prog X.w X.K X.mg X.base CX k f fd ps sp) (hr : Room k X.A) (hb : KBn X.K fd ps (n + 1) ks g gV)
    (hx : PassesAt CX X σ (E σ)) (I : L2.Inv X pins σ H s) (r : Vals vs us) (rz : Vals zs ws) (l1 : vs.length = n + 1) (l2 : zs.length = ks.length) (h : sp (gV vs zs) H Q (E σ)) :
    wpAny (model X.prog X.w) X.A (call (.ref f) us (ks.zip ws)) (EP X pins σ Q) X.xe s := by
  have r2 := hb.rel r rz
  refine wpAny_call (codeAny_mono (F.run X.A X.stack s H ⟨us, ks.zip ws⟩ (g us ws) (gV vs zs) Q (E σ) hr I.env0 (hb.to _ us ws I.kIn (r.length.symm.trans l1) (rz.length.symm.trans l2)) r2 h) fun r s' hq => ?_)
  cases r with
  | error er => exact hx pins H s er s' I hq
  | ok fl =>
    cases fl with
    | ret u => exact I.after hq
    | next => exact False.elim hq
    | brk => exact False.elim hq
    | cont => exact False.elim hq
theorem pe_methNS {pl : Sem Bool} (he : PE X o ta) (c : Cls X.K C) (hm : Meth X.K C m f) (F : FnOk X.prog X.w X.K X.mg X.base CX k f fd ps sp) (hr : Room k X.A) (hb : KBn X.K fd ps (n + 1) ks g gV) (hx : ∀ σ, PassesAt CX X σ (E σ)) (ha : PA X (e :: es) t) (hkw : PK X kws tk)
    (hall : (backToKw pos (keywordEach kws X.env)).all (·.1.isSome) = true := by rfl) (hks : (backToKw pos (keywordEach kws X.env)).filterMap (·.1) = ks := by rfl)
    (hst : starEach (e :: es) X.env = (false, eval e X.env) :: starEach es X.env := by rfl) (hpl : ((backTo pos (starEach (e :: es) X.env)).any (·.1) || (backToKw pos (keywordEach kws X.env)).any (·.1.isNone)) = false := by rfl)
    (ht : eval (.Call (.Attribute o m apos) (e :: es) kws pos) X.env = (do
      let ov ← eval o X.env
      standAt apos.atName
      let (f, first) ← holding [ov] (getMethod ov m pl)
      callWith pos f first (backTo pos (starEach (e :: es) X.env)) (backToKw pos (keywordEach kws X.env))) := by rfl) :
    PE X (.Call (.Attribute o m apos) (e :: es) kws pos) (tMethNS C m n ks.length sp gV E ta t tk) := by
  refine ⟨fun pins s σ H Q I h => ?_⟩
  refine PySem.W.methodCall_KW (pl := pl) (thn (he.run pins s σ H _ I h) fun u s1 ⟨x, H1, I1, rx, a, dx, fs, ex, ea, l, q⟩ => ?_) ht
  subst ex
  obtain rfl : u = Value.ref a := rx
  refine getmeth_ok I1 ea c hm l ?_
  refine PySem.W.callWith_KW (first := [.ref a]) (h₀ := X.base) I.ok.mod.kin hm.kp hall (thn (ha.run pos pins s1 σ H1 _ I1 q) fun us s2 ⟨vs, H2, I2, r, q2⟩ => ?_) hpl hst
  refine thn (hkw.run pos pins s2 σ H2 _ I2 q2) fun ws s3 ⟨zs, H3, I3, rz, l1, l2, q3⟩ => ⟨I3.kIn, ?_⟩
  rw [hks]
  exact run_methNS (us := .ref a :: us) (vs := .ref a :: vs) F hr hb (hx σ) I3 (.cons rfl r) rz (congrArg Nat.succ l1) l2 q3
end
/-- a method with defaults -/
def MethDM (P : Program) (w : World) (K : PySem.W.Frag) (mg : Str → Option Value) (base : Heap) (c m nm qual : Str) (st : Stmt) (k : Nat) (ps : List Str) (ds : List DC) (F : Fn) : Prop :=
  ∃ C f fd, mg c = some (.ref C) ∧ Cls K C ∧ Meth K C m f ∧ FunD K nm qual (defArgs st) (defBody st) (defScope st) (ds.map DC.v) [] f fd ∧ FnOk P w K mg base (L2.CX P w) k f fd ps (spOf ⟨K, mg, P, w⟩ ps.length F)
def iMethD (c m : Str) (F : Fn) (np n mm : Nat) (pl : List DSrc) (ds : List DC) (A : IE) (As Ks : IA) : IE := fun ρ st => (A ρ st).bind fun x st => match insAt st [c] x with
  | some (_, _, fs) => if (fs.lookup m).isNone = true then (As ρ st).bind fun args st => (Ks ρ st).bind fun zs st => if args.length = n ∧ zs.length = mm then arity np F (dpick pl (x :: args) (ds.map DC.iv) zs) st else .bad else .bad
  | none => .bad
abbrev BindDm (nm qual : Str) (st0 : Stmt) (n : Nat) (ps ks : List Str) (ds : List DC) (pl : List DSrc) : Prop := ∀ (T : Addr) (kV doc pm : Value) (an : Option Addr) (cdv ct : Value) (us its ws : List Value), us.length = n + 1 → its.length = ds.length → ws.length = ks.length →
  ∃ kk, bindArgs (PySem.W.fnOf nm qual (defArgs st0) (defBody st0) (defScope st0) (.ref T) kV doc pm an cdv ct) ⟨us, ks.zip ws⟩ = seqItems? (.ref T) >>= kk ∧ kk (some its.toArray) = pure (ps.zip (dpick pl us its ws))
section
variable {X : Cx} {W : WX} {xa : Xa} {a b e o : Expr} {A B : IE} {pos p apos kpos : Pos} {es : List Expr} {kws : List Keyword} {As Ks : IA} {k n : Nat} {F : Fn} {c m nm qual : Str} {st0 : Stmt} {ps ks : List Str} {ds : List DC} {pl : List DSrc}
theorem me_methD {np mm : Nat} {pb : Sem Bool} (hnp : ps.length = np) (hmm : ks.length = mm) (h : MethDM X.prog X.w X.K X.mg X.base c m nm qual st0 k ps ds F) (hr : Room k X.A) (tk : Takes X W) (ho : ME X W xa o A) (ha : MA X W xa (e :: es) As) (hk : MK X W xa kws Ks) (hd : ds ≠ []) (hbd : BindDm nm qual st0 n ps ks ds pl)
    (hall : (backToKw pos (keywordEach kws X.env)).all (·.1.isSome) = true := by rfl) (hks : (backToKw pos (keywordEach kws X.env)).filterMap (·.1) = ks := by rfl)
    (hst : starEach (e :: es) X.env = (false, eval e X.env) :: starEach es X.env := by rfl) (hpl : ((backTo pos (starEach (e :: es) X.env)).any (·.1) || (backToKw pos (keywordEach kws X.env)).any (·.1.isNone)) = false := by rfl)
    (ht : eval (.Call (.Attribute o m apos) (e :: es) kws pos) X.env = (do
      let ov ← eval o X.env
      standAt apos.atName
      let (f, first) ← holding [ov] (getMethod ov m pb)
      callWith pos f first (backTo pos (starEach (e :: es) X.env)) (backToKw pos (keywordEach kws X.env))) := by rfl) :
    ME X W xa (.Call (.Attribute o m apos) (e :: es) kws pos) (iMethD c m F np n mm pl ds A As Ks) := by
  subst hnp hmm
  obtain ⟨C, f, fd, hm, hC, hM, FD, hf⟩ := h
  obtain ⟨its, hb⟩ := FD.kbindsD (n + 1) ks (fun us its ws => dpick pl us its ws) (fun z => hd (List.map_eq_nil_iff.mp z)) (fun r1 r2 r3 => dpick_vals r1 r2 r3) fun T kV doc pm an cdv ct us its ws l1 l2 l3 => hbd T kV doc pm an cdv ct us its ws l1 (by rw [l2, List.length_map]) l3
  refine PE.weak (pe_methNS ho hC hM hf hr hb (E := fun σ cls d H => W cls d σ H) (fun σ => wish_of tk σ) ha hk hall hks hst hpl ht) fun σ H Q h => ?_
  obtain ⟨m0, os, rs, ρ, st, P, h⟩ := h
  refine ⟨m0, os, rs, ρ, st, P, h.bind.mono fun x m1 st1 H1 g1 R1 h1 u ru => ?_⟩
  split at h1
  · rename_i l c' fs e1
    obtain ⟨ex, hc, _, p, C', dx, gs, ev, hm1, hC', hH, rf⟩ := insAt_at R1 e1 ru
    have ec : c' = c := by simpa using hc
    subst ec
    have hC2 : X.mg c' = some (.ref C') := hC'
    rw [hm] at hC2
    cases hC2
    split at h1
    · rename_i hn
      refine ⟨p, dx, gs, ev, hH, rf.look_none (by simpa using hn), m1, os, rs, ρ, st1, P.grow g1 R1, h1.bind.mono fun args m2 st2 H2 g2 R2 h2 vs rv => ?_⟩
      refine ⟨m2, os, rs, ρ, st2, (P.grow g1 R1).grow g2 R2, h2.bind.mono fun zs m3 st3 H3 g3 R3 h3 ws rz => ?_⟩
      split at h3
      · rename_i hl
        have rv3 := RVs.fits g3.fitsE _ _ rv
        have ru3 := RV.fits (g2.trans g3).fitsE _ _ ru
        refine ⟨by rw [← rv.length]; exact hl.1, by rw [← rz.length]; exact hl.2, ?_⟩
        unfold arity at h3
        split at h3
        · rename_i hl2
          have rA : RVs (gd X) m3 (os ++ rs) st3 H3 (x :: args) (u :: vs) := by
            simp only [RVs]
            exact ⟨u, vs, rfl, ru3, rv3⟩
          have rP := dpick_rvs (pl := pl) rA (dcs_rvs (ds := ds)) rz
          exact ⟨by rw [← rP.length]; exact hl2, m3, _, st3, _, R3, rP, h3⟩
        · exact h3.elim
      · exact h3.elim
    · exact h1.elim
  · exact h1.elim
end
end Mi
set_option Elab.async false
set_option linter.all false
set_option maxRecDepth 100000
set_option maxHeartbeats 4000000
/-! sorted(xs) where the items are data that are alike, tuples -/
namespace Mi
open PySem PySem.Spec PyProof.Rows L2
def leD {α : Type} : α × PyData → α × PyData → Bool := PySem.W.dataLe false fun b => b.2
def rSortD (K : PySem.W.Frag) : List V → Hp → VK → Prop := fun vs H Q => ∃ (a : Addr) (bs : List (V × PyData)), vs = [V.ref a] ∧ SqL K H a (bs.map (·.1)) ∧ (∀ b ∈ bs, Dp K H b.1 b.2) ∧ PySem.W.AllAlike (bs.map (·.2)) ∧ PySem.W.Sortable (bs.map (·.2)) ∧ (∀ b ∈ bs, b.2.depth ≤ 60) ∧ bs.length ≤ 100000 ∧
  ∀ p, H p = none → Q (.ref p) (upd H p (.lst ((bs.mergeSort leD).map (·.1))))
section
variable {X : Cx}
theorem each_vals {R : Value → (V × PyData) → Prop} (k : ∀ b u, RelV b.1 u → R u b) : ∀ {bs : List (V × PyData)} {us : List Value}, Vals (bs.map (·.1)) us → (∀ b ∈ bs, True) → PySem.W.EachIs R us bs
  | [], [], _, _ => .nil
  | [], _ :: _, h, _ => by cases h
  | _ :: _, [], h, _ => by cases h
  | b :: bs, u :: us, h, h2 => by
    cases h with
    | cons h1 h3 => exact .cons (k b u h1) (each_vals k h3 fun _ _ => trivial)
theorem each_mem2 {R : Value → (V × PyData) → Prop} : ∀ {bs : List (V × PyData)} {us : List Value}, Vals (bs.map (·.1)) us → (∀ b ∈ bs, ∀ u, RelV b.1 u → R u b) → PySem.W.EachIs R us bs
  | [], [], _, _ => .nil
  | [], _ :: _, h, _ => by cases h
  | _ :: _, [], h, _ => by cases h
  | b :: bs, u :: us, h, h2 => by
    cases h with
    | cons h1 h3 => exact .cons (h2 b List.mem_cons_self u h1) (each_mem2 h3 fun c hc => h2 c (List.mem_cons_of_mem _ hc))
theorem vals_each : ∀ {bs : List (V × PyData)} {us : List Value}, PySem.W.EachIs (fun u b => RelV b.1 u) us bs → Vals (bs.map (·.1)) us
  | _, _, .nil => .nil
  | _, _, .cons h r => .cons h (vals_each r)
theorem cr_sortD (hu : X.A.units + 64 < cLine) : CallR X (.builtin "sorted") (rSortD X.K) := by
  intro pins s σ H vs us Q I r h
  obtain ⟨a, bs, rfl, hs, hD, hal, hso, hdp, hlen, q⟩ := h
  obtain ⟨its, rv, hl, hz⟩ := I.list hs
  rw [Vals.ref1 r]
  have e1 : PySem.W.EachIs (fun u (b : V × PyData) => RelV b.1 u) its bs := each_mem2 rv fun b _ u hb => hb
  have e2 : PySem.W.EachIs (fun u (b : V × PyData) => ∃ as, Reads s.heap u b.2 as) its bs := each_mem2 rv fun b hb u ru => Dp.reads I b.2 b.1 u (hD b hb) ru
  have hL : bs.length ≤ sizeLine := szl hlen
  refine PySem.W.sorted_data (enc := fun b : V × PyData => b.2) hl.isList e1 e2 hal hso hL (fun b hb => by have := hdp b hb; omega) fun out lo eo => ?_
  obtain ⟨ep, he'⟩ := PyProof.Rows.sortedAll_at s.heap its out.toArray
  have eo' : PySem.W.EachIs (fun u (b : V × PyData) => RelV b.1 u) out (bs.mergeSort leD) := eo
  have hlen2 : ((bs.mergeSort leD).map (·.1)).length ≤ sizeLine := by
    rw [List.length_map, List.length_mergeSort]; exact hL
  have I' := I.laid (t' := s.toks) (o := .lst ((bs.mergeSort leD).map (·.1))) (h' := PyProof.Rows.sortedAll s.heap its out.toArray) (fun _ _ z => PyProof.Rows.sortedAll_old z) (Nat.le_succ s.heap.objs.size) ⟨hlen2, out, ep, vals_each eo', he'⟩
  exact ⟨V.ref (s.heap.objs.size + 1), _, I', rfl, q _ (I.hok.fresh (Nat.le_succ _))⟩
end
def dsI (st : Sto) : List IV → Option (List PyData)
  | [] => some []
  | x :: xs => match toD st x, dsI st xs with
    | some d, some ds => some (d :: ds)
    | _, _ => none
def tupB : PyData → Bool
  | .tuple (_ :: _) => true
  | _ => false
def okSD (ds : List PyData) : Bool := ds.all (fun d => ds.all fun e => PySem.W.alike d e) && ds.all tupB && ds.all (fun d => decide (d.depth ≤ 60))
def gSortD : List IV → Sto → R IV
  | [x], st => match asL st x with
    | some xs => match dsI st xs with
      | some ds => if okSD ds = true ∧ xs.length ≤ 100000 then .ok (.lst (((xs.zip ds).mergeSort leD).map (·.1))) st else .bad
      | none => .bad
    | none => .bad
  | _, _ => .bad
section
variable {G : Gd} {m bs : List Addr} {st : Sto} {H : Hp} {X : Cx}
/-- values and mirrors with their data -/
theorem ds_zip (R : Rel G m bs st H) : ∀ {xs : List IV} {vs : List V} {ds : List PyData}, RVs G m bs st H xs vs → dsI st xs = some ds → ∃ zs : List ((IV × V) × PyData), xs = zs.map (fun z => z.1.1) ∧ vs = zs.map (fun z => z.1.2) ∧ ds = zs.map (·.2) ∧ ∀ z ∈ zs, RV G m bs st H z.1.1 z.1.2 ∧ Dp G.K H z.1.2 z.2
  | [], vs, ds, r, e => by
    simp only [RVs] at r
    subst r
    cases e
    exact ⟨[], rfl, rfl, rfl, fun z hz => by cases hz⟩
  | x :: xs, vs, ds, r, e => by
    simp only [RVs] at r
    obtain ⟨v, t, ev, r1, r2⟩ := r
    simp only [dsI] at e
    split at e
    · rename_i d ds' e1 e2
      cases e
      obtain ⟨zs, h1, h2, h3, h4⟩ := ds_zip R r2 e2
      refine ⟨((x, v), d) :: zs, by rw [h1]; rfl, by rw [ev, h2]; rfl, by rw [h3]; rfl, fun z hz => ?_⟩
      rcases List.mem_cons.mp hz with rfl | hz
      · exact ⟨r1, toD_dp R e1 r1⟩
      · exact h4 z hz
    · cases e
theorem rvs_map {α : Type} {f : α → IV} {g : α → V} : ∀ {zs : List α}, (∀ z ∈ zs, RV G m bs st H (f z) (g z)) → RVs G m bs st H (zs.map f) (zs.map g)
  | [], _ => by simp only [List.map_nil, RVs]
  | z :: zs, h => by
    simp only [List.map_cons, RVs]
    exact ⟨_, _, rfl, h z List.mem_cons_self, rvs_map fun y hy => h y (List.mem_cons_of_mem _ hy)⟩
theorem tupB_ok {d : PyData} (h : tupB d = true) : ∃ x r, d = .tuple (x :: r) := by
  unfold tupB at h
  split at h
  · exact ⟨_, _, rfl⟩
  · cases h
theorem cm_sortD (hu : X.A.units + 64 < cLine) : CallM X (.builtin "sorted") gSortD := by
  refine ⟨_, cr_sortD hu, fun m bs st H xs xs' Q W R rx h => ?_⟩
  unfold gSortD at h
  split at h
  · rename_i x
    split at h
    · rename_i ys ey
      split at h
      · rename_i ds ed
        split at h
        · rename_i c
          obtain ⟨v, ev, rv⟩ := rvs1 rx
          obtain ⟨a, vs, ea, hs, rvs⟩ := asL_sq R ey rv
          obtain ⟨zs, h1, h2, h3, h4⟩ := ds_zip R rvs ed
          have b1 : (zs.map fun z => (z.1.2, z.2)).map (·.1) = vs := by rw [h2, List.map_map]; rfl
          have b2 : (zs.map fun z => (z.1.2, z.2)).map (·.2) = ds := by rw [h3, List.map_map]; rfl
          have zy : ys.zip ds = zs.map fun z => (z.1.1, z.2) := by
            rw [h1, h3]
            clear ed ey h h1 h2 h3 h4 c b1 b2
            induction zs with
            | nil => rfl
            | cons z zs ih => rw [List.map_cons, List.map_cons, List.zip_cons_cons, ih]; rfl
          have ok := c.1
          unfold okSD at ok
          simp only [Bool.and_eq_true, List.all_eq_true] at ok
          have m1 : (ys.zip ds).mergeSort leD = (zs.mergeSort (PySem.W.dataLe false fun z => z.2)).map fun z => (z.1.1, z.2) := by
            rw [zy]; exact (List.map_mergeSort (r := PySem.W.dataLe false fun z => z.2) (s := leD) (f := fun z : (IV × V) × PyData => (z.1.1, z.2)) (fun a _ b _ => rfl)).symm
          have m2 : (zs.map fun z => (z.1.2, z.2)).mergeSort leD = (zs.mergeSort (PySem.W.dataLe false fun z => z.2)).map fun z => (z.1.2, z.2) := (List.map_mergeSort (r := PySem.W.dataLe false fun z => z.2) (s := leD) (f := fun z : (IV × V) × PyData => (z.1.2, z.2)) (fun a _ b _ => rfl)).symm
          refine ⟨a, zs.map fun z => (z.1.2, z.2), by rw [ev, ea], by rw [b1]; exact hs, fun b hb => ?_, ?_, ?_, fun b hb => ?_, ?_, fun p hp => ?_⟩
          · obtain ⟨z, hz, rfl⟩ := List.mem_map.mp hb
            exact (h4 z hz).2
          · rw [b2]; exact fun d hd e he => ok.1.1 d hd e he
          · rw [b2]; exact .inl fun d hd => tupB_ok (ok.1.2 d hd)
          · have : b.2 ∈ ds := by rw [← b2]; exact List.mem_map.mpr ⟨b, hb, rfl⟩
            exact of_decide_eq_true (ok.2 _ this)
          · rw [List.length_map]
            have := c.2
            rw [h1, List.length_map] at this
            exact this
          · rw [m1] at h
            rw [m2]
            refine h.newL R ?_ hp
            rw [List.map_map, List.map_map]
            exact rvs_map fun z hz => (h4 z (List.mem_mergeSort.mp hz)).1
        · exact h.elim
      · exact h.elim
    · exact h.elim
  · exact h.elim
end
end Mi
set_option Elab.async false
set_option linter.all false
set_option maxRecDepth 100000
set_option maxHeartbeats 4000000
/-! lists unpacked, o.f -= e -/
namespace Mi
open PySem PySem.Spec PyProof.Rows L2
section
variable {X : Cx} {W : WX} {xa : Xa} {a b e o : Expr} {A B : IE} {pos p apos tpos : Pos} {f : Str} {cs : List Str} {es : List Expr}
/-- o.f -= e, ints -/
def iFldSub (cs : List Str) (f : Str) (A B : IE) : IS := fun ρ st => RS.ofR ((A ρ st).bind fun x st => match insAt st cs x with
  | some (l, c, fs) => match fs.lookup f with
    | some (.int i) => (B ρ st).bind fun y st1 => match y, insAt st1 cs x with
      | .int j, some (_, c', fs') => if c' = c ∧ fs'.length < 1000 then .ok IV.non (st1.set l (.ins c (putI f (.int (i - j)) fs'))) else .bad
      | _, _ => .bad
    | _ => .bad
  | none => .bad) ρ fun _ st => .nx ρ st
theorem ms_fldSub (hf : FdM X.K X.mg cs f) (ha : ME X W xa o A) (hb : ME X W xa b B) : MS X W xa (.AugAssign (.Attribute o f tpos) .Sub b pos) (iFldSub cs f A B) := by
  refine PS.weak (ps_fldaug ha hb in_sub) fun D σ H h => ?_
  obtain ⟨m, os, rs, ρ, st, P, h⟩ := h
  refine ⟨m, os, rs, ρ, st, P, (h.ofR P).bind.mono fun x m1 st1 H1 g1 R1 h1 u ru => ?_⟩
  split at h1
  · rename_i l c fs e
    obtain ⟨ex, hc, hst, p, C, dx, gs, ev, hm, hC, hH, rf⟩ := insAt_at R1 e ru
    split at h1
    · rename_i i hv
      obtain ⟨w, e1, r1⟩ := rf.look hv
      obtain ⟨c1, c2⟩ := hf c hc C hC
      simp only [RV] at r1
      refine ⟨p, C, dx, gs, w, ev, hH, c1, c2, e1, m1, os, rs, ρ, st1, P.grow g1 R1, h1.bind.mono fun y m2 st2 H2 g2 R2 h2 v rv => ?_⟩
      split at h2
      · rename_i j l' c' fs' e2
        split at h2
        · rename_i hh
          obtain ⟨rfl, hl⟩ := hh
          obtain ⟨ex2, hc2, hst2, p2, C2, dx2, gs2, ev2, hm2, hC2, hH2, rf2⟩ := insAt_at R2 e2 (RV.fits g2.fitsE _ _ ru)
          rw [ex] at ex2
          cases ex2
          rw [ev] at ev2
          cases ev2
          rw [hC] at hC2
          cases hC2
          simp only [RV] at rv
          refine ⟨i, j, r1, rv, dx2, gs2, hH2, by rw [← rf2.length]; exact hl, ?_⟩
          have g3 : GrowE m2 st2 H2 m2 (st2.set l (.ins c' (putI f (.int (i - j)) fs'))) (upd H2 p (.ins C dx2 (putF f (.int (i - j)) gs2))) := grow_set hm2 hst2 (by simp)
          have R3 := R2.set (o' := .ins c' (putI f (.int (i - j)) fs')) (u := .ins C dx2 (putF f (.int (i - j)) gs2)) hm2 hst2 (by simp) ⟨C, dx2, _, hC, upd_same, RFs.fits g3.fitsE _ _ (rf2.put (by simp only [RV]))⟩
          exact (h2 m2 _ g3 R3).here (((P.grow g1 R1).grow g2 R2).grow g3 R3)
        · exact h2.elim
      · exact h2.elim
    · exact h1.elim
  · exact h1.elim
/-- a, b = e, e a list -/
def tgUnl (n : Nat) (Ts : ITgs) : ITg := fun x ρ st => match asL st x with
  | some xs => if xs.length = n then Ts xs ρ st else .bad
  | none => .bad
theorem mg_unl {Ts : ITgs} {k n : Nat} (hc : X.calm = true) (h : MGs X xa es Ts) (hn : (assignEach es X.env).length = n := by rfl) (hst : (assignEach es X.env).findIdx? (·.1) = none := by rfl) : MG X xa (.Tuple es k pos) (tgUnl n Ts) := by
  refine PG.weak (pg_unl hc h hn hst) fun v σ H Q h => ?_
  obtain ⟨m, os, rs, ρ, st, x, P, r, h⟩ := h
  unfold tgUnl at h
  split at h
  · rename_i xs e
    split at h
    · rename_i hl
      obtain ⟨p, vs, ep, hs, r2⟩ := asL_sq P.rel e r
      exact ⟨p, vs, ep, hs, by rw [← r2.length]; exact hl, m, os, rs, ρ, st, xs, P, r2, h⟩
    · exact h.elim
  · exact h.elim
theorem tgok_unl {n : Nat} {Ts : ITgs} (h : TgsOk Ts) : TgOk (tgUnl n Ts) := fun x ρ st => by
  unfold tgUnl
  split
  · split
    · exact h _ _ _
    · rfl
  · rfl
end
end Mi
set_option Elab.async false
set_option linter.all false
set_option maxRecDepth 100000
set_option maxHeartbeats 4000000
/-! a list beside the empty list; a slice that will change -/
namespace Mi
open PySem PySem.Spec PyProof.Rows L2
def rNil (K : PySem.W.Frag) (neg : Bool) : R2 := fun x y H Q => ∃ a b xs, x = .ref a ∧ y = .ref b ∧ SqL K H a xs ∧ SqL K H b [] ∧ Q (.bl (neg != xs.isEmpty)) H
def gNil (neg : Bool) : IV → IV → Sto → R IV := fun x y st => match asL st x, asL st y with
  | some xs, some [] => .ok (.bl (neg != xs.isEmpty)) st
  | _, _ => .bad
section
variable {X : Cx}
theorem op_neNil (hu : X.A.units < cLine) : OpR X (compareOp .NotEq) (rNil X.K true) := by
  intro pins s σ H x y v u Q I rx ry h
  obtain ⟨a, b, xs, rfl, rfl, ha, hb, q⟩ := h
  obtain rfl : v = Value.ref a := rx
  obtain rfl : u = Value.ref b := ry
  obtain ⟨its, rv, p1, _⟩ := I.list ha
  obtain ⟨its2, rv2, p2, _⟩ := I.list hb
  cases rv2
  cases rv with
  | nil =>
    refine SeqAt.RcNeAt.lists (e := fun _ => true) p1.isList p2.isList rfl hu (fun j h1 _ => absurd h1 (by simp)) _ _ _ _ ⟨.bl false, H, I, rfl, q⟩
  | cons r rs =>
    exact SeqAt.RcNeAt.lists_lengths p1.isList p2.isList (by simp) hu _ _ _ _ ⟨.bl true, H, I, rfl, q⟩
theorem op_eqNil (hu : X.A.units < cLine) : OpR X (compareOp .Eq) (rNil X.K false) := by
  intro pins s σ H x y v u Q I rx ry h
  obtain ⟨a, b, xs, rfl, rfl, ha, hb, q⟩ := h
  obtain rfl : v = Value.ref a := rx
  obtain rfl : u = Value.ref b := ry
  obtain ⟨its, rv, p1, _⟩ := I.list ha
  obtain ⟨its2, rv2, p2, _⟩ := I.list hb
  cases rv2
  cases rv with
  | nil =>
    refine SeqAt.RcAt.lists (e := fun _ => true) p1.isList p2.isList rfl hu (fun j h1 _ => absurd h1 (by simp)) _ _ _ _ ⟨.bl true, H, I, rfl, q⟩
  | cons r rs =>
    exact SeqAt.RcAt.lists_lengths p1.isList p2.isList (by simp) hu _ _ _ _ ⟨.bl false, H, I, rfl, q⟩
theorem nil_weak {op : CmpOp} {neg : Bool} (ho : OpR X (compareOp op) (rNil X.K neg)) : OpM X (compareOp op) (gNil neg) := by
  refine ⟨_, ho, fun m bs st H x y x' y' Q W R rx ry h => ?_⟩
  unfold gNil at h
  split at h
  · rename_i xs e1 e2
    obtain ⟨a, vs, ea, h1, r1⟩ := asL_sq R e1 rx
    obtain ⟨b, ws, eb, h2, r2⟩ := asL_sq R e2 ry
    simp only [RVs] at r2
    subst r2
    have ee : vs.isEmpty = xs.isEmpty := by
      have := r1.length
      cases xs <;> cases vs <;> simp_all
    exact ⟨a, b, vs, ea, eb, h1, h2, by rw [ee]; exact h.v R (by simp only [RV])⟩
  · exact h.elim
theorem opm_neNil (hu : X.A.units < cLine) : OpM X (compareOp .NotEq) (gNil true) := nil_weak (op_neNil hu)
theorem opm_eqNil (hu : X.A.units < cLine) : OpM X (compareOp .Eq) (gNil false) := nil_weak (op_eqNil hu)
end
section
variable {X : Cx} {W : WX} {xa : Xa} {a : Expr} {A : IE} {pos : Pos}
/-- a list's slice, kept in the store -/
def iCutS (A : IE) (L U : IO') : IE := fun ρ st => (A ρ st).bind fun x st => (L ρ st).bind fun lo st => (U ρ st).bind fun hi st => match asL st x with
  | some xs => .ok (.ref st.length) (st ++ [.lst (cutI xs lo hi)])
  | none => .bad
theorem me_cutS {lo hi : Option Expr} {L U : IO'} {p2 : Pos} (ha : ME X W xa a A) (hl : MO X W xa lo L) (hh : MO X W xa hi U) : ME X W xa (.Subscript a (.Slice lo hi none p2) pos) (iCutS A L U) := by
  refine PE.weak (pe_slice sl_list ha hl hh) fun σ H Q h => ?_
  obtain ⟨m, os, rs, ρ, st, P, h⟩ := h
  refine ⟨m, os, rs, ρ, st, P, h.bind.mono fun x m1 st1 H1 g1 R1 h1 x' rx => ⟨m1, os, rs, ρ, st1, P.grow g1 R1, h1.bind.mono fun l m2 st2 H2 g2 R2 h2 l' el =>
    ⟨m2, os, rs, ρ, st2, (P.grow g1 R1).grow g2 R2, h2.bind.mono fun u m3 st3 H3 g3 R3 h3 u' eu => ?_⟩⟩⟩
  subst el eu
  have rx3 := RV.fits (g2.trans g3).fitsE _ _ rx
  split at h3
  · rename_i xs e
    obtain ⟨p, vs, ep, hs, r⟩ := asL_sq R3 e rx3
    exact ⟨p, vs, ep, hs, fun q hq => h3.newS (o := .lst (cutI xs l u)) R3 hq fun m' st' H' g e => ⟨_, e, RVs.fits g.fitsE _ _ (cutI_rel r _ _)⟩⟩
  · exact h3.elim
end
end Mi
set_option Elab.async false
set_option linter.all false
set_option maxRecDepth 100000
set_option maxHeartbeats 4000000
/-! what dicts with ints as keys, sets, insert, o.f += e give -/
namespace Mi
open PySem PySem.Spec PyProof.Rows L2
section
variable {ρ : Slots} {st : Sto} {D : Post} {P : IV → Sto → Prop} {E : Str → List (Str × IV) → Sto → Prop} {l : Nat} {kvs : List (Key × IV)} {k : Key} {y x : IV} {ks : List Key}
theorem dicAt_ref (h : st[l]? = some (.dic kvs)) : dicAt st (.ref l) = some kvs := by simp only [dicAt, h]
theorem dicAt_fref (h : st[l]? = some (.fdic kvs)) : dicAt st (.ref l) = some kvs := by simp only [dicAt, h]
theorem isDic_ref (h : st[l]? = some (.dic kvs)) : isDic st (.ref l) = true := by simp only [isDic, dicAt_ref h, Option.isSome]
theorem inK_ref {neg : Bool} (h : st[l]? = some (.dic kvs)) (hk : keyK y = some k) : gInK neg y (.ref l) st = .ok (.bl (if neg then !(valI kvs k).isSome else (valI kvs k).isSome)) st := by
  simp only [gInK, dicAt_ref h, hk]
@[simp] theorem wp_iDGet {A B : IE} : (iDGet A B ρ st).wq P E .mk = (A ρ st).wp (fun x st => if isDic st x = true then (B ρ st).wp (fun y st => match dicAt st x with
  | some kvs => match keyK y with
    | some k => P ((valI kvs k).getD .non) st
    | none => False
  | none => False) E else False) E := by
  unfold iDGet
  simp only [R.wq, wpb]
  congr 1
  funext x st
  split
  · simp only [R.wq, wpb]
    congr 1
    funext y st
    cases dicAt st x with
    | none => rfl
    | some kvs => cases keyK y <;> rfl
  · rfl
@[simp] theorem wp_iDPop {A B : IE} : (iDPop A B ρ st).wq P E .mk = (A ρ st).wp (fun x st => if isDic st x = true then (B ρ st).wp (fun y st => (gDPop x y st).wp P E) E else False) E := by
  unfold iDPop
  simp only [R.wq, wpb]
  congr 1
  funext x st
  split
  · simp only [R.wq, wpb]
  · rfl
theorem dpop_ref {z : IV} (h : st[l]? = some (.dic kvs)) (hk : keyK y = some k) (hv : valI kvs k = some z) : gDPop (.ref l) y st = .ok z (st.set l (.dic (dropD kvs k))) := by simp only [gDPop, h, hk, hv]
@[simp] theorem wp_iDNew : (iDNew ρ st).wq P E .mk = P (.ref st.length) (st ++ [.dic []]) := rfl
@[simp] theorem wp_iSetNew : (iSetNew ρ st).wq P E .mk = P (.ref st.length) (st ++ [.set []]) := rfl
theorem lenD_ref (h : st[l]? = some (.dic kvs)) : gLenD [.ref l] st = .ok (.int kvs.length) st := by simp only [gLenD, dicU, h]
theorem listD_ref (h : st[l]? = some (.dic kvs)) : gListD [.ref l] st = .ok (.lst (kvs.map fun p => kI p.1)) st := by simp only [gListD, dicU, h]
theorem sortI_l {ns : List Int} : gSortI [.lst (ns.map .int)] st = .ok (.lst ((isort ns).map .int)) st := by
  simp only [gSortI, asL, intsI_map]
theorem inS_ref {neg : Bool} (h : st[l]? = some (.set ks)) (hk : keyK y = some k) : gInS neg y (.ref l) st = .ok (.bl (if neg then !hasK ks k else hasK ks k)) st := by
  simp only [gInS, setAt, h, hk]
@[simp] theorem wp_iSAdd {A : IE} {As : IA} : (iSAdd A As ρ st).wq P E .mk = (A ρ st).wp (fun x st => if (setAt st x).isSome = true then (As ρ st).wp (fun xs st => (gSAdd x xs st).wp P E) E else False) E := by
  unfold iSAdd
  simp only [R.wq, wpb]
  congr 1
  funext x st
  split
  · simp only [R.wq, wpb]
  · rfl
theorem sadd_ref (h : st[l]? = some (.set ks)) (hk : keyK y = some k) (hl : ks.length < 4000) : gSAdd (.ref l) [y] st = .ok .non (st.set l (.set (if hasK ks k = true then ks else ks ++ [k]))) := by
  simp only [gSAdd, h, hk, hl, if_true]
theorem ins_ref {xs : List IV} {i : Nat} (h : st[l]? = some (.lst xs)) (hl : xs.length < 100000) (hi : i < 1000000) : gIns (.ref l) [.int i, y] st = .ok .non (st.set l (.lst (xs.take i ++ [y] ++ xs.drop i))) := by
  have c : xs.length < 100000 ∧ (0 : Int) ≤ (i : Int) ∧ (i : Int) < 1000000 := ⟨hl, by omega, by omega⟩
  simp only [gIns, h, c, and_self, if_true, Int.toNat_natCast]
@[simp] theorem wps_tgSubD {A B : IE} {x : IV} {D : Post} : (tgSubD A B x ρ st).wq D .mk = (A ρ st).wp (fun o st1 => (B ρ st1).wp (fun i st2 => match gSetDc o i x st2 with | some st3 => D.nx ρ st3 | none => False) nE) nE := by
  unfold tgSubD RS.wq
  cases A ρ st with
  | ok o st1 =>
    simp only [wpo]
    cases B ρ st1 with
    | ok i st2 => simp only [wpo]; cases gSetDc o i x st2 <;> rfl
    | _ => rfl
  | _ => rfl
@[simp] theorem wps_iDelD {A B : IE} : (iDelD A B ρ st).wq D .mk = (A ρ st).wp (fun x st => (B ρ st).wp (fun y st => (gDelD x y st).wp (fun _ st => D.nx ρ st) (fun c fs st => D.ex c fs ρ st)) (fun c fs st => D.ex c fs ρ st)) (fun c fs st => D.ex c fs ρ st) := by
  unfold iDelD
  simp only [RS.wq, wpsb, wpb]
  rfl
theorem del_ref (h : st[l]? = some (.dic kvs)) (hk : keyK y = some k) (hv : (valI kvs k).isSome = true) : gDelD (.ref l) y st = .ok .non (st.set l (.dic (dropD kvs k))) := by simp only [gDelD, h, hk, hv, if_true]
theorem setDc_ref (h : st[l]? = some (.dic kvs)) (hk : keyK y = some k) (hl : kvs.length < 100000) : gSetDc (.ref l) y x st = some (st.set l (.dic (putD kvs k x))) := by
  simp only [gSetDc, h, hk, hl, if_true]
end
end Mi
set_option Elab.async false
set_option linter.all false
set_option maxRecDepth 100000
set_option maxHeartbeats 4000000
/-! properties, constants of a class, calls of attributes, methods with defaults, walks over dicts, sorted data -/
namespace Mi
open PySem PySem.Spec PyProof.Rows L2
section
variable {ρ : Slots} {st : Sto} {D : Post} {P : IV → Sto → Prop} {E : Str → List (Str × IV) → Sto → Prop} {l : Nat} {kvs : List (Key × IV)}
@[simp] theorem wp_quiet {r : R IV} : (quiet r).wq P E .mk = r.wp P nE := by cases r <;> rfl
@[simp] theorem wp_iProp {c : Str} {F : Fn} {A : IE} : (iProp c F A ρ st).wq P E .mk = (A ρ st).wp (fun x st => match insAt st [c] x with
  | some _ => (F [x] st).wp P nE
  | none => False) E := by
  unfold iProp
  simp only [R.wq, wpb]
  congr 1
  funext x st
  cases insAt st [c] x with
  | none => rfl
  | some p => dsimp only; cases F [x] st <;> rfl
@[simp] theorem wp_iCon {c f : Str} {d : DC} {A : IE} : (iCon c f d A ρ st).wq P E .mk = (A ρ st).wp (fun x st => match insAt st [c] x with
  | some (_, _, fs) => (fs.lookup f).isNone = true ∧ P d.iv st
  | none => False) E := by
  unfold iCon
  simp only [R.wq, wpb]
  congr 1
  funext x st
  cases insAt st [c] x with
  | none => rfl
  | some p =>
    obtain ⟨_, _, fs⟩ := p
    dsimp only
    cases (fs.lookup f).isNone <;> simp [R.wp]
@[simp] theorem wp_iCallA {cs : List Str} {m c : Str} {F : Fn} {A : IE} {As : IA} : (iCallA cs m c F A As ρ st).wq P E .mk = (A ρ st).wp (fun x st => match insAt st cs x with
  | some (_, _, fs) => (match fs.lookup m with
    | some y => (match insAt st [c] y with
      | some _ => (As ρ st).wp (fun args st => match insAt st [c] y with
        | some _ => (F (y :: args) st).wp P E
        | none => False) E
      | none => False)
    | none => False)
  | none => False) E := by
  unfold iCallA
  simp only [R.wq, wpb]
  congr 1
  funext x st
  cases insAt st cs x with
  | none => rfl
  | some p =>
    obtain ⟨_, _, fs⟩ := p
    dsimp only
    cases fs.lookup m with
    | none => rfl
    | some y =>
      dsimp only
      cases insAt st [c] y with
      | none => rfl
      | some q =>
        dsimp only
        simp only [wpb]
        congr 1
        funext args st
        cases insAt st [c] y <;> rfl
@[simp] theorem wp_iMethD {c m : Str} {F : Fn} {np n mm : Nat} {pl : List DSrc} {ds : List DC} {A : IE} {As Ks : IA} : (iMethD c m F np n mm pl ds A As Ks ρ st).wq P E .mk = (A ρ st).wp (fun x st => match insAt st [c] x with
  | some (_, _, fs) => (fs.lookup m).isNone = true ∧ (As ρ st).wp (fun args st => (Ks ρ st).wp (fun zs st => if args.length = n ∧ zs.length = mm then (arity np F (dpick pl (x :: args) (ds.map DC.iv) zs) st).wp P E else False) E) E
  | none => False) E := by
  unfold iMethD
  simp only [R.wq, wpb]
  congr 1
  funext x st
  cases insAt st [c] x with
  | none => rfl
  | some p =>
    obtain ⟨_, _, fs⟩ := p
    dsimp only
    cases (fs.lookup m).isNone with
    | false => simp [R.wp]
    | true =>
      simp only [if_true, wpb, true_and]
      congr 1
      funext args st
      congr 1
      funext zs st
      split <;> rfl
@[simp] theorem wp_iKeysD {A : IE} {P : List IV × GI → Sto → Prop} : (iKeysD A ρ st).wq P E .mk = (A ρ st).wp (fun x st => match x with
  | .ref l => (match st[l]? with
    | some (.fdic kvs) => P (keysI kvs, none) st
    | _ => False)
  | _ => False) E := by
  unfold iKeysD
  simp only [R.wq, wpb]
  congr 1
  funext x st
  cases x with
  | ref l => dsimp only; split <;> simp_all [R.wp]
  | _ => rfl
theorem wps_lock {A : IE} {B : IS} {st0 : Sto} (hA : A ρ st = .ok (.ref l) st0) (h : st[l]? = some (.dic kvs))
    (hB : (B ρ (st.set l (.fdic kvs))).wp ⟨fun ρ1 st1 => ∃ k1, st1[l]? = some (.fdic k1) ∧ D.nx ρ1 (st1.set l (.dic k1)), fun v st1 => ∃ k1, st1[l]? = some (.fdic k1) ∧ D.rt v (st1.set l (.dic k1)),
      fun ρ1 st1 => ∃ k1, st1[l]? = some (.fdic k1) ∧ D.bk ρ1 (st1.set l (.dic k1)), fun ρ1 st1 => ∃ k1, st1[l]? = some (.fdic k1) ∧ D.ct ρ1 (st1.set l (.dic k1)), fun _ _ _ _ => False⟩) : (iLockS A B ρ st).wp D := by
  unfold iLockS
  rw [hA]
  simp only [h]
  cases q : B ρ (st.set l (.fdic kvs)) with
  | nx ρ1 st1 => rw [q] at hB; obtain ⟨k1, e1, e2⟩ := hB; simp only [RS.unlk, unlk, e1]; exact e2
  | rt v st1 => rw [q] at hB; obtain ⟨k1, e1, e2⟩ := hB; simp only [RS.unlk, unlk, e1]; exact e2
  | bk ρ1 st1 => rw [q] at hB; obtain ⟨k1, e1, e2⟩ := hB; simp only [RS.unlk, unlk, e1]; exact e2
  | ct ρ1 st1 => rw [q] at hB; obtain ⟨k1, e1, e2⟩ := hB; simp only [RS.unlk, unlk, e1]; exact e2
  | exc c fs ρ1 st1 => rw [q] at hB; exact hB.elim
  | bad => rw [q] at hB; exact hB.elim
theorem wp_lockF {A : IE} {B : IA} {st0 : Sto} {P : List IV → Sto → Prop} (hA : A ρ st = .ok (.ref l) st0) (h : st[l]? = some (.dic kvs))
    (hB : (B ρ (st.set l (.fdic kvs))).wp (fun xs st1 => ∃ k1, st1[l]? = some (.fdic k1) ∧ P xs (st1.set l (.dic k1))) nE) : (iLockF A B ρ st).wp P E := by
  unfold iLockF
  rw [hA]
  simp only [h]
  cases q : B ρ (st.set l (.fdic kvs)) with
  | ok xs st1 => rw [q] at hB; obtain ⟨k1, e1, e2⟩ := hB; simp only [unlk, e1]; exact e2
  | exc c fs st1 => rw [q] at hB; exact hB.elim
  | bad => rw [q] at hB; exact hB.elim
@[simp] theorem wps_tgUnl {n : Nat} {Ts : ITgs} {x : IV} : (tgUnl n Ts x ρ st).wq D .mk = match asL st x with
  | some xs => if xs.length = n then (Ts xs ρ st).wp D else False
  | none => False := by
  unfold tgUnl RS.wq
  cases asL st x with
  | none => rfl
  | some xs => dsimp only; split <;> rfl
theorem asL_ref {xs : List IV} (h : st[l]? = some (.lst xs)) : asL st (.ref l) = some xs := by simp [asL, h]
theorem nil_ref {neg : Bool} {xs : List IV} (h : st[l]? = some (.lst xs)) : gNil neg (.ref l) (.lst []) st = .ok (.bl (neg != xs.isEmpty)) st := by
  have e := asL_ref h
  have e2 : asL st (.lst []) = some [] := rfl
  unfold gNil
  rw [e, e2]
@[simp] theorem wp_iCutS {A : IE} {L U : IO'} : (iCutS A L U ρ st).wq P E .mk = (A ρ st).wp (fun x st => (L ρ st).wp (fun lo st => (U ρ st).wp (fun hi st => match asL st x with
  | some xs => P (.ref st.length) (st ++ [.lst (cutI xs lo hi)])
  | none => False) E) E) E := by
  unfold iCutS
  simp only [R.wq, wpb]
  congr 1; funext x st
  congr 1; funext lo st
  congr 1; funext hi st
  cases asL st x <;> rfl
theorem wps_fldAug {cs : List Str} {f : Str} {A B : IE} (h : (A ρ st).wp (fun x st => ∃ l c fs i, insAt st cs x = some (l, c, fs) ∧ fs.lookup f = some (.int i) ∧ (B ρ st).wp (fun y st1 => ∃ j fs', y = .int j ∧ insAt st1 cs x = some (l, c, fs') ∧ fs'.length < 1000 ∧ D.nx ρ (st1.set l (.ins c (putI f (.int (i + j)) fs')))) nE) nE) : (iFldAug cs f A B ρ st).wp D := by
  unfold iFldAug
  cases q : A ρ st with
  | ok x st1 =>
    rw [q] at h
    obtain ⟨l, c, fs, i, e1, e2, h⟩ := h
    simp only [R.bind, e1, e2]
    cases q2 : B ρ st1 with
    | ok y st2 =>
      rw [q2] at h
      obtain ⟨j, fs', rfl, e3, e4, h⟩ := h
      simp only [e3, e4, and_self, if_true]
      exact h
    | exc c fs st2 => rw [q2] at h; exact h.elim
    | bad => rw [q2] at h; exact h.elim
  | exc c fs st1 => rw [q] at h; exact h.elim
  | bad => rw [q] at h; exact h.elim
theorem wps_fldSub {cs : List Str} {f : Str} {A B : IE} (h : (A ρ st).wp (fun x st => ∃ l c fs i, insAt st cs x = some (l, c, fs) ∧ fs.lookup f = some (.int i) ∧ (B ρ st).wp (fun y st1 => ∃ j fs', y = .int j ∧ insAt st1 cs x = some (l, c, fs') ∧ fs'.length < 1000 ∧ D.nx ρ (st1.set l (.ins c (putI f (.int (i - j)) fs')))) nE) nE) : (iFldSub cs f A B ρ st).wp D := by
  unfold iFldSub
  cases q : A ρ st with
  | ok x st1 =>
    rw [q] at h
    obtain ⟨l, c, fs, i, e1, e2, h⟩ := h
    simp only [R.bind, e1, e2]
    cases q2 : B ρ st1 with
    | ok y st2 =>
      rw [q2] at h
      obtain ⟨j, fs', rfl, e3, e4, h⟩ := h
      simp only [e3, e4, and_self, if_true]
      exact h
    | exc c fs st2 => rw [q2] at h; exact h.elim
    | bad => rw [q2] at h; exact h.elim
  | exc c fs st1 => rw [q] at h; exact h.elim
  | bad => rw [q] at h; exact h.elim
end
/-! ### the store behind a change -/
section
variable {st : Sto} {l k : Nat} {o : IO} {c : Str} {fs : List (Str × IV)} {cs : List Str}
theorem insAt_set (h : l < st.length) (hc : c ∈ cs) : insAt (st.set l (.ins c fs)) cs (.ref l) = some (l, c, fs) := insAt_ref (List.getElem?_set_self h) hc
theorem insAt_ne (h : l ≠ k) : insAt (st.set l o) cs (.ref k) = insAt st cs (.ref k) := by
  simp only [insAt]
  rw [List.getElem?_set_ne h]
theorem insAt_app {os : Sto} (h : k < st.length) : insAt (st ++ os) cs (.ref k) = insAt st cs (.ref k) := by
  simp only [insAt]
  rw [List.getElem?_append_left h]
end
end Mi
set_option Elab.async false
set_option linter.all false
set_option maxRecDepth 100000
set_option maxHeartbeats 4000000
namespace K47
open PySem PySem.Spec PyProof.Rows L2 Mi PySem.W
/-! ### what a cursor's functions do -/
def hiE (c : Cu) : Sd := match c.es.getLast? with
  | some e => (0, some e.pl)
  | none => c.high
def standE (c : Cu) : Option En := if 0 ≤ c.ix ∧ c.ix < c.es.length then c.es[c.ix.toNat]? else none
def emptyC (c : Cu) (s : Int) : Cu := { c with es := [], ix := -1, low := (s, none), high := (s, none) }
def foundOn (dc : Dc) (rows : List Rw) (c : Cu) : List En :=
  let f := if (hiE c).1 = 1 then [] else readE dc rows (hiE c).2 none
  if c.many = 0 then f else f.take c.many.toNat
def stepOn (dc : Dc) (rows : List Rw) (c : Cu) : Cu :=
  if c.ix + 1 < c.es.length then { c with ix := c.ix + 1 }
  else if c.full = true then { c with ix := c.es.length }
  else if foundOn dc rows c = [] then emptyC c 1 else { c with es := foundOn dc rows c, ix := 0 }
section
variable {ow : Ow} {st : Sto} {cs : List IV} {dc : Dc} {d : Db} {b lk lw lp lc ld ls r lq : Nat} {lo hi : IV} {a0 b0 : Option Rk} {P : IV → Sto → Prop} {E : Str → List (Str × IV) → Sto → Prop} {c : Cu} {rs : List Nat} {Q : Sto → Prop} {its : List (Nat × Int)} {way : Int}
theorem CuAt.rl (h : CuAt ow st its way r rs lo hi c) : rs.length = c.es.length := h.hes.len
/-- what a change of the cursor at r leaves -/
def CK (ow : Ow) (st : Sto) (dc : Dc) (r : Nat) (c : Cu) (Q : Sto → Prop) : Prop := ∀ ow' st' rs' lo' hi', Xt ow st (fun k => k = r + 1) ow' st' → CuAt ow' st' dc.its dc.way r rs' lo' hi' c → Q st'
theorem standing_ok (h : CuAt ow st its way r rs lo hi c) (kN : standE c = none → P .non st) (kS : ∀ e q, standE c = some e → c.es[c.ix.toNat]? = some e → rs[c.ix.toNat]? = some q → EnAt ow (r + 1) st its way q e → P (.ref q) st) : (F_P_Cursor_standing [.ref r] st).wp P E := by
  have hl := h.rl
  simp [F_P_Cursor_standing, B_P_Cursor_standing, h.ins]
  by_cases g : 0 ≤ c.ix ∧ c.ix < c.es.length
  · have g' : 0 ≤ c.ix ∧ c.ix < (rs.length : Int) := by omega
    have e1 : standE c = c.es[c.ix.toNat]? := if_pos g
    have hi' : c.ix.toNat < c.es.length := by omega
    obtain ⟨q, hq, he⟩ := EnsAt.get h.hes (List.getElem?_eq_getElem hi')
    have at1 : atI (refs rs) c.ix = some (.ref q) := by
      have : atI (refs rs) ((c.ix.toNat : Nat) : Int) = some (.ref q) := atI_at (by unfold refs; rw [List.getElem?_map, hq]; rfl)
      rwa [show ((c.ix.toNat : Nat) : Int) = c.ix by omega] at this
    simp [g', h.ins, at1]
    exact kS _ q (e1.trans (List.getElem?_eq_getElem hi')) (List.getElem?_eq_getElem hi') hq he
  · have g' : ¬ (0 ≤ c.ix ∧ c.ix < (rs.length : Int)) := by omega
    have e1 : standE c = none := if_neg g
    by_cases g0 : 0 ≤ c.ix
    · have g1 : ¬ c.ix < (rs.length : Int) := fun z => g' ⟨g0, z⟩
      simp [g0, g1]
      exact kN e1
    · simp [g0]
      exact kN e1
theorem high_edge_ok (h : CuAt ow st its way r rs lo hi c) (k : ∀ w, BdO ow its way st w (hiE c).2 → P (.tup [.int (hiE c).1, w]) st) : (F_P_Cursor_high_edge [.ref r] st).wp P E := by
  have hl := h.rl
  simp [F_P_Cursor_high_edge, B_P_Cursor_high_edge, h.ins]
  rcases List.eq_nil_or_concat c.es with e | ⟨es', e, ee⟩
  · have : rs = [] := List.length_eq_zero_iff.mp (by rw [hl, e]; rfl)
    subst this
    obtain ⟨w, ew, hb⟩ := h.hhi
    have eh : hiE c = c.high := by unfold hiE; rw [e]; rfl
    simp [truI, h.ins]
    rw [ew, ← eh]
    exact k w (by rw [eh]; exact hb)
  · rw [List.concat_eq_append] at ee
    have hi' : c.es.length - 1 < c.es.length := by rw [ee]; simp
    have ge : c.es[c.es.length - 1]? = some e := by rw [ee]; simp
    obtain ⟨q, hq, lq, h1, h2⟩ := EnsAt.get h.hes ge
    have eh : hiE c = (0, some e.pl) := by unfold hiE; rw [ee]; simp
    have el : rs = rs.take (c.es.length - 1) ++ [q] := by
      have t : rs.take (c.es.length - 1 + 1) = rs := List.take_of_length_le (by rw [hl]; omega)
      rw [List.take_add_one, hq] at t
      exact t.symm
    have at1 : atI (refs rs) (-1) = some (.ref q) := by
      rw [el]; unfold refs; rw [List.map_append]; exact atI_last
    have tr : truI st (.lst (refs rs)) = some true := by
      have : (refs rs).length = c.es.length := by rw [refs_len, hl]
      rw [el] at this ⊢
      simp [truI, asL, refs]
    simp [tr, h.ins, at1, EnAt.ins h1]
    have := k (.ref lq) (by rw [eh]; exact ⟨lq, rfl, h2⟩)
    rw [eh] at this
    exact this
theorem empty_at_ok {s : Int} (h : CuAt ow st dc.its dc.way r rs lo hi c) (k : CK ow st dc r (emptyC c s) (P .non)) : (F_P_Cursor_empty_at [.ref r, .int s] st).wp P E := by
  have hr := h.hc.lt
  have iset : ∀ fs, insAt (st.set r (.ins "Cursor" fs)) [("Cursor" : Str)] (.ref r) = some (r, ("Cursor" : Str), fs) := fun fs => insAt_set hr List.mem_cons_self
  have w0 : ∀ (c : Cu) rs lo hi, putI "window" (.lst []) (cuF c rs lo hi) = cuF c [] lo hi := fun c rs lo hi => cu_put_window (x := [])
  simp [F_P_Cursor_empty_at, B_P_Cursor_empty_at, h.ins, iset, w0]
  refine k ow _ [] (.tup [.int s, .non]) (.tup [.int s, .non]) (xt_set h.hc.1 rfl) (h.putW (c' := emptyC c s) trivial (by simp) ⟨_, rfl, rfl⟩ ⟨_, rfl, rfl⟩)
end
end K47
set_option Elab.async false
set_option linter.all false
set_option maxRecDepth 100000
set_option maxHeartbeats 4000000
namespace K47
open PySem PySem.Spec PyProof.Rows L2 Mi PySem.W
theorem cutI_to {α : Type} {xs : List α} {k : Int} (h : 0 ≤ k) : cutI xs none (some k) = xs.take k.toNat := by
  unfold cutI
  have e : HT.sIx xs.length 0 none = 0 := rfl
  have e2 : HT.sIx xs.length xs.length (some k) = min k.toNat xs.length := by
    simp only [HT.sIx]
    rw [if_neg (by omega)]
  rw [e, e2, List.drop_zero, Nat.sub_zero]
  rcases Nat.le_total k.toNat xs.length with h | h
  · rw [Nat.min_eq_left h]
  · rw [Nat.min_eq_right h, List.take_of_length_le h, List.take_of_length_le (Nat.le_refl _)]
def rowOf (rows : List Rw) (n : Int) : Option Rw := rows.find? fun w => decide (w.name = n)
theorem valI_rows {n : Int} : ∀ {rows : List Rw}, valI (rows.map rwI) (.inl n) = (rowOf rows n).map rwV
  | [] => rfl
  | r :: rows => by
    have ih := valI_rows (n := n) (rows := rows)
    unfold valI rowOf at ih ⊢
    rw [List.map_cons, List.find?_cons, List.find?_cons]
    by_cases c : r.name = n
    · subst c; simp [rwI]
    · have : ¬ ((Sum.inl r.name : Key) = .inl n) := fun z => c (Sum.inl.inj z)
      simp only [rwI, this, c, decide_false]
      exact ih
theorem rowOf_mem {rows : List Rw} {n : Int} {w : Rw} (h : rowOf rows n = some w) : w ∈ rows ∧ w.name = n := ⟨List.mem_of_find?_eq_some h, by have := List.find?_some h; simpa using this⟩
def stepOnU : IS := (iIfS (iTru (iVar 3))
            (iSeq (iStFld ["Cursor"] "window" (iVar 0) (iVar 3))
            (iStFld ["Cursor"] "index" (iVar 0) (iC (.int 0))))
            (iDrop (iMeth "Cursor" "empty_at" (arity 2 F_P_Cursor_empty_at) (iVar 0) (iCons (iC (.int 1)) iNil))))
def stepOnT : IS := (iSeq (iIfS (iTest (iBin gNe (iFld ["Cursor"] "many" (iVar 0)) (iCon "Declaration" "ALL" (.int 0) (iFld ["Cursor"] "declaration" (iVar 0)))))
            (iSet 3 (iCut (iVar 3) iNoPart (iPart (iFld ["Cursor"] "many" (iVar 0)))))
            iSkip)
            stepOnU)
theorem step_on_split : B_P_Cursor_step_on = (iSeq (iIfS (iTest (iBin gLt (iBin gAdd (iFld ["Cursor"] "index" (iVar 0)) (iC (.int 1))) (iCallB gLen (iCons (iFld ["Cursor"] "window" (iVar 0)) iNil))))
  (iSeq (iFldAug ["Cursor"] "index" (iVar 0) (iC (.int 1)))
  iRetN)
  iSkip)
  (iSeq (iIfS (iTest (iFld ["Cursor"] "full_now" (iVar 0)))
  (iSeq (iStFld ["Cursor"] "index" (iVar 0) (iCallB gLen (iCons (iFld ["Cursor"] "window" (iVar 0)) iNil)))
  iRetN)
  iSkip)
  (iSeq (iAsg (iMeth "Cursor" "high_edge" (arity 1 F_P_Cursor_high_edge) (iVar 0) iNil) (tgTup 2 (tgCons (tgName 1) (tgCons (tgName 2) tgNil))))
  (iSeq (iSet 3 (iIf (iTest (iBin gEq (iVar 1) (iC (.int 1)))) (iLst iNil) (iMeth "Cursor" "read_rows" (arity 3 F_P_Cursor_read_rows) (iVar 0) (iCons (iVar 2) (iCons (iC .non) iNil)))))
  stepOnT)))) := rfl
@[simp] theorem dc_int {i : Int} : (DC.int i).iv = .int i := rfl
def rowV : Option Rw → IV
  | some w => .tup w.vs
  | none => .non
def stampV : Option Rw → IV
  | some w => .tup [.int w.life, .int w.last]
  | none => .non
def setE (c : Cu) (e : En) : Cu := { c with es := c.es.set c.ix.toNat e }
def tellC (dc : Dc) (rows : List Rw) (c : Cu) : Cu := match standE c with
  | none => c
  | some e => if dc.copied = false then (match rowOf rows e.name with
      | none => c
      | some w => { setE c { e with vs := w.vs, life := w.life, last := w.last } with row := true })
    else if e.hol = true then c else { c with row := true }
def toldV (dc : Dc) (rows : List Rw) (c : Cu) : IV := match standE c with
  | none => .non
  | some e => if dc.copied = false then (match rowOf rows e.name with
      | none => .tup [.int e.name, .non]
      | some w => .tup [.int e.name, .tup w.vs])
    else if e.hol = true then .tup [.int e.name, .non] else .tup [.int e.name, .tup e.vs]
section
variable {ow : Ow} {st : Sto} {cs : List IV} {dc : Dc} {d : Db} {b lk lw lp lc ld ls r lq : Nat} {lo hi : IV} {a0 b0 : Option Rk} {P : IV → Sto → Prop} {E : Str → List (Str × IV) → Sto → Prop} {c : Cu} {rs : List Nat} {Q : Sto → Prop} {its : List (Nat × Int)} {way : Int} {q i : Nat} {e e' : En}
theorem xt_own {p k : Nat} {o : Mi.IO} (h : ow p = k) : Xt ow st (fun z => z = k) ow (st.set p o) := xt_set h rfl
theorem CuAt.neB (h : CuAt ow st its way r rs lo hi c) (hD : DbAt ow st b lk lw lp lc d) : r ≠ b := by
  rintro rfl
  have := h.hc.2.symm.trans hD.hb.2
  injection this with this
  injection this with z1 z2
  exact absurd z1 (by decide +kernel)
theorem CuAt.neE (h : CuAt ow st its way r rs lo hi c) {k : Nat} (he : EnAt ow k st its way q e) : q ≠ r := by
  rintro rfl
  obtain ⟨lp, h1, _⟩ := he
  have := h.hc.2.symm.trans h1.2
  injection this with this
  injection this with z1 z2
  exact absurd z1 (by decide +kernel)
/-- an entry of the window is stored anew -/
theorem CuAt.setE (h : CuAt ow st its way r rs lo hi c) (hq : rs[c.ix.toNat]? = some q) {lp : Nat} (hp : PlO ow lp its way e'.pl st) (ho : ow q = r + 1) (hne : q ≠ r) : CuAt ow (st.set q (.ins "Entry" (enF e' lp))) its way r rs lo hi (setE c e') := by
  have x : Xt ow st (fun k => k = r + 1) ow (st.set q (.ins "Entry" (enF e' lp))) := xt_set ho rfl
  have n0 : ¬ (0 : Nat) = r + 1 := by omega
  exact ⟨h.hc.setN hne, EnsAt.set (by omega) h.hes h.nd hq hp, h.nd, h.hlo.xt x n0, h.hhi.xt x n0⟩
theorem row_ok {n : Int} (hD : DbAt ow st b lk lw lp lc d) (k : P (rowV (rowOf d.rows n)) st) : (F_P_Database_row [.ref b, .int n] st).wp P E := by
  have v := valI_rows (n := n) (rows := d.rows)
  have in1 : gInK false (.int n) (.ref lk) st = .ok (.bl (valI (d.rows.map rwI) (.inl n)).isSome) st := by rw [inK_ref hD.hk.2 (k := .inl n) rfl]; rfl
  simp [F_P_Database_row, B_P_Database_row, hD.ins, in1, v]
  cases q : rowOf d.rows n with
  | none => rw [q] at k; simp; exact k
  | some w =>
    rw [q] at k v
    have ix1 : gIxK (.ref lk) (.int n) st = .ok (rwV w) st := by simp only [gIxK, dicAt_ref hD.hk.2, keyK, v]; rfl
    simp [hD.ins, ix1, rwV]
    exact k
theorem stamp_any {n : Int} (hD : DbAt ow st b lk lw lp lc d) (k : P (stampV (rowOf d.rows n)) st) : (F_P_Database_stamp [.ref b, .int n] st).wp P E := by
  have v := valI_rows (n := n) (rows := d.rows)
  have in1 : gInK false (.int n) (.ref lk) st = .ok (.bl (valI (d.rows.map rwI) (.inl n)).isSome) st := by rw [inK_ref hD.hk.2 (k := .inl n) rfl]; rfl
  simp [F_P_Database_stamp, B_P_Database_stamp, hD.ins, in1, v]
  cases q : rowOf d.rows n with
  | none => rw [q] at k; simp; exact k
  | some w =>
    rw [q] at k v
    have ix1 : gIxK (.ref lk) (.int n) st = .ok (rwV w) st := by simp only [gIxK, dicAt_ref hD.hk.2, keyK, v]; rfl
    simp [hD.ins, ix1, rwV]
    exact k
theorem step_on_ok (hc : CuAt ow st dc.its dc.way r rs lo hi c) (hD : DbAt ow st c.db lk lw lp lc d) (hd : DcAt ow st c.ld cs dc) (g : Good cs) (hr : RwsOk cs d.rows) (hm : 0 ≤ c.many)
    (k : CK ow st dc r (stepOn dc d.rows c) (P .non)) : (F_P_Cursor_step_on [.ref r] st).wp P E := by
  have hl := hc.rl
  have rlt := hc.hc.lt
  have iset : ∀ fs, insAt (st.set r (.ins "Cursor" fs)) [("Cursor" : Str)] (.ref r) = some (r, ("Cursor" : Str), fs) := fun fs => insAt_set rlt List.mem_cons_self
  rw [F_P_Cursor_step_on, step_on_split]
  simp [hc.ins]
  by_cases c1 : c.ix + 1 < c.es.length
  · have c1' : c.ix + 1 < (rs.length : Int) := by omega
    have es : stepOn dc d.rows c = { c with ix := c.ix + 1 } := if_pos c1
    rw [es] at k
    simp [c1']
    refine wps_fldAug ?_
    simp [hc.ins]
    refine ⟨r, _, _, ⟨rfl, rfl, rfl⟩, c.ix, cu_lk_index, _, ⟨rfl, rfl, rfl⟩, cu_len, ?_⟩
    rw [cu_put_index]
    exact k ow _ rs lo hi (xt_set hc.hc.1 rfl) (hc.put (c' := { c with ix := c.ix + 1 }) rfl hc.hlo hc.hhi)
  · have c1' : ¬ c.ix + 1 < (rs.length : Int) := by omega
    simp [c1', hc.ins]
    by_cases c2 : c.full = true
    · have es : stepOn dc d.rows c = { c with ix := c.es.length } := by unfold stepOn; rw [if_neg c1, if_pos c2]
      rw [es] at k
      simp [c2, hc.ins]
      have := k ow _ rs lo hi (xt_set hc.hc.1 rfl) (hc.put (c' := { c with ix := c.es.length }) rfl hc.hlo hc.hhi)
      rw [← hl] at this
      simp only [c2] at this
      exact this
    · have es : stepOn dc d.rows c = if foundOn dc d.rows c = [] then emptyC c 1 else { c with es := foundOn dc d.rows c, ix := 0 } := by unfold stepOn; rw [if_neg c1, if_neg c2]
      simp [c2]
      refine high_edge_ok hc fun w hw => ?_
      simp [hc.ins]
      have tail : ∀ (ow1 : Ow) (st1 : Sto) (rs1 : List Nat), Xt ow st none0 ow1 st1 → EnsAt ow1 (r + 1) st1 dc.its dc.way rs1 (if (hiE c).1 = 1 then [] else readE dc d.rows (hiE c).2 none) → rs1.Nodup →
          (stepOnT [some (.v (.ref r)), some (.v (.int (hiE c).1)), some (.v w), some (.v (.lst (refs rs1)))] st1).wp ⟨fun _ st => P .non st, P, fun _ _ => False, fun _ _ => False, fun c fs _ st => E c fs st⟩ := by
        intro ow1 st1 rs1 x1 e1 nd1
        have hc1 := hc.xt x1 id id
        have hd1 := hd.xt x1 id
        have r1 := hc1.hc.lt
        have iset1 : ∀ fs, insAt (st1.set r (.ins "Cursor" fs)) [("Cursor" : Str)] (.ref r) = some (r, ("Cursor" : Str), fs) := fun fs => insAt_set r1 List.mem_cons_self
        have fin : ∀ (rs2 : List Nat) (ρ : Slots), EnsAt ow1 (r + 1) st1 dc.its dc.way rs2 (foundOn dc d.rows c) → rs2.Nodup → 
            (stepOnU [some (.v (.ref r)), some (.v (.int (hiE c).1)), some (.v w), some (.v (.lst (refs rs2)))] st1).wp ⟨fun _ st => P .non st, P, fun _ _ => False, fun _ _ => False, fun c fs _ st => E c fs st⟩ := by
          intro rs2 _ e2 nd2
          have l2 := e2.len
          cases rs2 with
          | nil =>
            have fe : foundOn dc d.rows c = [] := List.length_eq_zero_iff.mp (by rw [← l2]; rfl)
            rw [es, if_pos fe] at k
            rw [stepOnU]
            simp [truI, asS, asL, hc1.ins]
            refine empty_at_ok hc1 fun ow2 st2 rs2 lo2 hi2 x2 h2 => ?_
            exact k ow2 st2 rs2 lo2 hi2 ((x1.mono fun _ z => z.elim).trans x2) h2
          | cons q rs2 =>
            have fe : ¬ foundOn dc d.rows c = [] := fun z => by rw [z] at l2; simp at l2
            rw [es, if_neg fe] at k
            have tr : truI st1 (.lst (refs (q :: rs2))) = some true := rfl
            rw [stepOnU]
            simp [tr, hc1.ins, iset1]
            exact k ow1 _ (q :: rs2) lo hi ((x1.mono fun _ z => z.elim).trans (xt_set hc1.hc.1 rfl)) (hc1.putW (c' := { c with es := foundOn dc d.rows c, ix := 0 }) e2 nd2 hc1.hlo hc1.hhi)
        rw [stepOnT]
        simp [hc1.ins, hd1.ins]
        by_cases c3 : c.many = 0
        · simp [c3]
          refine fin rs1 [] ?_ nd1
          have : foundOn dc d.rows c = if (hiE c).1 = 1 then [] else readE dc d.rows (hiE c).2 none := by unfold foundOn; rw [if_pos c3]
          rw [this]; exact e1
        · simp [c3, hc1.ins, cutI_to hm]
          have := fin (rs1.take c.many.toNat) [] (by
            have : foundOn dc d.rows c = (if (hiE c).1 = 1 then [] else readE dc d.rows (hiE c).2 none).take c.many.toNat := by unfold foundOn; rw [if_neg c3]
            rw [this]; exact EnsAt.take _ e1) (nd1.sublist (List.take_sublist _ _))
          unfold refs at this ⊢
          rw [List.map_take] at this
          exact this
      by_cases c4 : (hiE c).1 = 1
      · simp [c4]
        have := tail ow st [] .refl (by rw [if_pos c4]; trivial) List.nodup_nil
        rw [c4] at this
        exact this
      · simp [c4, hc.ins]
        refine read_ok hc.hc hD hd g hr hw (b0 := none) rfl fun ow1 st1 rs1 x1 e1 nd1 _ => ?_
        simp
        exact tail ow1 st1 rs1 x1 (by rw [if_neg c4]; exact e1) nd1
theorem tell_ok (hc : CuAt ow st dc.its dc.way r rs lo hi c) (hD : DbAt ow st c.db lk lw lp lc d) (hd : DcAt ow st c.ld cs dc)
    (k : CK ow st dc r (tellC dc d.rows c) (P (toldV dc d.rows c))) : (F_P_Cursor_tell [.ref r] st).wp P E := by
  have rlt := hc.hc.lt
  simp [F_P_Cursor_tell, B_P_Cursor_tell, hc.ins]
  refine standing_ok hc (fun e => ?_) (fun e q he hs hq hE => ?_)
  · have e1 : tellC dc d.rows c = c := by unfold tellC; rw [e]
    have e2 : toldV dc d.rows c = .non := by unfold toldV; rw [e]
    rw [e1, e2] at k
    simp [Mi.isNon]
    exact k ow st rs lo hi .refl hc
  · obtain ⟨lq, hE1, hE2⟩ := hE
    have hqr := hc.neE ⟨lq, hE1, hE2⟩
    have qlt := hE1.lt
    simp [Mi.isNon, hc.ins, hd.ins, hD.ins, EnAt.ins hE1]
    cases cp : dc.copied with
    | false =>
      simp
      refine row_ok hD ?_
      cases w0 : rowOf d.rows e.name with
      | none =>
        have e1 : tellC dc d.rows c = c := by unfold tellC; rw [he]; simp [cp, w0]
        have e2 : toldV dc d.rows c = .tup [.int e.name, .non] := by unfold toldV; rw [he]; simp [cp, w0]
        rw [e1, e2] at k
        simp [rowV, Mi.isNon, EnAt.ins hE1]
        exact k ow st rs lo hi .refl hc
      | some w =>
        have e1 : tellC dc d.rows c = { setE c { e with vs := w.vs, life := w.life, last := w.last } with row := true } := by unfold tellC; rw [he]; simp [cp, w0]
        have e2 : toldV dc d.rows c = .tup [.int e.name, .tup w.vs] := by unfold toldV; rw [he]; simp [cp, w0]
        rw [e1, e2] at k
        -- the entry's values
        have x1 : Xt ow st (fun k => k = r + 1) ow (st.set q (.ins "Entry" (enF { e with vs := w.vs } lq))) := xt_set hE1.1 rfl
        have n0 : ¬ (0 : Nat) = r + 1 := by omega
        have nb : ¬ (c.db + 1) = r + 1 := fun z => (hc.neB hD) (by omega)
        have hD1 := hD.xt x1 nb
        have cin : insAt (st.set q (.ins "Entry" (enF { e with vs := w.vs } lq))) [("Cursor" : Str)] (.ref r) = some (r, ("Cursor" : Str), cuF c rs lo hi) := by rw [insAt_ne hqr]; exact hc.ins
        have eset : ∀ fs, insAt (st.set q (.ins "Entry" fs)) [("Entry" : Str)] (.ref q) = some (q, ("Entry" : Str), fs) := fun fs => insAt_set qlt List.mem_cons_self
        simp [rowV, Mi.isNon, EnAt.ins hE1, eset, cin, hD1.ins]
        refine stamp_any hD1 ?_
        have pm : ∀ f : En, putI "mark" (.tup [.int w.life, .int w.last]) (enF f lq) = enF { f with life := w.life, last := w.last } lq := fun f => en_put_mark (x := (w.life, w.last))
        have hc2 : CuAt ow (st.set q (.ins "Entry" (enF { e with vs := w.vs, life := w.life, last := w.last } lq))) dc.its dc.way r rs lo hi (setE c { e with vs := w.vs, life := w.life, last := w.last }) := hc.setE hq (e' := { e with vs := w.vs, life := w.life, last := w.last }) hE2 hE1.1 hqr
        have rlt2 := hc2.hc.lt
        have cin2 : insAt (st.set q (.ins "Entry" (enF { e with vs := w.vs, life := w.life, last := w.last } lq))) [("Cursor" : Str)] (.ref r) = some (r, ("Cursor" : Str), cuF c rs lo hi) := by rw [insAt_ne hqr]; exact hc.ins
        have hc3 := hc2.put (c' := { setE c { e with vs := w.vs, life := w.life, last := w.last } with row := true }) rfl hc2.hlo hc2.hhi
        have ein3 : insAt ((st.set q (.ins "Entry" (enF { e with vs := w.vs, life := w.life, last := w.last } lq))).set r (.ins "Cursor" (cuF { c with row := true } rs lo hi))) [("Entry" : Str)] (.ref q) = some (q, ("Entry" : Str), enF { e with vs := w.vs, life := w.life, last := w.last } lq) := by
          rw [insAt_ne (Ne.symm hqr)]; exact eset _
        simp [stampV, w0, eset, pm, cin2, ein3]
        exact k ow _ rs lo hi ((xt_own hE1.1).trans (xt_own hc2.hc.1)) hc3
    | true =>
      simp
      cases hh : e.hol with
      | true =>
        have e1 : tellC dc d.rows c = c := by unfold tellC; rw [he]; simp [cp, hh]
        have e2 : toldV dc d.rows c = .tup [.int e.name, .non] := by unfold toldV; rw [he]; simp [cp, hh]
        rw [e1, e2] at k
        simp [EnAt.ins hE1]
        exact k ow st rs lo hi .refl hc
      | false =>
        have e1 : tellC dc d.rows c = { c with row := true } := by unfold tellC; rw [he]; simp [cp, hh]
        have e2 : toldV dc d.rows c = .tup [.int e.name, .tup e.vs] := by unfold toldV; rw [he]; simp [cp, hh]
        rw [e1, e2] at k
        have ein3 : insAt (st.set r (.ins "Cursor" (cuF { c with row := true } rs lo hi))) [("Entry" : Str)] (.ref q) = some (q, ("Entry" : Str), enF e lq) := by
          rw [insAt_ne (Ne.symm hqr)]; exact EnAt.ins hE1
        simp [hc.ins, ein3]
        exact k ow _ rs lo hi (xt_set hc.hc.1 rfl) (hc.put (c' := { c with row := true }) rfl hc.hlo hc.hhi)
def nextC (dc : Dc) (rows : List Rw) (c : Cu) : Cu := tellC dc rows (stepOn dc rows { c with row := false })
theorem mvs (x : Str) : ¬ ("next" : Str) = "here" ∧ ¬ ("next" : Str) = "relative" ∧ ("next" : Str) = "next" := by decide +kernel
theorem stepOn_same (dc : Dc) (rows : List Rw) (c : Cu) : (stepOn dc rows c).ld = c.ld ∧ (stepOn dc rows c).db = c.db ∧ (stepOn dc rows c).shut = c.shut ∧ (stepOn dc rows c).many = c.many := by
  unfold stepOn emptyC
  split
  · exact ⟨rfl, rfl, rfl, rfl⟩
  · split
    · exact ⟨rfl, rfl, rfl, rfl⟩
    · split <;> exact ⟨rfl, rfl, rfl, rfl⟩
theorem tellC_same (dc : Dc) (rows : List Rw) (c : Cu) : (tellC dc rows c).ld = c.ld ∧ (tellC dc rows c).db = c.db ∧ (tellC dc rows c).shut = c.shut ∧ (tellC dc rows c).many = c.many := by
  unfold tellC setE
  split
  · exact ⟨rfl, rfl, rfl, rfl⟩
  · split
    · split <;> exact ⟨rfl, rfl, rfl, rfl⟩
    · split <;> exact ⟨rfl, rfl, rfl, rfl⟩
theorem nextC_same (dc : Dc) (rows : List Rw) (c : Cu) : (nextC dc rows c).ld = c.ld ∧ (nextC dc rows c).db = c.db ∧ (nextC dc rows c).shut = c.shut ∧ (nextC dc rows c).many = c.many := by
  unfold nextC
  have a := tellC_same dc rows (stepOn dc rows { c with row := false })
  have b := stepOn_same dc rows { c with row := false }
  exact ⟨a.1.trans b.1, a.2.1.trans b.2.1, a.2.2.1.trans b.2.2.1, a.2.2.2.trans b.2.2.2⟩
theorem next_ok {n : Int} (hc : CuAt ow st dc.its dc.way r rs lo hi c) (hD : DbAt ow st c.db lk lw lp lc d) (hd : DcAt ow st c.ld cs dc) (g : Good cs) (hr : RwsOk cs d.rows) (hm : 0 ≤ c.many) (hs : c.shut = false)
    (k : CK ow st dc r (nextC dc d.rows c) (P (toldV dc d.rows (stepOn dc d.rows { c with row := false })))) : (F_P_Cursor_fetch [.ref r, .str "next", .int n] st).wp P E := by
  have inm : gIn true (.str "next") (.tup g_MOVES) st = .ok (.bl false) st := by rfl
  have m := mvs ""
  have nb : ¬ (c.db + 1) = r + 1 := fun z => (hc.neB hD) (by omega)
  have hc1 := hc.put (c' := { c with row := false }) rfl hc.hlo hc.hhi
  have x1 : Xt ow st (fun k => k = r + 1) ow (st.set r (.ins "Cursor" (cuF { c with row := false } rs lo hi))) := xt_set hc.hc.1 rfl
  have hD1 := hD.xt x1 nb
  have hd1 := hd.xt x1 (by omega)
  have ci1 : insAt (st.set r (.ins "Cursor" (cuF { c with row := false } rs lo hi))) [("Cursor" : Str)] (.ref r) = some (r, ("Cursor" : Str), cuF { c with row := false } rs lo hi) := hc1.ins
  rw [hs] at ci1
  simp [F_P_Cursor_fetch, B_P_Cursor_fetch, hc.ins, hs, inm, m.1, m.2.1, ci1]
  simp only [hs] at hc1 x1 hD1 hd1
  generalize st.set r (.ins "Cursor" (cuF { c with row := false, shut := false } rs lo hi)) = st1 at hc1 x1 hD1 hd1 ⊢
  refine step_on_ok hc1 hD1 hd1 g hr hm fun ow2 st2 rs2 lo2 hi2 x2 hc2 => ?_
  have sm := stepOn_same dc d.rows { c with row := false }
  unfold nextC at k
  simp only [hs] at k sm
  simp [hc2.ins]
  refine tell_ok hc2 (by rw [sm.2.1]; exact hD1.xt x2 nb) (by rw [sm.1]; exact hd1.xt x2 (by omega)) fun ow3 st3 rs3 lo3 hi3 x3 hc3 => ?_
  exact k ow3 st3 rs3 lo3 hi3 ((x1.trans x2).trans x3) hc3
end
end K47
set_option Elab.async false
set_option linter.all false
set_option maxRecDepth 100000
set_option maxHeartbeats 4000000
namespace K47
open PySem PySem.Spec PyProof.Rows L2 Mi PySem.W
/-! ### shut, let go, commits -/
def fillC (dc : Dc) (rows : List Rw) (c : Cu) : Cu := match standE c with
  | none => { c with es := readE dc rows none none, ix := if c.low.1 = -1 then -1 else ((readE dc rows none none).length : Int), full := true }
  | some e => { c with es := readE dc rows none (some e.pl) ++ [e] ++ readE dc rows (some e.pl) none, ix := ((readE dc rows none (some e.pl)).length : Int), full := true }
def edgeC (hold : Str) (c : Cu) : Sd × Sd := match standE c with
  | some e => if hold = "key" then ((0, some (e.pl.1, -1, 0)), (0, some (e.pl.1, 1, 0))) else ((0, some e.pl), (0, some e.pl))
  | none => if c.full = true then ((if c.ix < 0 then -1 else 1, none), (if c.ix < 0 then -1 else 1, none)) else (c.low, c.high)
def forgetC (hold : Str) (c : Cu) : Cu := { c with es := [], ix := -1, full := false, low := (edgeC hold c).1, high := (edgeC hold c).2 }
def passC (dc : Dc) (rows : List Rw) (c : Cu) : Cu :=
  if dc.hold = "shut" then { c with row := false, shut := true }
  else if dc.hold = "copied" ∧ c.full = false then fillC dc rows { c with row := false }
  else if dc.hold = "place" ∨ dc.hold = "key" then forgetC dc.hold { c with row := false }
  else { c with row := false }
section
variable {ow : Ow} {st : Sto} {cs : List IV} {dc : Dc} {d : Db} {b lk lw lp lc ld ls r lq : Nat} {lo hi : IV} {a0 b0 : Option Rk} {P : IV → Sto → Prop} {E : Str → List (Str × IV) → Sto → Prop} {c : Cu} {rs : List Nat} {Q : Sto → Prop} {its : List (Nat × Int)} {way : Int} {q i : Nat} {e e' : En}
theorem shut_ok (hc : CuAt ow st dc.its dc.way r rs lo hi c) (k : CK ow st dc r { c with row := false, shut := true } (P .non)) : (F_P_Cursor_shut [.ref r] st).wp P E := by
  have iset : ∀ fs, insAt (st.set r (.ins "Cursor" fs)) [("Cursor" : Str)] (.ref r) = some (r, ("Cursor" : Str), fs) := fun fs => insAt_set hc.hc.lt List.mem_cons_self
  simp [F_P_Cursor_shut, B_P_Cursor_shut, hc.ins, iset]
  exact k ow _ rs lo hi (xt_set hc.hc.1 rfl) (hc.put (c' := { c with row := false, shut := true }) rfl hc.hlo hc.hhi)
theorem let_go_ok (hc : CuAt ow st dc.its dc.way r rs lo hi c) (k : CK ow st dc r { c with row := false } (P .non)) : (F_P_Cursor_let_go [.ref r] st).wp P E := by
  simp [F_P_Cursor_let_go, B_P_Cursor_let_go, hc.ins]
  exact k ow _ rs lo hi (xt_set hc.hc.1 rfl) (hc.put (c' := { c with row := false }) rfl hc.hlo hc.hhi)
theorem fill_ok (hc : CuAt ow st dc.its dc.way r rs lo hi c) (hD : DbAt ow st c.db lk lw lp lc d) (hd : DcAt ow st c.ld cs dc) (g : Good cs) (hr : RwsOk cs d.rows)
    (k : CK ow st dc r (fillC dc d.rows c) (P .non)) : (F_P_Cursor_fill [.ref r] st).wp P E := by
  have n0 : ¬ (0 : Nat) = r + 1 := by omega
  simp [F_P_Cursor_fill, B_P_Cursor_fill, hc.ins]
  refine standing_ok hc (fun e => ?_) (fun e q he hs hq hE => ?_)
  · simp [Mi.isNon, hc.ins]
    refine read_ok hc.hc hD hd g hr (a0 := none) (b0 := none) rfl rfl fun ow1 st1 rs1 x1 e1 nd1 _ => ?_
    have hc1 := hc.xt x1 id id
    have r1 := hc1.hc.lt
    have iset : ∀ fs, insAt (st1.set r (.ins "Cursor" fs)) [("Cursor" : Str)] (.ref r) = some (r, ("Cursor" : Str), fs) := fun fs => insAt_set r1 List.mem_cons_self
    have l1 := e1.len
    obtain ⟨w, ew, hb⟩ := hc.hlo
    have fe : fillC dc d.rows c = { c with es := readE dc d.rows none none, ix := if c.low.1 = -1 then -1 else ((readE dc d.rows none none).length : Int), full := true } := by unfold fillC; rw [e]
    rw [fe, ← l1] at k
    have hput := hc1.putW (c' := { c with es := readE dc d.rows none none, ix := if c.low.1 = -1 then -1 else (rs1.length : Int), full := true }) e1 nd1 hc1.hlo hc1.hhi
    have kk := k ow1 _ rs1 lo hi ((x1.mono fun _ z => z.elim).trans (xt_set hc1.hc.1 rfl)) hput
    simp [hc1.ins, iset, ew]
    by_cases c1 : c.low.1 = -1
    · rw [ew] at kk
      simp only [c1, if_true] at kk
      simp [c1, iset]
      exact kk
    · rw [ew] at kk
      simp only [c1, if_false] at kk
      simp [c1, iset]
      exact kk
  · obtain ⟨lq, hE1, hE2⟩ := hE
    simp [Mi.isNon, hc.ins, EnAt.ins hE1]
    refine read_ok hc.hc hD hd g hr (a0 := none) (b0 := some e.pl) rfl ⟨lq, rfl, hE2⟩ fun ow1 st1 rs1 x1 e1 nd1 f1 => ?_
    have hc1 := hc.xt x1 id id
    have hD1 := hD.xt x1 id
    have hd1 := hd.xt x1 id
    have hE1' := hE1.xt x1 id
    have hE2' := hE2.xt x1 id
    simp [hc1.ins, EnAt.ins hE1']
    refine read_ok hc1.hc hD1 hd1 g hr (a0 := some e.pl) (b0 := none) ⟨lq, rfl, hE2'⟩ rfl fun ow2 st2 rs2 x2 e2 nd2 f2 => ?_
    have hc2 := hc1.xt x2 id id
    have r2 := hc2.hc.lt
    have e1' := EnsAt.xt x2 id id e1
    have hE3 := hE1'.xt x2 id
    have hE4 := hE2'.xt x2 id
    have l1 := e1.len
    have l2 := e2.len
    have b1 : (readE dc d.rows none (some e.pl)).length ≤ 1000 := by
      unfold readE ansR; rw [List.length_map, List.length_mergeSort]; exact Nat.le_trans (List.length_filter_le _ _) hr.few
    have b2 : (readE dc d.rows (some e.pl) none).length ≤ 1000 := by
      unfold readE ansR; rw [List.length_map, List.length_mergeSort]; exact Nat.le_trans (List.length_filter_le _ _) hr.few
    have iset : ∀ fs, insAt (st2.set r (.ins "Cursor" fs)) [("Cursor" : Str)] (.ref r) = some (r, ("Cursor" : Str), fs) := fun fs => insAt_set r2 List.mem_cons_self
    have fe : fillC dc d.rows c = { c with es := readE dc d.rows none (some e.pl) ++ [e] ++ readE dc d.rows (some e.pl) none, ix := ((readE dc d.rows none (some e.pl)).length : Int), full := true } := by unfold fillC; rw [he]
    rw [fe, ← l1] at k
    have hes : EnsAt ow2 (r + 1) st2 dc.its dc.way (rs1 ++ [q] ++ rs2) (readE dc d.rows none (some e.pl) ++ [e] ++ readE dc d.rows (some e.pl) none) := EnsAt.app (EnsAt.app e1' ⟨⟨lq, hE3, hE4⟩, trivial⟩) e2
    have nd : (rs1 ++ [q] ++ rs2).Nodup := by
      rw [List.append_assoc, List.nodup_append]
      refine ⟨nd1, ?_, fun a ha z hz => ?_⟩
      · rw [List.singleton_append, List.nodup_cons]
        refine ⟨fun z => ?_, nd2⟩
        have := f2 q z
        have := hE1'.lt
        omega
      · have h1 := f1 a ha
        obtain ⟨_, _, h2, _⟩ := EnsAt.mem e1 ha
        have h2 := h2.lt
        rcases List.mem_cons.mp hz with rfl | hz
        · have := hE1.lt; omega
        · have := f2 z hz; omega
    have kk := k ow2 _ (rs1 ++ [q] ++ rs2) lo hi (((x1.trans x2).mono fun _ z => z.elim).trans (xt_set hc2.hc.1 rfl)) (hc2.putW (c' := { c with es := readE dc d.rows none (some e.pl) ++ [e] ++ readE dc d.rows (some e.pl) none, ix := (rs1.length : Int), full := true }) hes nd hc2.hlo hc2.hhi)
    have pw : ∀ c : Cu, putI "window" (.lst (refs rs1 ++ IV.ref q :: refs rs2)) (cuF c rs lo hi) = cuF c (rs1 ++ [q] ++ rs2) lo hi := fun c => by
      have : refs rs1 ++ IV.ref q :: refs rs2 = refs (rs1 ++ [q] ++ rs2) := by simp [refs]
      rw [this]; exact cu_put_window
    simp [hc2.ins, iset, pw]
    refine ⟨by omega, by omega, ?_⟩
    have e0 : rs1 ++ [q] ++ rs2 = rs1 ++ q :: rs2 := by simp
    rw [e0] at kk
    exact kk
theorem edge_ok {way side : Int} {vs : List IV} {sd0 lb0 : Int} {lo0 pl0 : Nat} (hs : side = 1 ∨ side = -1) (hp : PlO ow pl0 its way (vs, sd0, lb0) st) (k : ∀ st', PlO (owN ow st.length 0) st.length its way (vs, side, 0) st' → Xt ow st none0 (owN ow st.length 0) st' → st'.length = st.length + 1 → P (.ref st.length) st') :
    (if side = 1 then (F_P_Order_behind_of [.ref lo0, .ref pl0] st).wp P E else (F_P_Order_ahead_of [.ref lo0, .ref pl0] st).wp P E) := by
  have hi1 : insAt st [("Place" : Str)] (.ref pl0) = some (pl0, ("Place" : Str), plF vs its way sd0 lb0) := PlAt.ins hp.2
  have ns : ¬ side = 0 := by rcases hs with rfl | rfl <;> decide
  have fin : ∀ st', st'[st.length]? = some (.ins "Place" [(("key" : Str), .tup (keyV vs its)), (("name" : Str), .non), (("rank" : Str), .tup [.tup ((rkV vs its).map .int), .int side, .int 0])]) → (∀ j, j < st.length → st'[j]? = st[j]?) → st'.length = st.length + 1 → P (.ref st.length) st' := fun st' h1 h2 h3 => by
    refine k st' ⟨owN_at, ?_⟩ (xt_new h3 h2) h3
    show st'[st.length]? = _
    rw [h1]
    simp [plF, rkI, lab, ns]
  rcases hs with rfl | rfl
  · rw [if_pos rfl]
    simp [F_P_Order_behind_of, B_P_Order_behind_of, hi1, plk1, plk3, rkI]
    exact mk_place fun st' h1 h2 h3 => fin st' h1 h2 h3
  · rw [if_neg (by decide)]
    simp [F_P_Order_ahead_of, B_P_Order_ahead_of, hi1, plk1, plk3, rkI]
    exact mk_place fun st' h1 h2 h3 => fin st' h1 h2 h3
end
end K47
set_option Elab.async false
set_option linter.all false
set_option maxRecDepth 100000
set_option maxHeartbeats 4000000
namespace K47
open PySem PySem.Spec PyProof.Rows L2 Mi PySem.W
section
variable {ow : Ow} {st : Sto} {cs : List IV} {dc : Dc} {d : Db} {b lk lw lp lc ld ls r lq : Nat} {lo hi : IV} {a0 b0 : Option Rk} {P : IV → Sto → Prop} {E : Str → List (Str × IV) → Sto → Prop} {c : Cu} {rs : List Nat} {Q : Sto → Prop} {its : List (Nat × Int)} {way : Int} {q i : Nat} {e e' : En}
theorem no_ahead {lt : Nat} : ∀ (a : Str) (b : IV), (a, b) ∈ ordF lt its way → ¬ ("ahead_of" : Str) = a := noO (by decide +kernel) (by decide +kernel) (by decide +kernel)
theorem no_behind {lt : Nat} : ∀ (a : Str) (b : IV), (a, b) ∈ ordF lt its way → ¬ ("behind_of" : Str) = a := noO (by decide +kernel) (by decide +kernel) (by decide +kernel)
def forgetT : IS := (iSeq (iStFld ["Cursor"] "window" (iVar 0) (iLst iNil))
  (iSeq (iStFld ["Cursor"] "index" (iVar 0) (iNeg (iC (.int 1))))
  (iStFld ["Cursor"] "full_now" (iVar 0) (iC (.bl false)))))
theorem forgetT_ok {ρ : Slots} {c0 : Cu} (h0 : ρ[0]? = some (some (.v (.ref r)))) (hc : CuAt ow st dc.its dc.way r rs lo hi c)
    (k : CK ow st dc r { c with es := [], ix := -1, full := false } (P .non)) : (forgetT ρ st).wp ⟨fun _ st => P .non st, P, fun _ _ => False, fun _ _ => False, fun c fs _ st => E c fs st⟩ := by
  have iset : ∀ fs, insAt (st.set r (.ins "Cursor" fs)) [("Cursor" : Str)] (.ref r) = some (r, ("Cursor" : Str), fs) := fun fs => insAt_set hc.hc.lt List.mem_cons_self
  have w0 : ∀ (c : Cu) rs lo hi, putI "window" (.lst []) (cuF c rs lo hi) = cuF c [] lo hi := fun c rs lo hi => cu_put_window (x := [])
  have kk := k ow _ [] lo hi (xt_set hc.hc.1 rfl) (hc.putW (c' := { c with es := [], ix := -1, full := false }) trivial (by simp) hc.hlo hc.hhi)
  cases ρ with
  | nil => cases h0
  | cons a ρ =>
    have : a = some (.v (.ref r)) := by simpa using h0
    subst this
    simp [forgetT, hc.ins, iset, w0]
    exact kk
theorem forget_ok {hold : Str} (hh : hold = "place" ∨ hold = "key") (hc : CuAt ow st dc.its dc.way r rs lo hi c) (hd : DcAt ow st c.ld cs dc)
    (k : CK ow st dc r (forgetC hold c) (P .non)) : (F_P_Cursor_forget [.ref r, .str hold] st).wp P E := by
  have n0 : ¬ (0 : Nat) = r + 1 := by omega
  have rlt := hc.hc.lt
  have iset : ∀ fs, insAt (st.set r (.ins "Cursor" fs)) [("Cursor" : Str)] (.ref r) = some (r, ("Cursor" : Str), fs) := fun fs => insAt_set rlt List.mem_cons_self
  have split : B_P_Cursor_forget = iSeq (iSet 2 (iMeth "Cursor" "standing" (arity 1 F_P_Cursor_standing) (iVar 0) iNil)) (iSeq (iIfS (iTest (iBin (gIsN true) (iVar 2) (iC .non)))
    (iSeq (iSet 3 (iFld ["Entry"] "place_read" (iVar 2)))
    (iSeq (iStFld ["Cursor"] "low" (iVar 0) (iTup (iCons (iC (.int 0)) (iCons (iVar 3) iNil))))
    (iSeq (iStFld ["Cursor"] "high" (iVar 0) (iTup (iCons (iC (.int 0)) (iCons (iVar 3) iNil))))
    (iIfS (iTest (iBin gEq (iVar 1) (iC (.str "key"))))
    (iSeq (iSet 4 (iFld ["Declaration"] "by" (iFld ["Cursor"] "declaration" (iVar 0))))
    (iSeq (iStFld ["Cursor"] "low" (iVar 0) (iTup (iCons (iC (.int 0)) (iCons (iMeth "Order" "ahead_of" (arity 2 F_P_Order_ahead_of) (iVar 4) (iCons (iVar 3) iNil)) iNil))))
    (iStFld ["Cursor"] "high" (iVar 0) (iTup (iCons (iC (.int 0)) (iCons (iMeth "Order" "behind_of" (arity 2 F_P_Order_behind_of) (iVar 4) (iCons (iVar 3) iNil)) iNil))))))
    iSkip))))
    (iIfS (iTest (iFld ["Cursor"] "full_now" (iVar 0)))
    (iSeq (iSet 5 (iIf (iTest (iBin gLt (iFld ["Cursor"] "index" (iVar 0)) (iC (.int 0)))) (iC (.int (-1))) (iC (.int 1))))
    (iSeq (iStFld ["Cursor"] "low" (iVar 0) (iTup (iCons (iVar 5) (iCons (iC .non) iNil))))
    (iStFld ["Cursor"] "high" (iVar 0) (iTup (iCons (iVar 5) (iCons (iC .non) iNil))))))
    iSkip)) forgetT) := rfl
  rw [F_P_Cursor_forget, split]
  have fe : ∀ x y : Sd, edgeC hold c = (x, y) → forgetC hold c = { c with es := [], ix := -1, full := false, low := x, high := y } := fun x y z => by unfold forgetC; rw [z]
  simp [hc.ins]
  refine standing_ok hc (fun e => ?_) (fun e q he hs hq hE => ?_)
  · simp [Mi.isNon, hc.ins]
    cases c2 : c.full with
    | false =>
      have f := fe c.low c.high (by unfold edgeC; rw [e]; simp [c2])
      rw [f] at k
      simp
      exact forgetT_ok (c0 := c) rfl hc k
    | true =>
      have f := fe (if c.ix < 0 then -1 else 1, none) (if c.ix < 0 then -1 else 1, none) (by unfold edgeC; rw [e]; simp [c2])
      rw [f] at k
      have go : ∀ s : Int, CK ow st dc r { c with es := [], ix := -1, full := false, low := (s, none), high := (s, none) } (P .non) → 
          ((iSeq (iSeq (iStFld ["Cursor"] "low" (iVar 0) (iTup (iCons (iVar 5) (iCons (iC .non) iNil)))) (iStFld ["Cursor"] "high" (iVar 0) (iTup (iCons (iVar 5) (iCons (iC .non) iNil))))) forgetT) [some (.v (.ref r)), some (.v (.str hold)), some (.v .non), none, none, some (.v (.int s))] st).wp ⟨fun _ st => P .non st, P, fun _ _ => False, fun _ _ => False, fun c fs _ st => E c fs st⟩ := by
        intro s k
        simp [hc.ins, iset]
        refine forgetT_ok (c0 := c) rfl (hc.put (c' := { c with low := (s, none), high := (s, none) }) rfl ⟨.non, rfl, rfl⟩ ⟨.non, rfl, rfl⟩) ?_
        intro ow' st' rs' lo' hi' x h
        exact k ow' st' rs' lo' hi' ((xt_own hc.hc.1).trans x) h
      simp [hc.ins]
      by_cases c3 : c.ix < 0
      · simp only [c3, if_true] at k
        have := go (-1) k
        simp [hc.ins, iset] at this
        simp [c3, hc.ins, iset]
        exact this
      · simp only [c3, if_false] at k
        have := go 1 k
        simp [hc.ins, iset] at this
        simp [c3, hc.ins, iset]
        exact this
  · obtain ⟨lq, hE1, hE2⟩ := hE
    simp [Mi.isNon, EnAt.ins hE1, hc.ins, iset]
    have hc1 : CuAt ow (st.set r (.ins "Cursor" (cuF c rs (.tup [.int 0, .ref lq]) (.tup [.int 0, .ref lq])))) dc.its dc.way r rs (.tup [.int 0, .ref lq]) (.tup [.int 0, .ref lq]) { c with low := (0, some e.pl), high := (0, some e.pl) } :=
      hc.put (c' := { c with low := (0, some e.pl), high := (0, some e.pl) }) rfl ⟨_, rfl, lq, rfl, hE2⟩ ⟨_, rfl, lq, rfl, hE2⟩
    have x1 : Xt ow st (fun k => k = r + 1) ow (st.set r (.ins "Cursor" (cuF c rs (.tup [.int 0, .ref lq]) (.tup [.int 0, .ref lq])))) := xt_set hc.hc.1 rfl
    have hd1 := hd.xt x1 n0
    have hP1 := hE2.xt x1 n0
    generalize st.set r (.ins "Cursor" (cuF c rs (.tup [.int 0, .ref lq]) (.tup [.int 0, .ref lq]))) = st1 at hc1 x1 hd1 hP1 ⊢
    by_cases ck : hold = "key"
    · have f := fe (0, some (e.pl.1, -1, 0)) (0, some (e.pl.1, 1, 0)) (by unfold edgeC; rw [he]; simp [ck])
      rw [f] at k
      have ci1 := hc1.ins
      have o1 : insAt st1 [("Order" : Str)] (.ref dc.lo) = some (dc.lo, ("Order" : Str), ordF dc.lt dc.its dc.way) := hd1.ho.2.ins
      have pl3 : e.pl = (e.pl.1, e.pl.2.1, e.pl.2.2) := rfl
      have e1 := edge_ok (its := dc.its) (lo0 := dc.lo) (pl0 := lq) (P := fun v st2 => v = .ref st1.length ∧ PlO (owN ow st1.length 0) st1.length dc.its dc.way (e.pl.1, -1, 0) st2 ∧ Xt ow st1 none0 (owN ow st1.length 0) st2) (E := E) (.inr rfl) hP1 (fun st' a b _ => ⟨rfl, a, b⟩)
      rw [if_neg (by decide)] at e1
      simp [ck, ci1, hd1.ins, o1]
      refine ⟨no_ahead, wp_mono e1 ?_⟩
      rintro v st2 ⟨rfl, p2, x2⟩
      have hc2 := hc1.xt x2 id id
      have hd2 := hd1.xt x2 id
      have hP2 := hP1.xt x2 id
      have hc3 := hc2.put (c' := { c with low := (0, some (e.pl.1, -1, 0)), high := (0, some e.pl) }) rfl ⟨.ref st1.length, rfl, st1.length, rfl, p2⟩ hc2.hhi
      have x3 : Xt (owN ow st1.length 0) st2 (fun k => k = r + 1) (owN ow st1.length 0) (st2.set r (.ins "Cursor" (cuF c rs (.tup [.int 0, .ref st1.length]) (.tup [.int 0, .ref lq])))) := xt_set hc2.hc.1 rfl
      have hd3 := hd2.xt x3 n0
      have hP3 := hP2.xt x3 n0
      have p3 := p2.xt x3 n0
      have ci2 : insAt st2 [("Cursor" : Str)] (.ref r) = some (r, ("Cursor" : Str), cuF c rs (.tup [.int 0, .ref lq]) (.tup [.int 0, .ref lq])) := hc2.ins
      simp [ci2]
      have hc3' : CuAt (owN ow st1.length 0) (st2.set r (.ins "Cursor" (cuF c rs (.tup [.int 0, .ref st1.length]) (.tup [.int 0, .ref lq])))) dc.its dc.way r rs (.tup [.int 0, .ref st1.length]) (.tup [.int 0, .ref lq]) { c with low := (0, some (e.pl.1, -1, 0)), high := (0, some e.pl) } := hc3
      generalize st2.set r (.ins "Cursor" (cuF c rs (.tup [.int 0, .ref st1.length]) (.tup [.int 0, .ref lq]))) = st3 at hc3' x3 hd3 hP3 p3 ⊢
      have o3 : insAt st3 [("Order" : Str)] (.ref dc.lo) = some (dc.lo, ("Order" : Str), ordF dc.lt dc.its dc.way) := hd3.ho.2.ins
      have e3 := edge_ok (its := dc.its) (lo0 := dc.lo) (pl0 := lq) (P := fun v st4 => v = .ref st3.length ∧ PlO (owN (owN ow st1.length 0) st3.length 0) st3.length dc.its dc.way (e.pl.1, 1, 0) st4 ∧ Xt (owN ow st1.length 0) st3 none0 (owN (owN ow st1.length 0) st3.length 0) st4) (E := E) (.inl rfl) hP3 (fun st' a b _ => ⟨rfl, a, b⟩)
      rw [if_pos rfl] at e3
      simp [o3]
      refine ⟨no_behind, wp_mono e3 ?_⟩
      rintro v st4 ⟨rfl, p4, x4⟩
      have hc4 := hc3'.xt x4 id id
      have p4' := p3.xt x4 id
      have ci4 : insAt st4 [("Cursor" : Str)] (.ref r) = some (r, ("Cursor" : Str), cuF c rs (.tup [.int 0, .ref st1.length]) (.tup [.int 0, .ref lq])) := hc4.ins
      simp [ci4]
      have hc5 := hc4.put (c' := { c with low := (0, some (e.pl.1, -1, 0)), high := (0, some (e.pl.1, 1, 0)) }) rfl hc4.hlo ⟨.ref st3.length, rfl, st3.length, rfl, p4⟩
      have hc5' : CuAt (owN (owN ow st1.length 0) st3.length 0) (st4.set r (.ins "Cursor" (cuF c rs (.tup [.int 0, .ref st1.length]) (.tup [.int 0, .ref st3.length])))) dc.its dc.way r rs (.tup [.int 0, .ref st1.length]) (.tup [.int 0, .ref st3.length]) { c with low := (0, some (e.pl.1, -1, 0)), high := (0, some (e.pl.1, 1, 0)) } := hc5
      refine forgetT_ok (c0 := c) rfl hc5' ?_
      intro ow' st' rs' lo' hi' x h
      exact k ow' st' rs' lo' hi' (((((x1.trans (x2.mono fun _ z => z.elim)).trans x3).trans (x4.mono fun _ z => z.elim)).trans (xt_set hc4.hc.1 rfl)).trans x) h
    · have f := fe (0, some e.pl) (0, some e.pl) (by unfold edgeC; rw [he]; simp [ck])
      rw [f] at k
      simp [ck]
      refine forgetT_ok (c0 := c) rfl hc1 ?_
      intro ow' st' rs' lo' hi' x h
      exact k ow' st' rs' lo' hi' (x1.trans x) h
theorem pass_ok (hc : CuAt ow st dc.its dc.way r rs lo hi c) (hD : DbAt ow st c.db lk lw lp lc d) (hd : DcAt ow st c.ld cs dc) (g : Good cs) (hr : RwsOk cs d.rows)
    (k : CK ow st dc r (passC dc d.rows c) (P .non)) : (F_P_Cursor_pass_commit [.ref r] st).wp P E := by
  have n0 : ¬ (0 : Nat) = r + 1 := by omega
  have nb : ¬ (c.db + 1) = r + 1 := fun z => (hc.neB hD) (by omega)
  have hc1 := hc.put (c' := { c with row := false }) rfl hc.hlo hc.hhi
  have x1 : Xt ow st (fun k => k = r + 1) ow (st.set r (.ins "Cursor" (cuF { c with row := false } rs lo hi))) := xt_set hc.hc.1 rfl
  have hD1 := hD.xt x1 nb
  have hd1 := hd.xt x1 n0
  simp [F_P_Cursor_pass_commit, B_P_Cursor_pass_commit, hc.ins]
  have ci1 : insAt (st.set r (.ins "Cursor" (cuF { c with row := false } rs lo hi))) [("Cursor" : Str)] (.ref r) = some (r, ("Cursor" : Str), cuF { c with row := false } rs lo hi) := hc1.ins
  generalize st.set r (.ins "Cursor" (cuF { c with row := false } rs lo hi)) = st1 at hc1 x1 hD1 hd1 ci1 ⊢
  simp [ci1, hd1.ins]
  have wk : ∀ c', passC dc d.rows c = c' → CK ow st1 dc r c' (P .non) := fun c' z ow' st' rs' lo' hi' x h => k ow' st' rs' lo' hi' (x1.trans x) (by rw [z]; exact h)
  by_cases h1 : dc.hold = "shut"
  · have := wk _ (if_pos h1)
    simp [h1, ci1]
    exact this ow _ rs lo hi (xt_set hc1.hc.1 rfl) (hc1.put (c' := { c with row := false, shut := true }) rfl hc1.hlo hc1.hhi)
  · simp [h1]
    have e1 : passC dc d.rows c = _ := if_neg h1
    have cp : ¬ ("copied" : Str) = "place" ∧ ¬ ("copied" : Str) = "key" := by decide +kernel
    by_cases h2 : dc.hold = "copied"
    · simp [h2, ci1]
      cases h3 : c.full with
      | false =>
        have := wk _ (e1.trans (if_pos ⟨h2, h3⟩))
        simp [ci1]
        exact fill_ok hc1 hD1 hd1 g hr this
      | true =>
        have := wk _ (e1.trans ((if_neg (by rw [h3]; simp)).trans (if_neg (by rw [h2]; simp [cp.1, cp.2]))))
        simp [cp.1, cp.2]
        exact this ow st1 rs lo hi .refl hc1
    · simp [h2]
      by_cases h3 : dc.hold = "place" ∨ dc.hold = "key"
      · have := wk _ (e1.trans ((if_neg (fun z => h2 z.1)).trans (if_pos h3)))
        have fk := forget_ok (P := fun _ st => P .non st) (E := E) h3 hc1 hd1 this
        rcases h3 with h3 | h3
        · simp [h3, ci1]; rw [h3] at fk; exact fk
        · have kp : ¬ ("key" : Str) = "place" := by decide +kernel
          simp [h3, ci1, kp]; rw [h3] at fk; exact fk
      · have := wk _ (e1.trans ((if_neg (fun z => h2 z.1)).trans (if_neg h3)))
        simp [not_or.mp h3]
        exact this ow st1 rs lo hi .refl hc1
end
end K47
set_option Elab.async false
set_option linter.all false
set_option maxRecDepth 100000
set_option maxHeartbeats 4000000
namespace K47
open PySem PySem.Spec PyProof.Rows L2 Mi PySem.W
/-! ### all cursors of a database -/
structure Ck where
  r : Nat
  dc : Dc
  c : Cu
def CkAt (ow : Ow) (st : Sto) (cs : List IV) (b : Nat) (x : Ck) : Prop := (∃ rs lo hi, CuAt ow st x.dc.its x.dc.way x.r rs lo hi x.c) ∧ DcAt ow st x.c.ld cs x.dc ∧ x.c.db = b ∧ 0 ≤ x.c.many
structure CksAt (ow : Ow) (st : Sto) (cs : List IV) (b : Nat) (ks : List Ck) : Prop where
  nd : (ks.map (·.r)).Nodup
  at' : ∀ x ∈ ks, CkAt ow st cs b x
def ofCks (ks : List Ck) : Nat → Prop := fun k => ∃ x ∈ ks, k = x.r + 1
/-- the first i are changed -/
def mix (f : Nat → Ck → Ck) (i : Nat) (ks : List Ck) : List Ck := ks.mapIdx fun j x => if j < i then f j x else x
theorem mix_get {f : Nat → Ck → Ck} {i j : Nat} {ks : List Ck} : (mix f i ks)[j]? = (ks[j]?).map fun x => if j < i then f j x else x := by
  unfold mix; rw [List.getElem?_mapIdx]
theorem mix_len {f : Nat → Ck → Ck} {i : Nat} {ks : List Ck} : (mix f i ks).length = ks.length := by unfold mix; rw [List.length_mapIdx]
theorem mix_zero {f : Nat → Ck → Ck} {ks : List Ck} : mix f 0 ks = ks := by
  refine List.ext_getElem? fun j => ?_
  rw [mix_get]; cases ks[j]? <;> simp
theorem mix_all {f : Nat → Ck → Ck} {ks : List Ck} : mix f ks.length ks = ks.mapIdx f := by
  refine List.ext_getElem? fun j => ?_
  rw [mix_get, List.getElem?_mapIdx]
  cases q : ks[j]? with
  | none => rfl
  | some x => have := (List.getElem?_eq_some_iff.mp q).1; simp [this]
theorem mix_succ {f : Nat → Ck → Ck} {i : Nat} {ks : List Ck} {x : Ck} (h : ks[i]? = some x) : mix f (i + 1) ks = (mix f i ks).set i (f i x) := by
  refine List.ext_getElem? fun j => ?_
  rw [mix_get, List.getElem?_set, mix_len, mix_get]
  have hi := (List.getElem?_eq_some_iff.mp h).1
  by_cases c : i = j
  · subst c
    have e : ks[i] = x := by
      rw [List.getElem?_eq_getElem hi] at h
      exact Option.some.inj h
    simp [hi, e]
  · simp only [c, if_false]
    cases ks[j]? with
    | none => rfl
    | some y =>
      have : (j < i + 1) = (j < i) := by
        refine propext ⟨fun z => by omega, fun z => by omega⟩
      simp [this]
theorem mix_r {f : Nat → Ck → Ck} (hf : ∀ j x, (f j x).r = x.r) {i : Nat} {ks : List Ck} : (mix f i ks).map (·.r) = ks.map (·.r) := by
  refine List.ext_getElem? fun j => ?_
  rw [List.getElem?_map, List.getElem?_map, mix_get]
  cases ks[j]? with
  | none => rfl
  | some x => simp only [Option.map_some]; split <;> simp [hf]
section
variable {ow ow' : Ow} {st st' : Sto} {S : Nat → Prop} {cs : List IV} {dc : Dc} {d : Db} {b lk lw lp lc ld ls r lq : Nat} {lo hi : IV} {P : IV → Sto → Prop} {E : Str → List (Str × IV) → Sto → Prop} {c : Cu} {rs : List Nat} {Q : Sto → Prop} {its : List (Nat × Int)} {way : Int} {ks : List Ck} {x : Ck} {i : Nat}
theorem CkAt.xt (h : CkAt ow st cs b x) (t : Xt ow st S ow' st') (n : ¬ S (x.r + 1)) (n0 : ¬ S 0) : CkAt ow' st' cs b x := by
  obtain ⟨⟨rs, lo, hi, h1⟩, h2, h3⟩ := h
  exact ⟨⟨rs, lo, hi, h1.xt t n n0⟩, h2.xt t n0, h3⟩
theorem CksAt.xt (h : CksAt ow st cs b ks) (t : Xt ow st S ow' st') (n : ∀ x ∈ ks, ¬ S (x.r + 1)) (n0 : ¬ S 0) : CksAt ow' st' cs b ks := ⟨h.nd, fun x hx => (h.at' x hx).xt t (n x hx) n0⟩
theorem CksAt.one (h : CksAt ow st cs b ks) (hi : ks[i]? = some x) (t : Xt ow st (fun k => k = x.r + 1) ow' st') {y : Ck} (hr : y.r = x.r) (hy : CkAt ow' st' cs b y) : CksAt ow' st' cs b (ks.set i y) := by
  have hl := (List.getElem?_eq_some_iff.mp hi).1
  have em : (ks.set i y).map (·.r) = ks.map (·.r) := by
    refine List.ext_getElem? fun j => ?_
    rw [List.getElem?_map, List.getElem?_map, List.getElem?_set]
    by_cases c : i = j
    · subst c
      have e : ks[i] = x := by
        rw [List.getElem?_eq_getElem hl] at hi
        exact Option.some.inj hi
      simp [hl, hr, e]
    · simp [c]
  refine ⟨by rw [em]; exact h.nd, fun z hz => ?_⟩
  obtain ⟨j, hj⟩ := List.getElem?_of_mem hz
  rw [List.getElem?_set] at hj
  by_cases c : i = j
  · subst c
    simp [hl] at hj
    rw [← hj]; exact hy
  · simp only [c, if_false] at hj
    refine (h.at' z (List.mem_of_getElem? hj)).xt t (fun e => c ?_) (by omega)
    have e : z.r = x.r := by omega
    have h1 : (ks.map (·.r))[j]? = some z.r := by rw [List.getElem?_map, hj]; rfl
    have h2 : (ks.map (·.r))[i]? = some x.r := by rw [List.getElem?_map, hi]; rfl
    rw [e] at h1
    have hl' : i < (ks.map (·.r)).length := by rw [List.length_map]; exact hl
    exact (List.getElem?_inj hl' h.nd).mp (h2.trans h1.symm)
theorem Xt.of (t : Xt ow st (fun k => k = x.r + 1) ow' st') (hx : x ∈ ks) : Xt ow st (ofCks ks) ow' st' := t.mono fun k z => ⟨x, hx, z⟩
theorem CksAt.notb (h : CksAt ow st cs b ks) (hD : DbAt ow st b lk lw lp lc d) : ¬ ofCks ks (b + 1) := by
  rintro ⟨x, hx, e⟩
  obtain ⟨⟨rs, lo, hi, h1⟩, _⟩ := h.at' x hx
  exact h1.neB hD (by omega)
theorem not0 : ¬ ofCks ks 0 := by rintro ⟨x, _, e⟩; omega
/-- a walk over all cursors; each turn changes just its own -/
def CrI (ow : Ow) (st : Sto) (cs : List IV) (b : Nat) (f : Nat → Ck → Ck) (ks : List Ck) (i : Nat) (st1 : Sto) : Prop := ∃ ow1, Xt ow st (ofCks ks) ow1 st1 ∧ CksAt ow1 st1 cs b (mix f i ks)
theorem CrI.zero {f : Nat → Ck → Ck} (h : CksAt ow st cs b ks) : CrI ow st cs b f ks 0 st := ⟨ow, .refl, by rw [mix_zero]; exact h⟩
theorem CrI.done {f : Nat → Ck → Ck} (h : CrI ow st cs b f ks ks.length st') : ∃ ow1, Xt ow st (ofCks ks) ow1 st' ∧ CksAt ow1 st' cs b (ks.mapIdx f) := by
  obtain ⟨ow1, h1, h2⟩ := h
  exact ⟨ow1, h1, by rw [← mix_all]; exact h2⟩
theorem CrI.at {f : Nat → Ck → Ck} (h : CrI ow st cs b f ks i st') (hi : ks[i]? = some x) : ∃ ow1, Xt ow st (ofCks ks) ow1 st' ∧ CkAt ow1 st' cs b x ∧ ∀ ow2 st2, Xt ow1 st' (fun k => k = x.r + 1) ow2 st2 → (f i x).r = x.r → CkAt ow2 st2 cs b (f i x) → CrI ow st cs b f ks (i + 1) st2 := by
  obtain ⟨ow1, h1, h2⟩ := h
  have g : (mix f i ks)[i]? = some x := by rw [mix_get, hi]; simp
  refine ⟨ow1, h1, h2.at' x (List.mem_of_getElem? g), fun ow2 st2 t hr hy => ⟨ow2, h1.trans (t.of (List.mem_of_getElem? hi)), ?_⟩⟩
  rw [mix_succ hi]
  exact h2.one g t hr hy
end
def lgC (n : Int) (i : Nat) (x : Ck) : Ck := { x with c := if n ≤ (i : Int) then { x.c with row := false, shut := true } else { x.c with row := false } }
def pcC (rows : List Rw) (_i : Nat) (x : Ck) : Ck := { x with c := if x.c.shut = true then x.c else passC x.dc rows x.c }
theorem lgC_r {n : Int} {i : Nat} {x : Ck} : (lgC n i x).r = x.r := rfl
theorem pcC_r {rows : List Rw} {i : Nat} {x : Ck} : (pcC rows i x).r = x.r := rfl
theorem passC_same (dc : Dc) (rows : List Rw) (c : Cu) : (passC dc rows c).ld = c.ld ∧ (passC dc rows c).db = c.db ∧ (passC dc rows c).many = c.many ∧ (passC dc rows c).shut = (c.shut || decide (dc.hold = "shut")) := by
  unfold passC
  by_cases h : dc.hold = "shut"
  · simp [h]
  · simp only [h, if_false, decide_false, Bool.or_false]
    split
    · unfold fillC; split <;> exact ⟨rfl, rfl, rfl, rfl⟩
    · split
      · unfold forgetC; exact ⟨rfl, rfl, rfl, rfl⟩
      · exact ⟨rfl, rfl, rfl, rfl⟩
section
variable {ow ow' : Ow} {st st' : Sto} {cs : List IV} {dc : Dc} {d : Db} {b lk lw lp lc ld ls r lq : Nat} {lo hi : IV} {P : IV → Sto → Prop} {E : Str → List (Str × IV) → Sto → Prop} {c : Cu} {rs : List Nat} {Q : Sto → Prop} {its : List (Nat × Int)} {way : Int} {ks : List Ck} {x : Ck} {i : Nat}
theorem enumI_get {xs : List IV} {n i : Nat} {z : IV} : (enumI n xs)[i]? = some z → ∃ v, xs[i]? = some v ∧ z = .tup [.int ((n + i : Nat) : Int), v] := by
  induction xs generalizing n i with
  | nil => intro h; simp [enumI] at h
  | cons x xs ih =>
    intro h
    cases i with
    | zero => simp [enumI] at h; exact ⟨x, rfl, by rw [← h]; simp⟩
    | succ i =>
      simp only [enumI, List.getElem?_cons_succ] at h
      obtain ⟨v, e1, e2⟩ := ih h
      exact ⟨v, by simpa using e1, by rw [e2, show n + 1 + i = n + (i + 1) by omega]⟩
theorem enumI_len {xs : List IV} {n : Nat} : (enumI n xs).length = xs.length := by
  induction xs generalizing n with
  | nil => rfl
  | cons x xs ih => simp [enumI, ih]
theorem refs_get {rs : List Nat} {i : Nat} {v : IV} (h : (refs rs)[i]? = some v) : ∃ r, rs[i]? = some r ∧ v = .ref r := by
  unfold refs at h
  rw [List.getElem?_map] at h
  cases q : rs[i]? with
  | none => rw [q] at h; cases h
  | some r => rw [q] at h; exact ⟨r, rfl, (Option.some.inj h).symm⟩
theorem cus_get {rs : List Nat} {r : Nat} (hk : rs = ks.map (·.r)) (h : rs[i]? = some r) : ∃ x, ks[i]? = some x ∧ x.r = r := by
  rw [hk, List.getElem?_map] at h
  cases q : ks[i]? with
  | none => rw [q] at h; cases h
  | some x => rw [q] at h; exact ⟨x, rfl, Option.some.inj h⟩
/-- the walk of let_go_from -/
def LgI (ow : Ow) (st : Sto) (cs : List IV) (b : Nat) (n : Int) (ks : List Ck) (i : Nat) (ρ : Slots) (st1 : Sto) : Prop := (∃ s2 s3, ρ = [some (.v (.ref b)), some (.v (.int n)), s2, s3]) ∧ CrI ow st cs b (lgC n) ks i st1
theorem let_go_from_ok {n : Int} (hD : DbAt ow st b lk lw lp lc d) (hk : d.cus = ks.map (·.r)) (hc : CksAt ow st cs b ks)
    (k : ∀ ow' st', Xt ow st (ofCks ks) ow' st' → CksAt ow' st' cs b (ks.mapIdx (lgC n)) → P .non st') : (F_P_Database_let_go_from [.ref b, .int n] st).wp P E := by
  have nb := hc.notb hD
  have gok : ∀ ow1 st1, Xt ow st (ofCks ks) ow1 st1 → ∀ zs, zs = refs d.cus → gokB (some (lc, refs d.cus)) st1 zs = true := fun ow1 st1 x zs _ => by
    have e := (hD.hc.xt x nb).2
    simp only [gokB, e, IVs.beq_refl]
  simp [F_P_Database_let_go_from, B_P_Database_let_go_from, hD.ins, enum_ref hD.hc.2]
  refine wp_for (LgI ow st cs b n ks) ⟨⟨none, none, rfl⟩, .zero hc⟩ ?_ ?_
  · rintro i z ρ st1 hz ⟨⟨s2, s3, rfl⟩, hI⟩
    obtain ⟨v, hv, rfl⟩ := enumI_get hz
    obtain ⟨r, hr, rfl⟩ := refs_get hv
    obtain ⟨x, hx, rfl⟩ := cus_get hk hr
    obtain ⟨ow1, x1, ⟨⟨rs, lo, hi, h1⟩, h2, h3, h4⟩, nxt⟩ := hI.at hx
    have e := (hD.hc.xt x1 nb).2
    refine ⟨by simp only [gokB, e, IVs.beq_refl], ?_⟩
    simp [L_P_Database_let_go_from_1, h1.ins]
    by_cases c : n ≤ (i : Int)
    · simp [c]
      refine shut_ok h1 fun ow2 st2 rs2 lo2 hi2 x2 h => ?_
      exact ⟨⟨_, _, rfl⟩, nxt ow2 st2 x2 rfl ⟨⟨rs2, lo2, hi2, by simp only [lgC, c, if_true]; exact h⟩, by simp only [lgC, c, if_true]; exact h2.xt x2 (by omega), by simp only [lgC, c, if_true]; exact h3, by simp only [lgC, c, if_true]; exact h4⟩⟩
    · simp [c]
      refine let_go_ok h1 fun ow2 st2 rs2 lo2 hi2 x2 h => ?_
      exact ⟨⟨_, _, rfl⟩, nxt ow2 st2 x2 rfl ⟨⟨rs2, lo2, hi2, by simp only [lgC, c, if_false]; exact h⟩, by simp only [lgC, c, if_false]; exact h2.xt x2 (by omega), by simp only [lgC, c, if_false]; exact h3, by simp only [lgC, c, if_false]; exact h4⟩⟩
  · rintro ρ st1 ⟨⟨s2, s3, rfl⟩, hI⟩
    have el : (enumI 0 (refs d.cus)).length = ks.length := by rw [enumI_len, refs_len, hk, List.length_map]
    rw [el] at hI
    obtain ⟨ow1, x1, h1⟩ := hI.done
    have e := (hD.hc.xt x1 nb).2
    exact ⟨by simp only [gokB, e, IVs.beq_refl], k ow1 st1 x1 h1⟩
def CmI (ow : Ow) (st : Sto) (cs : List IV) (b : Nat) (rows : List Rw) (ks : List Ck) (i : Nat) (ρ : Slots) (st1 : Sto) : Prop := (∃ s1, ρ = [some (.v (.ref b)), s1]) ∧ CrI ow st cs b (pcC rows) ks i st1
def commitT : IS := (iSeq (iFor (iOver (iFld ["Database"] "cursors" (iVar 0))) (tgName 1)
  L_P_Database_commit_1)
  (iStFld ["Database"] "begun_at" (iVar 0) (iCallB gLen (iCons (iFld ["Database"] "cursors" (iVar 0)) iNil))))
theorem commit_split : B_P_Database_commit = (iSeq (iStFld ["Database"] "written" (iVar 0) (iLstS iNil))
  (iSeq (iStFld ["Database"] "points" (iVar 0) (iLstS iNil)) commitT)) := rfl
theorem commit_ok (hD : DbAt ow st b lk lw lp lc d) (hk : d.cus = ks.map (·.r)) (hc : CksAt ow st cs b ks) (g : Good cs) (hr : RwsOk cs d.rows)
    (k : ∀ ow' st' lw' lp', Xt ow st (fun k => k = b + 1 ∨ ofCks ks k) ow' st' → DbAt ow' st' b lk lw' lp' lc { d with wr := [], pts := [], bg := (d.cus.length : Int) } → CksAt ow' st' cs b (ks.mapIdx (pcC d.rows)) → P .non st') : (F_P_Database_commit [.ref b] st).wp P E := by
  have nb := hc.notb hD
  have nk := hD.nk
  rw [F_P_Database_commit, commit_split]
  -- two new lists
  have hb0 : st[b]? = some (.ins "Database" (dbF d lk lw lp lc)) := hD.hb.2
  have bl := hD.hb.lt
  have i1 : insAt (st ++ [Mi.IO.lst []]) [("Database" : Str)] (.ref b) = some (b, ("Database" : Str), dbF d lk lw lp lc) := by rw [insAt_app bl]; exact hD.ins
  have x1 : Xt ow st (fun k => k = b + 1 ∨ ofCks ks k) (owN ow st.length (b + 1)) ((st ++ [Mi.IO.lst []]).set b (.ins "Database" (dbF d lk st.length lp lc))) :=
    xt_push.trans (xt_set (by rw [owN_ne (by omega)]; exact hD.hb.1) (.inl rfl))
  have st1l : ((st ++ [Mi.IO.lst []]).set b (.ins "Database" (dbF d lk st.length lp lc))).length = st.length + 1 := by simp
  have w1 : ((st ++ [Mi.IO.lst []]).set b (.ins "Database" (dbF d lk st.length lp lc)))[st.length]? = some (.lst []) := by rw [List.getElem?_set_ne (by omega)]; simp
  have o1 : ∀ j, j ≠ b → j < st.length → ((st ++ [Mi.IO.lst []]).set b (.ins "Database" (dbF d lk st.length lp lc)))[j]? = st[j]? := fun j h1 h2 => by rw [List.getElem?_set_ne (Ne.symm h1), List.getElem?_append_left h2]
  have b1 : ((st ++ [Mi.IO.lst []]).set b (.ins "Database" (dbF d lk st.length lp lc)))[b]? = some (.ins "Database" (dbF d lk st.length lp lc)) := List.getElem?_set_self (by simp; omega)
  have i1' : insAt ((st ++ [Mi.IO.lst []]).set b (.ins "Database" (dbF d lk st.length lp lc)) ++ [Mi.IO.lst []]) [("Database" : Str)] (.ref b) = some (b, ("Database" : Str), dbF d lk st.length lp lc) := by rw [insAt_app (by rw [st1l]; omega)]; exact insAt_ref b1 List.mem_cons_self
  simp [i1, i1', -List.append_assoc]
  rw [← st1l]
  generalize ((st ++ [Mi.IO.lst []]).set b (.ins "Database" (dbF d lk st.length lp lc))) = st1 at x1 st1l w1 o1 b1 ⊢
  have i2 : insAt (st1 ++ [Mi.IO.lst []]) [("Database" : Str)] (.ref b) = some (b, ("Database" : Str), dbF d lk st.length lp lc) := by rw [insAt_app (by omega)]; exact insAt_ref b1 List.mem_cons_self
  have ob : owN ow st.length (b + 1) b = b + 1 := by rw [owN_ne (by omega)]; exact hD.hb.1
  have x2 : Xt (owN ow st.length (b + 1)) st1 (fun k => k = b + 1 ∨ ofCks ks k) (owN (owN ow st.length (b + 1)) st1.length (b + 1)) ((st1 ++ [Mi.IO.lst []]).set b (.ins "Database" (dbF d lk st.length st1.length lc))) :=
    xt_push.trans (xt_set (by rw [owN_ne (by omega)]; exact ob) (.inl rfl))
  have p2 : ((st1 ++ [Mi.IO.lst []]).set b (.ins "Database" (dbF d lk st.length st1.length lc)))[st1.length]? = some (.lst []) := by rw [List.getElem?_set_ne (by omega)]; simp
  have o2 : ∀ j, j ≠ b → j < st1.length → ((st1 ++ [Mi.IO.lst []]).set b (.ins "Database" (dbF d lk st.length st1.length lc)))[j]? = st1[j]? := fun j h1 h2 => by rw [List.getElem?_set_ne (Ne.symm h1), List.getElem?_append_left h2]
  have b2 : ((st1 ++ [Mi.IO.lst []]).set b (.ins "Database" (dbF d lk st.length st1.length lc)))[b]? = some (.ins "Database" (dbF d lk st.length st1.length lc)) := List.getElem?_set_self (by simp; omega)
  have ow2e : ∀ j, j < st.length → owN (owN ow st.length (b + 1)) st1.length (b + 1) j = ow j := fun j h => by rw [owN_ne (by omega), owN_ne (by omega)]
  have ow2n : owN (owN ow st.length (b + 1)) st1.length (b + 1) st.length = b + 1 := by rw [owN_ne (by omega)]; exact owN_at
  have ow2m : owN (owN ow st.length (b + 1)) st1.length (b + 1) st1.length = b + 1 := owN_at
  generalize ((st1 ++ [Mi.IO.lst []]).set b (.ins "Database" (dbF d lk st.length st1.length lc))) = st2 at x2 p2 o2 b2 ⊢
  generalize owN (owN ow st.length (b + 1)) st1.length (b + 1) = ow2 at x2 ow2e ow2n ow2m
  have x12 := x1.trans x2
  have kl := hD.hk.lt
  have cl := hD.hc.lt
  have hD2 : DbAt ow2 st2 b lk st.length st1.length lc { d with wr := [], pts := [] } := by
    refine ⟨⟨by rw [ow2e b bl]; exact hD.hb.1, b2⟩, ⟨by rw [ow2e lk kl]; exact hD.hk.1, ?_⟩, ⟨ow2n, ?_⟩, ⟨ow2m, p2⟩, ⟨by rw [ow2e lc cl]; exact hD.hc.1, ?_⟩, by omega, by omega, by omega⟩
    · rw [o2 lk nk.1 (by omega), o1 lk nk.1 kl]; exact hD.hk.2
    · rw [o2 st.length (by omega) (by omega)]; exact w1
    · rw [o2 lc nk.2.2.2.1 (by omega), o1 lc nk.2.2.2.1 cl]; exact hD.hc.2
  have hc2 : CksAt ow2 st2 cs b ks := by
    have t : Xt ow st (fun k => k = b + 1) ow2 st2 := ⟨x12.len, x12.own, fun p hp n => by
      have pb : p ≠ b := by rintro rfl; exact n hD.hb.1
      rw [o2 p pb (by omega), o1 p pb hp]⟩
    refine hc.xt t (fun x hx e => nb ⟨x, hx, e.symm⟩) (by omega)
  have nb2 := hc2.notb hD2
  have it2 := items_ref hD2.hc.2
  rw [commitT]
  simp [hD2.ins, it2]
  refine wp_for (CmI ow2 st2 cs b d.rows ks) ⟨⟨none, rfl⟩, .zero hc2⟩ ?_ ?_
  · rintro i z ρ st3 hz ⟨⟨s1, rfl⟩, hI⟩
    obtain ⟨r, hr', rfl⟩ := refs_get hz
    obtain ⟨x, hx, rfl⟩ := cus_get hk hr'
    obtain ⟨ow3, x3, ⟨⟨rs, lo, hi, h1⟩, h2, h3, h4⟩, nxt⟩ := hI.at hx
    have e := (hD2.hc.xt x3 nb2).2
    have hD3 := hD2.xt x3 nb2
    refine ⟨by simp only [gokB, e, IVs.beq_refl], ?_⟩
    simp [L_P_Database_commit_1, h1.ins, F_P_Cursor_is_open, B_P_Cursor_is_open]
    cases sh : x.c.shut with
    | true =>
      simp
      exact ⟨⟨_, rfl⟩, nxt ow3 st3 .refl rfl (by simp only [pcC, sh, if_true]; exact ⟨⟨rs, lo, hi, h1⟩, h2, h3, h4⟩)⟩
    | false =>
      simp [h1.ins]
      subst h3
      refine pass_ok h1 hD3 h2 g hr fun ow4 st4 rs4 lo4 hi4 x4 h => ?_
      have sm := passC_same x.dc d.rows x.c
      refine ⟨⟨_, rfl⟩, nxt ow4 st4 x4 rfl ?_⟩
      have ec : (pcC d.rows i x).c = passC x.dc d.rows x.c := by simp only [pcC, sh]; rfl
      refine ⟨⟨rs4, lo4, hi4, by rw [ec]; exact h⟩, ?_, ?_, ?_⟩
      · rw [ec, sm.1]; exact h2.xt x4 (by omega)
      · rw [ec, sm.2.1]
      · rw [ec, sm.2.2.1]; exact h4
  · rintro ρ st3 ⟨⟨s1, rfl⟩, hI⟩
    have el : (refs d.cus).length = ks.length := by rw [refs_len, hk, List.length_map]
    rw [el] at hI
    obtain ⟨ow3, x3, h1⟩ := hI.done
    have e := (hD2.hc.xt x3 nb2).2
    have hD3 := hD2.xt x3 nb2
    refine ⟨by simp only [gokB, e, IVs.beq_refl], ?_⟩
    simp [hD3.ins, len_ref hD3.hc.2]
    have x4 : Xt ow3 st3 (fun k => k = b + 1 ∨ ofCks ks k) ow3 (st3.set b (.ins "Database" (dbF { d with bg := (d.cus.length : Int) } lk st.length st1.length lc))) := xt_set hD3.hb.1 (.inl rfl)
    have x4' : Xt ow3 st3 (fun k => k = b + 1) ow3 (st3.set b (.ins "Database" (dbF { d with bg := (d.cus.length : Int) } lk st.length st1.length lc))) := xt_set hD3.hb.1 rfl
    have nk3 := hD3.nk
    refine k ow3 _ st.length st1.length ((x12.trans (x3.mono fun k z => .inr z)).trans x4) ?_ (h1.xt x4' (fun x hx z => ?_) (by omega))
    · exact ⟨hD3.hb.set, hD3.hk.setN (Ne.symm nk3.1), hD3.hw.setN (Ne.symm nk3.2.1), hD3.hp.setN (Ne.symm nk3.2.2.1), hD3.hc.setN (Ne.symm nk3.2.2.2.1), hD3.n1, hD3.n2, hD3.n3⟩
    · have := h1.notb hD3
      exact this ⟨x, hx, z.symm⟩
end
end K47
set_option Elab.async false
set_option linter.all false
set_option maxRecDepth 100000
set_option maxHeartbeats 4000000
namespace K47
open PySem PySem.Spec PyProof.Rows L2 Mi PySem.W
/-! ### declare, savepoints, rollbacks -/
def initC (dc : Dc) (rows : List Rw) (ld b : Nat) : Cu := ⟨ld, b, if dc.reach = 0 then readE dc rows none none else [], -1, decide (dc.reach = 0), (-1, none), (-1, none), false, false, dc.reach⟩
section
variable {ow ow' : Ow} {st st' : Sto} {cs : List IV} {dc : Dc} {d : Db} {b lk lw lp lc ld ls r lq : Nat} {lo hi : IV} {P : IV → Sto → Prop} {E : Str → List (Str × IV) → Sto → Prop} {c : Cu} {rs : List Nat} {Q : Sto → Prop} {its : List (Nat × Int)} {way : Int} {ks : List Ck} {x : Ck} {i : Nat}
theorem mk_cursor (hD : DbAt ow st b lk lw lp lc d) (hd : DcAt ow st ld cs dc) (g : Good cs) (hr : RwsOk cs d.rows)
    (k : ∀ ow' st' rs' lo' hi', Xt ow st none0 ow' st' → CuAt ow' st' dc.its dc.way st.length rs' lo' hi' (initC dc d.rows ld b) → Q st') :
    (F_P_Cursor_init [.ref st.length, .ref b, .ref ld] (st ++ [.ins "Cursor" []])).wp (fun v st' => v = .non ∧ Q st') E := by
  have h : (st ++ [Mi.IO.ins "Cursor" []])[st.length]? = some (.ins "Cursor" []) := by simp
  have hp : ∀ j, j < st.length → (st ++ [Mi.IO.ins "Cursor" []])[j]? = st[j]? := fun j hj => List.getElem?_append_left hj
  have hl : (st ++ [Mi.IO.ins "Cursor" []]).length = st.length + 1 := by simp
  generalize st ++ [Mi.IO.ins "Cursor" []] = st1 at h hp hl ⊢
  have hx : ∀ o, (st1.set st.length o)[st.length]? = some o := fun o => set_get h
  have dl := hd.hd.lt
  have din : ∀ o, insAt (st1.set st.length o) [("Declaration" : Str)] (.ref ld) = some (ld, ("Declaration" : Str), dcF dc) := fun o => by
    rw [insAt_ne (by omega)]
    exact insAt_ref ((hp ld dl).trans hd.hd.2) List.mem_cons_self
  have lit : ∀ v : IV, [(("declaration" : Str), IV.ref ld), (("store" : Str), .ref b), (("window" : Str), .lst []), (("index" : Str), .int (-1)), (("full_now" : Str), .bl false), (("low" : Str), v), (("high" : Str), v), (("row_now" : Str), .bl false), (("shut_now" : Str), .bl false), (("many" : Str), .int dc.reach)] = cuF ⟨ld, b, [], -1, false, (-1, none), (-1, none), false, false, dc.reach⟩ [] v v := fun v => rfl
  simp [F_P_Cursor_init, B_P_Cursor_init, insAt_ref h, insAt_ref (hx _), cu_mk0, cu_mk1, cu_mk2, cu_mk3, cu_mk4, cu_mk5, cu_mk6, cu_mk7, cu_mk8, cu_mk9, din, lit]
  generalize hc0 : (⟨ld, b, [], -1, false, (-1, none), (-1, none), false, false, dc.reach⟩ : Cu) = c0
  generalize ht : IV.tup [.int (-1), .non] = t
  have x1 : Xt ow st none0 (owN ow st.length (st.length + 1)) (st1.set st.length (.ins "Cursor" (cuF c0 [] t t))) := xt_new (by rw [List.length_set]; exact hl) fun j hj => by rw [List.getElem?_set_ne (by omega)]; exact hp j hj
  have sd : ∀ (ow : Ow) its way st, SdAt ow its way st t (-1, none) := fun ow its way st => ⟨.non, ht.symm, rfl⟩
  have hc1 : CuAt (owN ow st.length (st.length + 1)) (st1.set st.length (.ins "Cursor" (cuF c0 [] t t))) dc.its dc.way st.length [] t t c0 := by
    subst hc0
    exact ⟨⟨owN_at, hx _⟩, trivial, by simp, sd _ _ _ _, sd _ _ _ _⟩
  have hD1 := hD.xt x1 id
  have hd1 := hd.xt x1 id
  by_cases c1 : dc.reach = 0
  · have ei : initC dc d.rows ld b = { c0 with es := readE dc d.rows none none, full := true } := by unfold initC; rw [← hc0]; simp [c1]
    rw [ei] at k
    have e1 : c0.ld = ld := by rw [← hc0]
    have e2 : c0.db = b := by rw [← hc0]
    simp [c1, hc1.ins]
    generalize st1.set st.length (.ins "Cursor" (cuF c0 [] t t)) = st2 at x1 hc1 hD1 hd1 ⊢
    refine read_ok hc1.hc (by rw [e2]; exact hD1) (by rw [e1]; exact hd1) g hr (a0 := none) (b0 := none) rfl rfl fun ow3 st3 rs3 x3 e3 nd3 _ => ?_
    have hc3 := hc1.xt x3 id id
    have iset : ∀ fs, insAt (st3.set st.length (.ins "Cursor" fs)) [("Cursor" : Str)] (.ref st.length) = some (st.length, ("Cursor" : Str), fs) := fun fs => insAt_set hc3.hc.lt List.mem_cons_self
    simp [hc3.ins, iset]
    have x13 := x1.trans x3
    refine k ow3 _ rs3 t t ?_ (hc3.putW (c' := { c0 with es := readE dc d.rows none none, full := true }) e3 nd3 hc3.hlo hc3.hhi)
    exact ⟨by rw [List.length_set]; exact x13.len, x13.own, fun p hp n => by rw [List.getElem?_set_ne (by omega)]; exact x13.keep p hp n⟩
  · have ei : initC dc d.rows ld b = c0 := by unfold initC; rw [← hc0]; simp [c1]
    rw [ei] at k
    simp [c1]
    exact k _ _ [] t t x1 hc1
theorem declare_ok (hD : DbAt ow st b lk lw lp lc d) (hd : DcAt ow st ld cs dc) (g : Good cs) (hr : RwsOk cs d.rows) (hk : d.cus = ks.map (·.r)) (hc : CksAt ow st cs b ks) (few : ks.length ≤ 1000)
    (k : ∀ ow' st', Xt ow st (fun k => k = b + 1) ow' st' → DbAt ow' st' b lk lw lp lc { d with cus := d.cus ++ [st.length] } → CksAt ow' st' cs b (ks ++ [⟨st.length, dc, initC dc d.rows ld b⟩]) → P (.ref st.length) st') : (F_P_Database_declare [.ref b, .ref ld] st).wp P E := by
  have nb := hc.notb hD
  simp [F_P_Database_declare, B_P_Database_declare]
  refine mk_cursor hD hd g hr fun ow1 st1 rs1 lo1 hi1 x1 h1 => ?_
  have hD1 := hD.xt x1 id
  have lenc : (refs d.cus).length < 100000 := by rw [refs_len, hk, List.length_map]; omega
  simp [hD1.ins, isLst_ref hD1.hc.2, app_ref hD1.hc.2 lenc]
  have x2 : Xt ow1 st1 (fun k => k = b + 1) ow1 (st1.set lc (.lst (refs d.cus ++ [.ref st.length]))) := xt_set hD1.hc.1 rfl
  have nk := hD1.nk
  have er : refs d.cus ++ [IV.ref st.length] = refs (d.cus ++ [st.length]) := by simp [refs]
  rw [er] at x2 ⊢
  have n1 : ¬ st.length + 1 = b + 1 := by have := hD.hb.lt; omega
  refine k ow1 _ ((x1.mono fun _ z => z.elim).trans x2) ?_ ?_
  · exact ⟨hD1.hb.setN nk.2.2.2.1, hD1.hk.setN (Ne.symm nk.2.2.2.2.2.2), hD1.hw.setN (Ne.symm hD1.n2), hD1.hp.setN (Ne.symm hD1.n3), hD1.hc.set, hD1.n1, hD1.n2, hD1.n3⟩
  · have hc1 := hc.xt x1 (fun _ _ => id) id
    refine ⟨?_, fun z hz => ?_⟩
    · rw [List.map_append, List.nodup_append]
      refine ⟨hc.nd, by simp, fun a ha z hz => ?_⟩
      obtain ⟨y, hy, rfl⟩ := List.mem_map.mp ha
      obtain ⟨⟨_, _, _, h2⟩, _⟩ := hc.at' y hy
      have : z = st.length := by simpa using hz
      have := h2.hc.lt
      omega
    · rcases List.mem_append.mp hz with hz | hz
      · exact (hc1.at' z hz).xt x2 (fun e => nb ⟨z, hz, e.symm⟩) (by omega)
      · rw [List.mem_singleton.mp hz]
        refine ⟨⟨rs1, lo1, hi1, h1.xt x2 n1 (by omega)⟩, ?_, rfl, hd.hrch.1⟩
        exact (hd.xt x1 id).xt x2 (by omega)
theorem savepoint_ok (hD : DbAt ow st b lk lw lp lc d) (few : d.pts.length ≤ 1000)
    (k : ∀ st' v, Xt ow st (fun k => k = b + 1) ow st' → DbAt ow st' b lk lw lp lc { d with pts := d.pts ++ [((d.wr.length : Int), (d.cus.length : Int))] } → P v st') : (F_P_Database_savepoint [.ref b] st).wp P E := by
  have nk := hD.nk
  have lenp : (d.pts.map ptV).length < 100000 := by rw [List.length_map]; omega
  have er : d.pts.map ptV ++ [IV.tup [.int (d.wr.length : Int), .int (d.cus.length : Int)]] = (d.pts ++ [((d.wr.length : Int), (d.cus.length : Int))]).map ptV := by rw [List.map_append]; rfl
  have hb2 : insAt (st.set lp (.lst ((d.pts ++ [((d.wr.length : Int), (d.cus.length : Int))]).map ptV))) [("Database" : Str)] (.ref b) = some (b, ("Database" : Str), dbF d lk lw lp lc) := by rw [insAt_ne nk.2.2.1]; exact hD.ins
  have lp2 : (st.set lp (.lst ((d.pts ++ [((d.wr.length : Int), (d.cus.length : Int))]).map ptV)))[lp]? = some (.lst ((d.pts ++ [((d.wr.length : Int), (d.cus.length : Int))]).map ptV)) := List.getElem?_set_self hD.hp.lt
  simp [F_P_Database_savepoint, B_P_Database_savepoint, hD.ins, isLst_ref hD.hp.2, len_ref hD.hw.2, len_ref hD.hc.2, app_ref hD.hp.2 lenp, -List.map_append, er, hb2, len_ref lp2]
  refine k _ _ (xt_set hD.hp.1 rfl) ⟨hD.hb.setN nk.2.2.1, hD.hk.setN (Ne.symm nk.2.2.2.2.2.1), hD.hw.setN (Ne.symm hD.n1), hD.hp.set, hD.hc.setN hD.n3, hD.n1, hD.n2, hD.n3⟩
theorem undo_nil {n : Int} (hD : DbAt ow st b lk lw lp lc d) (hw : d.wr = []) (hn : 0 ≤ n) (k : P .non st) : (F_P_Database_undo_to [.ref b, .int n] st).wp P E := by
  have e := hD.hw.2
  rw [hw] at e
  have c : ¬ n < 0 := by omega
  simp [F_P_Database_undo_to, B_P_Database_undo_to]
  refine wp_while (fun k ρ st1 => k = 0 ∧ ρ = [some (.v (.ref b)), some (.v (.int n)), none, none] ∧ st1 = st) ?_ (k := 0) (by omega) ⟨rfl, rfl, rfl⟩
  rintro k1 ρ st1 ⟨rfl, rfl, rfl⟩
  simp [hD.ins, len_ref e, c]
  exact k
def rbT : IS := (iSeq (iDrop (iMeth "Database" "let_go_from" (arity 2 F_P_Database_let_go_from) (iVar 0) (iCons (iFld ["Database"] "begun_at" (iVar 0)) iNil)))
  (iStFld ["Database"] "begun_at" (iVar 0) (iCallB gLen (iCons (iFld ["Database"] "cursors" (iVar 0)) iNil))))
theorem rollback_split : B_P_Database_rollback = (iSeq (iDrop (iMeth "Database" "undo_to" (arity 2 F_P_Database_undo_to) (iVar 0) (iCons (iC (.int 0)) iNil)))
  (iSeq (iStFld ["Database"] "points" (iVar 0) (iLstS iNil)) rbT)) := rfl
def rtT : IS := (iSeq (iDrop (iMeth "Database" "undo_to" (arity 2 F_P_Database_undo_to) (iVar 0) (iCons (iVar 2) iNil)))
  (iDrop (iMeth "Database" "let_go_from" (arity 2 F_P_Database_let_go_from) (iVar 0) (iCons (iVar 3) iNil))))
theorem rollback_to_split : B_P_Database_rollback_to = (iSeq (iIfS (iNot (iTest (iChain gLe gLt (iC (.int 0)) (iVar 1) (iCallB gLen (iCons (iFld ["Database"] "points" (iVar 0)) iNil)))))
  (iRaise "NoSavepoint" "number" (iVar 1))
  iSkip)
  (iSeq (iAsg (iIx (iFld ["Database"] "points" (iVar 0)) (iVar 1)) (tgTup 2 (tgCons (tgName 2) (tgCons (tgName 3) tgNil))))
  (iSeq (iStFld ["Database"] "points" (iVar 0) (iCutS (iFld ["Database"] "points" (iVar 0)) iNoPart (iPart (iBin gAdd (iVar 1) (iC (.int 1)))))) rtT))) := rfl
theorem rollback_ok (hD : DbAt ow st b lk lw lp lc d) (hw : d.wr = []) (hk : d.cus = ks.map (·.r)) (hc : CksAt ow st cs b ks)
    (k : ∀ ow' st' lp', Xt ow st (fun k => k = b + 1 ∨ ofCks ks k) ow' st' → DbAt ow' st' b lk lw lp' lc { d with pts := [], bg := (d.cus.length : Int) } → CksAt ow' st' cs b (ks.mapIdx (lgC d.bg)) → P .non st') : (F_P_Database_rollback [.ref b] st).wp P E := by
  have nb := hc.notb hD
  have nk := hD.nk
  have bl := hD.hb.lt
  rw [F_P_Database_rollback, rollback_split]
  simp [hD.ins]
  refine undo_nil hD hw (by omega) ?_
  have i1 : insAt (st ++ [Mi.IO.lst []]) [("Database" : Str)] (.ref b) = some (b, ("Database" : Str), dbF d lk lw lp lc) := by rw [insAt_app bl]; exact hD.ins
  have x1 : Xt ow st (fun k => k = b + 1) (owN ow st.length (b + 1)) ((st ++ [Mi.IO.lst []]).set b (.ins "Database" (dbF d lk lw st.length lc))) :=
    xt_push.trans (xt_set (by rw [owN_ne (by omega)]; exact hD.hb.1) rfl)
  have w1 : ((st ++ [Mi.IO.lst []]).set b (.ins "Database" (dbF d lk lw st.length lc)))[st.length]? = some (.lst []) := by rw [List.getElem?_set_ne (by omega)]; simp
  have o1 : ∀ j, j ≠ b → j < st.length → ((st ++ [Mi.IO.lst []]).set b (.ins "Database" (dbF d lk lw st.length lc)))[j]? = st[j]? := fun j h1 h2 => by rw [List.getElem?_set_ne (Ne.symm h1), List.getElem?_append_left h2]
  have b1 : ((st ++ [Mi.IO.lst []]).set b (.ins "Database" (dbF d lk lw st.length lc)))[b]? = some (.ins "Database" (dbF d lk lw st.length lc)) := List.getElem?_set_self (by simp; omega)
  have oe : ∀ j, j < st.length → owN ow st.length (b + 1) j = ow j := fun j h => owN_ne (by omega)
  have on : owN ow st.length (b + 1) st.length = b + 1 := owN_at
  simp [i1]
  generalize ((st ++ [Mi.IO.lst []]).set b (.ins "Database" (dbF d lk lw st.length lc))) = st1 at x1 w1 o1 b1 ⊢
  generalize owN ow st.length (b + 1) = ow1 at x1 oe on
  have kl := hD.hk.lt
  have cl := hD.hc.lt
  have wl := hD.hw.lt
  have hD1 : DbAt ow1 st1 b lk lw st.length lc { d with pts := [] } := by
    refine ⟨⟨by rw [oe b bl]; exact hD.hb.1, b1⟩, ⟨by rw [oe lk kl]; exact hD.hk.1, ?_⟩, ⟨by rw [oe lw wl]; exact hD.hw.1, ?_⟩, ⟨on, w1⟩, ⟨by rw [oe lc cl]; exact hD.hc.1, ?_⟩, by omega, hD.n2, by omega⟩
    · rw [o1 lk nk.1 kl]; exact hD.hk.2
    · rw [o1 lw nk.2.1 wl]; exact hD.hw.2
    · rw [o1 lc nk.2.2.2.1 cl]; exact hD.hc.2
  have hc1 : CksAt ow1 st1 cs b ks := hc.xt x1 (fun x hx e => nb ⟨x, hx, e.symm⟩) (by omega)
  rw [rbT]
  simp [hD1.ins]
  refine let_go_from_ok hD1 hk hc1 fun ow2 st2 x2 hc2 => ?_
  have nb1 := hc1.notb hD1
  have hD2 := hD1.xt x2 nb1
  simp [hD2.ins, len_ref hD2.hc.2]
  have x3 : Xt ow2 st2 (fun k => k = b + 1) ow2 (st2.set b (.ins "Database" (dbF { d with bg := (d.cus.length : Int) } lk lw st.length lc))) := xt_set hD2.hb.1 rfl
  have nk2 := hD2.nk
  refine k ow2 _ st.length (((x1.mono fun _ z => .inl z).trans (x2.mono fun _ z => .inr z)).trans (x3.mono fun _ z => .inl z)) ?_ (hc2.xt x3 (fun x hx z => ?_) (by omega))
  · exact ⟨hD2.hb.set, hD2.hk.setN (Ne.symm nk2.1), hD2.hw.setN (Ne.symm nk2.2.1), hD2.hp.setN (Ne.symm nk2.2.2.1), hD2.hc.setN (Ne.symm nk2.2.2.2.1), hD2.n1, hD2.n2, hD2.n3⟩
  · exact (hc2.notb hD2) ⟨x, hx, z.symm⟩
theorem rollback_to_ok {n : Nat} {m : Int} (hD : DbAt ow st b lk lw lp lc d) (hw : d.wr = []) (hn : d.pts[n]? = some (0, m)) (hk : d.cus = ks.map (·.r)) (hc : CksAt ow st cs b ks)
    (k : ∀ ow' st' lp', Xt ow st (fun k => k = b + 1 ∨ ofCks ks k) ow' st' → DbAt ow' st' b lk lw lp' lc { d with pts := d.pts.take (n + 1) } → CksAt ow' st' cs b (ks.mapIdx (lgC m)) → P .non st') : (F_P_Database_rollback_to [.ref b, .int (n : Int)] st).wp P E := by
  have nb := hc.notb hD
  have nk := hD.nk
  have bl := hD.hb.lt
  have nl := (List.getElem?_eq_some_iff.mp hn).1
  have g1 : (0 : Int) ≤ (n : Int) ∧ (n : Int) < ((d.pts.map ptV).length : Int) := by rw [List.length_map]; omega
  have a1 : atI (d.pts.map ptV) (n : Int) = some (ptV (0, m)) := Mi.atI_at (by rw [List.getElem?_map, hn]; rfl)
  have c1 : cutI (d.pts.map ptV) none (some ((n : Int) + 1)) = (d.pts.take (n + 1)).map ptV := by
    rw [cutI_to (by omega), List.map_take]; rfl
  rw [F_P_Database_rollback_to, rollback_to_split]
  simp [hD.ins, len_ref hD.hp.2, nl, ix_ref hD.hp.2, a1, ptV, asL_ref hD.hp.2, -List.map_take]
  have i1 : ∀ xs, insAt (st ++ [Mi.IO.lst xs]) [("Database" : Str)] (.ref b) = some (b, ("Database" : Str), dbF d lk lw lp lc) := fun xs => by rw [insAt_app bl]; exact hD.ins
  have cc : cutI (d.pts.map fun p => IV.tup [.int p.1, .int p.2]) none (some ((n : Int) + 1)) = (d.pts.take (n + 1)).map ptV := c1
  have cd : cutI (d.pts.map ptV) none (some ((n : Int) + 1)) = (d.pts.take (n + 1)).map ptV := c1
  rw [cd]
  generalize hL : (d.pts.take (n + 1)).map ptV = L
  have x1 : Xt ow st (fun k => k = b + 1) (owN ow st.length (b + 1)) ((st ++ [Mi.IO.lst L]).set b (.ins "Database" (dbF d lk lw st.length lc))) :=
    xt_push.trans (xt_set (by rw [owN_ne (by omega)]; exact hD.hb.1) rfl)
  have w1 : ((st ++ [Mi.IO.lst L]).set b (.ins "Database" (dbF d lk lw st.length lc)))[st.length]? = some (.lst L) := by rw [List.getElem?_set_ne (by omega)]; simp
  have o1 : ∀ j, j ≠ b → j < st.length → ((st ++ [Mi.IO.lst L]).set b (.ins "Database" (dbF d lk lw st.length lc)))[j]? = st[j]? := fun j h1 h2 => by rw [List.getElem?_set_ne (Ne.symm h1), List.getElem?_append_left h2]
  have b1 : ((st ++ [Mi.IO.lst L]).set b (.ins "Database" (dbF d lk lw st.length lc)))[b]? = some (.ins "Database" (dbF d lk lw st.length lc)) := List.getElem?_set_self (by simp; omega)
  have oe : ∀ j, j < st.length → owN ow st.length (b + 1) j = ow j := fun j h => owN_ne (by omega)
  have on : owN ow st.length (b + 1) st.length = b + 1 := owN_at
  simp [i1]
  generalize ((st ++ [Mi.IO.lst L]).set b (.ins "Database" (dbF d lk lw st.length lc))) = st1 at x1 w1 o1 b1 ⊢
  generalize owN ow st.length (b + 1) = ow1 at x1 oe on
  have kl := hD.hk.lt
  have cl := hD.hc.lt
  have wl := hD.hw.lt
  have hD1 : DbAt ow1 st1 b lk lw st.length lc { d with pts := d.pts.take (n + 1) } := by
    refine ⟨⟨by rw [oe b bl]; exact hD.hb.1, b1⟩, ⟨by rw [oe lk kl]; exact hD.hk.1, ?_⟩, ⟨by rw [oe lw wl]; exact hD.hw.1, ?_⟩, ⟨on, by rw [hL]; exact w1⟩, ⟨by rw [oe lc cl]; exact hD.hc.1, ?_⟩, by omega, hD.n2, by omega⟩
    · rw [o1 lk nk.1 kl]; exact hD.hk.2
    · rw [o1 lw nk.2.1 wl]; exact hD.hw.2
    · rw [o1 lc nk.2.2.2.1 cl]; exact hD.hc.2
  have hc1 : CksAt ow1 st1 cs b ks := hc.xt x1 (fun x hx e => nb ⟨x, hx, e.symm⟩) (by omega)
  rw [rtT]
  simp [hD1.ins]
  refine undo_nil (n := 0) hD1 hw (by omega) ?_
  simp [hD1.ins]
  refine let_go_from_ok hD1 hk hc1 fun ow2 st2 x2 hc2 => ?_
  have nb1 := hc1.notb hD1
  exact k ow2 st2 st.length ((x1.mono fun _ z => .inl z).trans (x2.mono fun _ z => .inr z)) (hD1.xt x2 nb1) hc2
end
end K47
set_option Elab.async false
set_option linter.all false
set_option maxRecDepth 100000
set_option maxHeartbeats 4000000
namespace K47
open PySem PySem.Spec PyProof.Rows L2 Mi PySem.W
/-! ### rows are given -/
section
variable {ow ow' : Ow} {st st' : Sto} {cs : List IV} {dc : Dc} {d : Db} {b lk lw lp lc lt ld ls r lq : Nat} {lo hi : IV} {P : IV → Sto → Prop} {E : Str → List (Str × IV) → Sto → Prop} {Q : Sto → Prop} {vs : List IV}
theorem has_row (h : TabAt lt cs st) (hv : inTs vs cs = true) (k : P (.bl true) st) : (F_P_Table_contains [.ref lt, .tup vs] st).wp P E := by
  have hl := inTs_len hv
  have hl' : (vs.length : Int) = (cs.length : Int) := by omega
  simp [F_P_Table_contains, B_P_Table_contains, h.ins, lkt, askT, isSubB, hl']
  refine wp_for (fun i ρ st' => st' = st ∧ (∃ a b, ρ = [some (.v (.ref lt)), some (.v (.tup vs)), a, b])) ⟨rfl, ⟨_, _, rfl⟩⟩ ?_ ?_
  · rintro i x ρ st' hx' ⟨rfl, ⟨a, b, rfl⟩⟩
    obtain ⟨v, t, e1, e2, rfl⟩ := zipI_get _ _ _ _ hx'
    rw [List.getElem?_map, Option.map_eq_some_iff] at e2
    obtain ⟨c, e2, rfl⟩ := e2
    obtain ⟨v', e3, h0, h1⟩ := inTs_get hv e2
    rw [e1] at e3
    have : v = .int v' := Option.some.inj e3
    subst this
    have c3 : ¬ snd c < v' := by omega
    refine ⟨rfl, ?_⟩
    simp [tyOf, isSubB, askT, h0, h1, c3]
  · rintro ρ st' ⟨rfl, ⟨a, b, rfl⟩⟩
    exact ⟨rfl, by simpa using k⟩
def lawRow (r : Int × List IV) : IV := .tup [.int r.1, .tup r.2]
structure RsOk (cs : List IV) (rs : List (Int × List IV)) : Prop where
  nd : (rs.map (·.1)).Nodup
  vs : ∀ r ∈ rs, inTs r.2 cs = true
  few : rs.length ≤ 1000
def CkI (st0 : Sto) (ls lt : Nat) (rs : List (Int × List IV)) (rv : IV) (i : Nat) (ρ : Slots) (st : Sto) : Prop := (∃ s3 s4 s5 s6, ρ = [some (.v (.ref lt)), some (.v rv), some (.v (.ref ls)), s3, s4, s5, s6]) ∧
  st[ls]? = some (.set ((rs.take i).map fun r => .inl r.1)) ∧ (∀ j, j < st0.length → st[j]? = st0[j]?) ∧ st.length = st0.length + 1
theorem check_rows_ok {rs : List (Int × List IV)} (ht : TabAt lt cs st) (hr : RsOk cs rs) (k : ∀ st', (∀ j, j < st.length → st'[j]? = st[j]?) → st'.length = st.length + 1 → P .non st') : (F_P_check_rows [.ref lt, .lst (rs.map lawRow)] st).wp P E := by
  have tl : lt < st.length := (List.getElem?_eq_some_iff.mp ht).1
  simp [F_P_check_rows, B_P_check_rows]
  refine wp_for (CkI st st.length lt rs (.lst (rs.map lawRow))) ⟨⟨none, none, none, none, rfl⟩, by simp, fun j hj => List.getElem?_append_left hj, by simp⟩ ?_ ?_
  · rintro i z ρ st1 hz ⟨⟨s3, s4, s5, s6, rfl⟩, e1, e2, e3⟩
    obtain ⟨v, hv, rfl⟩ := enumI_get hz
    rw [List.getElem?_map] at hv
    cases q : rs[i]? with
    | none => rw [q] at hv; cases hv
    | some r =>
      rw [q] at hv
      have hv : lawRow r = v := by simpa using hv
      subst hv
      have il := (List.getElem?_eq_some_iff.mp q).1
      have few := hr.few
      have ht1 : TabAt lt cs st1 := (e2 lt tl).trans ht
      have nin : hasK ((rs.take i).map fun r => (Sum.inl r.1 : Key)) (.inl r.1) = false := by
        rw [← Bool.not_eq_true, hasK_iff]
        intro hm
        obtain ⟨r', hr', er⟩ := List.mem_map.mp hm
        have er : r'.1 = r.1 := Sum.inl.inj er
        obtain ⟨j, hj, hj2⟩ := List.getElem_of_mem hr'
        rw [List.length_take] at hj
        rw [List.getElem_take] at hj2
        have h1 : (rs.map (·.1))[j]? = some r.1 := by rw [List.getElem?_map, List.getElem?_eq_getElem (by omega), hj2, ← er]; rfl
        have h2 : (rs.map (·.1))[i]? = some r.1 := by rw [List.getElem?_map, q]; rfl
        have := (List.getElem?_inj (by rw [List.length_map]; omega) hr.nd).mp (h1.trans h2.symm)
        omega
      have is1 : gInS false (.int r.1) (.ref st.length) st1 = .ok (.bl false) st1 := by rw [inS_ref e1 (k := .inl r.1) rfl, nin]; rfl
      refine ⟨rfl, ?_⟩
      simp [L_P_check_rows_1, lawRow, askT, isSubB, tyOf, is1]
      refine wp_has ht1.ins (has_row ht1 (hr.vs r (List.mem_of_getElem? q)) ⟨_, rfl, ?_⟩)
      have sa : (setAt st1 (.ref st.length)).isSome = true := by simp [setAt, e1]
      have ll : ((rs.take i).map fun r => (Sum.inl r.1 : Key)).length < 4000 := by rw [List.length_map, List.length_take]; omega
      have nin' := nin
      rw [List.map_take] at nin'
      simp [sa, sadd_ref (y := .int r.1) e1 (k := .inl r.1) rfl ll, nin]
      refine ⟨⟨_, _, _, _, rfl⟩, ?_, fun j hj => ?_, by rw [List.length_set]; exact e3⟩
      · rw [List.getElem?_set_self (by omega), List.take_add_one, q]; simp [nin']
      · rw [List.getElem?_set_ne (by omega)]; exact e2 j hj
  · rintro ρ st1 ⟨⟨s3, s4, s5, s6, rfl⟩, e1, e2, e3⟩
    exact ⟨rfl, k st1 e2 e3⟩
def giveR (d : Db) (n : Int) (vs : List IV) : Db := { d with ev := d.ev + 1, rows := d.rows ++ [⟨n, vs, d.ev + 1, d.ev + 1⟩] }
theorem give_new {n : Int} (hD : DbAt ow st b lk lw lp lc d) (hn : ∀ r ∈ d.rows, r.name ≠ n) (few : d.rows.length < 1000) (k : ∀ st', Xt ow st (fun k => k = b + 1) ow st' → DbAt ow st' b lk lw lp lc (giveR d n vs) → P .non st') : (F_P_Database_give [.ref b, .int n, .tup vs] st).wp P E := by
  have nk := hD.nk
  have vn := val_none hn
  have bl := hD.hb.lt
  have in1 : gInK false (.int n) (.ref lk) (st.set b (.ins "Database" (dbF { d with ev := d.ev + 1 } lk lw lp lc))) = .ok (.bl false) (st.set b (.ins "Database" (dbF { d with ev := d.ev + 1 } lk lw lp lc))) := by
    rw [inK_ref (by rw [List.getElem?_set_ne (Ne.symm nk.1)]; exact hD.hk.2) (k := .inl n) rfl, vn]; rfl
  have i1 : insAt (st.set b (.ins "Database" (dbF { d with ev := d.ev + 1 } lk lw lp lc))) [("Database" : Str)] (.ref b) = some (b, ("Database" : Str), dbF { d with ev := d.ev + 1 } lk lw lp lc) := insAt_set bl List.mem_cons_self
  have lkk : (st.set b (.ins "Database" (dbF { d with ev := d.ev + 1 } lk lw lp lc)))[lk]? = some (.dic (d.rows.map rwI)) := by rw [List.getElem?_set_ne (Ne.symm nk.1)]; exact hD.hk.2
  have sd := fun x => setDc_ref (x := x) lkk (k := .inl n) (y := .int n) rfl (by rw [List.length_map]; omega)
  have pd : putD (d.rows.map rwI) (.inl n) (.tup [.tup vs, .tup [.int (d.ev + 1), .int (d.ev + 1)]]) = (giveR d n vs).rows.map rwI := by
    unfold putD
    rw [if_neg, giveR, List.map_append]; rfl
    rw [List.any_eq_true]
    rintro ⟨p, hp, e⟩
    obtain ⟨r, hr, rfl⟩ := List.mem_map.mp hp
    have e : (Sum.inl r.name : Key) = .inl n := by simpa [rwI] using e
    exact hn r hr (Sum.inl.inj e)
  simp [F_P_Database_give, B_P_Database_give]
  refine wps_fldAug ?_
  simp [hD.ins]
  refine ⟨b, _, _, ⟨rfl, rfl, rfl⟩, d.ev, db_lk_events, _, ⟨rfl, rfl, rfl⟩, db_len, ?_⟩
  rw [db_put_events]
  simp [i1, in1, sd, pd]
  have x1 : Xt ow st (fun k => k = b + 1) ow (st.set b (.ins "Database" (dbF { d with ev := d.ev + 1 } lk lw lp lc))) := xt_set hD.hb.1 rfl
  refine k _ (x1.trans (xt_set (k := b + 1) hD.hk.1 rfl)) ?_
  exact ⟨hD.hb.set.setN nk.1, (hD.hk.setN (Ne.symm nk.1)).set, (hD.hw.setN (Ne.symm nk.2.1)).setN nk.2.2.2.2.1, (hD.hp.setN (Ne.symm nk.2.2.1)).setN nk.2.2.2.2.2.1, (hD.hc.setN (Ne.symm nk.2.2.2.1)).setN nk.2.2.2.2.2.2, hD.n1, hD.n2, hD.n3⟩
def givenR (lt : Nat) : List (Int × List IV) → Db
  | rs => rs.foldl (fun d r => giveR d r.1 r.2) ⟨lt, 0, [], [], [], [], 0⟩
theorem givenR_snoc {lt : Nat} {rs : List (Int × List IV)} {r : Int × List IV} : givenR lt (rs ++ [r]) = giveR (givenR lt rs) r.1 r.2 := by unfold givenR; rw [List.foldl_append]; rfl
theorem givenR_inv' : ∀ (rs : List (Int × List IV)) (d : Db), let z := rs.foldl (fun d r => giveR d r.1 r.2) d; z.lt = d.lt ∧ z.wr = d.wr ∧ z.pts = d.pts ∧ z.cus = d.cus ∧ z.bg = d.bg ∧ (z.rows.map fun r => (r.name, r.vs)) = (d.rows.map fun r => (r.name, r.vs)) ++ rs
  | [], d => by simp
  | r :: rs, d => by
    have ih := givenR_inv' rs (giveR d r.1 r.2)
    simp only [List.foldl_cons] at ih ⊢
    refine ⟨ih.1, ih.2.1, ih.2.2.1, ih.2.2.2.1, ih.2.2.2.2.1, ih.2.2.2.2.2.trans ?_⟩
    show ((d.rows ++ [_]).map _) ++ rs = _
    rw [List.map_append, List.append_assoc]; rfl
theorem givenR_inv {lt : Nat} (rs : List (Int × List IV)) : (givenR lt rs).lt = lt ∧ (givenR lt rs).wr = [] ∧ (givenR lt rs).pts = [] ∧ (givenR lt rs).cus = [] ∧ (givenR lt rs).bg = 0 ∧ ((givenR lt rs).rows.map fun r => (r.name, r.vs)) = rs := by
  have h := givenR_inv' rs ⟨lt, 0, [], [], [], [], 0⟩
  exact h
end
end K47
set_option Elab.async false
set_option linter.all false
set_option maxRecDepth 100000
set_option maxHeartbeats 4000000
namespace K47
open PySem PySem.Spec PyProof.Rows L2 Mi PySem.W
section
variable {ow ow' : Ow} {st st' : Sto} {cs : List IV} {b lk lw lp lc lt r : Nat} {P : IV → Sto → Prop} {E : Str → List (Str × IV) → Sto → Prop} {Q : Sto → Prop}
def GvI (ow : Ow) (st : Sto) (b lk lw lp lc lt : Nat) (rv : IV) (rs : List (Int × List IV)) (i : Nat) (ρ : Slots) (st1 : Sto) : Prop := (∃ s3 s4, ρ = [some (.v (.ref b)), some (.v (.ref lt)), some (.v rv), s3, s4]) ∧ Xt ow st (fun k => k = b + 1) ow st1 ∧ DbAt ow st1 b lk lw lp lc (givenR lt (rs.take i))
theorem mk_db {rs : List (Int × List IV)} (ht : TabAt lt cs st) (hr : RsOk cs rs) (hf : ∀ p, p < st.length → ow p ≠ st.length + 1)
    (k : ∀ ow' st' lk lw lp lc, Xt ow st none0 ow' st' → DbAt ow' st' st.length lk lw lp lc (givenR lt rs) → Q st') :
    (F_P_Database_init [.ref st.length, .ref lt, .lst (rs.map lawRow)] (st ++ [.ins "Database" []])).wp (fun v st' => v = .non ∧ Q st') E := by
  have tl : lt < st.length := (List.getElem?_eq_some_iff.mp ht).1
  have ht1 : TabAt lt cs (st ++ [.ins "Database" []]) := by unfold TabAt; rw [List.getElem?_append_left tl]; exact ht
  simp [F_P_Database_init, B_P_Database_init]
  refine check_rows_ok ht1 hr fun st2 h1 h2 => ?_
  have h2 : st2.length = st.length + 2 := by rw [h2]; simp
  have hk : ∀ j, j < st.length → st2[j]? = st[j]? := fun j hj => by rw [h1 j (by simp; omega), List.getElem?_append_left hj]
  have hb : st2[st.length]? = some (.ins "Database" []) := by rw [h1 st.length (by simp)]; simp
  have hlt : st.length < st2.length := by omega
  have inf0 : insAt st2 [("Database" : Str)] (.ref st.length) = some (st.length, ("Database" : Str), []) := insAt_ref hb List.mem_cons_self
  have inf1 : ∀ fs, insAt (st2.set st.length (.ins "Database" fs)) [("Database" : Str)] (.ref st.length) = some (st.length, ("Database" : Str), fs) := fun fs => insAt_set hlt List.mem_cons_self
  have inf : ∀ fs os, insAt (st2.set st.length (.ins "Database" fs) ++ os) [("Database" : Str)] (.ref st.length) = some (st.length, ("Database" : Str), fs) := fun fs os => by rw [insAt_app (by rw [List.length_set]; exact hlt)]; exact inf1 fs
  have H : ∀ S : Sto, S = st2.set st.length (.ins "Database" (dbF ⟨lt, 0, [], [], [], [], 0⟩ st2.length (st2.length + 1) (st2.length + 1 + 1) (st2.length + 1 + 1 + 1))) ++ [Mi.IO.dic [], Mi.IO.lst [], Mi.IO.lst [], Mi.IO.lst []] →
      (forL none (rs.map lawRow) (tgTup 2 (tgCons (tgName 3) (tgCons (tgName 4) tgNil))) L_P_Database_init_1 (rs.map lawRow) [some (.v (.ref st.length)), some (.v (.ref lt)), some (.v (.lst (rs.map lawRow))), none, none] S).wp ⟨fun _ st => (IV.non = IV.non ∧ Q st), fun v st => v = .non ∧ Q st, fun _ _ => False, fun _ _ => False, fun c fs _ st => E c fs st⟩ := by
    intro S hS
    have sl : S.length = st2.length + 4 := by rw [hS]; simp
    have g0 : S[st.length]? = some (.ins "Database" (dbF ⟨lt, 0, [], [], [], [], 0⟩ st2.length (st2.length + 1) (st2.length + 1 + 1) (st2.length + 1 + 1 + 1))) := by rw [hS, List.getElem?_append_left (by rw [List.length_set]; exact hlt), List.getElem?_set_self hlt]
    have g1 : ∀ i, S[st2.length + i]? = [Mi.IO.dic [], Mi.IO.lst [], Mi.IO.lst [], Mi.IO.lst []][i]? := fun i => by rw [hS, List.getElem?_append_right (by rw [List.length_set]; omega), List.length_set, Nat.add_sub_cancel_left]
    have g2 : ∀ j, j < st.length → S[j]? = st[j]? := fun j hj => by rw [hS, List.getElem?_append_left (by rw [List.length_set]; omega), List.getElem?_set_ne (by omega)]; exact hk j hj
    have x1 : Xt ow st none0 (fun p => if p < st.length then ow p else st.length + 1) S := ⟨by omega, fun p hp => if_pos hp, fun p hp _ => g2 p hp⟩
    have on : ∀ p, st.length ≤ p → (fun p => if p < st.length then ow p else st.length + 1) p = st.length + 1 := fun p hp => if_neg (by omega)
    generalize (fun p => if p < st.length then ow p else st.length + 1) = ow1 at x1 on
    have hD : DbAt ow1 S st.length st2.length (st2.length + 1) (st2.length + 1 + 1) (st2.length + 1 + 1 + 1) (givenR lt []) :=
      ⟨⟨on _ (Nat.le_refl _), g0⟩, ⟨on _ (by omega), g1 0⟩, ⟨on _ (by omega), g1 1⟩, ⟨on _ (by omega), g1 2⟩, ⟨on _ (by omega), g1 3⟩, by omega, by omega, by omega⟩
    refine wp_for (GvI ow1 S st.length st2.length (st2.length + 1) (st2.length + 1 + 1) (st2.length + 1 + 1 + 1) lt (.lst (rs.map lawRow)) rs) ⟨⟨none, none, rfl⟩, .refl, by rw [List.take_zero]; exact hD⟩ ?_ ?_
    · rintro i z ρ st3 hz ⟨⟨s3, s4, rfl⟩, x3, hD3⟩
      rw [List.getElem?_map] at hz
      cases q : rs[i]? with
      | none => rw [q] at hz; cases hz
      | some r =>
        rw [q] at hz
        have hz : lawRow r = z := by simpa using hz
        subst hz
        have il := (List.getElem?_eq_some_iff.mp q).1
        have few := hr.few
        have inv := (givenR_inv (lt := lt) (rs.take i)).2.2.2.2.2
        have len : (givenR lt (rs.take i)).rows.length = (rs.take i).length := by rw [← List.length_map (f := fun r : Rw => (r.name, r.vs)), inv]
        refine ⟨rfl, ?_⟩
        simp [lawRow, L_P_Database_init_1, hD3.ins]
        refine give_new hD3 (fun r' hr' e => ?_) (by rw [len, List.length_take]; omega) fun st4 x4 h4 => ?_
        · have hm : (r'.name, r'.vs) ∈ rs.take i := by rw [← inv]; exact List.mem_map.mpr ⟨r', hr', rfl⟩
          obtain ⟨j, hj, hj2⟩ := List.getElem_of_mem hm
          rw [List.length_take] at hj
          rw [List.getElem_take] at hj2
          have h1 : (rs.map (·.1))[j]? = some r.1 := by rw [List.getElem?_map, List.getElem?_eq_getElem (by omega), hj2, ← e]; rfl
          have h2 : (rs.map (·.1))[i]? = some r.1 := by rw [List.getElem?_map, q]; rfl
          have := (List.getElem?_inj (by rw [List.length_map]; omega) hr.nd).mp (h1.trans h2.symm)
          omega
        · refine ⟨⟨_, _, rfl⟩, x3.trans x4, ?_⟩
          rw [List.take_add_one, q]
          show DbAt ow1 st4 _ _ _ _ _ (givenR lt (rs.take i ++ [r]))
          rw [givenR_snoc]
          exact h4
    · rintro ρ st3 ⟨⟨s3, s4, rfl⟩, x3, hD3⟩
      rw [List.length_map, List.take_of_length_le (Nat.le_refl _)] at hD3
      refine ⟨rfl, rfl, k ow1 st3 _ _ _ _ ⟨Nat.le_trans x1.len x3.len, fun p hp => x1.own p hp, fun p hp n => ?_⟩ hD3⟩
      have := x1.keep p hp n
      rw [← this]
      refine x3.keep p (by omega) fun z => ?_
      exact hf p hp ((x1.own p hp).symm.trans z)
  simp [inf0, inf1, inf, List.set_append, hlt, db_mk0, db_mk1, db_mk2, db_mk3, db_mk4, db_mk5, db_mk6]
  refine H _ ?_
  simp [dbF, refs]
end
end K47
set_option Elab.async false
set_option linter.all false
set_option maxRecDepth 100000
set_option maxHeartbeats 4000000
namespace K47
open PySem PySem.Spec PyProof.Rows L2 Mi PySem.W
/-! ### declarations -/
theorem owE_xt {ow : Ow} {st st' : Sto} {S : Nat → Prop} (hk : ∀ j, j < st.length → st'[j]? = st[j]?) (hl : st.length ≤ st'.length) : Xt ow st S (owE st.length ow) st' := xt_owE hl fun p hp _ => hk p hp
theorem wayOf_ok {nm : Int} (h : Nm nm) : wayOf nm = 1 ∨ wayOf nm = -1 := by
  unfold wayOf
  rcases h with rfl | rfl | rfl <;> simp
section
variable {ow : Ow} {st : Sto} {cs : List IV} {lt : Nat} {E : Str → List (Str × IV) → Sto → Prop} {Q : Sto → Prop}
theorem mk_decl {reach nm : Int} {copied locked : Bool} {hold check zw zb : Str} {W V : List Str} {gw gb : List (Nat × List Nat)} {t : Tr} {its : List (Nat × Int)} (ht : ow lt = 0 ∧ TabAt lt cs st) (g : Good cs) (h0 : 0 < cs.length)
    (r0 : 0 ≤ reach) (r9 : reach ≤ 9) (hh : inI (.str hold) g_HOLDS = true) (hc : inI (.str check) g_CHECKS = true) (hw : TxtG zw W gw) (tw : Toks W) (pw : rdT cs W = .done t W.length) (dw : dp t ≤ 64) (hb : TxtG zb V gb) (pb : ordT cs V = .done its nm V.length)
    (k : ∀ ow' st' lw lo, Xt ow st none0 ow' st' → DcAt ow' st' st.length cs ⟨lt, lw, lo, W, t, its, wayOf nm, reach, copied, hold, locked, check⟩ → Q st') :
    (F_P_Declaration_init [.ref st.length, .ref lt, .int reach, .bl copied, .str hold, .bl locked, .str check, .str zw, .str zb] (st ++ [.ins "Declaration" []])).wp (fun v st' => v = .non ∧ Q st') E := by
  have tl : lt < st.length := (List.getElem?_eq_some_iff.mp ht.2).1
  have h : (st ++ [Mi.IO.ins "Declaration" []])[st.length]? = some (.ins "Declaration" []) := by simp
  have hp : ∀ j, j < st.length → (st ++ [Mi.IO.ins "Declaration" []])[j]? = st[j]? := fun j hj => List.getElem?_append_left hj
  have hl : (st ++ [Mi.IO.ins "Declaration" []]).length = st.length + 1 := by simp
  generalize st ++ [Mi.IO.ins "Declaration" []] = st1 at h hp hl ⊢
  have ih := in_str_tup (st := st1) (neg := false) (x := hold) (ys := g_HOLDS) (by decide +kernel)
  rw [hh] at ih
  have ic := in_str_tup (st := st1) (neg := false) (x := check) (ys := g_CHECKS) (by decide +kernel)
  rw [hc] at ic
  simp [F_P_Declaration_init, B_P_Declaration_init, F_P_is_reach, B_P_is_reach, F_P_is_among, B_P_is_among, askT, isSubB, tyOf, r0, r9, ih, ic]
  -- the condition
  have hi1 : (st1 ++ [Mi.IO.ins "Condition" []])[st1.length]? = some (.ins "Condition" []) := by simp
  have ht1 : TabAt lt cs (st1 ++ [Mi.IO.ins "Condition" []]) := by
    unfold TabAt; rw [List.getElem?_append_left (by omega), hp lt tl]; exact ht.2
  refine init_any hi1 ht1 (by omega) g h0 hw tw (by rw [pw]; simp) (fun t' j e => by rw [pw] at e; injection e with e1 e2; subst e1; exact dw) (fun j st' hj _ => ?_) (fun t' st2 e1 to c1 k1 l1 => ?_)
  · rcases hj with hj | ⟨t', hj, hj2⟩
    · rw [pw] at hj; cases hj
    · rw [pw] at hj; injection hj with e1 e2; omega
  have te : t' = t := by rw [pw] at e1; injection e1 with e1 _; exact e1.symm
  subst te
  have l2 : st.length + 2 ≤ st2.length := by rw [List.length_append, hl] at l1; simpa using l1
  have k2 : ∀ j, j < st1.length → st2[j]? = st1[j]? := fun j hj => by rw [k1 j (by rw [List.length_append]; omega) (by omega), List.getElem?_append_left hj]
  have rec2 : st2[st.length]? = some (.ins "Declaration" []) := (k2 st.length (by omega)).trans h
  simp [insAt_ref rec2, dc_mk0]
  -- the order
  have hx : ∀ o, (st2.set st.length o)[st.length]? = some o := fun o => set_get rec2
  have k3 : ∀ j o, j < st2.length → j ≠ st.length → (st2.set st.length o)[j]? = st2[j]? := fun j o h1 h2 => List.getElem?_set_ne (Ne.symm h2)
  have l3 : ∀ o, (st2.set st.length o).length = st2.length := fun o => List.length_set ..
  have h3 := hx (.ins "Declaration" [(("where" : Str), .ref st1.length)])
  have kk3 := fun j => k3 j (.ins "Declaration" [(("where" : Str), .ref st1.length)])
  have ll3 := l3 (.ins "Declaration" [(("where" : Str), .ref st1.length)])
  generalize st2.set st.length (.ins "Declaration" [(("where" : Str), .ref st1.length)]) = st3 at h3 kk3 ll3 ⊢
  have hi3 : (st3 ++ [Mi.IO.ins "Order" []])[st3.length]? = some (.ins "Order" []) := by simp
  have tab3 : st3[lt]? = st[lt]? := by rw [kk3 lt (by omega) (by omega), k2 lt (by omega), hp lt tl]
  have ht3 : TabAt lt cs (st3 ++ [Mi.IO.ins "Order" []]) := by
    unfold TabAt; rw [List.getElem?_append_left (by omega), tab3]; exact ht.2
  simp [← ll3]
  refine oinit_any hi3 ht3 (by omega) g hb (fun j st' hj _ => ?_) (fun its' nm' st4 e1 hnm hits o4 k4 l4 => ?_)
  · rcases hj with hj | ⟨its', nm', hj, hj2⟩
    · rw [pb] at hj; cases hj
    · rw [pb] at hj; injection hj with e1 e2 e3; omega
  have te : its' = its ∧ nm' = nm := by rw [pb] at e1; injection e1 with e1 e2 _; exact ⟨e1.symm, e2.symm⟩
  obtain ⟨rfl, rfl⟩ := te
  have l5 : st.length + 3 ≤ st4.length := by rw [List.length_append] at l4; simp only [List.length_singleton] at l4; omega
  have k5 : ∀ j, j < st3.length → st4[j]? = st3[j]? := fun j hj => by rw [k4 j (by rw [List.length_append]; omega) (by omega), List.getElem?_append_left hj]
  have rec4 : st4[st.length]? = some (.ins "Declaration" [(("where" : Str), .ref st1.length)]) := (k5 _ (by omega)).trans h3
  have hx4 : ∀ o, (st4.set st.length o)[st.length]? = some o := fun o => set_get rec4
  simp [insAt_ref rec4, insAt_ref (hx4 _), dc_mk1, dc_mk2, dc_mk3, dc_mk4, dc_mk5, dc_mk6, dc_mk7]
  have kf : ∀ j o, j < st.length → (st4.set st.length o)[j]? = st[j]? := fun j o hj => by
    rw [List.getElem?_set_ne (by omega), k5 j (by omega), kk3 j (by omega) (by omega), k2 j (by omega), hp j hj]
  refine k _ _ st1.length st3.length (owE_xt (fun j hj => kf j _ hj) (by rw [List.length_set]; omega)) ?_
  refine ⟨⟨owE_ge (Nat.le_refl _), hx4 _⟩, ⟨owE_ge (by show st.length ≤ st1.length; omega), ?_⟩, ⟨owE_ge (by show st.length ≤ st3.length; omega), ?_⟩, ⟨(owE_lt tl).trans ht.1, ?_⟩, hits, wayOf_ok hnm, r0, r9⟩
  · show (st4.set st.length _)[st1.length]? = _
    rw [List.getElem?_set_ne (by omega), k5 _ (by omega), kk3 _ (by omega) (by omega)]
    exact c1
  · show (st4.set st.length _)[st3.length]? = _
    rw [List.getElem?_set_ne (by omega)]
    exact o4
  · show (st4.set st.length _)[lt]? = _
    rw [kf lt _ tl]
    exact ht.2
end
theorem txt_true : TxtG "true" ["true"] [(0, ("true" : Str).cps.toList)] := ⟨⟨0, by decide +kernel⟩, by decide +kernel, by decide +kernel, by decide +kernel⟩
theorem txt_nil : TxtG "" [] [] := ⟨⟨0, by decide +kernel⟩, by decide +kernel, by decide +kernel, by decide +kernel⟩
theorem toks_true : Toks ["true"] := ⟨by decide +kernel, by decide +kernel, by decide⟩
def trueT : Tr := .or (.cons (.and (.cons (.word true) .nil)) .nil)
theorem wts : wAt ["true"] 0 = "true" ∧ wAt ["true"] 1 = "" := by decide +kernel
theorem wns : ¬ ("true" : Str) = "not" ∧ ¬ ("true" : Str) = "(" ∧ ¬ ("" : Str) = "and" ∧ ¬ ("" : Str) = "or" := by decide +kernel
theorem rd_true {cs : List IV} : rdT cs ["true"] = .done trueT 1 := by
  simp [rdT, pCond, pMany, pPart, pAtom, wts, wns, Rp.map, trueT]
theorem dp_true : dp trueT ≤ 64 := by decide +kernel
theorem ord_nil {cs : List IV} : ordT cs [] = .done [] 0 0 := if_pos rfl
end K47
set_option Elab.async false
set_option linter.all false
set_option maxRecDepth 100000
set_option maxHeartbeats 4000000
namespace K47
open PySem PySem.Spec PyProof.Rows L2 Mi
/-! ### == -/

section
variable {lt lo : Nat} {cs cs2 : List IV} {st : Sto} {P : IV → Sto → Prop} {E : Str → List (Str × IV) → Sto → Prop}
theorem eq_tab (h : TabAt lt cs st) (h2 : TabAt lo cs2 st) (g : Good cs) (g2 : Good cs2) (k : ∀ b : Bool, (b = true ↔ cs.map fst = cs2.map fst ∧ cs.map snd = cs2.map snd) → P (.bl b) st) : (F_P_Table_eq [.ref lt, .ref lo] st).wp P E := by
  have e1 := eq_pE (st := st) (n := 1) (x := .tup (cs.map fst)) (y := .tup (cs2.map fst)) (okv_firsts g) (okv_firsts g2) (by decide)
  have e2 := eq_pE (st := st) (n := 1) (x := .tup (cs.map fun x => .int (snd x))) (y := .tup (cs2.map fun x => .int (snd x))) okv_tops okv_tops (by decide)
  simp only [rsv_tup] at e1 e2
  have i1 := pE_iff (.tup (cs.map fst)) (.tup (cs2.map fst)) (nb_firsts g) (nb_firsts g2)
  have i2 := pE_iff (.tup (cs.map fun x => .int (snd x))) (.tup (cs2.map fun x => .int (snd x))) nb_tops nb_tops
  have i3 : (IV.tup (cs.map fun x => .int (snd x)) = IV.tup (cs2.map fun x => .int (snd x))) ↔ cs.map snd = cs2.map snd := by
    rw [IV.tup.injEq]
    have a : ∀ l : List IV, (l.map fun x => IV.int (snd x)) = (l.map snd).map IV.int := fun l => by rw [List.map_map]; rfl
    rw [a, a]
    exact List.map_inj_right (fun x y z => by cases z; rfl)
  rw [IV.tup.injEq] at i1
  rw [i3] at i2
  simp [F_P_Table_eq, B_P_Table_eq, h2.cls.1, h2.cls.2, L_Table, List.lookup, h.ins, h2.ins, lkc, lkt, e1, e2]
  cases q1 : pE (.tup (cs.map fst)) (.tup (cs2.map fst)) with
  | true =>
    simp only [if_true]
    exact k _ ⟨fun z => ⟨i1.mp q1, i2.mp z⟩, fun z => i2.mpr z.2⟩
  | false =>
    simp only [Bool.false_eq_true, if_false]
    refine k _ ⟨fun z => absurd z (by decide), fun z => ?_⟩
    rw [i1.mpr z.1] at q1; cases q1
end
section
variable {W W2 : List Str} {cs cs2 : List IV} {lo lt lo2 lt2 : Nat} {t t2 : Tr} {st st' : Sto} {P : IV → Sto → Prop} {E : Str → List (Str × IV) → Sto → Prop}
theorem cnd_eq (h : CndAt lo lt cs W t st) (h2 : CndAt lo2 lt2 cs2 W2 t2 st) (ht : TabAt lt cs st) (ht2 : TabAt lt2 cs2 st) (g : Good cs) (g2 : Good cs2)
    (k : ∀ b : Bool, (b = true ↔ (cs.map fst = cs2.map fst ∧ cs.map snd = cs2.map snd) ∧ fitsV cs t = fitsV cs2 t2) → P (.bl b) st) : (F_P_Condition_eq [.ref lo, .ref lo2] st).wp P E := by
  have c2 := h2.cls
  have hL : L_Condition = [(("Condition" : Str), true)] := rfl
  have e2 := eq_pE (st := st) (n := 2) (x := .tup (fitsV cs t)) (y := .tup (fitsV cs2 t2)) okv_fits okv_fits (by decide)
  simp only [rsv_tup] at e2
  have i2 := pE_iff (.tup (fitsV cs t)) (.tup (fitsV cs2 t2)) nb_fits nb_fits
  rw [IV.tup.injEq] at i2
  generalize hp : pE (.tup (fitsV cs t)) (.tup (fitsV cs2 t2)) = r at e2 i2
  simp [F_P_Condition_eq, B_P_Condition_eq, c2.1, c2.2, hL, h.ins, h2.ins, clk1, clk3]
  refine wp_own_eq ht.ins (.inl (by rw [ht2.ins]; rfl)) (eq_tab ht ht2 g g2 fun b hb => ⟨_, rfl, ?_⟩)
  cases b with
  | false =>
    simp
    refine k false ?_
    constructor
    · intro z; cases z
    · intro z; exact hb.mpr z.1
  | true =>
    simp [h.ins, h2.ins, clk3, e2]
    exact k r ⟨fun z => ⟨hb.mp rfl, i2.mp z⟩, fun z => i2.mpr z.2⟩
end
section
variable {cs cs2 : List IV} {its its2 : List (Nat × Int)} {way way2 : Int} {lo lo2 lt lt2 : Nat} {st : Sto} {P : IV → Sto → Prop} {E : Str → List (Str × IV) → Sto → Prop}
theorem OrdAt.cls (h : OrdAt lo lt its way st) : tyName st (.ref lo) = none ∧ clsOf st (.ref lo) = some ("Order" : Str) := by
  have h' : st[lo]? = some (.ins "Order" (ordF lt its way)) := h
  constructor
  · simp only [tyName, h']
  · simp only [clsOf, h']
theorem its_okv {its : List (Nat × Int)} : (its.map itIV).all (okV 1) = true := List.all_eq_true.mpr fun x hx => by
  obtain ⟨p, _, rfl⟩ := List.mem_map.mp hx; rfl
theorem its_nb {its : List (Nat × Int)} : (its.map itIV).all nb = true := List.all_eq_true.mpr fun x hx => by
  obtain ⟨p, _, rfl⟩ := List.mem_map.mp hx; simp [itIV, nb, nbs]
theorem itIV_inj {its its2 : List (Nat × Int)} : its.map itIV = its2.map itIV ↔ its = its2 := by
  refine List.map_inj_right fun x y z => ?_
  obtain ⟨a, b⟩ := x
  obtain ⟨c, d⟩ := y
  simp only [itIV, IV.tup.injEq, List.cons.injEq, IV.int.injEq, and_true] at z
  have : a = c := by omega
  rw [this, z.2]
theorem eq_ord (h1 : OrdAt lo lt its way st) (h2 : OrdAt lo2 lt2 its2 way2 st) (t1 : TabAt lt cs st) (t2 : TabAt lt2 cs2 st) (g : Good cs) (g2 : Good cs2)
    (k : ∀ b : Bool, (b = true ↔ (cs.map fst = cs2.map fst ∧ cs.map snd = cs2.map snd) ∧ its = its2 ∧ way = way2) → P (.bl b) st) : (F_P_Order_eq [.ref lo, .ref lo2] st).wp P E := by
  have e1 := eq_pE (st := st) (n := 2) (x := .tup (its.map itIV)) (y := .tup (its2.map itIV)) its_okv its_okv (by decide)
  simp only [rsv_tup] at e1
  have i1 := pE_iff (.tup (its.map itIV)) (.tup (its2.map itIV)) (by simp only [nb, nbs_all]; exact its_nb) (by simp only [nb, nbs_all]; exact its_nb)
  rw [IV.tup.injEq, itIV_inj] at i1
  simp [F_P_Order_eq, B_P_Order_eq, h2.cls.1, h2.cls.2, L_Order, List.lookup, h1.ins, h2.ins, olk1]
  refine wp_own_eq t1.ins (.inl (by rw [t2.ins]; rfl)) (eq_tab t1 t2 g g2 fun b hb => ⟨b, rfl, ?_⟩)
  cases b with
  | false =>
    simp
    exact k _ ⟨fun z => absurd z (by decide), fun z => by have := hb.mpr z.1; cases this⟩
  | true =>
    simp [h1.ins, h2.ins, olk2, olk3, e1]
    generalize pE (.tup (its.map itIV)) (.tup (its2.map itIV)) = q at i1
    cases q with
    | false =>
      simp
      exact k _ ⟨fun z => absurd z (by decide), fun z => by have := i1.mpr z.2.1; cases this⟩
    | true =>
      simp [h1.ins, h2.ins, olk3]
      refine k _ ?_
      rw [decide_eq_true_eq]
      exact ⟨fun z => ⟨hb.mp rfl, i1.mp rfl, z⟩, fun z => z.2.2⟩
end
section
variable {ow : Ow} {cs : List IV} {ld : Nat} {d : Dc} {st : Sto} {P : IV → Sto → Prop} {E : Str → List (Str × IV) → Sto → Prop}
theorem DcAt.cls (h : DcAt ow st ld cs d) : tyName st (.ref ld) = none ∧ clsOf st (.ref ld) = some ("Declaration" : Str) := by
  have h' := h.hd.2
  constructor
  · simp only [tyName, h']
  · simp only [clsOf, h']
/-- a declaration is as it is -/
theorem dec_self (h : DcAt ow st ld cs d) (g : Good cs) (k : P (.bl true) st) : (F_P_Declaration_eq [.ref ld, .ref ld] st).wp P E := by
  have ht := h.ht.2
  have eb : ∀ a : Bool, gEq (.bl a) (.bl a) st = .ok (.bl true) st := fun a => by cases a <;> rfl
  simp [F_P_Declaration_eq, B_P_Declaration_eq, h.cls.1, h.cls.2, L_Declaration, List.lookup, h.ins]
  refine wp_own_eq ht.ins (.inl (by rw [ht.ins]; rfl)) (eq_tab ht ht g g fun b hb => ⟨_, rfl, ?_⟩)
  have : b = true := hb.mpr ⟨rfl, rfl⟩
  subst this
  simp [h.ins, eb]
  refine wp_own_eq h.hw.2.ins (.inl (by rw [h.hw.2.ins]; rfl)) (cnd_eq h.hw.2 h.hw.2 ht ht g g fun b hb => ⟨_, rfl, ?_⟩)
  have : b = true := hb.mpr ⟨⟨rfl, rfl⟩, rfl⟩
  subst this
  simp [h.ins]
  refine wp_own_eq h.ho.2.ins (.inl (by rw [h.ho.2.ins]; rfl)) (eq_ord h.ho.2 h.ho.2 ht ht g g fun b hb => ⟨_, rfl, ?_⟩)
  have : b = true := hb.mpr ⟨⟨rfl, rfl⟩, rfl, rfl⟩
  subst this
  exact k
end
end K47
set_option Elab.async false
set_option linter.all false
set_option maxRecDepth 100000
set_option maxHeartbeats 4000000
namespace K47
open PySem PySem.Spec PyProof.Rows L2 Mi PySem.W
/-! ### names and rows are drawn -/
def NmA (n l : Nat) (m : Nat) (st0 : Sto) (i : Nat) (ρ : Slots) (st : Sto) : Prop := ∃ (a : Int) (L : List Int) (s5 : Option SV), ρ = [some (.v (.ref l)), some (.v (.int m)), some (.v (.int a)), some (.v (.ref st0.length)), some (.v (.ref (st0.length + 1))), s5] ∧
  Spr (n + 2 * i) l st ∧ st[st0.length]? = some (.lst (L.map .int)) ∧ st[st0.length + 1]? = some (.lst []) ∧ L.length = i ∧ L.Nodup ∧ (∀ x ∈ L, x < a) ∧ (∀ j, j < st0.length → j ≠ l → st[j]? = st0[j]?) ∧ st.length = st0.length + 2
def NmB (n l : Nat) (m : Nat) (st0 : Sto) (i : Nat) (ρ : Slots) (st : Sto) : Prop := ∃ (a : IV) (L F : List Int) (s5 : Option SV), ρ = [some (.v (.ref l)), some (.v (.int m)), some (.v a), some (.v (.ref st0.length)), some (.v (.ref (st0.length + 1))), s5] ∧
  Spr (n + 2 * m + i) l st ∧ st[st0.length]? = some (.lst (L.map .int)) ∧ st[st0.length + 1]? = some (.lst (F.map .int)) ∧ L.length + i = m ∧ F.length = i ∧ (F ++ L).Nodup ∧ (∀ j, j < st0.length → j ≠ l → st[j]? = st0[j]?) ∧ st.length = st0.length + 2
theorem perm_erase {α : Type} : ∀ (L : List α) (i : Nat) (h : i < L.length), (L[i] :: L.eraseIdx i).Perm L
  | x :: xs, 0, _ => List.Perm.refl _
  | x :: xs, i + 1, h => by
    have hi : i < xs.length := by simpa using h
    have ih := perm_erase xs i hi
    show (xs[i] :: x :: xs.eraseIdx i).Perm (x :: xs)
    exact (List.Perm.swap x xs[i] _).trans (ih.cons x)
theorem erase_map {α β : Type} {f : α → β} : ∀ {L : List α} {i : Nat}, (L.map f).eraseIdx i = (L.eraseIdx i).map f
  | [], _ => rfl
  | x :: xs, 0 => rfl
  | x :: xs, i + 1 => by
    show f x :: (xs.map f).eraseIdx i = f x :: (xs.eraseIdx i).map f
    rw [erase_map]
section
variable {n l m : Nat} {st : Sto} {P : IV → Sto → Prop} {E : Str → List (Str × IV) → Sto → Prop}
theorem spr_app {o : List Mi.IO} (h : Spr n l st) : Spr n l (st ++ o) := h.keep (List.getElem?_append_left h.lt)
theorem spr_set {q : Nat} {o : Mi.IO} (h : Spr n l st) (hne : q ≠ l) : Spr n l (st.set q o) := h.keep (List.getElem?_set_ne hne)
theorem names_ok (hn : n < 100000000000000) (hm : m ≤ 12) (h : Spr n l st)
    (k : ∀ (F : List Int) st', F.Nodup → F.length = m → st'[st.length + 1]? = some (.lst (F.map .int)) → Spr (n + 1 + 3 * m) l st' → (∀ j, j < st.length → j ≠ l → st'[j]? = st[j]?) → st'.length = st.length + 2 → P (.ref (st.length + 1)) st') : (F_names [.ref l, .int (m : Int)] st).wp P E := by
  have ll := h.lt
  simp [F_names, B_names]
  have go : ∀ (a : Int) (st1 : Sto), Spr (n + 1) l st1 → Ups l st st1 → ((iSeq (iPar2 3 4 (iCons (iLstS iNil) (iCons (iLstS iNil) iNil)))
    (iSeq (iFor (iRng gRng1 (iCons (iVar 1) iNil)) (tgName 5) L_names_1)
    (iSeq (iFor (iRng gRng1 (iCons (iVar 1) iNil)) (tgName 5) L_names_2) (iRet (iVar 4))))) [some (.v (.ref l)), some (.v (.int (m : Int))), some (.v (.int a)), none, none, none] st1).wp ⟨fun _ st => P .non st, P, fun _ _ => False, fun _ _ => False, fun c fs _ st => E c fs st⟩ := by
    intro a st1 b1 u1
    have l1 := u1.len
    simp [l1]
    have q1 : (st1 ++ [Mi.IO.lst [], Mi.IO.lst []])[st.length]? = some (.lst []) := by rw [← l1]; simp
    have q2 : (st1 ++ [Mi.IO.lst [], Mi.IO.lst []])[st.length + 1]? = some (.lst []) := by rw [← l1]; simp
    have q3 : (st1 ++ [Mi.IO.lst [], Mi.IO.lst []]).length = st.length + 2 := by simp [l1]
    refine ⟨by omega, ?_⟩
    refine wp_for (NmA (n + 1) l m st) ⟨a, [], none, rfl, spr_app (o := [Mi.IO.lst [], Mi.IO.lst []]) b1, q1, q2, rfl, by simp, by simp, fun j hj hne => by rw [List.getElem?_append_left (by omega)]; exact u1.get j hne, q3⟩ ?_ ?_
    · rintro i x ρ st2 hx ⟨a2, L, s5, rfl, b2, e1, e2, e3, e4, e5, e6, e7⟩
      obtain ⟨hi, rfl⟩ := rngI_get hx
      refine ⟨rfl, ?_⟩
      simp [L_names_1, isLst_ref e1, app_ref e1 (show (L.map IV.int).length < 100000 by rw [List.length_map]; omega)]
      have f1 : (st2.set st.length (.lst (L.map IV.int ++ [.int a2])))[st.length]? = some (.lst ((L ++ [a2]).map .int)) := by rw [set_get e1]; simp
      have f2 : (st2.set st.length (.lst (L.map IV.int ++ [.int a2])))[st.length + 1]? = some (.lst []) := by rw [List.getElem?_set_ne (by omega)]; exact e2
      have f3 : ∀ j, j < st.length → j ≠ l → (st2.set st.length (.lst (L.map IV.int ++ [.int a2])))[j]? = st[j]? := fun j h1 h2 => by rw [List.getElem?_set_ne (by omega)]; exact e6 j h1 h2
      have f4 : (st2.set st.length (.lst (L.map IV.int ++ [.int a2]))).length = st.length + 2 := by rw [List.length_set]; exact e7
      have b3 := spr_set (o := .lst (L.map IV.int ++ [.int a2])) b2 (show st.length ≠ l by omega)
      generalize st2.set st.length (.lst (L.map IV.int ++ [.int a2])) = st3 at f1 f2 f3 f4 b3 ⊢
      refine draw_ok (by omega) (by omega) (by omega) b3 fun r st4 r0 r1 b4 u4 => ?_
      simp
      refine pick_ok (by decide) (by decide) (by omega) b4 fun w st5 hw b5 u5 => ?_
      have hw' : ∃ w' : Int, w = .int w' ∧ 0 < w' := by
        simp only [List.mem_cons, List.not_mem_nil, or_false] at hw
        rcases hw with rfl | rfl | rfl
        · exact ⟨_, rfl, by decide⟩
        · exact ⟨_, rfl, by decide⟩
        · exact ⟨_, rfl, by decide⟩
      obtain ⟨w', rfl, w0⟩ := hw'
      simp
      have pos : 0 ≤ r * w' := Int.mul_nonneg r0 (by omega)
      have keep : ∀ j, j ≠ l → st5[j]? = st3[j]? := fun j hj => (u5.get j hj).trans (u4.get j hj)
      refine ⟨by omega, ⟨a2 + 1 + r * w', L ++ [a2], _, rfl, by rw [show n + 1 + 2 * (i + 1) = n + 1 + 2 * i + 1 + 1 by omega]; exact b5, (keep _ (by omega)).trans f1, (keep _ (by omega)).trans f2, by rw [List.length_append, e3]; rfl, ?_, fun x hx => ?_, fun j hj hne => (keep j hne).trans (f3 j hj hne), by rw [u5.len, u4.len]; exact f4⟩⟩
      · rw [List.nodup_append]
        exact ⟨e4, by simp, fun x hx y hy => by
          have : y = a2 := by simpa using hy
          have := e5 x hx
          omega⟩
      · rcases List.mem_append.mp hx with hx | hx
        · have := e5 x hx; omega
        · have : x = a2 := by simpa using hx
          omega
    · rintro ρ st2 ⟨a2, L, s5, rfl, b2, e1, e2, e3, e4, e5, e6, e7⟩
      rw [rngI_len] at b2 e3
      have e3 : L.length = m := by simpa using e3
      refine ⟨rfl, ?_⟩
      simp
      refine ⟨by omega, ?_⟩
      refine wp_for (NmB (n + 1) l m st) ⟨.int a2, L, [], s5, rfl, by simpa using b2, e1, e2, by omega, rfl, by simpa using e4, e6, e7⟩ ?_ ?_
      · rintro i x ρ st3 hx ⟨a3, L3, F3, s5', rfl, b3, f1, f2, f3, f4, f5, f6, f7⟩
        obtain ⟨hi, rfl⟩ := rngI_get hx
        have hi : i < m := by simpa using hi
        refine ⟨rfl, ?_⟩
        simp [L_names_2, isLst_ref f2, isLst_ref f1, len_ref f1]
        refine draw_ok (by omega) (by omega) (by omega) b3 fun r st4 r0 r1 b4 u4 => ?_
        have g1 : st4[st.length]? = some (.lst (L3.map .int)) := (u4.get _ (by omega)).trans f1
        have g2 : st4[st.length + 1]? = some (.lst (F3.map .int)) := (u4.get _ (by omega)).trans f2
        have rl : r.toNat < L3.length := by omega
        have gv : (L3.map IV.int)[r.toNat]? = some (.int L3[r.toNat]) := by rw [List.getElem?_map, List.getElem?_eq_getElem rl]; rfl
        have g3 : (st4.set st.length (.lst ((L3.map IV.int).eraseIdx r.toNat)))[st.length + 1]? = some (.lst (F3.map .int)) := by rw [List.getElem?_set_ne (by omega)]; exact g2
        have lf : (F3.map IV.int).length < 100000 := by rw [List.length_map]; omega
        simp [isLst_ref g1, popAt_ref g1 r0 (by omega) gv, app_ref g3 lf, isLst_ref g3]
        have pm : (L3[r.toNat] :: L3.eraseIdx r.toNat).Perm L3 := perm_erase _ _ rl
        refine ⟨a3, L3.eraseIdx r.toNat, F3 ++ [L3[r.toNat]], _, rfl, ?_, ?_, ?_, by rw [List.length_eraseIdx]; simp [rl]; omega, by rw [List.length_append, f4]; rfl, ?_, fun j hj hne => ?_, ?_⟩
        · have := spr_set (o := .lst (F3.map IV.int ++ [.int L3[r.toNat]])) (spr_set (o := .lst ((L3.map IV.int).eraseIdx r.toNat)) b4 (show st.length ≠ l by omega)) (show st.length + 1 ≠ l by omega)
          exact this.mono (by omega)
        · rw [List.getElem?_set_ne (by omega), set_get g1, erase_map]
        · rw [set_get g3]; simp
        · rw [List.append_assoc]
          exact (List.Perm.append_left F3 pm).nodup_iff.mpr f5
        · rw [List.getElem?_set_ne (by omega), List.getElem?_set_ne (by omega), u4.get j hne]; exact f6 j hj hne
        · rw [List.length_set, List.length_set, u4.len]; exact f7
      · rintro ρ st3 ⟨a3, L3, F3, s5', rfl, b3, f1, f2, f3, f4, f5, f6, f7⟩
        rw [rngI_len] at b3 f3 f4
        have f3 : L3.length + m = m := by simpa using f3
        have f4 : F3.length = m := by simpa using f4
        have : L3 = [] := List.length_eq_zero_iff.mp (by omega)
        subst this
        refine ⟨rfl, ?_⟩
        simp
        rw [List.append_nil] at f5
        refine k F3 st3 f5 f4 f2 (b3.mono ?_) f6 f7
        omega
  refine pick_ok (by decide) (by decide) (by omega) h fun w st1 hw b1 u1 => ?_
  simp only [List.mem_cons, List.not_mem_nil, or_false] at hw
  have g := fun a => go a st1 b1 u1
  rcases hw with rfl | rfl | rfl | rfl | rfl
  · simpa using g 0
  · simpa using g (-3)
  · simpa using g 7
  · have := g (-100000000000000000000000000000); simpa using this
  · have := g 10000000000000000000000000000; simpa using this
def RwI (n l : Nat) (cs : List IV) (ns : List Int) (st0 : Sto) (i : Nat) (acc : List IV) (st : Sto) : Prop := ∃ rs : List (Int × List IV), acc = rs.map lawRow ∧ rs.map (·.1) = ns.take i ∧ (∀ r ∈ rs, inTs r.2 cs = true) ∧ Spr (n + 3 * i) l st ∧ Ups l st0 st
theorem rows_ok {cs : List IV} {ns : List Int} (hn : n < 10000000000000) (h : Spr n l st) (g : Good cs) (nd : ns.Nodup) (few : ns.length ≤ 12)
    (k : ∀ rs st', RsOk cs rs → rs.map (·.1) = ns → Spr (n + 3 * ns.length) l st' → Ups l st st' → P (.lst (rs.map lawRow)) st') : (F_rows [.ref l, .lst cs, .lst (ns.map .int)] st).wp P E := by
  simp [F_rows, B_rows]
  refine wp_lcI (RwI n l cs ns st) ⟨[], rfl, rfl, by simp, h, .refl _ _⟩ ?_ ?_
  · rintro i x acc st1 hx ⟨rs, rfl, e2, e3, e4, e5⟩
    rw [List.getElem?_map] at hx
    cases q : ns[i]? with
    | none => rw [q] at hx; cases hx
    | some a =>
      rw [q] at hx
      have hx : IV.int a = x := by simpa using hx
      subst hx
      have il := (List.getElem?_eq_some_iff.mp q).1
      have rl : rs.length ≤ 12 := by
        have := congrArg List.length e2
        rw [List.length_map, List.length_take] at this
        omega
      refine ⟨rfl, by rw [List.length_map]; omega, ?_⟩
      simp [wipeI]
      refine values_ok (by omega) e4 g fun vs st2 hv b2 u2 => ?_
      refine ⟨by simp, rs ++ [(a, vs)], by rw [List.map_append]; rfl, by rw [List.map_append, e2, List.take_add_one, q]; rfl, fun r hr => ?_, b2.mono (by omega), e5.trans u2⟩
      rcases List.mem_append.mp hr with hr | hr
      · exact e3 r hr
      · rw [List.mem_singleton.mp hr]; exact hv
  · rintro acc st1 ⟨rs, rfl, e2, e3, e4, e5⟩
    rw [List.length_map] at e2 e4
    rw [List.take_of_length_le (Nat.le_refl _)] at e2
    refine ⟨rfl, ?_⟩
    exact k rs st1 ⟨by rw [e2]; exact nd, e3, by have := congrArg List.length e2; rw [List.length_map] at this; omega⟩ e2 e4 e5
end
end K47
set_option Elab.async false
set_option linter.all false
set_option maxRecDepth 100000
set_option maxHeartbeats 4000000
namespace K47
open PySem PySem.Spec PyProof.Rows L2 Mi PySem.W
/-! ### the law's lists beside the engine -/
structure T4 where
  le : Nat
  r : Nat
  due : Bool
  ld : Nat
def t4V (x : T4) : List IV := [.ref x.r, .bl x.due, .ref x.ld]
structure LsAt (ow : Ow) (st : Sto) (l ls lC lP : Nat) (bg : Int) (ps : List Int) (T : List T4) : Prop where
  ol : ow l = l + 1 ∧ l < st.length
  hS : Cel ow (ls + 1) st ls (.lst [.ref lC, .ref lP, .int bg])
  hC : Cel ow (lC + 1) st lC (.lst (T.map fun x => .ref x.le))
  hP : Cel ow (lP + 1) st lP (.lst (ps.map .int))
  hT : ∀ x ∈ T, Cel ow (x.le + 1) st x.le (.lst (t4V x))
  nd : (T.map (·.le)).Nodup
  o1 : l < lC
  o2 : lC < lP
  o3 : lP < ls
  o4 : ∀ x ∈ T, ls < x.le
structure EgAt (ow : Ow) (st : Sto) (cs : List IV) (b lt : Nat) (d : Db) (ks : List Ck) : Prop where
  hD : ∃ lk lw lp lc, DbAt ow st b lk lw lp lc d
  hw : d.wr = []
  hk : d.cus = ks.map (·.r)
  hc : CksAt ow st cs b ks
  ht : ow lt = 0 ∧ TabAt lt cs st
  rows : RwsOk cs d.rows
  pts : ∀ p ∈ d.pts, p.1 = 0 ∧ 0 ≤ p.2 ∧ p.2 ≤ 12
  bg : 0 ≤ d.bg ∧ d.bg ≤ 12
def Cpl (T : List T4) (ks : List Ck) : Prop := (T.map fun x => (x.r, x.due, x.ld)) = ks.map fun y => (y.r, !y.c.shut, y.c.ld)
section
variable {ow ow' : Ow} {st st' : Sto} {S : Nat → Prop} {cs : List IV} {l ls lC lP b lt p n : Nat} {bg : Int} {ps : List Int} {T : List T4} {d : Db} {ks : List Ck} {xs : List IV} {x : T4} {y : Ck} {i : Nat}
theorem Cpl.len (h : Cpl T ks) : T.length = ks.length := by have := congrArg List.length h; simpa using this
theorem Cpl.get (h : Cpl T ks) (hi : ks[i]? = some y) : ∃ x, T[i]? = some x ∧ x.r = y.r ∧ x.due = !y.c.shut ∧ x.ld = y.c.ld := by
  have hl := (List.getElem?_eq_some_iff.mp hi).1
  have e := congrArg (fun z => z[i]?) h
  simp only [List.getElem?_map, hi] at e
  cases q : T[i]? with
  | none => rw [q] at e; cases e
  | some x =>
    rw [q] at e
    simp only [Option.map_some, Option.some.injEq, Prod.mk.injEq] at e
    exact ⟨x, rfl, e.1, e.2.1, e.2.2⟩
/-- two lists that go alike -/
theorem Cpl.of (hl : T.length = ks.length) (h : ∀ (i : Nat) (x : T4) (y : Ck), T[i]? = some x → ks[i]? = some y → x.r = y.r ∧ x.due = (!y.c.shut) ∧ x.ld = y.c.ld) : Cpl T ks := by
  refine List.ext_getElem? fun i => ?_
  rw [List.getElem?_map, List.getElem?_map]
  by_cases c : i < T.length
  · have h1 := List.getElem?_eq_getElem c
    have h2 := List.getElem?_eq_getElem (show i < ks.length by omega)
    obtain ⟨e1, e2, e3⟩ := h i _ _ h1 h2
    rw [h1, h2]
    simp only [Option.map_some, e1, e2, e3]
  · rw [List.getElem?_eq_none (by omega), List.getElem?_eq_none (by omega)]; rfl
theorem LsAt.xt (h : LsAt ow st l ls lC lP bg ps T) (t : Xt ow st S ow' st') (n1 : ¬ S (ls + 1)) (n2 : ¬ S (lC + 1)) (n3 : ¬ S (lP + 1)) (n4 : ∀ x ∈ T, ¬ S (x.le + 1)) : LsAt ow' st' l ls lC lP bg ps T :=
  ⟨⟨(t.own l h.ol.2).trans h.ol.1, Nat.lt_of_lt_of_le h.ol.2 t.len⟩, h.hS.xt t n1, h.hC.xt t n2, h.hP.xt t n3, fun x hx => (h.hT x hx).xt t (n4 x hx), h.nd, h.o1, h.o2, h.o3, h.o4⟩
theorem notE (he : EgAt ow st cs b lt d ks) (h : st[p]? = some (.lst xs)) : ¬ (p + 1 = b + 1 ∨ ofCks ks (p + 1)) := by
  rintro (z | ⟨y, hy, z⟩)
  · obtain ⟨lk, lw, lp, lc, hD⟩ := he.hD
    have e := hD.hb.2
    rw [show b = p by omega, h] at e
    cases e
  · obtain ⟨⟨rs, lo, hi, hc⟩, _⟩ := he.hc.at' y hy
    have e := hc.hc.2
    rw [show y.r = p by omega, h] at e
    cases e
theorem LsAt.eng (h : LsAt ow st l ls lC lP bg ps T) (he : EgAt ow st cs b lt d ks) (t : Xt ow st (fun k => k = b + 1 ∨ ofCks ks k) ow' st') : LsAt ow' st' l ls lC lP bg ps T :=
  h.xt t (notE he h.hS.2) (notE he h.hC.2) (notE he h.hP.2) fun x hx => notE he (h.hT x hx).2
theorem spr_eng (hs : Spr n l st) (ol : ow l = l + 1) (he : EgAt ow st cs b lt d ks) (t : Xt ow st (fun k => k = b + 1 ∨ ofCks ks k) ow' st') : Spr n l st' := by
  have hl := hs.lt
  refine hs.keep (t.keep l hl ?_)
  rw [ol]
  obtain ⟨s, x, c, e, _⟩ := hs
  exact notE he e
theorem EgAt.lst (he : EgAt ow st cs b lt d ks) (h : st[p]? = some (.lst xs)) (t : Xt ow st (fun k => k = p + 1) ow' st') : EgAt ow' st' cs b lt d ks := by
  have nn := notE he h
  obtain ⟨lk, lw, lp, lc, hD⟩ := he.hD
  exact ⟨⟨lk, lw, lp, lc, hD.xt t fun z => nn (.inl z.symm)⟩, he.hw, he.hk, he.hc.xt t (fun x hx z => nn (.inr ⟨x, hx, z.symm⟩)) (by omega), Cel.xt (k := 0) (o := .ins "Table" (tabF cs)) he.ht t (by omega), he.rows, he.pts, he.bg⟩
theorem EgAt.mono (he : EgAt ow st cs b lt d ks) (t : Xt ow st none0 ow' st') : EgAt ow' st' cs b lt d ks := by
  obtain ⟨lk, lw, lp, lc, hD⟩ := he.hD
  exact ⟨⟨lk, lw, lp, lc, hD.xt t id⟩, he.hw, he.hk, he.hc.xt t (fun _ _ => id) id, Cel.xt (k := 0) (o := .ins "Table" (tabF cs)) he.ht t id, he.rows, he.pts, he.bg⟩
theorem ups_xt (h : ow l = l + 1) (u : Ups l st st') : Xt ow st (fun k => k = l + 1) ow st' := ⟨Nat.le_of_eq u.len.symm, fun _ _ => rfl, fun p _ n => u.get p fun z => n (by rw [z]; exact h)⟩
/-- a list of the law is stored anew -/
theorem LsAt.putS (h : LsAt ow st l ls lC lP bg ps T) (bg' : Int) : LsAt ow (st.set ls (.lst [.ref lC, .ref lP, .int bg'])) l ls lC lP bg' ps T := by
  have o1 := h.o1; have o2 := h.o2; have o3 := h.o3
  exact ⟨⟨h.ol.1, by rw [List.length_set]; exact h.ol.2⟩, h.hS.set, h.hC.setN (by omega), h.hP.setN (by omega), fun x hx => (h.hT x hx).setN (by have := h.o4 x hx; omega), h.nd, o1, o2, o3, h.o4⟩
theorem LsAt.putP (h : LsAt ow st l ls lC lP bg ps T) (ps' : List Int) : LsAt ow (st.set lP (.lst (ps'.map .int))) l ls lC lP bg ps' T := by
  have o1 := h.o1; have o2 := h.o2; have o3 := h.o3
  exact ⟨⟨h.ol.1, by rw [List.length_set]; exact h.ol.2⟩, h.hS.setN (by omega), h.hC.setN (by omega), h.hP.set, fun x hx => (h.hT x hx).setN (by have := h.o4 x hx; omega), h.nd, o1, o2, o3, h.o4⟩
theorem set_map {α β : Type} {f : α → β} {xs : List α} {i : Nat} {a b : α} (hi : xs[i]? = some a) (e : f b = f a) : (xs.set i b).map f = xs.map f := by
  refine List.ext_getElem? fun j => ?_
  have hl := (List.getElem?_eq_some_iff.mp hi).1
  rw [List.getElem?_map, List.getElem?_map, List.getElem?_set]
  by_cases c : i = j
  · subst c
    rw [hi]
    simp [hl, e]
  · simp [c]
theorem LsAt.putT (h : LsAt ow st l ls lC lP bg ps T) (hi : T[i]? = some x) (b' : Bool) : LsAt ow (st.set x.le (.lst (t4V { x with due := b' }))) l ls lC lP bg ps (T.set i { x with due := b' }) := by
  have o1 := h.o1; have o2 := h.o2; have o3 := h.o3
  have xm := List.mem_of_getElem? hi
  have o4 := h.o4 x xm
  have hl := (List.getElem?_eq_some_iff.mp hi).1
  have e1 : (T.set i { x with due := b' }).map (fun x => IV.ref x.le) = T.map fun x => IV.ref x.le := set_map hi rfl
  have e2 : (T.set i { x with due := b' }).map (·.le) = T.map (·.le) := set_map hi rfl
  refine ⟨⟨h.ol.1, by rw [List.length_set]; exact h.ol.2⟩, h.hS.setN (by omega), by rw [e1]; exact h.hC.setN (by omega), h.hP.setN (by omega), fun z hz => ?_, by rw [e2]; exact h.nd, o1, o2, o3, fun z hz => ?_⟩
  · obtain ⟨j, hj⟩ := List.getElem?_of_mem hz
    rw [List.getElem?_set] at hj
    by_cases c : i = j
    · subst c
      simp [hl] at hj
      subst hj
      exact (h.hT x xm).set
    · simp only [c, if_false] at hj
      refine (h.hT z (List.mem_of_getElem? hj)).setN fun e => c ?_
      have h1 : (T.map (·.le))[j]? = some z.le := by rw [List.getElem?_map, hj]; rfl
      have h2 : (T.map (·.le))[i]? = some x.le := by rw [List.getElem?_map, hi]; rfl
      rw [e] at h2
      exact (List.getElem?_inj (by rw [List.length_map]; exact hl) h.nd).mp (h2.trans h1.symm)
  · obtain ⟨j, hj⟩ := List.getElem?_of_mem hz
    rw [List.getElem?_set] at hj
    by_cases c : i = j
    · subst c
      simp [hl] at hj
      subst hj
      exact o4
    · simp only [c, if_false] at hj
      exact h.o4 z (List.mem_of_getElem? hj)
end
structure LwAt (ow : Ow) (st : Sto) (cs : List IV) (l b lt ls lC lP n t : Nat) (d : Db) (ks : List Ck) (T : List T4) : Prop where
  spr : Spr n l st
  e : EgAt ow st cs b lt d ks
  s : LsAt ow st l ls lC lP d.bg (d.pts.map (·.2)) T
  cpl : Cpl T ks
  few : ks.length ≤ 12
  np : d.pts.length ≤ t
section
variable {ow ow' : Ow} {st st' : Sto} {S : Nat → Prop} {cs : List IV} {l ls lC lP b lt p n m t : Nat} {bg : Int} {ps : List Int} {T : List T4} {d : Db} {ks : List Ck} {xs : List IV} {x : T4} {y : Ck} {i : Nat}
theorem LwAt.draw (h : LwAt ow st cs l b lt ls lC lP n t d ks T) (hs : Spr m l st') (u : Ups l st st') : LwAt ow st' cs l b lt ls lC lP m t d ks T := by
  have t := ups_xt h.s.ol.1 u
  obtain ⟨s, x, c, e, _⟩ := h.spr
  have o1 := h.s.o1; have o2 := h.s.o2; have o3 := h.s.o3
  exact ⟨hs, h.e.lst e t, h.s.xt t (by omega) (by omega) (by omega) (fun x hx => by have := h.s.o4 x hx; omega), h.cpl, h.few, h.np⟩
theorem LwAt.mono (h : LwAt ow st cs l b lt ls lC lP n t d ks T) (hm : n ≤ m) : LwAt ow st cs l b lt ls lC lP m t d ks T := ⟨h.spr.mono hm, h.e, h.s, h.cpl, h.few, h.np⟩
end
end K47
set_option Elab.async false
set_option linter.all false
set_option maxRecDepth 100000
set_option maxHeartbeats 4000000
namespace K47
open PySem PySem.Spec PyProof.Rows L2 Mi PySem.W
def ofT (T : List T4) : Nat → Prop := fun k => ∃ x ∈ T, k = x.le + 1
def mixT (f : Nat → T4 → T4) (i : Nat) (ks : List T4) : List T4 := ks.mapIdx fun j x => if j < i then f j x else x
theorem mixT_get {f : Nat → T4 → T4} {i j : Nat} {ks : List T4} : (mixT f i ks)[j]? = (ks[j]?).map fun x => if j < i then f j x else x := by
  unfold mixT; rw [List.getElem?_mapIdx]
theorem mixT_len {f : Nat → T4 → T4} {i : Nat} {ks : List T4} : (mixT f i ks).length = ks.length := by unfold mixT; rw [List.length_mapIdx]
theorem mixT_zero {f : Nat → T4 → T4} {n : Nat} {ks : List T4} (h : ∀ j x, j < n → f j x = x) : mixT f n ks = ks := by
  refine List.ext_getElem? fun j => ?_
  rw [mixT_get]
  cases ks[j]? with
  | none => rfl
  | some x =>
    simp only [Option.map_some]
    split
    · rw [h j x (by assumption)]
    · rfl
theorem mixT_all {f : Nat → T4 → T4} {n : Nat} {ks : List T4} (h : ks.length ≤ n) : mixT f n ks = ks.mapIdx f := by
  refine List.ext_getElem? fun j => ?_
  rw [mixT_get, List.getElem?_mapIdx]
  cases q : ks[j]? with
  | none => rfl
  | some x => have := (List.getElem?_eq_some_iff.mp q).1; simp [show j < n by omega]
theorem mixT_succ {f : Nat → T4 → T4} {i : Nat} {ks : List T4} {x : T4} (h : ks[i]? = some x) : mixT f (i + 1) ks = (mixT f i ks).set i (f i x) := by
  refine List.ext_getElem? fun j => ?_
  rw [mixT_get, List.getElem?_set, mixT_len, mixT_get]
  have hi := (List.getElem?_eq_some_iff.mp h).1
  by_cases c : i = j
  · subst c
    have e : ks[i] = x := by
      rw [List.getElem?_eq_getElem hi] at h
      exact Option.some.inj h
    simp [hi, e]
  · simp only [c, if_false]
    cases ks[j]? with
    | none => rfl
    | some y =>
      have : (j < i + 1) = (j < i) := by
        refine propext ⟨fun z => by omega, fun z => by omega⟩
      simp [this]
section
variable {ow ow' : Ow} {st st' : Sto} {S : Nat → Prop} {cs : List IV} {l ls lC lP b lt p n m t : Nat} {bg : Int} {ps : List Int} {T : List T4} {d : Db} {ks : List Ck} {xs : List IV} {x : T4} {y : Ck} {i : Nat} {P : IV → Sto → Prop} {E : Str → List (Str × IV) → Sto → Prop}
theorem EgAt.lsts (he : EgAt ow st cs b lt d ks) (h : LsAt ow st l ls lC lP bg ps T) (t : Xt ow st (ofT T) ow' st') : EgAt ow' st' cs b lt d ks := by
  have n0 : ¬ ofT T 0 := by rintro ⟨x, _, z⟩; omega
  have nb : ¬ ofT T (b + 1) := by
    rintro ⟨x, hx, z⟩
    exact notE he (h.hT x hx).2 (.inl z.symm)
  have nc : ∀ y ∈ ks, ¬ ofT T (y.r + 1) := by
    rintro y hy ⟨x, hx, z⟩
    exact notE he (h.hT x hx).2 (.inr ⟨y, hy, z.symm⟩)
  obtain ⟨lk, lw, lp, lc, hD⟩ := he.hD
  exact ⟨⟨lk, lw, lp, lc, hD.xt t nb⟩, he.hw, he.hk, he.hc.xt t nc n0, Cel.xt (k := 0) (o := .ins "Table" (tabF cs)) he.ht t n0, he.rows, he.pts, he.bg⟩
theorem LsAt.spr_lsts (h : LsAt ow st l ls lC lP bg ps T) (hs : Spr n l st) (t : Xt ow st (ofT T) ow' st') : Spr n l st' := by
  refine hs.keep (t.keep l hs.lt ?_)
  rw [h.ol.1]
  rintro ⟨x, hx, z⟩
  have := h.o1; have := h.o2; have := h.o3; have := h.o4 x hx
  omega
/-- a walk over the law's triples -/
def TrI (ow : Ow) (st : Sto) (l ls lC lP : Nat) (bg : Int) (ps : List Int) (f : Nat → T4 → T4) (T : List T4) (i : Nat) (st1 : Sto) : Prop := Xt ow st (ofT T) ow st1 ∧ LsAt ow st1 l ls lC lP bg ps (mixT f i T)
theorem TrI.at {f : Nat → T4 → T4} (h : TrI ow st l ls lC lP bg ps f T i st') (hi : T[i]? = some x) : LsAt ow st' l ls lC lP bg ps (mixT f i T) ∧ Cel ow (x.le + 1) st' x.le (.lst (t4V x)) ∧
    (f i x = x → TrI ow st l ls lC lP bg ps f T (i + 1) st') ∧ ∀ b', f i x = { x with due := b' } → TrI ow st l ls lC lP bg ps f T (i + 1) (st'.set x.le (.lst (t4V { x with due := b' }))) := by
  have g : (mixT f i T)[i]? = some x := by rw [mixT_get, hi]; simp
  have hc := h.2.hT x (List.mem_of_getElem? g)
  refine ⟨h.2, hc, fun e => ⟨h.1, ?_⟩, fun b' e => ⟨h.1.trans (xt_set hc.1 ⟨x, List.mem_of_getElem? hi, rfl⟩), ?_⟩⟩
  · rw [mixT_succ hi, e]
    have : (mixT f i T).set i x = mixT f i T := by
      refine List.ext_getElem? fun j => ?_
      rw [List.getElem?_set]
      have hl := (List.getElem?_eq_some_iff.mp g).1
      by_cases c : i = j
      · subst c; rw [if_pos rfl, if_pos hl, g]
      · simp [c]
    rw [this]; exact h.2
  · rw [mixT_succ hi, e]
    exact h.2.putT g b'
def sfC (f : Int) (j : Nat) (x : T4) : T4 := if f ≤ (j : Int) then { x with due := false } else x
theorem shut_from_ok {f : Int} (h0 : 0 ≤ f) (hf : f ≤ 1000) (hs : LsAt ow st l ls lC lP bg ps T) (few : T.length ≤ 12)
    (k : ∀ st', Xt ow st (ofT T) ow st' → LsAt ow st' l ls lC lP bg ps (T.mapIdx (sfC f)) → P .non st') : (F_shut_from [.ref lC, .int f] st).wp P E := by
  simp [F_shut_from, B_shut_from, len_ref hs.hC.2]
  refine ⟨by omega, ?_⟩
  refine wp_for (fun i ρ st1 => (∃ s2, ρ = [some (.v (.ref lC)), some (.v (.int f)), s2]) ∧ TrI ow st l ls lC lP bg ps (sfC f) T (f.toNat + i) st1) ⟨⟨none, rfl⟩, .refl, ?_⟩ ?_ ?_
  · rw [Nat.add_zero, mixT_zero]
    · exact hs
    · intro j x hj
      unfold sfC
      rw [if_neg (by omega)]
  · rintro i z ρ st1 hz ⟨⟨s2, rfl⟩, hI⟩
    obtain ⟨hi, rfl⟩ := rngI_get hz
    have hil : f.toNat + i < T.length := by omega
    have hx := List.getElem?_eq_getElem hil
    generalize T[f.toNat + i] = x at hx
    obtain ⟨q1, q2, q3, q4⟩ := hI.at hx
    have fe : sfC f (f.toNat + i) x = { x with due := false } := if_pos (by omega)
    have at1 : atI ((mixT (sfC f) (f.toNat + i) T).map fun x => IV.ref x.le) (f + (i : Int)) = some (.ref x.le) := by
      have : f + (i : Int) = ((f.toNat + i : Nat) : Int) := by omega
      rw [this]
      refine Mi.atI_at ?_
      rw [List.getElem?_map, mixT_get, hx]; simp
    refine ⟨rfl, ?_⟩
    have sx : gSetL (.ref x.le) (.int 1) (.bl false) st1 = some (st1.set x.le (.lst (t4V { x with due := false }))) := setL_ref (j := 1) q2.2 rfl
    simp [ix_ref q1.hC.2, at1, sx]
    exact q4 false fe
  · rintro ρ st1 ⟨⟨s2, rfl⟩, h1, h2⟩
    refine ⟨rfl, k st1 h1 ?_⟩
    rw [rngI_len, mixT_all (by omega)] at h2
    exact h2
/-- behind a commit -/
def cmC (road : Int) (ks : List Ck) (j : Nat) (x : T4) : T4 := match ks[j]? with
  | some y => if 6 < road ∧ y.dc.hold = "shut" then { x with due := false } else x
  | none => x
def Cm2 (ow : Ow) (st : Sto) (l ls lC lP : Nat) (bg : Int) (ps : List Int) (road : Int) (ks : List Ck) (T : List T4) (r0 : Slots) (i : Nat) (ρ : Slots) (st1 : Sto) : Prop := (∃ s12, ρ = r0 ++ [s12]) ∧ TrI ow st l ls lC lP bg ps (cmC road ks) T i st1
theorem deed2_ok {r0 : Slots} {road : Int} {s12 : Option SV} {D : Post} (e : EgAt ow st cs b lt d ks) (hs : LsAt ow st l ls lC lP bg ps T) (cp : ∀ (i : Nat) y, ks[i]? = some y → ∃ x, T[i]? = some x ∧ x.ld = y.c.ld) (hl : T.length = ks.length)
    {v0 v1 v2 v3 v4 v5 v6 v8 v9 v10 v11 : Option SV} (hr : r0 = [v0, v1, v2, v3, v4, v5, v6, some (.v (.int road)), v8, v9, v10, v11])
    (k : ∀ ρ st', (∃ s12, ρ = r0 ++ [s12]) → Xt ow st (ofT T) ow st' → LsAt ow st' l ls lC lP bg ps (T.mapIdx (cmC road ks)) → D.nx ρ st') :
    (forL (some (lC, T.map fun x => .ref x.le)) (T.map fun x => .ref x.le) (tgName 12) L_deed_2 (T.map fun x => .ref x.le) (r0 ++ [s12]) st).wp D := by
  refine wp_for (Cm2 ow st l ls lC lP bg ps road ks T r0) ⟨⟨s12, rfl⟩, .refl, by rw [mixT_zero (by intro j x hj; omega)]; exact hs⟩ ?_ ?_
  · rintro i z ρ st1 hz ⟨⟨s, rfl⟩, hI⟩
    rw [List.getElem?_map] at hz
    cases q : T[i]? with
    | none => rw [q] at hz; cases hz
    | some x =>
      rw [q] at hz
      have hz : IV.ref x.le = z := by simpa using hz
      subst hz
      obtain ⟨q1, q2, q3, q4⟩ := hI.at q
      have il := (List.getElem?_eq_some_iff.mp q).1
      have hy := List.getElem?_eq_getElem (show i < ks.length by omega)
      generalize ks[i] = y at hy
      obtain ⟨x', hx', ex⟩ := cp i y hy
      have : x' = x := by rw [q] at hx'; exact (Option.some.inj hx').symm
      subst this
      have e1 := e.lsts hs hI.1
      obtain ⟨_, hd, _⟩ := e1.hc.at' y (List.mem_of_getElem? hy)
      have em : (mixT (cmC road ks) i T).map (fun x => IV.ref x.le) = T.map fun x => IV.ref x.le := by
        refine List.ext_getElem? fun j => ?_
        rw [List.getElem?_map, List.getElem?_map, mixT_get]
        cases T[j]? with
        | none => rfl
        | some z =>
          simp only [Option.map_some]
          split
          · unfold cmC
            split
            · split <;> rfl
            · rfl
          · rfl
      have gl := q1.hC.2
      rw [em] at gl
      refine ⟨by simp only [gokB, gl, IVs.beq_refl], ?_⟩
      have fe : cmC road ks i x' = if 6 < road ∧ y.dc.hold = "shut" then { x' with due := false } else x' := by unfold cmC; rw [hy]
      have at2 : atI (t4V x') 2 = some (.ref y.c.ld) := by rw [← ex]; rfl
      subst hr
      simp [L_deed_2]
      have sx : gSetL (.ref x'.le) (.int 1) (.bl false) st1 = some (st1.set x'.le (.lst (t4V { x' with due := false }))) := setL_ref (j := 1) q2.2 rfl
      by_cases c1 : 6 < road
      · simp [c1, ix_ref q2.2, at2, hd.ins]
        by_cases c2 : y.dc.hold = "shut"
        · simp [c2, sx]
          exact ⟨⟨_, rfl⟩, q4 false (by rw [fe, if_pos ⟨c1, c2⟩])⟩
        · simp [c2]
          exact ⟨⟨_, rfl⟩, q3 (by rw [fe, if_neg fun z => c2 z.2])⟩
      · simp [c1]
        exact ⟨⟨_, rfl⟩, q3 (by rw [fe, if_neg fun z => c1 z.1])⟩
  · rintro ρ st1 ⟨hρ, h1, h2⟩
    rw [List.length_map] at h2
    rw [mixT_all (Nat.le_refl _)] at h2
    have em : (T.mapIdx (cmC road ks)).map (fun x => IV.ref x.le) = T.map fun x => IV.ref x.le := by
      refine List.ext_getElem? fun j => ?_
      rw [List.getElem?_map, List.getElem?_map, List.getElem?_mapIdx]
      cases T[j]? with
      | none => rfl
      | some z =>
        simp only [Option.map_some]
        unfold cmC
        split
        · split <;> rfl
        · rfl
    have gl := h2.hC.2
    rw [em] at gl
    exact ⟨by simp only [gokB, gl, IVs.beq_refl], k ρ st1 hρ h1 h2⟩
end
end K47
set_option Elab.async false
set_option linter.all false
set_option maxRecDepth 100000
set_option maxHeartbeats 4000000
namespace K47
open PySem PySem.Spec PyProof.Rows L2 Mi PySem.W
@[simp] theorem dc_bl {i : Bool} : (DC.bl i).iv = .bl i := rfl
@[simp] theorem dc_str {i : Str} : (DC.str i).iv = .str i := rfl
def D1 : IS := (iSeq (iSet 8 (iCall (arity 2 F_pick) (iCons (iVar 0) (iCons (iLst (iCons (iC (.str "shut")) (iCons (iC (.str "shut")) (iCons (iC (.str "kept")) (iCons (iC (.str "copied")) (iCons (iC (.str "place")) (iCons (iC (.str "key")) iNil))))))) iNil))))
  (iSeq (iSet 9 (iMakeD "Declaration" F_P_Declaration_init 9 1 2 [.p 0, .p 1, .k 1, .d 0, .k 0, .d 1, .d 2, .d 3, .d 4] [.bl false, .bl false, .str "none", .str "true", .str ""] (iCons (iVar 2) iNil) (iCons (iVar 8) (iCons (iCall (arity 2 F_draw) (iCons (iVar 0) (iCons (iC (.int 10)) iNil))) iNil))))
  (iDrop (iMtd gApp (iVar 4) (iCons (iLstS (iCons (iMeth "Database" "declare" (arity 2 F_P_Database_declare) (iVar 1) (iCons (iVar 9) iNil)) (iCons (iC (.bl true)) (iCons (iVar 9) iNil)))) iNil)))))
def D3 : IS := (iSeq (iDrop (iMtd gApp (iVar 5) (iCons (iCallB gLen (iCons (iVar 4) iNil)) iNil)))
  (iDrop (iMeth "Database" "savepoint" (arity 1 F_P_Database_savepoint) (iVar 1) iNil)))
def D4T : IS := (iSeq (iDrop (iMeth "Database" "rollback_to" (arity 2 F_P_Database_rollback_to) (iVar 1) (iCons (iVar 10) iNil)))
  (iDrop (iCall (arity 2 F_shut_from) (iCons (iVar 4) (iCons (iIx (iVar 5) (iVar 10)) iNil)))))
def D4 : IS := (iSeq (iSet 10 (iCall (arity 2 F_draw) (iCons (iVar 0) (iCons (iCallB gLen (iCons (iVar 5) iNil)) iNil))))
  (iSeq (iWhile 100 (iTest (iBin gGt (iCallB gLen (iCons (iVar 5) iNil)) (iBin gAdd (iVar 10) (iC (.int 1)))))
  L_deed_1) D4T))
def D5 : IS := (iSeq (iSet 11 (iCall (arity 2 F_draw) (iCons (iVar 0) (iCons (iCallB gLen (iCons (iVar 4) iNil)) iNil))))
  (iSeq (iDrop (iMeth "Cursor" "shut" (arity 1 F_P_Cursor_shut) (iIx (iIx (iVar 4) (iVar 11)) (iC (.int 0))) iNil))
  (iAsg (iC (.bl false)) (tgSub (iIx (iVar 4) (iVar 11)) (iC (.int 1))))))
def D6T : IS := (iSeq (iFor (iOver (iVar 4)) (tgName 12)
  L_deed_2)
  (iSeq (iDrop (iMtd gClear (iVar 5) iNil))
  (iAsg (iCallB gLen (iCons (iVar 4) iNil)) (tgSub (iVar 3) (iC (.int 2))))))
def D6 : IS := (iSeq (iIfS (iTest (iBin gEq (iVar 7) (iC (.int 6))))
  (iSeq (iDrop (iMeth "Database" "rollback" (arity 1 F_P_Database_rollback) (iVar 1) iNil))
  (iDrop (iCall (arity 2 F_shut_from) (iCons (iVar 4) (iCons (iVar 6) iNil)))))
  (iDrop (iMeth "Database" "commit" (arity 1 F_P_Database_commit) (iVar 1) iNil))) D6T)
theorem deed_split : B_deed = (iSeq (iAsg (iVar 3) (tgUnl 3 (tgCons (tgName 4) (tgCons (tgName 5) (tgCons (tgName 6) tgNil)))))
  (iSeq (iSet 7 (iCall (arity 2 F_draw) (iCons (iVar 0) (iCons (iC (.int 9)) iNil))))
  (iIfS (iAnd (iTest (iBin gLt (iVar 7) (iC (.int 3)))) (iTest (iBin gLt (iCallB gLen (iCons (iVar 4) iNil)) (iC (.int 12))))) D1
  (iIfS (iTest (iBin gEq (iVar 7) (iC (.int 3)))) D3
  (iIfS (iAnd (iTest (iBin gEq (iVar 7) (iC (.int 4)))) (iTest (iBin (gNil true) (iVar 5) (iLst iNil)))) D4
  (iIfS (iAnd (iTest (iBin gEq (iVar 7) (iC (.int 5)))) (iTest (iBin (gNil true) (iVar 4) (iLst iNil)))) D5
  (iIfS (iTest (iBin gGt (iVar 7) (iC (.int 5)))) D6 iSkip))))))) := rfl
/-- the slots of a deed -/
abbrev dS (l b lt ls lC lP : Nat) (bg road : Int) (s8 s9 s10 s11 s12 : Option SV) : Slots := [some (.v (.ref l)), some (.v (.ref b)), some (.v (.ref lt)), some (.v (.ref ls)), some (.v (.ref lC)), some (.v (.ref lP)), some (.v (.int bg)), some (.v (.int road)), s8, s9, s10, s11, s12]
abbrev dP (P : IV → Sto → Prop) (E : Str → List (Str × IV) → Sto → Prop) : Post := ⟨fun _ st => P .non st, P, fun _ _ => False, fun _ _ => False, fun c fs _ st => E c fs st⟩
def DK (cs : List IV) (l b lt ls lC lP n t : Nat) (Q : Sto → Prop) : Prop := ∀ ow st d ks T, LwAt ow st cs l b lt ls lC lP n t d ks T → Q st
section
variable {ow ow' : Ow} {st st' : Sto} {S : Nat → Prop} {cs : List IV} {l ls lC lP b lt p n m t : Nat} {bg road : Int} {ps : List Int} {T : List T4} {d : Db} {ks : List Ck} {xs : List IV} {x : T4} {y : Ck} {i : Nat} {P : IV → Sto → Prop} {E : Str → List (Str × IV) → Sto → Prop} {s8 s9 s10 s11 s12 : Option SV}
theorem LsAt.push (h : LsAt ow st l ls lC lP bg ps T) (hx : x.le = st.length) : LsAt (owN ow st.length (st.length + 1)) ((st ++ [Mi.IO.lst (t4V x)]).set lC (Mi.IO.lst ((T ++ [x]).map fun (x : T4) => IV.ref x.le))) l ls lC lP bg ps (T ++ [x]) := by
  have o1 := h.o1; have o2 := h.o2; have o3 := h.o3
  have ss := h.hS.lt
  have h1 := h.xt (xt_push (k := st.length + 1) (o := Mi.IO.lst (t4V x)) (S := none0)) id id id (fun _ _ => id)
  have tlt : ∀ z ∈ T, z.le < st.length := fun z hz => (h.hT z hz).lt
  refine ⟨⟨h1.ol.1, by rw [List.length_set]; exact h1.ol.2⟩, h1.hS.setN (by omega), h1.hC.set, h1.hP.setN (by omega), fun z hz => ?_, ?_, o1, o2, o3, fun z hz => ?_⟩
  · rcases List.mem_append.mp hz with hz | hz
    · exact (h1.hT z hz).setN (by have := h.o4 z hz; omega)
    · rw [List.mem_singleton.mp hz, hx]
      exact cel_push.setN (by omega)
  · rw [List.map_append, List.nodup_append]
    refine ⟨h.nd, by simp, fun a ha c hc => ?_⟩
    obtain ⟨z, hz, rfl⟩ := List.mem_map.mp ha
    have : c = x.le := by simpa using hc
    have := tlt z hz
    omega
  · rcases List.mem_append.mp hz with hz | hz
    · exact h.o4 z hz
    · rw [List.mem_singleton.mp hz]; omega
theorem holds_str {w : IV} (h : w ∈ [IV.str "shut", .str "shut", .str "kept", .str "copied", .str "place", .str "key"]) : ∃ z : Str, w = .str z ∧ inI (.str z) g_HOLDS = true := by
  simp only [List.mem_cons, List.not_mem_nil, or_false] at h
  rcases h with rfl | rfl | rfl | rfl | rfl | rfl <;> exact ⟨_, rfl, by decide +kernel⟩
theorem d1_ok (h : LwAt ow st cs l b lt ls lC lP n t d ks T) (g : Good cs) (h0 : 0 < cs.length) (hn : n < 1000000) (few : ks.length < 12) (k : DK cs l b lt ls lC lP (n + 2) t (P .non)) :
    (D1 (dS l b lt ls lC lP bg road s8 s9 s10 s11 s12) st).wp (dP P E) := by
  simp [D1]
  refine pick_ok (by decide) (by decide) (by omega) h.spr fun w st1 hw b1 u1 => ?_
  obtain ⟨hold, rfl, hh⟩ := holds_str hw
  have h1 := h.draw b1 u1
  simp
  refine draw_ok (by omega) (by omega) (by omega) b1 fun r st2 r0 r1 b2 u2 => ?_
  have h2 := h1.draw b2 u2
  clear h h1 b1 u1 u2
  simp
  refine mk_decl h2.e.ht g h0 r0 (by omega) hh (by decide +kernel) txt_true toks_true rd_true dp_true txt_nil ord_nil fun ow3 st3 lw lo x3 hd3 => ?_
  have e3 := h2.e.mono x3
  have s3 := h2.s.xt x3 id id id (fun _ _ => id)
  have b3 : Spr (n + 2) l st3 := b2.keep (x3.keep l b2.lt id)
  obtain ⟨lk, lw', lp, lc, hD3⟩ := e3.hD
  simp [isLst_ref s3.hC.2, hD3.ins]
  refine declare_ok hD3 hd3 g e3.rows e3.hk e3.hc (by omega) fun ow4 st4 x4 hD4 hc4 => ?_
  have s4 := s3.eng e3 (x4.mono fun _ z => .inl z)
  have b4 := spr_eng b3 s3.ol.1 e3 (x4.mono fun _ z => .inl z)
  generalize hdc : (⟨lt, lw, lo, ["true"], trueT, [], wayOf 0, r, false, hold, false, "none"⟩ : Dc) = dc at hd3 hc4
  have e4 : EgAt ow4 st4 cs b lt { d with cus := d.cus ++ [st3.length] } (ks ++ [⟨st3.length, dc, initC dc d.rows st2.length b⟩]) :=
    ⟨⟨lk, lw', lp, lc, hD4⟩, e3.hw, by rw [List.map_append, ← e3.hk]; rfl, hc4, Cel.xt (k := 0) (o := .ins "Table" (tabF cs)) e3.ht x4 (by omega), e3.rows, e3.pts, e3.bg⟩
  have s5 := s4.push (x := ⟨st4.length, st3.length, true, st2.length⟩) rfl
  have ap : (st4 ++ [Mi.IO.lst [.ref st3.length, .bl true, .ref st2.length]])[lC]? = some (.lst (T.map fun x => .ref x.le)) := by rw [List.getElem?_append_left s4.hC.lt]; exact s4.hC.2
  have tl := h2.cpl.len
  simp [isLst_ref ap, app_ref ap (by rw [List.length_map]; omega)]
  have x5 : Xt ow4 st4 none0 (owN ow4 st4.length (st4.length + 1)) (st4 ++ [Mi.IO.lst [.ref st3.length, .bl true, .ref st2.length]]) := xt_push
  have e5 := e4.mono x5
  have co : owN ow4 st4.length (st4.length + 1) lC = lC + 1 := by rw [owN_ne (by have := s4.hC.lt; omega)]; exact s4.hC.1
  have e6 := e5.lst ap (xt_own (o := .lst ((T.map fun x => IV.ref x.le) ++ [.ref st4.length])) co)
  have b5 : Spr (n + 2) l ((st4 ++ [Mi.IO.lst [.ref st3.length, .bl true, .ref st2.length]]).set lC (.lst ((T.map fun x => IV.ref x.le) ++ [.ref st4.length]))) := spr_set (spr_app b4) (by have := s4.o1; omega)
  refine k _ _ _ _ (T ++ [⟨st4.length, st3.length, true, st2.length⟩]) ⟨b5, e6, ?_, ?_, by rw [List.length_append]; simp only [List.length_singleton]; omega, h2.np⟩
  · have : (T ++ [(⟨st4.length, st3.length, true, st2.length⟩ : T4)]).map (fun x => IV.ref x.le) = (T.map fun x => IV.ref x.le) ++ [.ref st4.length] := by rw [List.map_append]; rfl
    rw [this] at s5
    exact s5
  · have := h2.cpl
    unfold Cpl at this ⊢
    rw [List.map_append, List.map_append, this]; rfl
theorem d3_ok (h : LwAt ow st cs l b lt ls lC lP n t d ks T) (hn : n < 1000000) (ht : t < 90) (k : DK cs l b lt ls lC lP n (t + 1) (P .non)) :
    (D3 (dS l b lt ls lC lP bg road s8 s9 s10 s11 s12) st).wp (dP P E) := by
  have tl := h.cpl.len
  have np := h.np
  have few := h.few
  have lenp : ((d.pts.map (·.2)).map IV.int).length < 100000 := by rw [List.length_map, List.length_map]; omega
  have e1 := h.e.lst h.s.hP.2 (xt_own (o := .lst ((d.pts.map (·.2) ++ [(T.length : Int)]).map IV.int)) h.s.hP.1)
  have s1 := h.s.putP (d.pts.map (·.2) ++ [(T.length : Int)])
  have b1 : Spr n l (st.set lP (.lst ((d.pts.map (·.2) ++ [(T.length : Int)]).map IV.int))) := spr_set h.spr (by have := h.s.o1; have := h.s.o2; omega)
  obtain ⟨lk, lw, lp, lc, hD⟩ := e1.hD
  have em : (d.pts.map (·.2)).map IV.int ++ [IV.int (T.length : Int)] = (d.pts.map (·.2) ++ [(T.length : Int)]).map IV.int := by rw [List.map_append]; rfl
  simp [D3, isLst_ref h.s.hP.2, len_ref h.s.hC.2, app_ref h.s.hP.2 lenp, em, hD.ins, -List.map_map, -List.map_append]
  generalize (st.set lP (.lst ((d.pts.map (·.2) ++ [(T.length : Int)]).map IV.int))) = st1 at e1 s1 b1 hD ⊢
  refine savepoint_ok hD (by omega) fun st2 v x2 hD2 => ?_
  have s2 := s1.eng e1 (x2.mono fun _ z => .inl z)
  have b2 := spr_eng b1 s1.ol.1 e1 (x2.mono fun _ z => .inl z)
  have cl : d.cus.length = T.length := by rw [h.e.hk, List.length_map]; omega
  have hw0 := h.e.hw
  refine k _ st2 _ ks T ⟨b2, ⟨⟨lk, lw, lp, lc, hD2⟩, hw0, h.e.hk, e1.hc.xt x2 (fun x hx z => (e1.hc.notb hD) ⟨x, hx, z.symm⟩) (by omega), Cel.xt (k := 0) (o := .ins "Table" (tabF cs)) e1.ht x2 (by omega), h.e.rows, fun p hp => ?_, h.e.bg⟩, ?_, h.cpl, few, by rw [List.length_append]; simp only [List.length_singleton]; omega⟩
  · rcases List.mem_append.mp hp with hp | hp
    · exact h.e.pts p hp
    · rw [List.mem_singleton.mp hp, hw0, cl]
      refine ⟨rfl, ?_, ?_⟩
      · show (0 : Int) ≤ (T.length : Int); omega
      · show (T.length : Int) ≤ 12; omega
  · rw [List.map_append]
    show LsAt _ _ _ _ _ _ _ (d.pts.map (·.2) ++ [(d.cus.length : Int)]) T
    rw [cl]
    exact s2
end
end K47
set_option Elab.async false
set_option linter.all false
set_option maxRecDepth 100000
set_option maxHeartbeats 4000000
namespace K47
open PySem PySem.Spec PyProof.Rows L2 Mi PySem.W
theorem take_drop {α : Type} {xs : List α} {m : Nat} (h : m + 1 ≤ xs.length) : (xs.take (m + 1)).dropLast = xs.take m := by
  have e : xs.take (m + 1) = xs.take m ++ [xs[m]] := by rw [List.take_add_one, List.getElem?_eq_getElem (by omega)]; rfl
  rw [e, List.dropLast_concat]
section
variable {ow ow' : Ow} {st st' : Sto} {S : Nat → Prop} {cs : List IV} {l ls lC lP b lt p n m t : Nat} {bg road : Int} {ps : List Int} {T : List T4} {d : Db} {ks : List Ck} {xs : List IV} {x : T4} {y : Ck} {i : Nat} {P : IV → Sto → Prop} {E : Str → List (Str × IV) → Sto → Prop} {s8 s9 s10 s11 s12 : Option SV}
theorem pop_ref {v : IV} (h : st[p]? = some (.lst xs)) (hv : xs[xs.length - 1]? = some v) : gPop (.ref p) [] st = .ok v (st.set p (.lst xs.dropLast)) := by
  simp only [gPop, h, hv]
theorem cpl_lg {f : Int} (h : Cpl T ks) : Cpl (T.mapIdx (sfC f)) (ks.mapIdx (lgC f)) := by
  refine Cpl.of (by rw [List.length_mapIdx, List.length_mapIdx]; exact h.len) fun i x y hx hy => ?_
  rw [List.getElem?_mapIdx] at hx hy
  cases q : ks[i]? with
  | none => rw [q] at hy; cases hy
  | some y0 =>
    obtain ⟨x0, e0, e1, e2, e3⟩ := h.get q
    rw [q] at hy
    rw [e0] at hx
    simp only [Option.map_some, Option.some.injEq] at hx hy
    subst hx hy
    unfold sfC lgC
    by_cases c : f ≤ (i : Int)
    · simp [c, e1, e3]
    · simp [c, e1, e2, e3]
theorem d5_ok (h : LwAt ow st cs l b lt ls lC lP n t d ks T) (hn : n < 1000000) (hne : T ≠ []) (k : DK cs l b lt ls lC lP (n + 1) t (P .non)) :
    (D5 (dS l b lt ls lC lP bg road s8 s9 s10 s11 s12) st).wp (dP P E) := by
  have tl := h.cpl.len
  have few := h.few
  have tp : 0 < T.length := List.length_pos_iff.mpr hne
  simp [D5, len_ref h.s.hC.2]
  refine draw_ok (by omega) (by omega) (by omega) h.spr fun r st1 r0 r1 b1 u1 => ?_
  have h1 := h.draw b1 u1
  have ri : r.toNat < T.length := by omega
  have er : ((r.toNat : Nat) : Int) = r := by omega
  have hx := List.getElem?_eq_getElem ri
  generalize T[r.toNat] = x at hx
  have hy := List.getElem?_eq_getElem (show r.toNat < ks.length by omega)
  generalize ks[r.toNat] = y at hy
  obtain ⟨x', e0, e1, e2, e3⟩ := h.cpl.get hy
  have : x' = x := by rw [hx] at e0; exact (Option.some.inj e0).symm
  subst this
  have at1 : ∀ z : List T4, z.map (fun x => IV.ref x.le) = T.map (fun x => IV.ref x.le) → atI (z.map fun x => IV.ref x.le) r = some (.ref x'.le) := fun z ez => by
    rw [ez, ← er]
    exact Mi.atI_at (by rw [List.getElem?_map, hx]; rfl)
  have hT1 := h1.s.hT x' (List.mem_of_getElem? hx)
  have at2 : atI (t4V x') 0 = some (.ref y.r) := by rw [← e1]; rfl
  obtain ⟨⟨rs, lo, hi, hc⟩, hd, hdb, hm⟩ := h1.e.hc.at' y (List.mem_of_getElem? hy)
  simp [ix_ref h1.s.hC.2, at1 T rfl, ix_ref hT1.2, at2, hc.ins]
  refine shut_ok hc fun ow2 st2 rs2 lo2 hi2 x2 hc2 => ?_
  have xe : Xt ow st1 (fun k => k = b + 1 ∨ ofCks ks k) ow2 st2 := x2.mono fun z e => .inr ⟨y, List.mem_of_getElem? hy, e⟩
  have s2 := h1.s.eng h1.e xe
  have b2 := spr_eng b1 h1.s.ol.1 h1.e xe
  obtain ⟨lk, lw, lp, lc, hD⟩ := h1.e.hD
  have nb : ¬ b + 1 = y.r + 1 := fun z => (hc.neB hD) (by omega)
  have hck : CksAt ow2 st2 cs b (ks.set r.toNat { y with c := { y.c with row := false, shut := true } }) :=
    h1.e.hc.one hy x2 rfl ⟨⟨rs2, lo2, hi2, hc2⟩, hd.xt x2 (by omega), hdb, hm⟩
  have ek : (ks.set r.toNat { y with c := { y.c with row := false, shut := true } }).map (·.r) = ks.map (·.r) := set_map hy rfl
  have e2' : EgAt ow2 st2 cs b lt d (ks.set r.toNat { y with c := { y.c with row := false, shut := true } }) :=
    ⟨⟨lk, lw, lp, lc, hD.xt x2 nb⟩, h.e.hw, by rw [ek]; exact h.e.hk, hck, Cel.xt (k := 0) (o := .ins "Table" (tabF cs)) h1.e.ht x2 (by omega), h.e.rows, h.e.pts, h.e.bg⟩
  have hT2 := s2.hT x' (List.mem_of_getElem? hx)
  have sx : gSetL (.ref x'.le) (.int 1) (.bl false) st2 = some (st2.set x'.le (.lst (t4V { x' with due := false }))) := setL_ref (j := 1) hT2.2 rfl
  simp [ix_ref s2.hC.2, at1 T rfl, sx]
  have s3 := s2.putT hx false
  have x3 := xt_own (st := st2) (o := Mi.IO.lst (t4V { x' with due := false })) hT2.1
  refine k _ _ d _ (T.set r.toNat { x' with due := false }) ⟨spr_set b2 ?_, e2'.lst hT2.2 x3, s3, ?_, by rw [List.length_set]; exact few, h.np⟩
  · have := h.s.o1; have := h.s.o2; have := h.s.o3; have := h.s.o4 x' (List.mem_of_getElem? hx); omega
  · refine Cpl.of (by rw [List.length_set, List.length_set]; exact tl) fun i x y' hx' hy' => ?_
    rw [List.getElem?_set] at hx' hy'
    by_cases c : r.toNat = i
    · subst c
      simp [ri, show r.toNat < ks.length by omega] at hx' hy'
      subst hx' hy'
      exact ⟨e1, rfl, e3⟩
    · simp only [c, if_false] at hx' hy'
      obtain ⟨z, f0, f1, f2, f3⟩ := h.cpl.get hy'
      rw [hx'] at f0
      have := Option.some.inj f0
      subst this
      exact ⟨f1, f2, f3⟩
theorem d6t_ok (b0 : Spr n l st) (e : EgAt ow st cs b lt d ks) (hs : LsAt ow st l ls lC lP bg ps T) (hp : d.pts = []) (hb : d.bg = (T.length : Int)) (tl : T.length = ks.length) (few : ks.length ≤ 12)
    (cp : ∀ (i : Nat) y, ks[i]? = some y → ∃ x, T[i]? = some x ∧ x.ld = y.c.ld) (hc : Cpl (T.mapIdx (cmC road ks)) ks) {v6 : Int} (k : DK cs l b lt ls lC lP n t (P .non)) :
    (D6T (dS l b lt ls lC lP v6 road s8 s9 s10 s11 s12) st).wp (dP P E) := by
  have it := items_ref hs.hC.2
  simp [D6T, it]
  refine deed2_ok (r0 := [some (.v (.ref l)), some (.v (.ref b)), some (.v (.ref lt)), some (.v (.ref ls)), some (.v (.ref lC)), some (.v (.ref lP)), some (.v (.int v6)), some (.v (.int road)), s8, s9, s10, s11]) (s12 := s12) e hs cp tl rfl ?_
  rintro ρ st1 ⟨z12, rfl⟩ x1 s1
  have e1 := e.lsts hs x1
  have b1 := hs.spr_lsts b0 x1
  have cl : gClear (.ref lP) [] st1 = .ok .non (st1.set lP (.lst [])) := by simp only [gClear, s1.hP.2]
  have s2 := s1.putP []
  have e2 := e1.lst s1.hP.2 (xt_own (o := .lst (([] : List Int).map IV.int)) s1.hP.1)
  have o1 := s1.o1; have o2 := s1.o2; have o3 := s1.o3
  have b2 : Spr n l (st1.set lP (.lst (([] : List Int).map IV.int))) := spr_set b1 (by omega)
  have es : ([] : List Int).map IV.int = [] := rfl
  rw [es] at s2 e2 b2
  have ml : (T.mapIdx (cmC road ks)).length = T.length := List.length_mapIdx
  have lc2 := len_ref s2.hC.2
  rw [List.length_map, ml] at lc2
  have sx : gSetL (.ref ls) (.int 2) (.int (T.length : Int)) (st1.set lP (.lst [])) = some ((st1.set lP (.lst [])).set ls (.lst [.ref lC, .ref lP, .int (T.length : Int)])) := setL_ref (j := 2) s2.hS.2 rfl
  simp [isLst_ref s1.hP.2, cl, lc2, sx]
  have s3 := s2.putS (T.length : Int)
  have e3 := e2.lst s2.hS.2 (xt_own (o := .lst [.ref lC, .ref lP, .int (T.length : Int)]) s2.hS.1)
  refine k _ _ d ks _ ⟨spr_set b2 (by omega), e3, by rw [hp, hb]; exact s3, hc, few, by rw [hp]; exact Nat.zero_le _⟩
theorem d6_ok (h : LwAt ow st cs l b lt ls lC lP n t d ks T) (g : Good cs) (hr : 6 ≤ road) (k : DK cs l b lt ls lC lP n t (P .non)) :
    (D6 (dS l b lt ls lC lP d.bg road s8 s9 s10 s11 s12) st).wp (dP P E) := by
  have tl := h.cpl.len
  have few := h.few
  obtain ⟨lk, lw, lp, lc, hD⟩ := h.e.hD
  have cl : d.cus.length = T.length := by rw [h.e.hk, List.length_map]; omega
  simp [D6, hD.ins]
  by_cases c6 : road = 6
  · subst c6
    simp
    refine rollback_ok hD h.e.hw h.e.hk h.e.hc fun ow1 st1 lp1 x1 hD1 hc1 => ?_
    have s1 := h.s.eng h.e x1
    have b1 := spr_eng h.spr h.s.ol.1 h.e x1
    have er : (ks.mapIdx (lgC d.bg)).map (·.r) = ks.map (·.r) := by
      rw [← mix_all]; exact mix_r (f := lgC d.bg) fun _ _ => rfl
    have n0 : ¬ ((0 : Nat) = b + 1 ∨ ofCks ks 0) := by
      rintro (z | z)
      · omega
      · exact not0 z
    have e1 : EgAt ow1 st1 cs b lt { d with pts := [], bg := (d.cus.length : Int) } (ks.mapIdx (lgC d.bg)) :=
      ⟨⟨_, _, _, _, hD1⟩, h.e.hw, by rw [er]; exact h.e.hk, hc1, Cel.xt (k := 0) (o := .ins "Table" (tabF cs)) h.e.ht x1 n0, h.e.rows, by simp, by show (0 : Int) ≤ (d.cus.length : Int) ∧ (d.cus.length : Int) ≤ 12; omega⟩
    have bb := h.e.bg
    simp
    refine shut_from_ok bb.1 (by omega) s1 (by omega) fun st2 x2 s2 => ?_
    have e2 := e1.lsts s1 x2
    have b2 := s1.spr_lsts b1 x2
    have cp2 := cpl_lg (f := d.bg) h.cpl
    have ml : (T.mapIdx (sfC d.bg)).length = T.length := List.length_mapIdx
    have kl : (ks.mapIdx (lgC d.bg)).length = ks.length := List.length_mapIdx
    have ee : (T.mapIdx (sfC d.bg)).mapIdx (cmC 6 (ks.mapIdx (lgC d.bg))) = T.mapIdx (sfC d.bg) := by
      refine List.ext_getElem? fun j => ?_
      rw [List.getElem?_mapIdx]
      cases (T.mapIdx (sfC d.bg))[j]? with
      | none => rfl
      | some z =>
        simp only [Option.map_some, cmC]
        split
        · rw [if_neg (by omega)]
        · rfl
    have fin := d6t_ok (P := P) (E := E) (t := t) (road := 6) (v6 := d.bg) (s8 := s8) (s9 := s9) (s10 := s10) (s11 := s11) (s12 := s12) b2 e2 s2 rfl (by show (d.cus.length : Int) = _; rw [ml, cl]) (by rw [ml, kl]; exact tl) (by rw [kl]; exact few) (fun i y hy => by
      obtain ⟨x, hx, _, _, e⟩ := cp2.get hy
      exact ⟨x, hx, e⟩) (by rw [ee]; exact cp2) k
    simpa [dS, dP] using fin
  · have r7 : 6 < road := by omega
    simp [c6]
    refine commit_ok hD h.e.hk h.e.hc g h.e.rows fun ow1 st1 lw1 lp1 x1 hD1 hc1 => ?_
    have s1 := h.s.eng h.e x1
    have b1 := spr_eng h.spr h.s.ol.1 h.e x1
    have er : (ks.mapIdx (pcC d.rows)).map (·.r) = ks.map (·.r) := by
      rw [← mix_all]; exact mix_r (f := pcC d.rows) fun _ _ => rfl
    have n0 : ¬ ((0 : Nat) = b + 1 ∨ ofCks ks 0) := by
      rintro (z | z)
      · omega
      · exact not0 z
    have e1 : EgAt ow1 st1 cs b lt { d with wr := [], pts := [], bg := (d.cus.length : Int) } (ks.mapIdx (pcC d.rows)) :=
      ⟨⟨_, _, _, _, hD1⟩, rfl, by rw [er]; exact h.e.hk, hc1, Cel.xt (k := 0) (o := .ins "Table" (tabF cs)) h.e.ht x1 n0, h.e.rows, by simp, by show (0 : Int) ≤ (d.cus.length : Int) ∧ (d.cus.length : Int) ≤ 12; omega⟩
    have kl : (ks.mapIdx (pcC d.rows)).length = ks.length := List.length_mapIdx
    have cpl' : Cpl (T.mapIdx (cmC road (ks.mapIdx (pcC d.rows)))) (ks.mapIdx (pcC d.rows)) := by
      refine Cpl.of (by rw [List.length_mapIdx, List.length_mapIdx]; exact tl) fun i x y hx hy => ?_
      have hy0 := hy
      rw [List.getElem?_mapIdx] at hx hy
      cases q : ks[i]? with
      | none => rw [q] at hy; cases hy
      | some y0 =>
        obtain ⟨x0, f0, f1, f2, f3⟩ := h.cpl.get q
        rw [q] at hy
        rw [f0] at hx
        simp only [Option.map_some, Option.some.injEq] at hx hy
        have sm := passC_same y0.dc d.rows y0.c
        have hcm : cmC road (ks.mapIdx (pcC d.rows)) i x0 = if y0.dc.hold = "shut" then { x0 with due := false } else x0 := by
          unfold cmC
          rw [hy0, ← hy]
          simp [r7, pcC]
        rw [hcm] at hx
        subst hx hy
        unfold pcC
        by_cases c1 : y0.c.shut = true
        · simp only [c1, if_true]
          by_cases c2 : y0.dc.hold = "shut"
          · simp [c2, f1, f3, c1]
          · simp [c2, f1, f2, f3, c1]
        · simp only [c1, if_false, Bool.false_eq_true]
          rw [sm.1, sm.2.2.2]
          by_cases c2 : y0.dc.hold = "shut"
          · simp [c2, f1, f3]
          · simp [c2, f1, f2, f3]
    have fin := d6t_ok (P := P) (E := E) (t := t) (road := road) (v6 := d.bg) (s8 := s8) (s9 := s9) (s10 := s10) (s11 := s11) (s12 := s12) b1 e1 s1 rfl (by show (d.cus.length : Int) = _; rw [cl]) (by rw [kl]; exact tl) (by rw [kl]; exact few) (fun i y hy => by
      rw [List.getElem?_mapIdx] at hy
      cases q : ks[i]? with
      | none => rw [q] at hy; cases hy
      | some y0 =>
        obtain ⟨x0, f0, f1, f2, f3⟩ := h.cpl.get q
        rw [q] at hy
        simp only [Option.map_some, Option.some.injEq] at hy
        refine ⟨x0, f0, ?_⟩
        subst hy
        unfold pcC
        by_cases c1 : y0.c.shut = true
        · simp only [c1, if_true]; exact f3
        · simp only [c1, if_false, Bool.false_eq_true]
          rw [(passC_same y0.dc d.rows y0.c).1]; exact f3) cpl' k
    simpa [dS, dP] using fin
end
end K47
set_option Elab.async false
set_option linter.all false
set_option maxRecDepth 100000
set_option maxHeartbeats 4000000
namespace K47
open PySem PySem.Spec PyProof.Rows L2 Mi PySem.W
section
variable {ow ow' : Ow} {st st' : Sto} {S : Nat → Prop} {cs : List IV} {l ls lC lP b lt p n m t : Nat} {bg road : Int} {ps : List Int} {T : List T4} {d : Db} {ks : List Ck} {xs : List IV} {x : T4} {y : Ck} {i : Nat} {P : IV → Sto → Prop} {E : Str → List (Str × IV) → Sto → Prop} {s8 s9 s10 s11 s12 : Option SV}
/-- points are dropped -/
def PpI (ow : Ow) (cs : List IV) (l b lt ls lC lP n : Nat) (bg : Int) (ps : List Int) (d : Db) (ks : List Ck) (T : List T4) (nn : Nat) (ρ0 : Slots) (k : Nat) (ρ : Slots) (st : Sto) : Prop := ρ = ρ0 ∧ Spr n l st ∧ EgAt ow st cs b lt d ks ∧ LsAt ow st l ls lC lP bg (ps.take (nn + 1 + k)) T ∧ nn + 1 + k ≤ ps.length
theorem d4_ok (h : LwAt ow st cs l b lt ls lC lP n t d ks T) (hn : n < 1000000) (ht : t < 90) (hne : d.pts ≠ []) (k : DK cs l b lt ls lC lP (n + 1) t (P .non)) :
    (D4 (dS l b lt ls lC lP bg road s8 s9 s10 s11 s12) st).wp (dP P E) := by
  have tl := h.cpl.len
  have few := h.few
  have np := h.np
  have tp : 0 < d.pts.length := List.length_pos_iff.mpr hne
  have lnp := len_ref h.s.hP.2
  rw [List.length_map, List.length_map] at lnp
  simp [D4, lnp]
  refine draw_ok (by omega) (by omega) (by omega) h.spr fun r st1 r0 r1 b1 u1 => ?_
  have h1 := h.draw b1 u1
  obtain ⟨nn, rfl⟩ : ∃ nn : Nat, r = nn := ⟨r.toNat, by omega⟩
  have ri : nn < d.pts.length := by omega
  generalize hps : d.pts.map (·.2) = ps at h1
  have psl : ps.length = d.pts.length := by rw [← hps, List.length_map]
  have s1 := h1.s
  rw [hps] at s1
  simp
  refine wp_while (PpI ow cs l b lt ls lC lP (n + 1) d.bg ps d ks T nn (dS l b lt ls lC lP bg road s8 s9 (some (.v (.int (nn : Int)))) s11 s12)) ?_ (k := ps.length - (nn + 1)) (by omega) ⟨rfl, b1, h1.e, by rw [List.take_of_length_le (by omega)]; exact s1, by omega⟩
  rintro k1 ρ st2 ⟨rfl, b2, e2, s2, hk⟩
  have ln2 := len_ref s2.hP.2
  rw [List.length_map, List.length_take, Nat.min_eq_left hk] at ln2
  simp [ln2]
  have o1 := s2.o1; have o2 := s2.o2; have o3 := s2.o3
  by_cases c : k1 = 0
  · subst c
    simp
    obtain ⟨lk, lw, lp, lc, hD⟩ := e2.hD
    have hpt : d.pts[nn]? = some (0, (d.pts[nn]).2) := by
      rw [List.getElem?_eq_getElem ri]
      have := (e2.pts _ (List.getElem_mem ri)).1
      rw [← this]
    have bd := (e2.pts _ (List.getElem_mem ri)).2
    generalize (d.pts[nn]).2 = m0 at hpt bd
    have pm : ps[nn]? = some m0 := by rw [← hps, List.getElem?_map, hpt]; rfl
    rw [D4T]
    simp [hD.ins]
    refine rollback_to_ok hD e2.hw hpt e2.hk e2.hc fun ow3 st3 lp3 x3 hD3 hc3 => ?_
    have s3 := s2.eng e2 x3
    have b3 := spr_eng b2 s2.ol.1 e2 x3
    have er' : (ks.mapIdx (lgC m0)).map (·.r) = ks.map (·.r) := by rw [← mix_all]; exact mix_r (f := lgC m0) fun _ _ => rfl
    have n0 : ¬ ((0 : Nat) = b + 1 ∨ ofCks ks 0) := by
      rintro (z | z)
      · omega
      · exact not0 z
    have e3 : EgAt ow3 st3 cs b lt { d with pts := d.pts.take (nn + 1) } (ks.mapIdx (lgC m0)) :=
      ⟨⟨_, _, _, _, hD3⟩, e2.hw, by rw [er']; exact e2.hk, hc3, Cel.xt (k := 0) (o := .ins "Table" (tabF cs)) e2.ht x3 n0, e2.rows, fun p hp => e2.pts p (List.mem_of_mem_take hp), e2.bg⟩
    have at1 : atI ((ps.take (nn + 1 + 0)).map IV.int) (nn : Int) = some (.int m0) := Mi.atI_at (by
        rw [List.getElem?_map, List.getElem?_take_of_lt (by omega), pm]; rfl)
    have ixp := fun (P : IV → Sto → Prop) E => ix_ref (i := (nn : Int)) (P := P) (E := E) s3.hP.2
    simp only [at1] at ixp
    simp [ixp]
    refine shut_from_ok bd.1 (by omega) s3 (by omega) fun st4 x4 s4 => ?_
    refine k _ _ _ _ _ ⟨s3.spr_lsts b3 x4, e3.lsts s3 x4, ?_, cpl_lg h.cpl, by rw [List.length_mapIdx]; exact few, ?_⟩
    · show LsAt ow3 st4 l ls lC lP d.bg ((d.pts.take (nn + 1)).map (·.2)) _
      rw [List.map_take, hps]
      exact s4
    · show (d.pts.take (nn + 1)).length ≤ t
      rw [List.length_take]; omega
  · obtain ⟨k2, rfl⟩ : ∃ k2, k1 = k2 + 1 := ⟨k1 - 1, by omega⟩
    have c2' : (nn : Int) + 1 < (nn : Int) + 1 + ((k2 : Int) + 1) := by omega
    have lv : ((ps.take (nn + 1 + (k2 + 1))).map IV.int)[((ps.take (nn + 1 + (k2 + 1))).map IV.int).length - 1]? = some (.int (ps[nn + 1 + k2]'(by omega))) := by
      rw [List.length_map, List.length_take, Nat.min_eq_left hk, List.getElem?_map, List.getElem?_take_of_lt (by omega), show nn + 1 + (k2 + 1) - 1 = nn + 1 + k2 by omega, List.getElem?_eq_getElem (by omega)]; rfl
    have pp := pop_ref s2.hP.2 lv
    have dl : ((ps.take (nn + 1 + (k2 + 1))).map IV.int).dropLast = (ps.take (nn + 1 + k2)).map IV.int := by
      rw [← List.map_dropLast, show nn + 1 + (k2 + 1) = nn + 1 + k2 + 1 by omega, take_drop (by omega)]
    rw [dl] at pp
    have s3 := s2.putP (ps.take (nn + 1 + k2))
    have e3 := e2.lst s2.hP.2 (xt_own (st := st2) (o := .lst ((ps.take (nn + 1 + k2)).map .int)) s2.hP.1)
    simp [c2', L_deed_1, isLst_ref s2.hP.2, pp, -List.map_take]
    exact ⟨rfl, spr_set b2 (by omega), e3, s3, by omega⟩
theorem deed_ok (h : LwAt ow st cs l b lt ls lC lP n t d ks T) (g : Good cs) (h0 : 0 < cs.length) (hn : n < 100000) (ht : t < 90) (k : DK cs l b lt ls lC lP (n + 3) (t + 1) (P .non)) :
    (F_deed [.ref l, .ref b, .ref lt, .ref ls] st).wp P E := by
  have wk : ∀ m u, m ≤ n + 3 → u ≤ t + 1 → DK cs l b lt ls lC lP m u (P .non) := fun m u h1 h2 ow st d ks T h => k ow st d ks T ⟨h.spr.mono h1, h.e, h.s, h.cpl, h.few, Nat.le_trans h.np h2⟩
  have as := asL_ref h.s.hS.2
  rw [F_deed, deed_split]
  simp [as]
  refine draw_ok (by omega) (by omega) (by omega) h.spr fun r st1 r0 r1 b1 u1 => ?_
  have h1 := h.draw b1 u1
  have tl := h.cpl.len
  have few := h.few
  have nP := nil_ref (neg := true) h1.s.hP.2
  have nC := nil_ref (neg := true) h1.s.hC.2
  have eP : ((d.pts.map (·.2)).map IV.int).isEmpty = d.pts.isEmpty := by cases d.pts <;> rfl
  have eC : (T.map fun x => IV.ref x.le).isEmpty = T.isEmpty := by cases T <;> rfl
  rw [eP] at nP
  rw [eC] at nC
  have lC1 := len_ref h1.s.hC.2
  rw [List.length_map] at lC1
  simp [lC1]
  by_cases c1 : r < 3
  · by_cases c2 : T.length < 12
    · have c2' : (T.length : Int) < 12 := by omega
      simp [c1, c2']
      exact d1_ok h1 g h0 (by omega) (by omega) (wk _ _ (by omega) (by omega))
    · have c2' : ¬ (T.length : Int) < 12 := by omega
      have c3 : ¬ r = 3 := by omega
      have c4 : ¬ r = 4 := by omega
      have c5 : ¬ r = 5 := by omega
      have c6 : ¬ 5 < r := by omega
      simp [c1, c2', c3, c4, c5, c6]
      exact wk (n + 1) t (by omega) (by omega) _ _ _ _ _ h1
  · simp [c1]
    by_cases c3 : r = 3
    · subst c3
      simp
      exact d3_ok h1 (by omega) (by omega) (wk _ _ (by omega) (by omega))
    · simp [c3]
      by_cases c4 : r = 4
      · subst c4
        simp [nP]
        by_cases q : d.pts = []
        · simp [q]
          exact wk (n + 1) t (by omega) (by omega) _ _ _ _ _ h1
        · simp [q]
          exact d4_ok h1 (by omega) ht q (wk _ _ (by omega) (by omega))
      · simp [c4]
        by_cases c5 : r = 5
        · subst c5
          simp [nC]
          by_cases q : T = []
          · simp [q]
            exact wk (n + 1) t (by omega) (by omega) _ _ _ _ _ h1
          · simp [q]
            exact d5_ok h1 (by omega) q (wk _ _ (by omega) (by omega))
        · have c6 : 5 < r := by omega
          simp [c5, c6]
          exact d6_ok h1 g (by omega) (wk _ _ (by omega) (by omega))
end
end K47
set_option Elab.async false
set_option linter.all false
set_option maxRecDepth 100000
set_option maxHeartbeats 4000000
namespace K47
open PySem PySem.Spec PyProof.Rows L2 Mi PySem.W
section
variable {ow ow' : Ow} {st st' : Sto} {S : Nat → Prop} {cs : List IV} {l ls lC lP b lt p n m t : Nat} {bg road : Int} {ps : List Int} {T : List T4} {d : Db} {ks : List Ck} {xs : List IV} {x : T4} {y : Ck} {i : Nat} {P : IV → Sto → Prop} {E : Str → List (Str × IV) → Sto → Prop} {Q : Sto → Prop}
/-- a cursor is changed -/
theorem LwAt.cur {c' : Cu} (h : LwAt ow st cs l b lt ls lC lP n t d ks T) (hi : ks[i]? = some y) (x2 : Xt ow st (fun k => k = y.r + 1) ow' st') (hc : ∃ rs lo hi, CuAt ow' st' y.dc.its y.dc.way y.r rs lo hi c') (sm : c'.ld = y.c.ld ∧ c'.db = y.c.db ∧ c'.shut = y.c.shut ∧ c'.many = y.c.many) :
    LwAt ow' st' cs l b lt ls lC lP n t d (ks.set i { y with c := c' }) T := by
  have ym := List.mem_of_getElem? hi
  obtain ⟨⟨rs, lo, hi', hc0⟩, hd, hdb, hm⟩ := h.e.hc.at' y ym
  have xe : Xt ow st (fun k => k = b + 1 ∨ ofCks ks k) ow' st' := x2.mono fun z e => .inr ⟨y, ym, e⟩
  obtain ⟨lk, lw, lp, lc, hD⟩ := h.e.hD
  have nb : ¬ b + 1 = y.r + 1 := fun z => (hc0.neB hD) (by omega)
  have hck : CksAt ow' st' cs b (ks.set i { y with c := c' }) :=
    h.e.hc.one hi x2 rfl ⟨hc, by show DcAt ow' st' c'.ld cs y.dc; rw [sm.1]; exact hd.xt x2 (by omega), sm.2.1.trans hdb, by show 0 ≤ c'.many; rw [sm.2.2.2]; exact hm⟩
  have ek : (ks.set i { y with c := c' }).map (·.r) = ks.map (·.r) := set_map hi rfl
  have hil := (List.getElem?_eq_some_iff.mp hi).1
  refine ⟨spr_eng h.spr h.s.ol.1 h.e xe, ⟨⟨lk, lw, lp, lc, hD.xt x2 nb⟩, h.e.hw, by rw [ek]; exact h.e.hk, hck, Cel.xt (k := 0) (o := .ins "Table" (tabF cs)) h.e.ht x2 (by omega), h.e.rows, h.e.pts, h.e.bg⟩, h.s.eng h.e xe, ?_, by rw [List.length_set]; exact h.few, h.np⟩
  have e : (ks.set i { y with c := c' }).map (fun y => (y.r, !y.c.shut, y.c.ld)) = ks.map fun y => (y.r, !y.c.shut, y.c.ld) := set_map hi (by show (y.r, !c'.shut, c'.ld) = _; rw [sm.1, sm.2.2.1])
  have := h.cpl
  unfold Cpl at this ⊢
  rw [e]; exact this
def RtI (cs : List IV) (l b lt ls lC lP n t : Nat) (T : List T4) (ρ0 : Slots) (i : Nat) (ρ : Slots) (st : Sto) : Prop := ∃ ow d ks s7 s8 s9, ρ = ρ0 ++ [s7, s8, s9] ∧ LwAt ow st cs l b lt ls lC lP (n + i) t d ks T
theorem shown_ok {ρ0 : Slots} {s7 s8 s9 : Option SV} {v1 v2 v3 v4 v5 v6 : Option SV} {D : Post} (h : LwAt ow st cs l b lt ls lC lP n t d ks T) (g : Good cs) (hn : n < 100000) (hr : ρ0 = [some (.v (.ref l)), v1, v2, v3, v4, v5, v6])
    (k : ∀ ow st d ks s7 s8 s9, LwAt ow st cs l b lt ls lC lP (n + 12) t d ks T → D.nx (ρ0 ++ [s7, s8, s9]) st) :
    (forL (some (lC, T.map fun x => .ref x.le)) (T.map fun x => .ref x.le) (tgUnl 3 (tgCons (tgName 7) (tgCons (tgName 8) (tgCons (tgName 9) tgNil)))) L_right_1 (T.map fun x => .ref x.le) (ρ0 ++ [s7, s8, s9]) st).wp D := by
  have tl := h.cpl.len
  have few := h.few
  refine wp_for (RtI cs l b lt ls lC lP n t T ρ0) ⟨ow, d, ks, s7, s8, s9, rfl, h⟩ ?_ ?_
  · rintro i z ρ st1 hz ⟨ow1, d1, ks1, t7, t8, t9, rfl, h1⟩
    rw [List.getElem?_map] at hz
    cases q : T[i]? with
    | none => rw [q] at hz; cases hz
    | some x =>
      rw [q] at hz
      have hz : IV.ref x.le = z := by simpa using hz
      subst hz
      have il := (List.getElem?_eq_some_iff.mp q).1
      have hy := List.getElem?_eq_getElem (show i < ks1.length by have := h1.cpl.len; omega)
      generalize ks1[i]'(by have := h1.cpl.len; omega) = y at hy
      obtain ⟨x', e0, e1, e2, e3⟩ := h1.cpl.get hy
      have : x' = x := by rw [q] at e0; exact (Option.some.inj e0).symm
      subst this
      have hT := h1.s.hT x' (List.mem_of_getElem? q)
      have as : asL st1 (.ref x'.le) = some [.ref y.r, .bl (!y.c.shut), .ref y.c.ld] := by rw [asL_ref hT.2, t4V, e1, e2, e3]
      obtain ⟨⟨rs, lo, hi, hc⟩, hd, hdb, hm⟩ := h1.e.hc.at' y (List.mem_of_getElem? hy)
      have ne : ∀ (a : Bool), gNe (.bl a) (.bl a) st1 = .ok (.bl false) st1 := fun a => by cases a <;> rfl
      refine ⟨by simp only [gokB, h1.s.hC.2, IVs.beq_refl], ?_⟩
      subst hr
      simp [as, L_right_1, hc.ins, F_P_Cursor_is_open, B_P_Cursor_is_open, ne]
      refine wp_own_eq hd.ins (.inl (by rw [hd.ins]; rfl)) (dec_self hd g ⟨_, rfl, ?_⟩)
      simp
      have stay : LwAt ow1 st1 cs l b lt ls lC lP (n + (i + 1)) t d1 ks1 T := h1.mono (by omega)
      cases sh : y.c.shut with
      | true =>
        simp
        exact ⟨ow1, d1, ks1, _, _, _, rfl, stay⟩
      | false =>
        simp
        refine draw_ok (by omega) (by omega) (by omega) h1.spr fun r st2 r0 r1 b2 u2 => ?_
        have h2 := h1.draw b2 u2
        obtain ⟨⟨rs, lo, hi, hc2⟩, hd2, hdb2, hm2⟩ := h2.e.hc.at' y (List.mem_of_getElem? hy)
        obtain ⟨lk, lw, lp, lc, hD⟩ := h2.e.hD
        simp [hc2.ins]
        by_cases c : r = 0
        · simp [c]
          refine next_ok hc2 (by rw [hdb2]; exact hD) hd2 g h2.e.rows hm2 sh fun ow3 st3 rs3 lo3 hi3 x3 hc3 => ?_
          exact ⟨ow3, d1, _, _, _, _, rfl, h2.cur hy x3 ⟨_, _, _, hc3⟩ (nextC_same _ _ _)⟩
        · simp [c]
          exact ⟨ow1, d1, ks1, _, _, _, rfl, h2⟩
  · rintro ρ st1 ⟨ow1, d1, ks1, t7, t8, t9, rfl, h1⟩
    rw [List.length_map] at h1
    exact ⟨by simp only [gokB, h1.s.hC.2, IVs.beq_refl], k ow1 st1 d1 ks1 t7 t8 t9 (h1.mono (by omega))⟩
end
end K47
set_option Elab.async false
set_option linter.all false
set_option maxRecDepth 100000
set_option maxHeartbeats 4000000
namespace K47
open PySem PySem.Spec PyProof.Rows L2 Mi PySem.W
theorem inI_nodup {es : List IV} {i : Nat} (nd : (es.map fst).Nodup) (hc : ∀ x ∈ es, colOk x = true) (hi : i < es.length) : inI (fst es[i]) ((es.take i).map fst) = false := by
  obtain ⟨w, t, e, _⟩ := col_shape (hc _ (List.getElem_mem hi))
  rw [e]
  show inI (.str w) _ = false
  cases q : inI (.str w) ((es.take i).map fst) with
  | false => rfl
  | true =>
    exfalso
    have m := inI_str.mp q
    have sp : es = es.take i ++ es[i] :: es.drop (i + 1) := by rw [← List.drop_eq_getElem_cons hi, List.take_append_drop]
    rw [sp, e, List.map_append, List.map_cons, List.nodup_append] at nd
    exact nd.2.2 _ m _ (List.mem_cons_self) rfl
theorem due_good {es : List IV} (g : Good es) (h0 : 0 < es.length) (hm : many es ≤ 36) : dueV es = .non := by
  refine due_fine (by omega) g.len (first_none fun j hj => ?_) (by omega)
  rw [bad_eq (List.getElem?_eq_getElem hj), g.col _ (List.getElem_mem hj), inI_nodup g.nd g.col hj]; rfl
theorem okv3 {es : List IV} (g : Good es) : es.all (okV 3) = true := List.all_eq_true.mpr fun x hx => okV_up (by decide) (List.all_eq_true.mp g.okv x hx)
theorem tabl {es : List IV} {l0 : Nat} {st : Sto} {P : IV → Sto → Prop} {E : Str → List (Str × IV) → Sto → Prop} (g : Good es) (h0 : 0 < es.length) (hm : many es ≤ 36) (h : st[l0]? = some (.ins "Table" []))
    (k : ∀ st', TabAt l0 es st' → Ups l0 st st' → P .non st') : (F_P_Table_init [.ref l0, .lst es] st).wp P E := by
  have d := due_good g h0 hm
  exact tab_ok h (okv3 g) (by have := g.len; omega) (fun i st' e _ => by rw [d] at e; cases e) fun st' _ _ hu ht => k st' ht hu
theorem many6 : ∀ cs ∈ cols6, many cs ≤ 36 := by
  intro cs h
  simp only [cols6, List.mem_cons, List.not_mem_nil, or_false] at h
  rcases h with rfl | rfl | rfl | rfl | rfl | rfl <;> decide
theorem makeT {es : List IV} {st : Sto} {Q : Sto → Prop} {E : Str → List (Str × IV) → Sto → Prop} (g : Good es) (h0 : 0 < es.length) (hm : many es ≤ 36) (k : ∀ st', TabAt st.length es st' → (∀ j, j < st.length → st'[j]? = st[j]?) → st'.length = st.length + 1 → Q st') : (F_P_Table_init [.ref st.length, .lst es] (st ++ [.ins "Table" []])).wp (fun v st' => v = .non ∧ Q st') E := by
  have N : (st ++ [Mi.IO.ins "Table" []])[st.length]? = some (.ins "Table" []) := by simp
  exact tabl g h0 hm N fun st' ht hu => ⟨rfl, k st' ht (fun j hj => (hu.get j (by omega)).trans (List.getElem?_append_left hj)) (by rw [hu.len]; simp)⟩
def springT : IS := (iSeq (iSet 3 (iIf (iTest (iBin gGe (iCallB gAbs (iCons (iVar 2) iNil)) (iBin gPow (iC (.int 10)) (iC (.int 18))))) (iCallB gAbs (iCons (iVar 2) iNil)) (iC (.int 0))))
    (iRet (iLstS (iCons (iVar 3) (iCons (iBin gMod (iCallB gInt (iCons (iBin gAdd (iBin gAdd (iBin gAdd (iBin gMul (iVar 2) (iC (.int 40961))) (iBin gMul (iBin gMul (iVar 1) (iVar 1)) (iC (.int 7919)))) (iBin gMul (iVar 1) (iC (.int 104729)))) (iC (.int 17))) iNil)) (iC (.int 2147483543))) (iCons (iC (.int 0)) iNil))))))
theorem spring_split : B_spring = iSeq (iSet 2 (iIf (iTest (iBin gLt (iVar 1) (iCallB gLen (iCons (iVar 0) iNil)))) (iCallB gInt (iCons (iIx (iVar 0) (iVar 1)) iNil)) (iC (.int 0)))) springT := rfl
theorem spring_ok {ns : List Int} {i : Nat} {st : Sto} {P : IV → Sto → Prop} {E : Str → List (Str × IV) → Sto → Prop} (hi : i ≤ 10) (k : ∀ o, Spr 0 st.length (st ++ [o]) → P (.ref st.length) (st ++ [o])) : (F_spring [.lst (ns.map .int), .int (i : Int)] st).wp P E := by
  have go : ∀ (v : Int), (springT [some (.v (.lst (ns.map .int))), some (.v (.int (i : Int))), some (.v (.int v)), none] st).wp ⟨fun _ st => P .non st, P, fun _ _ => False, fun _ _ => False, fun c fs _ st => E c fs st⟩ := by
    intro v
    have gm : ∀ x : Int, 0 ≤ x % 2147483543 ∧ x % 2147483543 ≤ 1000000000000 := fun x => by omega
    have fin : ∀ s x : Int, 0 ≤ s → P (.ref st.length) (st ++ [Mi.IO.lst [.int s, .int (x % 2147483543), .int 0]]) := fun s x hs => k _ ⟨s, x % 2147483543, 0, by simp, hs, (gm x).1, (gm x).2, by omega, by omega⟩
    simp [springT]
    split
    · exact ⟨by omega, fin _ _ (by omega)⟩
    · exact ⟨by omega, fin _ _ (by omega)⟩
  rw [F_spring, spring_split]
  simp
  by_cases c : i < ns.length
  · have at1 : atI (ns.map IV.int) (i : Int) = some (.int ns[i]) := Mi.atI_at (by rw [List.getElem?_map, List.getElem?_eq_getElem c]; rfl)
    simp [c, at1]
    exact go _
  · simp [c]
    exact go 0
/-! ### one run of the law -/
def RgT : IS := (iSeq (iFor (iRng gRng1 (iCons (iBin gAdd (iC (.int 6)) (iCall (arity 2 F_draw) (iCons (iVar 0) (iCons (iC (.int 13)) iNil)))) iNil)) (tgName 6)
  L_right_2)
  (iRet (iC (.bl true))))
def RgU : IS := (iSeq (iPar2 4 5 (iCons (iMake "Database" (arity 3 F_P_Database_init) (iCons (iVar 2) (iCons (iCall (arity 3 F_rows) (iCons (iVar 0) (iCons (iVar 1) (iCons (iCut (iVar 3) iNoPart (iPart (iCall (arity 2 F_draw) (iCons (iVar 0) (iCons (iC (.int 5)) iNil))))) iNil)))) iNil))) (iCons (iLstS (iCons (iLstS iNil) (iCons (iLstS iNil) (iCons (iC (.int 0)) iNil)))) iNil))) RgT)
theorem right_split : B_right = (iSeq (iSet 1 (iCall (arity 1 F_columns) (iCons (iVar 0) iNil)))
  (iSeq (iPar2 2 3 (iCons (iMake "Table" (arity 2 F_P_Table_init) (iCons (iVar 1) iNil)) (iCons (iCall (arity 2 F_names) (iCons (iVar 0) (iCons (iC (.int 4)) iNil))) iNil))) RgU)) := rfl
abbrev TT (P : IV → Sto → Prop) (E : Str → List (Str × IV) → Sto → Prop) : Post := ⟨fun _ st => P .non st, P, fun _ _ => False, fun _ _ => False, fun c fs _ st => E c fs st⟩
def RgI (cs : List IV) (l b lt ls lC lP n0 : Nat) (ρ0 : Slots) (i : Nat) (ρ : Slots) (st : Sto) : Prop := ∃ ow d ks T s6 s7 s8 s9, ρ = ρ0 ++ [s6, s7, s8, s9] ∧ LwAt ow st cs l b lt ls lC lP (n0 + 20 * i) i d ks T
theorem rgt_ok {ow : Ow} {st : Sto} {cs : List IV} {l b lt ls lC lP n : Nat} {d : Db} {ks : List Ck} {T : List T4} {v1 v3 : Option SV} {P : IV → Sto → Prop} {E : Str → List (Str × IV) → Sto → Prop} (h : LwAt ow st cs l b lt ls lC lP n 0 d ks T) (g : Good cs) (h0 : 0 < cs.length) (hn : n < 1000) (k : ∀ st, P (.bl true) st) :
    (RgT [some (.v (.ref l)), v1, some (.v (.ref lt)), v3, some (.v (.ref b)), some (.v (.ref ls)), none, none, none, none] st).wp (TT P E) := by
  simp [RgT]
  refine draw_ok (by omega) (by omega) (by omega) h.spr fun r st1 r0 r1 b1 u1 => ?_
  have h1 := h.draw b1 u1
  simp
  refine ⟨by omega, ?_⟩
  refine wp_for (RgI cs l b lt ls lC lP (n + 1) [some (.v (.ref l)), v1, some (.v (.ref lt)), v3, some (.v (.ref b)), some (.v (.ref ls))]) ⟨ow, d, ks, T, none, none, none, none, rfl, h1⟩ ?_ ?_
  · rintro i x ρ st2 hx ⟨ow2, d2, ks2, T2, s6, s7, s8, s9, rfl, h2⟩
    obtain ⟨hi, rfl⟩ := rngI_get hx
    have hi : i < 18 := by omega
    refine ⟨rfl, ?_⟩
    simp [L_right_2]
    refine deed_ok h2 g h0 (by omega) (by omega) fun ow3 st3 d3 ks3 T3 h3 => ?_
    have it := items_ref h3.s.hC.2
    simp [ix_ref h3.s.hS.2, it]
    refine shown_ok (ρ0 := [some (.v (.ref l)), v1, some (.v (.ref lt)), v3, some (.v (.ref b)), some (.v (.ref ls)), some (.v (.int (i : Int)))]) (s7 := s7) (s8 := s8) (s9 := s9) h3 g (by omega) rfl fun ow4 st4 d4 ks4 t7 t8 t9 h4 => ?_
    exact ⟨ow4, d4, ks4, T3, _, _, _, _, rfl, h4.mono (by omega)⟩
  · rintro ρ st2 ⟨ow2, d2, ks2, T2, s6, s7, s8, s9, rfl, h2⟩
    refine ⟨rfl, ?_⟩
    simp
    exact k st2
theorem right_ok {l : Nat} {st : Sto} {P : IV → Sto → Prop} {E : Str → List (Str × IV) → Sto → Prop} (h : Spr 0 l st) (k : ∀ st, P (.bl true) st) : (F_right [.ref l] st).wp P E := by
  rw [F_right, right_split]
  simp
  refine columns_ok (by omega) h fun cs st1 hcs b1 u1 => ?_
  have g := good6 cs hcs
  have h0 := pos6 cs hcs
  have hm := many6 cs hcs
  simp
  refine makeT g h0 hm fun st2 t2 k2 l2 => ?_
  have ll := h.lt
  have l1 := u1.len
  have b2 : Spr 1 l st2 := b1.keep (k2 l (by omega))
  generalize hlt : st1.length = lt at t2 l2 k2
  simp
  refine names_ok (m := 4) (by omega) (by omega) b2 fun F st3 nd lf f3 b3 k3 l3 => ?_
  have t3 : TabAt lt cs st3 := (k3 lt (by omega) (by omega)).trans t2
  generalize hla : st2.length + 1 = la at f3
  rw [RgU]
  simp
  refine draw_ok (by omega) (by omega) (by omega) b3 fun r st4 r0 r1 b4 u4 => ?_
  have l4 := u4.len
  have f4 : st4[la]? = some (.lst (F.map .int)) := (u4.get la (by omega)).trans f3
  have t4 : TabAt lt cs st4 := (u4.get lt (by omega)).trans t3
  have ct : cutI (F.map IV.int) none (some r) = (F.take r.toNat).map .int := by rw [cutI_to r0, List.map_take]
  simp [cut_ref f4, ct, -List.map_take]
  refine rows_ok (ns := F.take r.toNat) (by omega) b4 g (nd.sublist (List.take_sublist _ _)) (by rw [List.length_take]; omega) fun rs st5 hrs er b5 u5 => ?_
  have l5 := u5.len
  have t5 : TabAt lt cs st5 := (u5.get lt (by omega)).trans t4
  simp
  have fl : (F.take r.toNat).length ≤ 4 := by rw [List.length_take]; omega
  have olt : (fun p => if p = lt then 0 else p + 1 : Ow) lt = 0 := if_pos rfl
  refine mk_db (ow := fun p => if p = lt then 0 else p + 1) t5 hrs (fun p hp => ?_) fun ow6 st6 lk lw lp lc x6 hD => ?_
  · show (if p = lt then 0 else p + 1) ≠ st5.length + 1
    split
    · omega
    · omega
  have l6 := x6.len
  simp
  have inv := givenR_inv (lt := lt) rs
  have s1 : (st6 ++ [Mi.IO.lst [], Mi.IO.lst [], Mi.IO.lst [.ref st6.length, .ref (st6.length + 1), .int 0]])[st6.length]? = some (.lst []) := by simp
  have s2 : (st6 ++ [Mi.IO.lst [], Mi.IO.lst [], Mi.IO.lst [.ref st6.length, .ref (st6.length + 1), .int 0]])[st6.length + 1]? = some (.lst []) := by simp
  have s3 : (st6 ++ [Mi.IO.lst [], Mi.IO.lst [], Mi.IO.lst [.ref st6.length, .ref (st6.length + 1), .int 0]])[st6.length + 1 + 1]? = some (.lst [.ref st6.length, .ref (st6.length + 1), .int 0]) := by
    rw [List.getElem?_append_right (by omega), show st6.length + 1 + 1 - st6.length = 2 by omega]; rfl
  have sl : (st6 ++ [Mi.IO.lst [], Mi.IO.lst [], Mi.IO.lst [.ref st6.length, .ref (st6.length + 1), .int 0]]).length = st6.length + 3 := by simp
  have x7 : Xt ow6 st6 none0 (fun p => if p < st6.length then ow6 p else p + 1) (st6 ++ [Mi.IO.lst [], Mi.IO.lst [], Mi.IO.lst [.ref st6.length, .ref (st6.length + 1), .int 0]]) := ⟨by omega, fun p hp => if_pos hp, fun p hp _ => List.getElem?_append_left hp⟩
  have o7 : ∀ p, st6.length ≤ p → (fun p => if p < st6.length then ow6 p else p + 1 : Ow) p = p + 1 := fun p hp => if_neg (by omega)
  have ol7 : (fun p => if p < st6.length then ow6 p else p + 1 : Ow) l = l + 1 := by
    show (if l < st6.length then ow6 l else l + 1) = l + 1
    rw [if_pos (by omega), x6.own l (by omega)]
    exact if_neg (by omega)
  generalize (fun p => if p < st6.length then ow6 p else p + 1 : Ow) = ow7 at x7 o7 ol7
  have b7 : Spr (1 + 1 + 3 * 4 + 1 + 3 * (F.take r.toNat).length) l (st6 ++ [Mi.IO.lst [], Mi.IO.lst [], Mi.IO.lst [.ref st6.length, .ref (st6.length + 1), .int 0]]) := spr_app (b5.keep (x6.keep l b5.lt id))
  generalize (st6 ++ [Mi.IO.lst [], Mi.IO.lst [], Mi.IO.lst [.ref st6.length, .ref (st6.length + 1), .int 0]]) = st7 at s1 s2 s3 sl x7 b7 ⊢
  have rk : RwsOk cs (givenR lt rs).rows := by
    have e1 : (givenR lt rs).rows.map (·.name) = rs.map (·.1) := by
      have := congrArg (fun z => z.map (·.1)) inv.2.2.2.2.2
      rw [List.map_map] at this
      exact this
    refine ⟨by rw [e1]; exact hrs.nd, fun w hw => ?_, ?_⟩
    · have : (w.name, w.vs) ∈ rs := by rw [← inv.2.2.2.2.2]; exact List.mem_map.mpr ⟨w, hw, rfl⟩
      exact hrs.vs _ this
    · have := congrArg List.length e1
      rw [List.length_map, List.length_map] at this
      have := hrs.few
      omega
  have tl6 : ow6 lt = 0 ∧ TabAt lt cs st6 := ⟨(x6.own lt (by omega)).trans (if_pos rfl), (x6.keep lt (by omega) id).trans t5⟩
  have hL : LwAt ow7 st7 cs l st5.length lt (st6.length + 1 + 1) st6.length (st6.length + 1) (1 + 1 + 3 * 4 + 1 + 3 * (F.take r.toNat).length) 0 (givenR lt rs) [] [] := by
    refine ⟨b7, ⟨⟨lk, lw, lp, lc, hD.xt x7 id⟩, inv.2.1, inv.2.2.2.1, ⟨by simp, by simp⟩, Cel.xt (k := 0) (o := .ins "Table" (tabF cs)) tl6 x7 id, rk, by rw [inv.2.2.1]; simp, by rw [inv.2.2.2.2.1]; decide⟩, ?_, rfl, by simp, by rw [inv.2.2.1]; simp⟩
    rw [inv.2.2.1, inv.2.2.2.2.1]
    exact ⟨⟨ol7, by omega⟩, ⟨o7 _ (by omega), s3⟩, ⟨o7 _ (by omega), s1⟩, ⟨o7 _ (by omega), s2⟩, by simp, by simp, by omega, by omega, by omega, by simp⟩
  exact rgt_ok hL g h0 (by omega) k
theorem law_true (ns : List Int) (hns : ns.length ≤ 63) : ∃ st', F_law [.lst (ns.map .int)] [] = .ok (.bl true) st' := by
  have main : (F_law [.lst (ns.map .int)] []).wp (fun v _ => v = .bl true) nE := by
    simp [F_law, B_law]
    refine ⟨by omega, ?_⟩
    refine wp_for (fun i ρ _ => ∃ s1, ρ = [some (.v (.lst (ns.map .int))), s1]) ⟨none, rfl⟩ ?_ ?_
    · rintro i x ρ st hx ⟨s1, rfl⟩
      obtain ⟨hi, rfl⟩ := rngI_get hx
      refine ⟨rfl, ?_⟩
      simp [L_law_1]
      refine spring_ok (by omega) fun o hs => ?_
      simp
      refine right_ok hs fun st2 => ?_
      simp
    · rintro ρ st ⟨s1, rfl⟩
      exact ⟨rfl, by simp⟩
  obtain ⟨v, st', e, h⟩ := of_wp main
  rw [h] at e
  exact ⟨st', e⟩
end K47
open PySem PySem.W PyProof.Rows
set_option Elab.async false
set_option maxRecDepth 100000 in
set_option maxHeartbeats 0 in
theorem PySem.Challenge.cw_heldcursors_k47_which_are_open_holds : PySem.Challenge.rw_heldcursors_k47_which_are_open.Holds := by
  w_on; o_law; k_head; (case hw => w_witness2)
  k_fill
  refine L2.walk_of (l := PySem.Challenge.rw_heldcursors_k47_which_are_open) (n := 63) (k := 158) (x := "_law_script") (CX := fun w => L2.CX PySem.Challenge.rw_heldcursors_k47_which_are_open.prog w) (sp := fun w => Mi.spLaw _) rfl (by decide) rfl ⟨rfl, by decide, by decide⟩ (fun w h Y => PySem.W.kIn_of Y) ?F (fun _ _ a ns hl _ hS => ⟨a, ns, rfl, hS, hl, fun _ => rfl⟩) (fun _ _ _ _ _ h => by obtain ⟨_, _, _, _, _, _, _, _, _, _, _, _, z⟩ := h; exact z.elim)
  case F =>
    intro w mg fa h KX G hmg
    refine' K47.all_mk KX G hmg ?z_abs ?z_all ?z_any ?z_bool ?z_enumerate ?z_int ?z_isinstance ?z_len ?z_list ?z_max ?z_min ?z_range ?z_set ?z_sorted ?z_str ?z_tuple ?z_zip ?n_CHECKS ?l_CHECKS ?d_CHECKS ?n_DIGITS ?n_END ?n_HOLDS ?l_HOLDS ?d_HOLDS ?n_KEPT ?l_KEPT ?d_KEPT ?n_LETTERS ?n_MOST_VALUES ?n_MOVES ?l_MOVES ?d_MOVES ?n_PAIRS ?l_PAIRS ?d_PAIRS ?n_SIGNS ?l_SIGNS ?d_SIGNS ?n_START ?n_Table ?n_Database ?n_Condition ?n_Order ?n_Declaration ?n_Stretch ?n_Place ?n_Entry ?n_Cursor ?n_BadTable ?n_BadRows ?n_BadDeclaration ?n_BadCondition ?n_Stuck ?n_BadOrder ?n_NoSavepoint ?n_BadFetch ?pg_Table ?hd_Table ?po_Table ?sa_Table ?pg_Database ?hd_Database ?po_Database ?sa_Database ?pg_Condition ?hd_Condition ?po_Condition ?sa_Condition ?pg_Order ?hd_Order ?po_Order ?sa_Order ?pg_Declaration ?hd_Declaration ?po_Declaration ?sa_Declaration ?pg_Stretch ?hd_Stretch ?po_Stretch ?sa_Stretch ?pg_Place ?hd_Place ?po_Place ?sa_Place ?pg_Entry ?hd_Entry ?po_Entry ?sa_Entry ?pg_Cursor ?hd_Cursor ?po_Cursor ?sa_Cursor ?cf_Declaration_ALL ?cg_Declaration_ALL ?ch_Declaration_ALL ?mk_Condition ?kc_Condition ?mk_Cursor ?kc_Cursor ?mk_Database ?kc_Database ?mk_Declaration ?kc_Declaration ?mk_Entry ?kc_Entry ?mk_Order ?kc_Order ?mk_Place ?kc_Place ?mk_Stretch ?kc_Stretch ?mk_Table ?kc_Table ?na_Condition_fits ?na_Condition_table ?na_Condition_text ?na_Cursor_declaration ?na_Cursor_full_now ?na_Cursor_high ?na_Cursor_index ?na_Cursor_low ?na_Cursor_many ?na_Cursor_row_now ?na_Cursor_shut_now ?na_Cursor_store ?na_Cursor_window ?na_Database_begun_at ?na_Database_cursors ?na_Database_events ?na_Database_kept_rows ?na_Database_points ?na_Database_table ?na_Database_written ?na_Declaration_by ?na_Declaration_check ?na_Declaration_copied ?na_Declaration_hold ?na_Declaration_locked ?na_Declaration_reach ?na_Declaration_table ?na_Declaration_where ?na_Entry_is_hollow ?na_Entry_life_read ?na_Entry_mark ?na_Entry_name ?na_Entry_place_read ?na_Entry_seen ?na_Order_name_way ?na_Order_parts ?na_Order_table ?na_Place_key ?na_Place_name ?na_Place_rank ?na_Stretch_high ?na_Stretch_low ?na_Table_columns ?na_Table_every ?na_Table_tops ?sb_Condition_NoneType ?sb_Condition_bool ?sb_Condition_int ?sb_Condition_str ?sb_Condition_tuple ?sb_Condition_list ?sb_Condition_dict ?ob_Condition ?sb_Declaration_NoneType ?sb_Declaration_bool ?sb_Declaration_int ?sb_Declaration_str ?sb_Declaration_tuple ?sb_Declaration_list ?sb_Declaration_dict ?ob_Declaration ?sb_Order_NoneType ?sb_Order_bool ?sb_Order_int ?sb_Order_str ?sb_Order_tuple ?sb_Order_list ?sb_Order_dict ?ob_Order ?sb_Place_NoneType ?sb_Place_bool ?sb_Place_int ?sb_Place_str ?sb_Place_tuple ?sb_Place_list ?sb_Place_dict ?ob_Place ?sb_Table_NoneType ?sb_Table_bool ?sb_Table_int ?sb_Table_str ?sb_Table_tuple ?sb_Table_list ?sb_Table_dict ?ob_Table ?ne_Condition ?ne_Declaration ?ne_Order ?ne_Table ?ic_Condition ?ty_Condition ?ca_Condition ?ic_Declaration ?ty_Declaration ?ca_Declaration ?ic_Order ?ty_Order ?ca_Order ?ic_Place ?ty_Place ?ca_Place ?ic_Table ?ty_Table ?ca_Table ?gs ?tk ?xL_BadTable ?xr_BadTable ?xs_BadTable ?xe_BadTable ?xt_BadTable ?xk_BadTable ?xg_BadTable ?xh_BadTable ?xd_BadTable ?xn_BadTable ?xc_BadTable ?xu_BadTable ?xi_BadTable ?xf_BadTable ?l_BadTable_init ?c_BadTable_init ?k_BadTable_init ?xL_BadRows ?xr_BadRows ?xs_BadRows ?xe_BadRows ?xt_BadRows ?xk_BadRows ?xg_BadRows ?xh_BadRows ?xd_BadRows ?xn_BadRows ?xc_BadRows ?xu_BadRows ?xi_BadRows ?xf_BadRows ?l_BadRows_init ?c_BadRows_init ?k_BadRows_init ?xL_BadDeclaration ?xr_BadDeclaration ?xs_BadDeclaration ?xe_BadDeclaration ?xt_BadDeclaration ?xk_BadDeclaration ?xg_BadDeclaration ?xh_BadDeclaration ?xd_BadDeclaration ?xn_BadDeclaration ?xc_BadDeclaration ?xu_BadDeclaration ?xi_BadDeclaration ?xf_BadDeclaration ?l_BadDeclaration_init ?c_BadDeclaration_init ?k_BadDeclaration_init ?xL_BadCondition ?xr_BadCondition ?xs_BadCondition ?xe_BadCondition ?xt_BadCondition ?xk_BadCondition ?xg_BadCondition ?xh_BadCondition ?xd_BadCondition ?xn_BadCondition ?xc_BadCondition ?xu_BadCondition ?xi_BadCondition ?xf_BadCondition ?l_BadCondition_init ?c_BadCondition_init ?k_BadCondition_init ?xL_Stuck ?xr_Stuck ?xs_Stuck ?xe_Stuck ?xt_Stuck ?xk_Stuck ?xg_Stuck ?xh_Stuck ?xd_Stuck ?xn_Stuck ?xc_Stuck ?xu_Stuck ?xi_Stuck ?xf_Stuck ?l_Stuck_init ?c_Stuck_init ?k_Stuck_init ?xL_BadOrder ?xr_BadOrder ?xs_BadOrder ?xe_BadOrder ?xt_BadOrder ?xk_BadOrder ?xg_BadOrder ?xh_BadOrder ?xd_BadOrder ?xn_BadOrder ?xc_BadOrder ?xu_BadOrder ?xi_BadOrder ?xf_BadOrder ?l_BadOrder_init ?c_BadOrder_init ?k_BadOrder_init ?xL_NoSavepoint ?xr_NoSavepoint ?xs_NoSavepoint ?xe_NoSavepoint ?xt_NoSavepoint ?xk_NoSavepoint ?xg_NoSavepoint ?xh_NoSavepoint ?xd_NoSavepoint ?xn_NoSavepoint ?xc_NoSavepoint ?xu_NoSavepoint ?xi_NoSavepoint ?xf_NoSavepoint ?l_NoSavepoint_init ?c_NoSavepoint_init ?k_NoSavepoint_init ?xL_BadFetch ?xr_BadFetch ?xs_BadFetch ?xe_BadFetch ?xt_BadFetch ?xk_BadFetch ?xg_BadFetch ?xh_BadFetch ?xd_BadFetch ?xn_BadFetch ?xc_BadFetch ?xu_BadFetch ?xi_BadFetch ?xf_BadFetch ?l_BadFetch_init ?c_BadFetch_init ?k_BadFetch_init ?a_draw ?l_draw ?c_draw ?k_draw ?a_pick ?l_pick ?c_pick ?k_pick ?a_columns ?l_columns ?c_columns ?k_columns ?a_P_is_column ?l_P_is_column ?c_P_is_column ?k_P_is_column ?a_P_Table_init ?i_P_Table_init ?l_P_Table_init ?c_P_Table_init ?k_P_Table_init ?a_names ?l_names ?c_names ?k_names ?a_P_Table_contains ?i_P_Table_contains ?l_P_Table_contains ?c_P_Table_contains ?k_P_Table_contains ?a_P_check_rows ?l_P_check_rows ?c_P_check_rows ?k_P_check_rows ?a_P_Database_give ?i_P_Database_give ?l_P_Database_give ?c_P_Database_give ?k_P_Database_give ?a_P_Database_init ?i_P_Database_init ?l_P_Database_init ?c_P_Database_init ?k_P_Database_init ?a_values ?l_values ?c_values ?k_values ?a_rows ?l_rows ?c_rows ?k_rows ?a_P_is_reach ?l_P_is_reach ?c_P_is_reach ?k_P_is_reach ?a_P_is_among ?l_P_is_among ?c_P_is_among ?k_P_is_among ?a_P_token_end ?l_P_token_end ?c_P_token_end ?k_P_token_end ?a_P_tokens_of ?l_P_tokens_of ?c_P_tokens_of ?k_P_tokens_of ?a_P_passed ?l_P_passed ?c_P_passed ?k_P_passed ?a_P_read_column ?l_P_read_column ?c_P_read_column ?k_P_read_column ?a_P_read_number ?l_P_read_number ?c_P_read_number ?k_P_read_number ?a_P_read_term ?l_P_read_term ?c_P_read_term ?k_P_read_term ?a_P_read_part ?l_P_read_part ?c_P_read_part ?k_P_read_part ?a_P_read_condition ?l_P_read_condition ?c_P_read_condition ?k_P_read_condition ?a_P_read_atom ?l_P_read_atom ?c_P_read_atom ?k_P_read_atom ?a_P_spaced ?l_P_spaced ?c_P_spaced ?k_P_spaced ?a_P_Table_all_values ?i_P_Table_all_values ?l_P_Table_all_values ?c_P_Table_all_values ?k_P_Table_all_values ?a_P_compares ?l_P_compares ?c_P_compares ?k_P_compares ?a_P_term_value ?l_P_term_value ?c_P_term_value ?k_P_term_value ?a_P_holds ?l_P_holds ?c_P_holds ?k_P_holds ?a_P_Condition_init ?i_P_Condition_init ?l_P_Condition_init ?c_P_Condition_init ?k_P_Condition_init ?a_P_read_direction ?l_P_read_direction ?c_P_read_direction ?k_P_read_direction ?a_P_read_order ?l_P_read_order ?c_P_read_order ?k_P_read_order ?a_P_Order_init ?i_P_Order_init ?l_P_Order_init ?c_P_Order_init ?k_P_Order_init ?a_P_Declaration_init ?i_P_Declaration_init ?l_P_Declaration_init ?c_P_Declaration_init ?k_P_Declaration_init ?kn_P_Declaration_init_reach ?kb_P_Declaration_init_reach ?kn_P_Declaration_init_copied ?kb_P_Declaration_init_copied ?kn_P_Declaration_init_hold ?kb_P_Declaration_init_hold ?kn_P_Declaration_init_locked ?kb_P_Declaration_init_locked ?kn_P_Declaration_init_check ?kb_P_Declaration_init_check ?kn_P_Declaration_init_where ?kb_P_Declaration_init_where ?kn_P_Declaration_init_by ?kb_P_Declaration_init_by ?a_P_Stretch_init ?i_P_Stretch_init ?l_P_Stretch_init ?c_P_Stretch_init ?k_P_Stretch_init ?t_P_Stretch_init ?dd_P_Stretch_init ?a_P_Condition_call ?i_P_Condition_call ?fn_P_Condition_call ?l_P_Condition_call ?c_P_Condition_call ?k_P_Condition_call ?a_P_Order_key_of ?i_P_Order_key_of ?l_P_Order_key_of ?c_P_Order_key_of ?k_P_Order_key_of ?a_P_Place_init ?i_P_Place_init ?l_P_Place_init ?c_P_Place_init ?k_P_Place_init ?a_P_Order_turned_key ?i_P_Order_turned_key ?l_P_Order_turned_key ?c_P_Order_turned_key ?k_P_Order_turned_key ?a_P_Order_place ?i_P_Order_place ?l_P_Order_place ?c_P_Order_place ?k_P_Order_place ?a_P_Place_lt ?i_P_Place_lt ?l_P_Place_lt ?c_P_Place_lt ?k_P_Place_lt ?a_P_Stretch_contains ?i_P_Stretch_contains ?l_P_Stretch_contains ?c_P_Stretch_contains ?k_P_Stretch_contains ?a_P_Database_answer ?i_P_Database_answer ?l_P_Database_answer ?c_P_Database_answer ?k_P_Database_answer ?t_P_Database_answer ?dd_P_Database_answer ?a_P_Entry_init ?i_P_Entry_init ?l_P_Entry_init ?c_P_Entry_init ?k_P_Entry_init ?a_P_Database_stamp ?i_P_Database_stamp ?l_P_Database_stamp ?c_P_Database_stamp ?k_P_Database_stamp ?a_P_Cursor_read_rows ?i_P_Cursor_read_rows ?l_P_Cursor_read_rows ?c_P_Cursor_read_rows ?k_P_Cursor_read_rows ?a_P_Cursor_init ?i_P_Cursor_init ?l_P_Cursor_init ?c_P_Cursor_init ?k_P_Cursor_init ?a_P_Database_declare ?i_P_Database_declare ?l_P_Database_declare ?c_P_Database_declare ?k_P_Database_declare ?a_P_Database_savepoint ?i_P_Database_savepoint ?l_P_Database_savepoint ?c_P_Database_savepoint ?k_P_Database_savepoint ?a_P_Database_undo_to ?i_P_Database_undo_to ?l_P_Database_undo_to ?c_P_Database_undo_to ?k_P_Database_undo_to ?a_P_Cursor_shut ?i_P_Cursor_shut ?l_P_Cursor_shut ?c_P_Cursor_shut ?k_P_Cursor_shut ?a_P_Cursor_let_go ?i_P_Cursor_let_go ?l_P_Cursor_let_go ?c_P_Cursor_let_go ?k_P_Cursor_let_go ?a_P_Database_let_go_from ?i_P_Database_let_go_from ?l_P_Database_let_go_from ?c_P_Database_let_go_from ?k_P_Database_let_go_from ?a_P_Database_rollback_to ?i_P_Database_rollback_to ?l_P_Database_rollback_to ?c_P_Database_rollback_to ?k_P_Database_rollback_to ?a_shut_from ?l_shut_from ?c_shut_from ?k_shut_from ?a_P_Database_rollback ?i_P_Database_rollback ?l_P_Database_rollback ?c_P_Database_rollback ?k_P_Database_rollback ?pa_P_Cursor_is_open ?pt_P_Cursor_is_open ?pk_P_Cursor_is_open ?pr_P_Cursor_is_open ?l_P_Cursor_is_open ?c_P_Cursor_is_open ?k_P_Cursor_is_open ?a_P_Cursor_standing ?i_P_Cursor_standing ?l_P_Cursor_standing ?c_P_Cursor_standing ?k_P_Cursor_standing ?a_P_Cursor_fill ?i_P_Cursor_fill ?l_P_Cursor_fill ?c_P_Cursor_fill ?k_P_Cursor_fill ?a_P_Order_ahead_of ?i_P_Order_ahead_of ?l_P_Order_ahead_of ?c_P_Order_ahead_of ?k_P_Order_ahead_of ?a_P_Order_behind_of ?i_P_Order_behind_of ?l_P_Order_behind_of ?c_P_Order_behind_of ?k_P_Order_behind_of ?a_P_Cursor_forget ?i_P_Cursor_forget ?l_P_Cursor_forget ?c_P_Cursor_forget ?k_P_Cursor_forget ?a_P_Cursor_pass_commit ?i_P_Cursor_pass_commit ?l_P_Cursor_pass_commit ?c_P_Cursor_pass_commit ?k_P_Cursor_pass_commit ?a_P_Database_commit ?i_P_Database_commit ?l_P_Database_commit ?c_P_Database_commit ?k_P_Database_commit ?a_deed ?l_deed ?c_deed ?k_deed ?a_P_Table_eq ?i_P_Table_eq ?l_P_Table_eq ?c_P_Table_eq ?k_P_Table_eq ?a_P_Condition_eq ?i_P_Condition_eq ?l_P_Condition_eq ?c_P_Condition_eq ?k_P_Condition_eq ?a_P_Order_eq ?i_P_Order_eq ?l_P_Order_eq ?c_P_Order_eq ?k_P_Order_eq ?a_P_Declaration_eq ?i_P_Declaration_eq ?l_P_Declaration_eq ?c_P_Declaration_eq ?k_P_Declaration_eq ?a_P_Database_row ?i_P_Database_row ?l_P_Database_row ?c_P_Database_row ?k_P_Database_row ?a_P_Cursor_take_again ?i_P_Cursor_take_again ?l_P_Cursor_take_again ?c_P_Cursor_take_again ?k_P_Cursor_take_again ?a_P_Cursor_high_edge ?i_P_Cursor_high_edge ?l_P_Cursor_high_edge ?c_P_Cursor_high_edge ?k_P_Cursor_high_edge ?a_P_Cursor_empty_at ?i_P_Cursor_empty_at ?l_P_Cursor_empty_at ?c_P_Cursor_empty_at ?k_P_Cursor_empty_at ?a_P_Cursor_step_on ?i_P_Cursor_step_on ?l_P_Cursor_step_on ?c_P_Cursor_step_on ?k_P_Cursor_step_on ?a_P_Cursor_low_edge ?i_P_Cursor_low_edge ?l_P_Cursor_low_edge ?c_P_Cursor_low_edge ?k_P_Cursor_low_edge ?a_P_Cursor_step_back ?i_P_Cursor_step_back ?l_P_Cursor_step_back ?c_P_Cursor_step_back ?k_P_Cursor_step_back ?a_P_Cursor_move ?i_P_Cursor_move ?l_P_Cursor_move ?c_P_Cursor_move ?k_P_Cursor_move ?a_P_Cursor_go_to ?i_P_Cursor_go_to ?l_P_Cursor_go_to ?c_P_Cursor_go_to ?k_P_Cursor_go_to ?a_P_Cursor_tell ?i_P_Cursor_tell ?l_P_Cursor_tell ?c_P_Cursor_tell ?k_P_Cursor_tell ?a_P_Cursor_fetch ?i_P_Cursor_fetch ?l_P_Cursor_fetch ?c_P_Cursor_fetch ?k_P_Cursor_fetch ?t_P_Cursor_fetch ?dd_P_Cursor_fetch ?a_right ?l_right ?c_right ?k_right ?a_spring ?l_spring ?c_spring ?k_spring ?a_law ?l_law ?c_law ?k_law ?hF
    (case z_abs => k_is); (case z_all => k_is); (case z_any => k_is); (case z_bool => k_is)
    (case z_enumerate => k_is); (case z_int => k_is); (case z_isinstance => k_is); (case z_len => k_is)
    (case z_list => k_is); (case z_max => k_is); (case z_min => k_is); (case z_range => k_is)
    (case z_set => k_is); (case z_sorted => k_is); (case z_str => k_is); (case z_tuple => k_is)
    (case z_zip => k_is); (case n_CHECKS => k_is); (case l_CHECKS => k_is); (case d_CHECKS => exact ⟨rfl, _, _, rfl, by decide, rfl⟩)
    (case n_DIGITS => k_is); (case n_END => k_is); (case n_HOLDS => k_is); (case l_HOLDS => k_is)
    (case d_HOLDS => exact ⟨rfl, _, _, rfl, by decide, rfl⟩); (case n_KEPT => k_is); (case l_KEPT => k_is); (case d_KEPT => exact ⟨rfl, _, _, rfl, by decide, rfl⟩)
    (case n_LETTERS => k_is); (case n_MOST_VALUES => k_is); (case n_MOVES => k_is); (case l_MOVES => k_is)
    (case d_MOVES => exact ⟨rfl, _, _, rfl, by decide, rfl⟩); (case n_PAIRS => k_is); (case l_PAIRS => k_is); (case d_PAIRS => exact ⟨rfl, _, _, rfl, by decide, rfl⟩)
    (case n_SIGNS => k_is); (case l_SIGNS => k_is); (case d_SIGNS => exact ⟨rfl, _, _, rfl, by decide, rfl⟩); (case n_START => k_is)
    (case n_Table => k_is); (case n_Database => k_is); (case n_Condition => k_is); (case n_Order => k_is)
    (case n_Declaration => k_is); (case n_Stretch => k_is); (case n_Place => k_is); (case n_Entry => k_is)
    (case n_Cursor => k_is); (case n_BadTable => k_is); (case n_BadRows => k_is); (case n_BadDeclaration => k_is)
    (case n_BadCondition => k_is); (case n_Stuck => k_is); (case n_BadOrder => k_is); (case n_NoSavepoint => k_is)
    (case n_BadFetch => k_is); (case pg_Table => k_is); (case hd_Table => k_is); (case po_Table => k_is)
    (case sa_Table => k_is); (case pg_Database => k_is); (case hd_Database => k_is); (case po_Database => k_is)
    (case sa_Database => k_is); (case pg_Condition => k_is); (case hd_Condition => k_is); (case po_Condition => k_is)
    (case sa_Condition => k_is); (case pg_Order => k_is); (case hd_Order => k_is); (case po_Order => k_is)
    (case sa_Order => k_is); (case pg_Declaration => k_is); (case hd_Declaration => k_is); (case po_Declaration => k_is)
    (case sa_Declaration => k_is); (case pg_Stretch => k_is); (case hd_Stretch => k_is); (case po_Stretch => k_is)
    (case sa_Stretch => k_is); (case pg_Place => k_is); (case hd_Place => k_is); (case po_Place => k_is)
    (case sa_Place => k_is); (case pg_Entry => k_is); (case hd_Entry => k_is); (case po_Entry => k_is)
    (case sa_Entry => k_is); (case pg_Cursor => k_is); (case hd_Cursor => k_is); (case po_Cursor => k_is)
    (case sa_Cursor => k_is); (case cf_Declaration_ALL => k_is); (case cg_Declaration_ALL => k_is); (case ch_Declaration_ALL => first | rfl | decide +kernel)
    (case mk_Condition => k_is); (case kc_Condition => k_is); (case mk_Cursor => k_is); (case kc_Cursor => k_is)
    (case mk_Database => k_is); (case kc_Database => k_is); (case mk_Declaration => k_is); (case kc_Declaration => k_is)
    (case mk_Entry => k_is); (case kc_Entry => k_is); (case mk_Order => k_is); (case kc_Order => k_is)
    (case mk_Place => k_is); (case kc_Place => k_is); (case mk_Stretch => k_is); (case kc_Stretch => k_is)
    (case mk_Table => k_is); (case kc_Table => k_is); (case na_Condition_fits => k_is); (case na_Condition_table => k_is)
    (case na_Condition_text => k_is); (case na_Cursor_declaration => k_is); (case na_Cursor_full_now => k_is); (case na_Cursor_high => k_is)
    (case na_Cursor_index => k_is); (case na_Cursor_low => k_is); (case na_Cursor_many => k_is); (case na_Cursor_row_now => k_is)
    (case na_Cursor_shut_now => k_is); (case na_Cursor_store => k_is); (case na_Cursor_window => k_is); (case na_Database_begun_at => k_is)
    (case na_Database_cursors => k_is); (case na_Database_events => k_is); (case na_Database_kept_rows => k_is); (case na_Database_points => k_is)
    (case na_Database_table => k_is); (case na_Database_written => k_is); (case na_Declaration_by => k_is); (case na_Declaration_check => k_is)
    (case na_Declaration_copied => k_is); (case na_Declaration_hold => k_is); (case na_Declaration_locked => k_is); (case na_Declaration_reach => k_is)
    (case na_Declaration_table => k_is); (case na_Declaration_where => k_is); (case na_Entry_is_hollow => k_is); (case na_Entry_life_read => k_is)
    (case na_Entry_mark => k_is); (case na_Entry_name => k_is); (case na_Entry_place_read => k_is); (case na_Entry_seen => k_is)
    (case na_Order_name_way => k_is); (case na_Order_parts => k_is); (case na_Order_table => k_is); (case na_Place_key => k_is)
    (case na_Place_name => k_is); (case na_Place_rank => k_is); (case na_Stretch_high => k_is); (case na_Stretch_low => k_is)
    (case na_Table_columns => k_is); (case na_Table_every => k_is); (case na_Table_tops => k_is); (case sb_Condition_NoneType => k_is)
    (case sb_Condition_bool => k_is); (case sb_Condition_int => k_is); (case sb_Condition_str => k_is); (case sb_Condition_tuple => k_is)
    (case sb_Condition_list => k_is); (case sb_Condition_dict => k_is); (case ob_Condition => k_is); (case sb_Declaration_NoneType => k_is)
    (case sb_Declaration_bool => k_is); (case sb_Declaration_int => k_is); (case sb_Declaration_str => k_is); (case sb_Declaration_tuple => k_is)
    (case sb_Declaration_list => k_is); (case sb_Declaration_dict => k_is); (case ob_Declaration => k_is); (case sb_Order_NoneType => k_is)
    (case sb_Order_bool => k_is); (case sb_Order_int => k_is); (case sb_Order_str => k_is); (case sb_Order_tuple => k_is)
    (case sb_Order_list => k_is); (case sb_Order_dict => k_is); (case ob_Order => k_is); (case sb_Place_NoneType => k_is)
    (case sb_Place_bool => k_is); (case sb_Place_int => k_is); (case sb_Place_str => k_is); (case sb_Place_tuple => k_is)
    (case sb_Place_list => k_is); (case sb_Place_dict => k_is); (case ob_Place => k_is); (case sb_Table_NoneType => k_is)
    (case sb_Table_bool => k_is); (case sb_Table_int => k_is); (case sb_Table_str => k_is); (case sb_Table_tuple => k_is)
    (case sb_Table_list => k_is); (case sb_Table_dict => k_is); (case ob_Table => k_is); (case ne_Condition => k_is)
    (case ne_Declaration => k_is); (case ne_Order => k_is); (case ne_Table => k_is); (case ic_Condition => k_is)
    (case ty_Condition => k_is); (case ca_Condition => k_is); (case ic_Declaration => k_is); (case ty_Declaration => k_is)
    (case ca_Declaration => k_is); (case ic_Order => k_is); (case ty_Order => k_is); (case ca_Order => k_is)
    (case ic_Place => k_is); (case ty_Place => k_is); (case ca_Place => k_is); (case ic_Table => k_is)
    (case ty_Table => k_is); (case ca_Table => k_is); (case gs => k_is); (case tk => k_is)
    (case xL_BadTable => k_is); (case xr_BadTable => rfl); (case xs_BadTable => k_is); (case xe_BadTable => k_is)
    (case xt_BadTable => k_is); (case xk_BadTable => k_is); (case xg_BadTable => k_is); (case xh_BadTable => k_is)
    (case xd_BadTable => k_is); (case xn_BadTable => k_is); (case xc_BadTable => k_is); (case xu_BadTable => first | rfl | k_is)
    (case xi_BadTable => k_is); (case xf_BadTable => k_is); (case l_BadTable_init => k_is); (case c_BadTable_init => k_is)
    (case k_BadTable_init => k_is); (case xL_BadRows => k_is); (case xr_BadRows => rfl); (case xs_BadRows => k_is)
    (case xe_BadRows => k_is); (case xt_BadRows => k_is); (case xk_BadRows => k_is); (case xg_BadRows => k_is)
    (case xh_BadRows => k_is); (case xd_BadRows => k_is); (case xn_BadRows => k_is); (case xc_BadRows => k_is)
    (case xu_BadRows => first | rfl | k_is); (case xi_BadRows => k_is); (case xf_BadRows => k_is); (case l_BadRows_init => k_is)
    (case c_BadRows_init => k_is); (case k_BadRows_init => k_is); (case xL_BadDeclaration => k_is); (case xr_BadDeclaration => rfl)
    (case xs_BadDeclaration => k_is); (case xe_BadDeclaration => k_is); (case xt_BadDeclaration => k_is); (case xk_BadDeclaration => k_is)
    (case xg_BadDeclaration => k_is); (case xh_BadDeclaration => k_is); (case xd_BadDeclaration => k_is); (case xn_BadDeclaration => k_is)
    (case xc_BadDeclaration => k_is); (case xu_BadDeclaration => first | rfl | k_is); (case xi_BadDeclaration => k_is); (case xf_BadDeclaration => k_is)
    (case l_BadDeclaration_init => k_is); (case c_BadDeclaration_init => k_is); (case k_BadDeclaration_init => k_is); (case xL_BadCondition => k_is)
    (case xr_BadCondition => rfl); (case xs_BadCondition => k_is); (case xe_BadCondition => k_is); (case xt_BadCondition => k_is)
    (case xk_BadCondition => k_is); (case xg_BadCondition => k_is); (case xh_BadCondition => k_is); (case xd_BadCondition => k_is)
    (case xn_BadCondition => k_is); (case xc_BadCondition => k_is); (case xu_BadCondition => first | rfl | k_is); (case xi_BadCondition => k_is)
    (case xf_BadCondition => k_is); (case l_BadCondition_init => k_is); (case c_BadCondition_init => k_is); (case k_BadCondition_init => k_is)
    (case xL_Stuck => k_is); (case xr_Stuck => rfl); (case xs_Stuck => k_is); (case xe_Stuck => k_is)
    (case xt_Stuck => k_is); (case xk_Stuck => k_is); (case xg_Stuck => k_is); (case xh_Stuck => k_is)
    (case xd_Stuck => k_is); (case xn_Stuck => k_is); (case xc_Stuck => k_is); (case xu_Stuck => first | rfl | k_is)
    (case xi_Stuck => k_is); (case xf_Stuck => k_is); (case l_Stuck_init => k_is); (case c_Stuck_init => k_is)
    (case k_Stuck_init => k_is); (case xL_BadOrder => k_is); (case xr_BadOrder => rfl); (case xs_BadOrder => k_is)
    (case xe_BadOrder => k_is); (case xt_BadOrder => k_is); (case xk_BadOrder => k_is); (case xg_BadOrder => k_is)
    (case xh_BadOrder => k_is); (case xd_BadOrder => k_is); (case xn_BadOrder => k_is); (case xc_BadOrder => k_is)
    (case xu_BadOrder => first | rfl | k_is); (case xi_BadOrder => k_is); (case xf_BadOrder => k_is); (case l_BadOrder_init => k_is)
    (case c_BadOrder_init => k_is); (case k_BadOrder_init => k_is); (case xL_NoSavepoint => k_is); (case xr_NoSavepoint => rfl)
    (case xs_NoSavepoint => k_is); (case xe_NoSavepoint => k_is); (case xt_NoSavepoint => k_is); (case xk_NoSavepoint => k_is)
    (case xg_NoSavepoint => k_is); (case xh_NoSavepoint => k_is); (case xd_NoSavepoint => k_is); (case xn_NoSavepoint => k_is)
    (case xc_NoSavepoint => k_is); (case xu_NoSavepoint => first | rfl | k_is); (case xi_NoSavepoint => k_is); (case xf_NoSavepoint => k_is)
    (case l_NoSavepoint_init => k_is); (case c_NoSavepoint_init => k_is); (case k_NoSavepoint_init => k_is); (case xL_BadFetch => k_is)
    (case xr_BadFetch => rfl); (case xs_BadFetch => k_is); (case xe_BadFetch => k_is); (case xt_BadFetch => k_is)
    (case xk_BadFetch => k_is); (case xg_BadFetch => k_is); (case xh_BadFetch => k_is); (case xd_BadFetch => k_is)
    (case xn_BadFetch => k_is); (case xc_BadFetch => k_is); (case xu_BadFetch => first | rfl | k_is); (case xi_BadFetch => k_is)
    (case xf_BadFetch => k_is); (case l_BadFetch_init => k_is); (case c_BadFetch_init => k_is); (case k_BadFetch_init => k_is)
    (case a_draw => k_is); (case l_draw => k_is); (case c_draw => k_is); (case k_draw => k_is)
    (case a_pick => k_is); (case l_pick => k_is); (case c_pick => k_is); (case k_pick => k_is)
    (case a_columns => k_is); (case l_columns => k_is); (case c_columns => k_is); (case k_columns => k_is)
    (case a_P_is_column => k_is); (case l_P_is_column => k_is); (case c_P_is_column => k_is); (case k_P_is_column => k_is)
    (case a_P_Table_init => k_is); (case i_P_Table_init => k_is); (case l_P_Table_init => k_is); (case c_P_Table_init => k_is)
    (case k_P_Table_init => k_is); (case a_names => k_is); (case l_names => k_is); (case c_names => k_is)
    (case k_names => k_is); (case a_P_Table_contains => k_is); (case i_P_Table_contains => k_is); (case l_P_Table_contains => k_is)
    (case c_P_Table_contains => k_is); (case k_P_Table_contains => k_is); (case a_P_check_rows => k_is); (case l_P_check_rows => k_is)
    (case c_P_check_rows => k_is); (case k_P_check_rows => k_is); (case a_P_Database_give => k_is); (case i_P_Database_give => k_is)
    (case l_P_Database_give => k_is); (case c_P_Database_give => k_is); (case k_P_Database_give => k_is); (case a_P_Database_init => k_is)
    (case i_P_Database_init => k_is); (case l_P_Database_init => k_is); (case c_P_Database_init => k_is); (case k_P_Database_init => k_is)
    (case a_values => k_is); (case l_values => k_is); (case c_values => k_is); (case k_values => k_is)
    (case a_rows => k_is); (case l_rows => k_is); (case c_rows => k_is); (case k_rows => k_is)
    (case a_P_is_reach => k_is); (case l_P_is_reach => k_is); (case c_P_is_reach => k_is); (case k_P_is_reach => k_is)
    (case a_P_is_among => k_is); (case l_P_is_among => k_is); (case c_P_is_among => k_is); (case k_P_is_among => k_is)
    (case a_P_token_end => k_is); (case l_P_token_end => k_is); (case c_P_token_end => k_is); (case k_P_token_end => k_is)
    (case a_P_tokens_of => k_is); (case l_P_tokens_of => k_is); (case c_P_tokens_of => k_is); (case k_P_tokens_of => k_is)
    (case a_P_passed => k_is); (case l_P_passed => k_is); (case c_P_passed => k_is); (case k_P_passed => k_is)
    (case a_P_read_column => k_is); (case l_P_read_column => k_is); (case c_P_read_column => k_is); (case k_P_read_column => k_is)
    (case a_P_read_number => k_is); (case l_P_read_number => k_is); (case c_P_read_number => k_is); (case k_P_read_number => k_is)
    (case a_P_read_term => k_is); (case l_P_read_term => k_is); (case c_P_read_term => k_is); (case k_P_read_term => k_is)
    (case a_P_read_part => k_is); (case l_P_read_part => k_is); (case c_P_read_part => k_is); (case k_P_read_part => k_is)
    (case a_P_read_condition => k_is); (case l_P_read_condition => k_is); (case c_P_read_condition => k_is); (case k_P_read_condition => k_is)
    (case a_P_read_atom => k_is); (case l_P_read_atom => k_is); (case c_P_read_atom => k_is); (case k_P_read_atom => k_is)
    (case a_P_spaced => k_is); (case l_P_spaced => k_is); (case c_P_spaced => k_is); (case k_P_spaced => k_is)
    (case a_P_Table_all_values => k_is); (case i_P_Table_all_values => k_is); (case l_P_Table_all_values => k_is); (case c_P_Table_all_values => k_is)
    (case k_P_Table_all_values => k_is); (case a_P_compares => k_is); (case l_P_compares => k_is); (case c_P_compares => k_is)
    (case k_P_compares => k_is); (case a_P_term_value => k_is); (case l_P_term_value => k_is); (case c_P_term_value => k_is)
    (case k_P_term_value => k_is); (case a_P_holds => k_is); (case l_P_holds => k_is); (case c_P_holds => k_is)
    (case k_P_holds => k_is); (case a_P_Condition_init => k_is); (case i_P_Condition_init => k_is); (case l_P_Condition_init => k_is)
    (case c_P_Condition_init => k_is); (case k_P_Condition_init => k_is); (case a_P_read_direction => k_is); (case l_P_read_direction => k_is)
    (case c_P_read_direction => k_is); (case k_P_read_direction => k_is); (case a_P_read_order => k_is); (case l_P_read_order => k_is)
    (case c_P_read_order => k_is); (case k_P_read_order => k_is); (case a_P_Order_init => k_is); (case i_P_Order_init => k_is)
    (case l_P_Order_init => k_is); (case c_P_Order_init => k_is); (case k_P_Order_init => k_is); (case a_P_Declaration_init => k_is)
    (case i_P_Declaration_init => k_is); (case l_P_Declaration_init => k_is); (case c_P_Declaration_init => k_is); (case k_P_Declaration_init => k_is)
    (case kn_P_Declaration_init_reach => k_is); (case kb_P_Declaration_init_reach => first | rfl | decide +kernel); (case kn_P_Declaration_init_copied => k_is); (case kb_P_Declaration_init_copied => first | rfl | decide +kernel)
    (case kn_P_Declaration_init_hold => k_is); (case kb_P_Declaration_init_hold => first | rfl | decide +kernel); (case kn_P_Declaration_init_locked => k_is); (case kb_P_Declaration_init_locked => first | rfl | decide +kernel)
    (case kn_P_Declaration_init_check => k_is); (case kb_P_Declaration_init_check => first | rfl | decide +kernel); (case kn_P_Declaration_init_where => k_is); (case kb_P_Declaration_init_where => first | rfl | decide +kernel)
    (case kn_P_Declaration_init_by => k_is); (case kb_P_Declaration_init_by => first | rfl | decide +kernel); (case a_P_Stretch_init => k_is); (case i_P_Stretch_init => k_is)
    (case l_P_Stretch_init => k_is); (case c_P_Stretch_init => k_is); (case k_P_Stretch_init => k_is); (case t_P_Stretch_init => k_is)
    (case dd_P_Stretch_init => exact ⟨_, _, rfl, rfl⟩); (case a_P_Condition_call => k_is); (case i_P_Condition_call => k_is); (case fn_P_Condition_call => k_is)
    (case l_P_Condition_call => k_is); (case c_P_Condition_call => k_is); (case k_P_Condition_call => k_is); (case a_P_Order_key_of => k_is)
    (case i_P_Order_key_of => k_is); (case l_P_Order_key_of => k_is); (case c_P_Order_key_of => k_is); (case k_P_Order_key_of => k_is)
    (case a_P_Place_init => k_is); (case i_P_Place_init => k_is); (case l_P_Place_init => k_is); (case c_P_Place_init => k_is)
    (case k_P_Place_init => k_is); (case a_P_Order_turned_key => k_is); (case i_P_Order_turned_key => k_is); (case l_P_Order_turned_key => k_is)
    (case c_P_Order_turned_key => k_is); (case k_P_Order_turned_key => k_is); (case a_P_Order_place => k_is); (case i_P_Order_place => k_is)
    (case l_P_Order_place => k_is); (case c_P_Order_place => k_is); (case k_P_Order_place => k_is); (case a_P_Place_lt => k_is)
    (case i_P_Place_lt => k_is); (case l_P_Place_lt => k_is); (case c_P_Place_lt => k_is); (case k_P_Place_lt => k_is)
    (case a_P_Stretch_contains => k_is); (case i_P_Stretch_contains => k_is); (case l_P_Stretch_contains => k_is); (case c_P_Stretch_contains => k_is)
    (case k_P_Stretch_contains => k_is); (case a_P_Database_answer => k_is); (case i_P_Database_answer => k_is); (case l_P_Database_answer => k_is)
    (case c_P_Database_answer => k_is); (case k_P_Database_answer => k_is); (case t_P_Database_answer => k_is); (case dd_P_Database_answer => exact ⟨_, _, rfl, rfl⟩)
    (case a_P_Entry_init => k_is); (case i_P_Entry_init => k_is); (case l_P_Entry_init => k_is); (case c_P_Entry_init => k_is)
    (case k_P_Entry_init => k_is); (case a_P_Database_stamp => k_is); (case i_P_Database_stamp => k_is); (case l_P_Database_stamp => k_is)
    (case c_P_Database_stamp => k_is); (case k_P_Database_stamp => k_is); (case a_P_Cursor_read_rows => k_is); (case i_P_Cursor_read_rows => k_is)
    (case l_P_Cursor_read_rows => k_is); (case c_P_Cursor_read_rows => k_is); (case k_P_Cursor_read_rows => k_is); (case a_P_Cursor_init => k_is)
    (case i_P_Cursor_init => k_is); (case l_P_Cursor_init => k_is); (case c_P_Cursor_init => k_is); (case k_P_Cursor_init => k_is)
    (case a_P_Database_declare => k_is); (case i_P_Database_declare => k_is); (case l_P_Database_declare => k_is); (case c_P_Database_declare => k_is)
    (case k_P_Database_declare => k_is); (case a_P_Database_savepoint => k_is); (case i_P_Database_savepoint => k_is); (case l_P_Database_savepoint => k_is)
    (case c_P_Database_savepoint => k_is); (case k_P_Database_savepoint => k_is); (case a_P_Database_undo_to => k_is); (case i_P_Database_undo_to => k_is)
    (case l_P_Database_undo_to => k_is); (case c_P_Database_undo_to => k_is); (case k_P_Database_undo_to => k_is); (case a_P_Cursor_shut => k_is)
    (case i_P_Cursor_shut => k_is); (case l_P_Cursor_shut => k_is); (case c_P_Cursor_shut => k_is); (case k_P_Cursor_shut => k_is)
    (case a_P_Cursor_let_go => k_is); (case i_P_Cursor_let_go => k_is); (case l_P_Cursor_let_go => k_is); (case c_P_Cursor_let_go => k_is)
    (case k_P_Cursor_let_go => k_is); (case a_P_Database_let_go_from => k_is); (case i_P_Database_let_go_from => k_is); (case l_P_Database_let_go_from => k_is)
    (case c_P_Database_let_go_from => k_is); (case k_P_Database_let_go_from => k_is); (case a_P_Database_rollback_to => k_is); (case i_P_Database_rollback_to => k_is)
    (case l_P_Database_rollback_to => k_is); (case c_P_Database_rollback_to => k_is); (case k_P_Database_rollback_to => k_is); (case a_shut_from => k_is)
    (case l_shut_from => k_is); (case c_shut_from => k_is); (case k_shut_from => k_is); (case a_P_Database_rollback => k_is)
    (case i_P_Database_rollback => k_is); (case l_P_Database_rollback => k_is); (case c_P_Database_rollback => k_is); (case k_P_Database_rollback => k_is)
    (case pa_P_Cursor_is_open => k_is); (case pt_P_Cursor_is_open => k_is); (case pk_P_Cursor_is_open => k_is); (case pr_P_Cursor_is_open => k_is)
    (case l_P_Cursor_is_open => k_is); (case c_P_Cursor_is_open => k_is); (case k_P_Cursor_is_open => k_is); (case a_P_Cursor_standing => k_is)
    (case i_P_Cursor_standing => k_is); (case l_P_Cursor_standing => k_is); (case c_P_Cursor_standing => k_is); (case k_P_Cursor_standing => k_is)
    (case a_P_Cursor_fill => k_is); (case i_P_Cursor_fill => k_is); (case l_P_Cursor_fill => k_is); (case c_P_Cursor_fill => k_is)
    (case k_P_Cursor_fill => k_is); (case a_P_Order_ahead_of => k_is); (case i_P_Order_ahead_of => k_is); (case l_P_Order_ahead_of => k_is)
    (case c_P_Order_ahead_of => k_is); (case k_P_Order_ahead_of => k_is); (case a_P_Order_behind_of => k_is); (case i_P_Order_behind_of => k_is)
    (case l_P_Order_behind_of => k_is); (case c_P_Order_behind_of => k_is); (case k_P_Order_behind_of => k_is); (case a_P_Cursor_forget => k_is)
    (case i_P_Cursor_forget => k_is); (case l_P_Cursor_forget => k_is); (case c_P_Cursor_forget => k_is); (case k_P_Cursor_forget => k_is)
    (case a_P_Cursor_pass_commit => k_is); (case i_P_Cursor_pass_commit => k_is); (case l_P_Cursor_pass_commit => k_is); (case c_P_Cursor_pass_commit => k_is)
    (case k_P_Cursor_pass_commit => k_is); (case a_P_Database_commit => k_is); (case i_P_Database_commit => k_is); (case l_P_Database_commit => k_is)
    (case c_P_Database_commit => k_is); (case k_P_Database_commit => k_is); (case a_deed => k_is); (case l_deed => k_is)
    (case c_deed => k_is); (case k_deed => k_is); (case a_P_Table_eq => k_is); (case i_P_Table_eq => k_is)
    (case l_P_Table_eq => k_is); (case c_P_Table_eq => k_is); (case k_P_Table_eq => k_is); (case a_P_Condition_eq => k_is)
    (case i_P_Condition_eq => k_is); (case l_P_Condition_eq => k_is); (case c_P_Condition_eq => k_is); (case k_P_Condition_eq => k_is)
    (case a_P_Order_eq => k_is); (case i_P_Order_eq => k_is); (case l_P_Order_eq => k_is); (case c_P_Order_eq => k_is)
    (case k_P_Order_eq => k_is); (case a_P_Declaration_eq => k_is); (case i_P_Declaration_eq => k_is); (case l_P_Declaration_eq => k_is)
    (case c_P_Declaration_eq => k_is); (case k_P_Declaration_eq => k_is); (case a_P_Database_row => k_is); (case i_P_Database_row => k_is)
    (case l_P_Database_row => k_is); (case c_P_Database_row => k_is); (case k_P_Database_row => k_is); (case a_P_Cursor_take_again => k_is)
    (case i_P_Cursor_take_again => k_is); (case l_P_Cursor_take_again => k_is); (case c_P_Cursor_take_again => k_is); (case k_P_Cursor_take_again => k_is)
    (case a_P_Cursor_high_edge => k_is); (case i_P_Cursor_high_edge => k_is); (case l_P_Cursor_high_edge => k_is); (case c_P_Cursor_high_edge => k_is)
    (case k_P_Cursor_high_edge => k_is); (case a_P_Cursor_empty_at => k_is); (case i_P_Cursor_empty_at => k_is); (case l_P_Cursor_empty_at => k_is)
    (case c_P_Cursor_empty_at => k_is); (case k_P_Cursor_empty_at => k_is); (case a_P_Cursor_step_on => k_is); (case i_P_Cursor_step_on => k_is)
    (case l_P_Cursor_step_on => k_is); (case c_P_Cursor_step_on => k_is); (case k_P_Cursor_step_on => k_is); (case a_P_Cursor_low_edge => k_is)
    (case i_P_Cursor_low_edge => k_is); (case l_P_Cursor_low_edge => k_is); (case c_P_Cursor_low_edge => k_is); (case k_P_Cursor_low_edge => k_is)
    (case a_P_Cursor_step_back => k_is); (case i_P_Cursor_step_back => k_is); (case l_P_Cursor_step_back => k_is); (case c_P_Cursor_step_back => k_is)
    (case k_P_Cursor_step_back => k_is); (case a_P_Cursor_move => k_is); (case i_P_Cursor_move => k_is); (case l_P_Cursor_move => k_is)
    (case c_P_Cursor_move => k_is); (case k_P_Cursor_move => k_is); (case a_P_Cursor_go_to => k_is); (case i_P_Cursor_go_to => k_is)
    (case l_P_Cursor_go_to => k_is); (case c_P_Cursor_go_to => k_is); (case k_P_Cursor_go_to => k_is); (case a_P_Cursor_tell => k_is)
    (case i_P_Cursor_tell => k_is); (case l_P_Cursor_tell => k_is); (case c_P_Cursor_tell => k_is); (case k_P_Cursor_tell => k_is)
    (case a_P_Cursor_fetch => k_is); (case i_P_Cursor_fetch => k_is); (case l_P_Cursor_fetch => k_is); (case c_P_Cursor_fetch => k_is)
    (case k_P_Cursor_fetch => k_is); (case t_P_Cursor_fetch => k_is); (case dd_P_Cursor_fetch => exact ⟨_, _, rfl, rfl⟩); (case a_right => k_is)
    (case l_right => k_is); (case c_right => k_is); (case k_right => k_is); (case a_spring => k_is)
    (case l_spring => k_is); (case c_spring => k_is); (case k_spring => k_is); (case a_law => k_is)
    (case l_law => k_is); (case c_law => k_is); (case k_law => k_is)
    (case hF => exact K47.law_true)
