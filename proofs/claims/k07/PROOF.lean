import PyProof.Rows.All
import HandS.ForMost
import HandS.ForExc
import HandS.CallSlots
import HandS.SetKeys
import HandS.DictComp
import HandS.TupAny
import HandS.Wide
import HandS.IsInst
import HandS.FStr
import HandS.RaiseMore
import HandS.Flow
import HandS.ExcInit
import HandS.ExcField
import HandS.Zip
import HandS.Style
import HandS.OwnEq
import PyProof.InstNe
import HandS.Text
import HandS.Strs
import HandS.ClsMeth
import KE.DataCmp
import HandS.Defaults
import HandS.MakeKw
import HandS.SuiteRaise
import HandS.RaiseFrom
import HandS.ExcInitHot
import HandS.Finally
import KE.GoesEnum
import KE.GoesMore
import PyProof.Draws
import PyProof.StrLawsTight
import PyProof.StrLawsChain
import PySem.Challenge.RW_heldcursors_k07_sets_refused
import Wide.All
import OpenK.AllK
import Wide.FinOn
set_option Elab.async false
set_option linter.all false
set_option maxRecDepth 100000
set_option maxHeartbeats 2000000
namespace Mi
open PySem PySem.Spec PyProof.Rows L2

/-! values and objects of the mirror -/
inductive IV where
  | non | bl (b : Bool) | int (i : Int) | str (x : Str) | ty (n : String)
  | ref (l : Nat) | tup (xs : List IV) | lst (xs : List IV) | ptp (xs : List IV)
inductive IO where
  | dead | lst (xs : List IV) | ins (c : Str) (fs : List (Str × IV)) | dic (kvs : List (Key × IV)) | xd (fs : List (Str × IV)) | dct (kvs : List (List Key × IV)) | set (ks : List Key)
inductive SV where
  | v (x : IV) | own (xs : List IV) | exn (l : Nat)
abbrev Sto := List IO
abbrev Slots := List (Option SV)

structure Gd where
  K : PySem.W.Frag
  mg : Str → Option Value
  P : Program
  w : World
abbrev gd (X : Cx) : Gd := ⟨X.K, X.mg, X.prog, X.w⟩
def kI : Key → IV
  | .inl i => .int i
  | .inr x => .str x
/-- a dict whose keys are tuples of ints and texts, by its own object alone -/
def DHo (P : Program) (w : World) (a : Addr) (xs : List (List Key × Addr × Value)) : HO := .ext fun h => ∃ o es ep, h.get? a = some o ∧ o.ExactDict ∧ o.data = .dict es ep ∧ es.toList = xs.map (entryOfKey (tupleKind (mixKind P w))) ∧ (xs.map (·.1)).Nodup

def Lv (m : List Addr) (st : Sto) (a : Addr) : Prop := ∃ (l : Nat) (o : IO), m[l]? = some a ∧ st[l]? = some o ∧ o ≠ IO.dead
/-- an inline thing may stand here -/
def Fz (m bs : List Addr) (st : Sto) (a : Addr) : Prop := ¬ Lv m st a ∧ a ∉ bs
def H0 : Hp := fun _ => none
def TupAt (G : Gd) (m bs : List Addr) (st : Sto) (H : Hp) (a : Addr) (vs : List V) : Prop := (Rd H a (.tup vs) ∧ Fz m bs st a) ∨ SqT G.K H0 a vs
def LstAt (G : Gd) (m bs : List Addr) (st : Sto) (H : Hp) (a : Addr) (vs : List V) : Prop := (Rd H a (.lst vs) ∧ Fz m bs st a) ∨ SqL G.K H0 a vs

/-- a tuple whose record has no dict: methods may be called -/
def PtAt (m bs : List Addr) (st : Sto) (H : Hp) (a : Addr) (vs : List V) : Prop := ∃ o, H a = some (.frz o (.tup vs)) ∧ o.dict = none ∧ Fz m bs st a
mutual
def RV (G : Gd) (m bs : List Addr) (st : Sto) (H : Hp) : IV → V → Prop
  | .non, v => v = .non
  | .bl b, v => v = .bl b
  | .int i, v => v = .int i
  | .str x, v => v = .str x
  | .ty n, v => v = .ty n
  | .ref l, v => ∃ a, v = .ref a ∧ m[l]? = some a
  | .tup xs, v => ∃ a vs, v = .ref a ∧ TupAt G m bs st H a vs ∧ RVs G m bs st H xs vs
  | .lst xs, v => ∃ a vs, v = .ref a ∧ LstAt G m bs st H a vs ∧ RVs G m bs st H xs vs
  | .ptp xs, v => ∃ a vs, v = .ref a ∧ PtAt m bs st H a vs ∧ RVs G m bs st H xs vs
def RVs (G : Gd) (m bs : List Addr) (st : Sto) (H : Hp) : List IV → List V → Prop
  | [], vs => vs = []
  | x :: xs, vs => ∃ v r, vs = v :: r ∧ RV G m bs st H x v ∧ RVs G m bs st H xs r
end

theorem h0_rd {a : Addr} {u : HO} : ¬ Rd H0 a u := fun h => by
  rcases h with h | ⟨o, h⟩ <;> cases h
theorem sqt0 {K : PySem.W.Frag} {H : Hp} {a : Addr} {vs : List V} (h : SqT K H0 a vs) : SqT K H a vs := by
  rcases h with h | h
  · exact (h0_rd h).elim
  · exact .inr h
theorem sql0 {K : PySem.W.Frag} {H : Hp} {a : Addr} {vs : List V} (h : SqL K H0 a vs) : SqL K H a vs := by
  rcases h with h | h
  · exact (h0_rd h).elim
  · exact .inr h
theorem sqt_split {K : PySem.W.Frag} {H : Hp} {a : Addr} {vs : List V} (h : SqT K H a vs) : Rd H a (.tup vs) ∨ SqT K H0 a vs := by
  rcases h with h | h
  · exact .inl h
  · exact .inr (.inr h)
theorem sql_split {K : PySem.W.Frag} {H : Hp} {a : Addr} {vs : List V} (h : SqL K H a vs) : Rd H a (.lst vs) ∨ SqL K H0 a vs := by
  rcases h with h | h
  · exact .inl h
  · exact .inr (.inr h)
theorem TupAt.sq {G : Gd} {m bs : List Addr} {st : Sto} {H : Hp} {a : Addr} {vs : List V} (h : TupAt G m bs st H a vs) : SqT G.K H a vs := by
  rcases h with ⟨h, _⟩ | h
  · exact .inl h
  · exact sqt0 h
theorem LstAt.sq {G : Gd} {m bs : List Addr} {st : Sto} {H : Hp} {a : Addr} {vs : List V} (h : LstAt G m bs st H a vs) : SqL G.K H a vs := by
  rcases h with ⟨h, _⟩ | h
  · exact .inl h
  · exact sql0 h

/-- no dict of an exception -/
def NX (o : HO) : Prop := ∀ fs, o ≠ .xd fs
theorem nxl {xs : List V} : NX (.lst xs) := fun _ h => by cases h
theorem nxt {xs : List V} : NX (.tup xs) := fun _ h => by cases h
theorem nxf {o : Obj} {u : HO} : NX (.frz o u) := fun _ h => by cases h
/-- what is kept: all that is neither live nor in os -/
structure Grow (m : List Addr) (st : Sto) (os : List Addr) (H : Hp) (m' : List Addr) (st' : Sto) (os' : List Addr) (H' : Hp) : Prop where
  pre : m <+: m'
  keep : ∀ a o, H a = some o → ¬ Lv m st a → a ∉ os → NX o → H' a = some o ∧ ¬ Lv m' st' a ∧ a ∉ os'
  stay : ∀ a, H' a = none → H a = none
theorem Grow.refl {m st os H} : Grow m st os H m st os H := ⟨List.prefix_refl _, fun _ _ h n q _ => ⟨h, n, q⟩, fun _ h => h⟩
theorem Grow.trans {m st os H m1 st1 os1 H1 m2 st2 os2 H2} (a : Grow m st os H m1 st1 os1 H1) (b : Grow m1 st1 os1 H1 m2 st2 os2 H2) : Grow m st os H m2 st2 os2 H2 :=
  ⟨a.pre.trans b.pre, fun x o h n q nx => let ⟨h1, n1, q1⟩ := a.keep x o h n q nx; b.keep x o h1 n1 q1 nx, fun x h => a.stay x (b.stay x h)⟩
/-- of expressions: nothing but what is live changes -/
abbrev GrowE (m : List Addr) (st : Sto) (H : Hp) (m' : List Addr) (st' : Sto) (H' : Hp) : Prop := Grow m st [] H m' st' [] H'
theorem Grow.ofE {m st H m' st' H'} {os : List Addr} (g : GrowE m st H m' st' H') : Grow m st os H m' st' os H' :=
  ⟨g.pre, fun a o h n q nx => let ⟨h1, n1, _⟩ := g.keep a o h n (by simp) nx; ⟨h1, n1, q⟩, g.stay⟩
theorem Grow.at {m st os H m' st' os' H'} (g : Grow m st os H m' st' os' H') {l : Nat} {a : Addr} (h : m[l]? = some a) : m'[l]? = some a := by
  obtain ⟨t, e⟩ := g.pre
  rw [← e]
  have hl : l < m.length := (List.getElem?_eq_some_iff.mp h).1
  rw [List.getElem?_append_left hl]; exact h

section
variable {G : Gd} {m m' bs os os' rs : List Addr} {st st' : Sto} {H H' : Hp}
theorem rd_grow {a : Addr} {u : HO} (nx : NX u) (g : Grow m st os H m' st' os' H') (n : ¬ Lv m st a) (q : a ∉ os) (h : Rd H a u) : Rd H' a u ∧ ¬ Lv m' st' a ∧ a ∉ os' := by
  rcases h with h | ⟨o, h⟩
  · obtain ⟨h1, n1, q1⟩ := g.keep a _ h n q nx; exact ⟨.inl h1, n1, q1⟩
  · obtain ⟨h1, n1, q1⟩ := g.keep a _ h n q nxf; exact ⟨.inr ⟨o, h1⟩, n1, q1⟩
theorem tupAt_mono {a : Addr} {vs : List V} (g : Grow m st os H m' st' os' H') (h : TupAt G m (os ++ rs) st H a vs) : TupAt G m' (os' ++ rs) st' H' a vs := by
  rcases h with ⟨h, n, q⟩ | h
  · obtain ⟨h1, n1, q1⟩ := rd_grow nxt g n (fun z => q (List.mem_append_left _ z)) h
    refine .inl ⟨h1, n1, fun z => ?_⟩
    rcases List.mem_append.mp z with z | z
    · exact q1 z
    · exact q (List.mem_append_right _ z)
  · exact .inr h
theorem lstAt_mono {a : Addr} {vs : List V} (g : Grow m st os H m' st' os' H') (h : LstAt G m (os ++ rs) st H a vs) : LstAt G m' (os' ++ rs) st' H' a vs := by
  rcases h with ⟨h, n, q⟩ | h
  · obtain ⟨h1, n1, q1⟩ := rd_grow nxl g n (fun z => q (List.mem_append_left _ z)) h
    refine .inl ⟨h1, n1, fun z => ?_⟩
    rcases List.mem_append.mp z with z | z
    · exact q1 z
    · exact q (List.mem_append_right _ z)
  · exact .inr h
/-- relations that differ in what may be said of addresses alone -/
structure Fits (G : Gd) (m bs : List Addr) (st : Sto) (H : Hp) (m' bs' : List Addr) (st' : Sto) (H' : Hp) : Prop where
  at_ : ∀ (l : Nat) a, m[l]? = some a → m'[l]? = some a
  tup : ∀ a vs, TupAt G m bs st H a vs → TupAt G m' bs' st' H' a vs
  lst : ∀ a vs, LstAt G m bs st H a vs → LstAt G m' bs' st' H' a vs
  ptp : ∀ a vs, PtAt m bs st H a vs → PtAt m' bs' st' H' a vs
mutual
theorem RV.fits {bs' : List Addr} (f : Fits G m bs st H m' bs' st' H') : ∀ (x : IV) (v : V), RV G m bs st H x v → RV G m' bs' st' H' x v
  | .non, v, h => by simp only [RV] at h ⊢; exact h
  | .bl b, v, h => by simp only [RV] at h ⊢; exact h
  | .int i, v, h => by simp only [RV] at h ⊢; exact h
  | .str x, v, h => by simp only [RV] at h ⊢; exact h
  | .ty n, v, h => by simp only [RV] at h ⊢; exact h
  | .ref l, v, h => by
    simp only [RV] at h ⊢
    obtain ⟨a, e, h⟩ := h
    exact ⟨a, e, f.at_ l a h⟩
  | .tup xs, v, h => by
    simp only [RV] at h ⊢
    obtain ⟨a, vs, e, h, r⟩ := h
    exact ⟨a, vs, e, f.tup a vs h, RVs.fits f xs vs r⟩
  | .lst xs, v, h => by
    simp only [RV] at h ⊢
    obtain ⟨a, vs, e, h, r⟩ := h
    exact ⟨a, vs, e, f.lst a vs h, RVs.fits f xs vs r⟩
  | .ptp xs, v, h => by
    simp only [RV] at h ⊢
    obtain ⟨a, vs, e, h, r⟩ := h
    exact ⟨a, vs, e, f.ptp a vs h, RVs.fits f xs vs r⟩
theorem RVs.fits {bs' : List Addr} (f : Fits G m bs st H m' bs' st' H') : ∀ (xs : List IV) (vs : List V), RVs G m bs st H xs vs → RVs G m' bs' st' H' xs vs
  | [], vs, h => by simp only [RVs] at h ⊢; exact h
  | x :: xs, vs, h => by
    simp only [RVs] at h ⊢
    obtain ⟨v, r, e, h1, h2⟩ := h
    exact ⟨v, r, e, RV.fits f x v h1, RVs.fits f xs r h2⟩
end
theorem ptAt_mono {a : Addr} {vs : List V} (g : Grow m st os H m' st' os' H') (h : PtAt m (os ++ rs) st H a vs) : PtAt m' (os' ++ rs) st' H' a vs := by
  obtain ⟨o, h, d, n, q⟩ := h
  obtain ⟨h1, n1, q1⟩ := g.keep a _ h n (fun z => q (List.mem_append_left _ z)) nxf
  refine ⟨o, h1, d, n1, fun z => ?_⟩
  rcases List.mem_append.mp z with z | z
  · exact q1 z
  · exact q (List.mem_append_right _ z)
theorem Grow.fits (g : Grow m st os H m' st' os' H') : Fits G m (os ++ rs) st H m' (os' ++ rs) st' H' :=
  ⟨fun l a h => g.at h, fun a vs => tupAt_mono g, fun a vs => lstAt_mono g, fun a vs => ptAt_mono g⟩
theorem Grow.fitsE (g : GrowE m st H m' st' H') : Fits G m bs st H m' bs st' H' := Grow.fits (os := []) (os' := []) (rs := bs) g

/-! objects -/
def RFs (G : Gd) (m bs : List Addr) (st : Sto) (H : Hp) : List (Str × IV) → List (Str × V) → Prop
  | [], gs => gs = []
  | (f, x) :: r, gs => ∃ v t, gs = (f, v) :: t ∧ RV G m bs st H x v ∧ RFs G m bs st H r t
def RKs (G : Gd) (m bs : List Addr) (st : Sto) (H : Hp) : List (Key × IV) → List (Key × V) → Prop
  | [], gs => gs = []
  | (f, x) :: r, gs => ∃ v t, gs = (f, v) :: t ∧ RV G m bs st H x v ∧ RKs G m bs st H r t
def RDs (G : Gd) (m bs : List Addr) (st : Sto) (H : Hp) : List (List Key × IV) → List (List Key × Addr × Value) → Prop
  | [], gs => gs = []
  | (k, x) :: r, gs => ∃ b u v t, gs = (k, b, u) :: t ∧ RV G m bs st H (.tup (k.map kI)) (.ref b) ∧ RelV v u ∧ RV G m bs st H x v ∧ RDs G m bs st H r t
def OR (G : Gd) (m bs : List Addr) (st : Sto) (H : Hp) : IO → Addr → Prop
  | .dead, a => ∃ u, H a = some u
  | .lst xs, a => ∃ vs, H a = some (.lst vs) ∧ RVs G m bs st H xs vs
  | .ins c fs, a => ∃ C dx gs, G.mg c = some (.ref C) ∧ H a = some (.ins C dx gs) ∧ RFs G m bs st H fs gs
  | .dic kvs, a => ∃ ws, H a = some (.dK ws) ∧ RKs G m bs st H kvs ws
  | .xd fs, a => ∃ gs, H a = some (.xd gs) ∧ RFs G m bs st H fs gs
  | .dct kvs, a => (a == sysModules) = false ∧ kvs.length ≤ 100000 ∧ ∃ xs, H a = some (DHo G.P G.w a xs) ∧ RDs G m bs st H kvs xs
  | .set ks, a => ∃ S n, H a = some (SetK G.P G.w a S n) ∧ n ≤ ks.length ∧ ∀ k, S k = true ↔ k ∈ ks
theorem RFs.fits {bs' : List Addr} (f : Fits G m bs st H m' bs' st' H') : ∀ (fs : List (Str × IV)) (gs : List (Str × V)), RFs G m bs st H fs gs → RFs G m' bs' st' H' fs gs
  | [], gs, h => h
  | (n, x) :: r, gs, h => by
    obtain ⟨v, t, e, h1, h2⟩ := h
    exact ⟨v, t, e, RV.fits f x v h1, RFs.fits f r t h2⟩
theorem RKs.fits {bs' : List Addr} (f : Fits G m bs st H m' bs' st' H') : ∀ (fs : List (Key × IV)) (gs : List (Key × V)), RKs G m bs st H fs gs → RKs G m' bs' st' H' fs gs
  | [], gs, h => h
  | (n, x) :: r, gs, h => by
    obtain ⟨v, t, e, h1, h2⟩ := h
    exact ⟨v, t, e, RV.fits f x v h1, RKs.fits f r t h2⟩
theorem RDs.fits {bs' : List Addr} (f : Fits G m bs st H m' bs' st' H') : ∀ (fs : List (List Key × IV)) (gs : List (List Key × Addr × Value)), RDs G m bs st H fs gs → RDs G m' bs' st' H' fs gs
  | [], gs, h => h
  | (n, x) :: r, gs, h => by
    obtain ⟨b, u, v, t, e, h0, h1, h2, h3⟩ := h
    exact ⟨b, u, v, t, e, RV.fits f _ _ h0, h1, RV.fits f x v h2, RDs.fits f r t h3⟩
structure Rel (G : Gd) (m bs : List Addr) (st : Sto) (H : Hp) : Prop where
  len : m.length = st.length
  nd : ∀ (i j : Nat) a, m[i]? = some a → m[j]? = some a → i = j
  obj : ∀ (l : Nat) o a, st[l]? = some o → m[l]? = some a → OR G m bs st H o a
  bsd : ∀ a ∈ bs, a ∉ m ∧ ∃ o, H a = some o
theorem OR.has {o : IO} {a : Addr} (h : OR G m bs st H o a) : ∃ u, H a = some u := by
  cases o with
  | dead => exact h
  | lst xs => obtain ⟨vs, e, _⟩ := h; exact ⟨_, e⟩
  | ins c fs => obtain ⟨C, dx, gs, _, e, _⟩ := h; exact ⟨_, e⟩
  | dic kvs => obtain ⟨ws, e, _⟩ := h; exact ⟨_, e⟩
  | xd fs => obtain ⟨ws, e, _⟩ := h; exact ⟨_, e⟩
  | dct fs => obtain ⟨_, _, ws, e, _⟩ := h; exact ⟨_, e⟩
  | set fs => obtain ⟨S, n, e, _⟩ := h; exact ⟨_, e⟩
theorem Rel.has (R : Rel G m bs st H) {l : Nat} {a : Addr} (h : m[l]? = some a) : ∃ u, H a = some u := by
  have hl : l < st.length := by rw [← R.len]; exact (List.getElem?_eq_some_iff.mp h).1
  exact (R.obj l _ a (List.getElem?_eq_getElem hl) h).has
theorem Rel.fresh (R : Rel G m bs st H) {p : Addr} (h : H p = none) : p ∉ m ∧ p ∉ bs := by
  refine ⟨fun z => ?_, fun z => ?_⟩
  · obtain ⟨l, hl, e⟩ := List.mem_iff_getElem.mp z
    obtain ⟨u, q⟩ := R.has (l := l) (a := p) (by rw [List.getElem?_eq_getElem hl, e])
    rw [h] at q; cases q
  · obtain ⟨_, o, q⟩ := R.bsd p z
    rw [h] at q; cases q
theorem Lv.mem {a : Addr} (h : Lv m st a) : a ∈ m := by
  obtain ⟨l, o, h1, _⟩ := h
  exact List.mem_of_getElem? h1
theorem Rel.fz (R : Rel G m bs st H) {p : Addr} (h : H p = none) : Fz m bs st p := ⟨fun z => (R.fresh h).1 z.mem, (R.fresh h).2⟩
/-- objects but for the changed ones -/
theorem OR.fits {bs' : List Addr} (f : Fits G m bs st H m' bs' st' H') {o : IO} {a : Addr} (k : ∀ u, H a = some u → H' a = some u) (h : OR G m bs st H o a) : OR G m' bs' st' H' o a := by
  cases o with
  | dead => obtain ⟨u, e⟩ := h; exact ⟨u, k u e⟩
  | lst xs => obtain ⟨vs, e, r⟩ := h; exact ⟨vs, k _ e, RVs.fits f _ _ r⟩
  | ins c fs => obtain ⟨C, dx, gs, q, e, r⟩ := h; exact ⟨C, dx, gs, q, k _ e, RFs.fits f _ _ r⟩
  | dic kvs => obtain ⟨ws, e, r⟩ := h; exact ⟨ws, k _ e, RKs.fits f _ _ r⟩
  | xd fs => obtain ⟨ws, e, r⟩ := h; exact ⟨ws, k _ e, RFs.fits f _ _ r⟩
  | dct fs => obtain ⟨z1, z2, ws, e, r⟩ := h; exact ⟨z1, z2, ws, k _ e, RDs.fits f _ _ r⟩
  | set fs => obtain ⟨S, n, e, r⟩ := h; exact ⟨S, n, k _ e, r⟩

/-! a new thing is laid -/
theorem upd_stay {p a : Addr} {u : HO} (e : upd H p u a = none) : H a = none := by
  by_cases h : a = p
  · rw [h, upd_same] at e; cases e
  · rw [upd_ne h] at e; exact e
theorem grow_new {p : Addr} {u : HO} (h : H p = none) : GrowE m st H m st (upd H p u) :=
  ⟨List.prefix_refl _, fun a o e n q _ => ⟨by rw [upd_ne (ne_of_none e h)]; exact e, n, q⟩, fun a e => upd_stay e⟩
theorem Rel.new (R : Rel G m bs st H) {p : Addr} {u : HO} (h : H p = none) : Rel G m bs st (upd H p u) := by
  have g : GrowE m st H m st (upd H p u) := grow_new h
  refine ⟨R.len, R.nd, fun l o a e1 e2 => (R.obj l o a e1 e2).fits g.fitsE fun w e => ?_, fun a z => ⟨(R.bsd a z).1, ?_⟩⟩
  · rw [upd_ne (ne_of_none e h)]; exact e
  · obtain ⟨o, e⟩ := (R.bsd a z).2
    exact ⟨o, by rw [upd_ne (ne_of_none e h)]; exact e⟩
theorem tupAt_new (R : Rel G m bs st H) {p : Addr} {vs : List V} (h : H p = none) : TupAt G m bs st (upd H p (.tup vs)) p vs := .inl ⟨.inl upd_same, R.fz h⟩
theorem lstAt_new (R : Rel G m bs st H) {p : Addr} {vs : List V} (h : H p = none) : LstAt G m bs st (upd H p (.lst vs)) p vs := .inl ⟨.inl upd_same, R.fz h⟩
theorem getElem?_snoc {α : Type} {l : List α} {x : α} {i : Nat} {y : α} (h : (l ++ [x])[i]? = some y) : l[i]? = some y ∨ (i = l.length ∧ y = x) := by
  by_cases hi : i < l.length
  · rw [List.getElem?_append_left hi] at h; exact .inl h
  · rw [List.getElem?_append_right (by omega)] at h
    have : i - l.length = 0 := by
      cases q : i - l.length with
      | zero => rfl
      | succ n => rw [q] at h; simp at h
    rw [this] at h
    have e : x = y := by simpa using h
    exact .inr ⟨by omega, e.symm⟩
theorem lv_snoc (hl : m.length = st.length) {p a : Addr} {o : IO} (h : Lv (m ++ [p]) (st ++ [o]) a) : Lv m st a ∨ a = p := by
  obtain ⟨l, u, h1, h2, h3⟩ := h
  rcases getElem?_snoc h1 with h1 | ⟨_, e⟩
  · have hlt : l < st.length := by rw [← hl]; exact (List.getElem?_eq_some_iff.mp h1).1
    rw [List.getElem?_append_left hlt] at h2
    exact .inl ⟨l, u, h1, h2, h3⟩
  · exact .inr e
/-- a new live object -/
theorem grow_live (R : Rel G m bs st H) {p : Addr} {u : HO} {o : IO} (h : H p = none) : GrowE m st H (m ++ [p]) (st ++ [o]) (upd H p u) :=
  ⟨List.prefix_append _ _, fun a w e n q _ => ⟨by rw [upd_ne (ne_of_none e h)]; exact e, fun z => (lv_snoc R.len z).elim n (fun z => by rw [z, h] at e; cases e), q⟩, fun a e => upd_stay e⟩
theorem Rel.live (R : Rel G m bs st H) {p : Addr} {u : HO} {o : IO} (h : H p = none) (ho : OR G (m ++ [p]) bs (st ++ [o]) (upd H p u) o p) : Rel G (m ++ [p]) bs (st ++ [o]) (upd H p u) := by
  have g : GrowE m st H (m ++ [p]) (st ++ [o]) (upd H p u) := grow_live R h
  have hp := R.fresh h
  refine ⟨by simp [R.len], fun i j a e1 e2 => ?_, fun l w a e1 e2 => ?_, fun a z => ⟨fun y => ?_, ?_⟩⟩
  · rcases getElem?_snoc e1 with e1 | ⟨i1, e1⟩
    · rcases getElem?_snoc e2 with e2 | ⟨i2, e2⟩
      · exact R.nd i j a e1 e2
      · exact absurd (List.mem_of_getElem? e1) (by rw [e2]; exact hp.1)
    · rcases getElem?_snoc e2 with e2 | ⟨i2, e2⟩
      · exact absurd (List.mem_of_getElem? e2) (by rw [e1]; exact hp.1)
      · omega
  · rcases getElem?_snoc e2 with e2 | ⟨i2, e2⟩
    · have hlt : l < st.length := by rw [← R.len]; exact (List.getElem?_eq_some_iff.mp e2).1
      rw [List.getElem?_append_left hlt] at e1
      refine (R.obj l w a e1 e2).fits g.fitsE fun w e => ?_
      rw [upd_ne (ne_of_none e h)]; exact e
    · subst e2
      rw [R.len] at i2; subst i2
      rw [List.getElem?_append_right (Nat.le_refl _)] at e1
      have e : o = w := by simpa using e1
      rw [← e]; exact ho
  · rcases List.mem_append.mp y with y | y
    · exact (R.bsd a z).1 y
    · have : a = p := by simpa using y
      exact hp.2 (this ▸ z)
  · obtain ⟨o, e⟩ := (R.bsd a z).2
    exact ⟨o, by rw [upd_ne (ne_of_none e h)]; exact e⟩
/-- a live object changed -/
theorem lv_set {l : Nat} {o : IO} {a : Addr} (hl : ∃ u, st[l]? = some u ∧ u ≠ .dead) : Lv m (st.set l o) a → Lv m st a := fun ⟨i, u, h1, h2, h3⟩ => by
  by_cases e : l = i
  · subst e
    obtain ⟨w, e1, e2⟩ := hl
    exact ⟨l, w, h1, e1, e2⟩
  · rw [List.getElem?_set_ne e] at h2
    exact ⟨i, u, h1, h2, h3⟩
theorem grow_set {l : Nat} {p : Addr} {u : HO} {o o' : IO} (hm : m[l]? = some p) (hs : st[l]? = some o) (hd : o ≠ .dead) : GrowE m st H m (st.set l o') (upd H p u) :=
  ⟨List.prefix_refl _, fun a w e n q _ => by
    have ne : a ≠ p := fun z => n ⟨l, o, by rw [z]; exact hm, hs, hd⟩
    exact ⟨by rw [upd_ne ne]; exact e, fun z => n (lv_set ⟨o, hs, hd⟩ z), q⟩, fun a e => upd_stay e⟩
theorem Rel.set (R : Rel G m bs st H) {l : Nat} {p : Addr} {u : HO} {o o' : IO} (hm : m[l]? = some p) (hs : st[l]? = some o) (hd : o ≠ .dead) (ho : OR G m bs (st.set l o') (upd H p u) o' p) : Rel G m bs (st.set l o') (upd H p u) := by
  have g : GrowE m st H m (st.set l o') (upd H p u) := grow_set hm hs hd
  refine ⟨by simp [R.len], R.nd, fun i w a e1 e2 => ?_, fun a z => ⟨(R.bsd a z).1, ?_⟩⟩
  · by_cases e : l = i
    · subst e
      have ea : p = a := Option.some.inj (hm.symm.trans e2)
      subst ea
      rw [List.getElem?_set_self (List.getElem?_eq_some_iff.mp hs).1] at e1
      have ew : o' = w := by simpa using e1
      rw [← ew]; exact ho
    · rw [List.getElem?_set_ne e] at e1
      have ne : a ≠ p := fun z => e (R.nd _ _ _ hm (by rw [← z]; exact e2))
      refine (R.obj i w a e1 e2).fits g.fitsE fun w e => ?_
      rw [upd_ne ne]; exact e
  · obtain ⟨o, e⟩ := (R.bsd a z).2
    by_cases e' : a = p
    · exact ⟨u, by rw [e']; exact upd_same⟩
    · exact ⟨o, by rw [upd_ne e']; exact e⟩
/-- a live object dies: it may be read for ever -/
theorem lv_kill {l : Nat} {a : Addr} : Lv m (st.set l .dead) a → Lv m st a := fun ⟨i, u, h1, h2, h3⟩ => by
  by_cases e : l = i
  · subst e
    by_cases hl : l < st.length
    · rw [List.getElem?_set_self hl] at h2
      exact absurd (Option.some.inj h2).symm h3
    · rw [List.getElem?_eq_none (by simpa using hl)] at h2; cases h2
  · rw [List.getElem?_set_ne e] at h2
    exact ⟨i, u, h1, h2, h3⟩
theorem grow_kill {l : Nat} : GrowE m st H m (st.set l .dead) H := ⟨List.prefix_refl _, fun a w e n q _ => ⟨e, fun z => n (lv_kill z), q⟩, fun _ h => h⟩
theorem Rel.kill (R : Rel G m bs st H) {l : Nat} : Rel G m bs (st.set l .dead) H := by
  have g : GrowE m st H m (st.set l .dead) H := grow_kill
  refine ⟨by simp [R.len], R.nd, fun i w a e1 e2 => ?_, R.bsd⟩
  by_cases e : l = i
  · subst e
    by_cases hl : l < st.length
    · rw [List.getElem?_set_self hl] at e1
      have ew : IO.dead = w := by simpa using e1
      rw [← ew]; exact R.has e2
    · rw [List.getElem?_eq_none (by simpa using hl)] at e1; cases e1
  · rw [List.getElem?_set_ne e] at e1
    exact (R.obj i w a e1 e2).fits g.fitsE fun w e => e
end
end Mi
set_option Elab.async false
set_option linter.all false
set_option maxRecDepth 100000
set_option maxHeartbeats 2000000
namespace Mi
open PySem PySem.Spec PyProof.Rows L2

inductive R (α : Type) where
  | ok (a : α) (st : Sto) | exc (c : Str) (fs : List (Str × IV)) (st : Sto) | bad
def R.bind {α β : Type} : R α → (α → Sto → R β) → R β
  | .ok a st, k => k a st
  | .exc c fs st, _ => .exc c fs st
  | .bad, _ => .bad
inductive RS where
  | nx (ρ : Slots) (st : Sto) | rt (v : IV) (st : Sto) | bk (ρ : Slots) (st : Sto) | ct (ρ : Slots) (st : Sto) | exc (c : Str) (fs : List (Str × IV)) (ρ : Slots) (st : Sto) | bad
abbrev IE := Slots → Sto → R IV
abbrev IT := Slots → Sto → R Bool
abbrev IA := Slots → Sto → R (List IV)
abbrev IS := Slots → Sto → RS
abbrev Xa := Option (Addr × Addr)

/-- an exception with its fields -/
def XR (G : Gd) (m bs : List Addr) (st : Sto) (H : Hp) (c : Str) (fs : List (Str × IV)) (cls : Value) (d : Option Addr) : Prop :=
  ∃ C, G.mg c = some (.ref C) ∧ cls = .ref C ∧ (fs = [] ∨ ∃ dd gs, d = some dd ∧ H dd = some (.xd gs) ∧ dd ∉ m ∧ dd ∉ bs ∧ RFs G m bs st H fs gs)

def RE1 (G : Gd) (m bs : List Addr) (st : Sto) (H : Hp) (xa : Xa) : SV → V → Prop
  | .v x, v => RV G m bs st H x v
  | .own xs, v => ∃ a vs, v = .ref a ∧ H a = some (.lst vs) ∧ RVs G m bs st H xs vs ∧ a ∈ bs
  | .exn l, v => ∃ a d, xa = some (a, d) ∧ v = .ref a ∧ m[l]? = some d
structure RE (G : Gd) (m os rs : List Addr) (st : Sto) (H : Hp) (xa : Xa) (ρ : Slots) (σ : L2.St) : Prop where
  len : ρ.length = σ.length
  at_ : ∀ (i : Nat) x, ρ[i]? = some (some x) → ∃ v, σ[i]? = some (some v) ∧ RE1 G m (os ++ rs) st H xa x v
  own : ∀ (i : Nat) xs, ρ[i]? = some (some (.own xs)) → ∃ a, σ[i]? = some (some (.ref a)) ∧ a ∈ os ∧ a ∉ rs
  uniq : ∀ (i j : Nat) xs ys v, ρ[i]? = some (some (.own xs)) → ρ[j]? = some (some (.own ys)) → σ[i]? = some (some v) → σ[j]? = some (some v) → i = j
structure Pre (G : Gd) (xa : Xa) (σ : L2.St) (H : Hp) (m os rs : List Addr) (ρ : Slots) (st : Sto) : Prop where
  rel : Rel G m (os ++ rs) st H
  re : RE G m os rs st H xa ρ σ

def Pst {α : Type} (G : Gd) (m bs : List Addr) (st : Sto) (H : Hp) (W : Value → Option Addr → Hp → Prop) (r : R α) (P : α → List Addr → Sto → Hp → Prop) : Prop :=
  match r with
  | .ok a st' => ∀ m' H', GrowE m st H m' st' H' → Rel G m' bs st' H' → P a m' st' H'
  | .exc c fs st' => ∀ m' H' cls d, GrowE m st H m' st' H' → Rel G m' bs st' H' → XR G m' bs st' H' c fs cls d → W cls d H'
  | .bad => False

section
variable {G : Gd} {m os rs bs : List Addr} {st : Sto} {H : Hp} {xa : Xa} {σ : L2.St} {ρ : Slots} {W W' : Value → Option Addr → Hp → Prop} {α β : Type}
theorem Pst.mono {r : R α} {P P' : α → List Addr → Sto → Hp → Prop} (h : Pst G m bs st H W r P) (k : ∀ a m' st' H', GrowE m st H m' st' H' → Rel G m' bs st' H' → P a m' st' H' → P' a m' st' H') : Pst G m bs st H W r P' := by
  cases r with
  | ok a st' => exact fun m' H' g R => k a m' st' H' g R (h m' H' g R)
  | exc c fs st' => exact h
  | bad => exact h
theorem Pst.shift {r : R α} {P : α → List Addr → Sto → Hp → Prop} {m1 : List Addr} {st1 : Sto} {H1 : Hp} (g : GrowE m st H m1 st1 H1) (h : Pst G m bs st H W r P) : Pst G m1 bs st1 H1 W r P := by
  cases r with
  | ok a st' => exact fun m' H' g' R => h m' H' (g.trans g') R
  | exc c fs st' => exact fun m' H' cls d g' R x => h m' H' cls d (g.trans g') R x
  | bad => exact h
theorem Pst.bind {r : R α} {k : α → Sto → R β} {P : β → List Addr → Sto → Hp → Prop} (h : Pst G m bs st H W (r.bind k) P) : Pst G m bs st H W r (fun a m1 st1 H1 => Pst G m1 bs st1 H1 W (k a st1) P) := by
  cases r with
  | ok a st' =>
    have h' : Pst G m bs st H W (k a st') P := h
    exact fun m' H' g R => h'.shift g
  | exc c fs st' => exact h
  | bad => exact h
theorem Pst.ok {a : α} {P : α → List Addr → Sto → Hp → Prop} (R : Rel G m bs st H) (h : Pst G m bs st H W (.ok a st) P) : P a m st H := h m H .refl R
theorem RE1.grow {x : SV} {v : V} {m' : List Addr} {st' : Sto} {H' : Hp} (R : Rel G m bs st H) (g : GrowE m st H m' st' H') (h : RE1 G m bs st H xa x v) : RE1 G m' bs st' H' xa x v := by
  cases x with
  | v x => exact RV.fits g.fitsE _ _ h
  | own xs =>
    obtain ⟨a, vs, e, ha, r, hb⟩ := h
    exact ⟨a, vs, e, (g.keep a _ ha (fun z => (R.bsd a hb).1 z.mem) (by simp) nxl).1, RVs.fits g.fitsE _ _ r, hb⟩
  | exn l =>
    obtain ⟨a, d, e, e2, e3⟩ := h
    exact ⟨a, d, e, e2, g.at e3⟩
theorem Pre.grow {m' : List Addr} {st' : Sto} {H' : Hp} (P : Pre G xa σ H m os rs ρ st) (g : GrowE m st H m' st' H') (R : Rel G m' (os ++ rs) st' H') : Pre G xa σ H' m' os rs ρ st' :=
  ⟨R, P.re.len, fun i x e => let ⟨v, e1, r⟩ := P.re.at_ i x e; ⟨v, e1, r.grow P.rel g⟩, P.re.own, P.re.uniq⟩
end

def rd {α β : Type} (rv : List Addr → List Addr → Sto → Hp → α → β → Prop) (G : Gd) (W : WX) (xa : Xa) (A : Slots → Sto → R α) : L2.St → Hp → (β → Hp → Prop) → Prop := fun σ H Q =>
  ∃ m os rs ρ st, Pre G xa σ H m os rs ρ st ∧ Pst G m (os ++ rs) st H (fun cls d H' => W cls d σ H') (A ρ st) (fun v m' st' H' => ∀ u, rv m' (os ++ rs) st' H' v u → Q u H')
abbrev teOf (G : Gd) (W : WX) (xa : Xa) (A : IE) : TE := rd (RV G) G W xa A
abbrev ttOf (G : Gd) (W : WX) (xa : Xa) (A : IT) : TT := rd (fun _ _ _ _ a b => a = b) G W xa A
abbrev taOf (G : Gd) (W : WX) (xa : Xa) (A : IA) : TA := rd (RVs G) G W xa A

/-- the judgements -/
abbrev ME (X : Cx) (W : WX) (xa : Xa) (e : Expr) (A : IE) : Prop := PE X e (teOf (gd X) W xa A)
abbrev MT (X : Cx) (W : WX) (xa : Xa) (e : Expr) (A : IT) : Prop := PT X e (ttOf (gd X) W xa A)
abbrev MA (X : Cx) (W : WX) (xa : Xa) (es : List Expr) (A : IA) : Prop := PA X es (taOf (gd X) W xa A)
theorem PE.weak {X : Cx} {e : Expr} {t t' : TE} (h : PE X e t) (k : ∀ σ H Q, t' σ H Q → t σ H Q) : PE X e t' := ⟨fun pins s σ H Q I q => h.run pins s σ H Q I (k σ H Q q)⟩
theorem PT.weak {X : Cx} {e : Expr} {t t' : TT} (h : PT X e t) (k : ∀ σ H Q, t' σ H Q → t σ H Q) : PT X e t' := ⟨fun pins s σ H Q I q => h.run pins s σ H Q I (k σ H Q q)⟩
theorem PW.weak {X : Cx} {e : Expr} {t t' : TT} (h : PW X e t) (k : ∀ σ H Q, t' σ H Q → t σ H Q) : PW X e t' := ⟨fun wh pins s σ H Q I q => h.run wh pins s σ H Q I (k σ H Q q)⟩
theorem PA.weak {X : Cx} {e : List Expr} {t t' : TA} (h : PA X e t) (k : ∀ σ H Q, t' σ H Q → t σ H Q) : PA X e t' := ⟨fun pos pins s σ H Q I q => h.run pos pins s σ H Q I (k σ H Q q)⟩
theorem PS.weak {X : Cx} {e : Stmt} {t t' : TS} (h : PS X e t) (k : ∀ D σ H, t' D σ H → t D σ H) : PS X e t' := ⟨fun pins s σ H D I q => h.run pins s σ H D I (k D σ H q)⟩
theorem PSs.weak {X : Cx} {e : List Stmt} {t t' : TS} (h : PSs X e t) (k : ∀ D σ H, t' D σ H → t D σ H) : PSs X e t' := ⟨fun pins s σ H D I q => h.run pins s σ H D I (k D σ H q)⟩
theorem PG.weak {X : Cx} {e : Expr} {t t' : TG} (h : PG X e t) (k : ∀ v σ H Q, t' v σ H Q → t v σ H Q) : PG X e t' := ⟨fun pins s σ H v u Q I r q => h.run pins s σ H v u Q I r (k v σ H Q q)⟩
theorem PI.weak {X : Cx} {tg e : Expr} {t t' : TI} (h : PI X tg e t) (k : ∀ σ H Q, t' σ H Q → t σ H Q) : PI X tg e t' := ⟨fun pins s σ H Q I q => h.run pins s σ H Q I (k σ H Q q)⟩

section
variable {X : Cx} {W : WX} {xa : Xa} {a b e : Expr} {A B : IE} {pos : Pos}

/-! ### names, constants -/
def iVar (i : Nat) : IE := fun ρ st => match ρ[i]? with
  | some (some (.v x)) => .ok x st
  | _ => .bad
def iC (x : IV) : IE := fun _ st => .ok x st
theorem me_var {i : Nat} (h : PE X e (tVar i)) : ME X W xa e (iVar i) := by
  refine PE.weak h fun σ H Q h => ?_
  obtain ⟨m, os, rs, ρ, st, P, h⟩ := h
  unfold iVar at h
  split at h
  · rename_i x e
    obtain ⟨v, e1, r⟩ := P.re.at_ _ _ e
    exact ⟨v, e1, h.ok P.rel v r⟩
  · exact h.elim
theorem me_c {x : IV} {v : V} (h : PE X e (tC v)) (hv : ∀ m bs st H, RV (gd X) m bs st H x v) : ME X W xa e (iC x) := by
  refine PE.weak h fun σ H Q h => ?_
  obtain ⟨m, os, rs, ρ, st, P, h⟩ := h
  exact Pst.ok P.rel h v (hv _ _ _ _)
theorem me_int {i : Int} {j : Nat} : ME X W xa (.Constant (.int i) j pos) (iC (.int i)) := me_c pe_int fun _ _ _ _ => by simp only [RV]
theorem me_bl {b : Bool} {j : Nat} : ME X W xa (.Constant (.bool b) j pos) (iC (.bl b)) := me_c pe_bl fun _ _ _ _ => by simp only [RV]
theorem me_non {j : Nat} : ME X W xa (.Constant .none j pos) (iC .non) := me_c pe_non fun _ _ _ _ => by simp only [RV]
theorem me_str {x : Str} {j : Nat} : ME X W xa (.Constant (.str x) j pos) (iC (.str x)) := me_c pe_str fun _ _ _ _ => by simp only [RV]

/-! ### operators by values -/
/-- what a two-place operation does: it raises nothing -/
def OpM (X : Cx) (f : Value → Value → Sem Value) (g : IV → IV → Sto → R IV) : Prop :=
  ∃ r, OpR X f r ∧ ∀ m bs st H x y x' y' (Q : VK) W, Rel (gd X) m bs st H → RV (gd X) m bs st H x x' → RV (gd X) m bs st H y y' →
    Pst (gd X) m bs st H W (g x y st) (fun v m' st' H' => ∀ u, RV (gd X) m' bs st' H' v u → Q u H') → r x' y' H Q
def iBin (g : IV → IV → Sto → R IV) (A B : IE) : IE := fun ρ st => (A ρ st).bind fun x st => (B ρ st).bind fun y st => g x y st
theorem me_bin {op : Operator} {g : IV → IV → Sto → R IV} (ho : OpM X (binaryOp op) g) (ha : ME X W xa a A) (hb : ME X W xa b B) : ME X W xa (.BinOp a op b pos) (iBin g A B) := by
  obtain ⟨r, hr, k⟩ := ho
  refine PE.weak (pe_op hr ha hb) fun σ H Q h => ?_
  obtain ⟨m, os, rs, ρ, st, P, h⟩ := h
  exact ⟨m, os, rs, ρ, st, P, h.bind.mono fun x m1 st1 H1 g1 R1 h1 x' rx => ⟨m1, os, rs, ρ, st1, P.grow g1 R1, h1.bind.mono fun y m2 st2 H2 g2 R2 h2 y' ry =>
    k m2 _ st2 H2 x y x' y' Q _ R2 (RV.fits g2.fitsE _ _ rx) ry h2⟩⟩
theorem me_cmp {op : CmpOp} {g : IV → IV → Sto → R IV} (ho : OpM X (compareOp op) g) (ha : ME X W xa a A) (hb : ME X W xa b B) (hm : behindInMarks op b = false) : ME X W xa (.Compare a [op] [b] pos) (iBin g A B) := by
  obtain ⟨r, hr, k⟩ := ho
  refine PE.weak (pe_cmpR hr ha hb hm) fun σ H Q h => ?_
  obtain ⟨m, os, rs, ρ, st, P, h⟩ := h
  exact ⟨m, os, rs, ρ, st, P, h.bind.mono fun x m1 st1 H1 g1 R1 h1 x' rx => ⟨m1, os, rs, ρ, st1, P.grow g1 R1, h1.bind.mono fun y m2 st2 H2 g2 R2 h2 y' ry =>
    k m2 _ st2 H2 x y x' y' Q _ R2 (RV.fits g2.fitsE _ _ rx) ry h2⟩⟩
/-- a value that is a bool, as a test -/
def asB : IV → Sto → R Bool
  | .bl b, st => .ok b st
  | _, _ => .bad
def iTest (A : IE) : IT := fun ρ st => (A ρ st).bind asB
theorem asB_post {G : Gd} {m bs : List Addr} {st : Sto} {H : Hp} {W : Value → Option Addr → Hp → Prop} {x : IV} {x' : V} {Q : Bool → Hp → Prop} (R : Rel G m bs st H) (rx : RV G m bs st H x x')
    (h : Pst G m bs st H W (asB x st) (fun v m' st' H' => ∀ u, v = u → Q u H')) : ∃ c, x' = .bl c ∧ Q c H := by
  cases x with
  | bl b =>
    simp only [RV] at rx
    exact ⟨b, rx, h.ok R b rfl⟩
  | _ => exact h.elim
theorem mt_cmp {op : CmpOp} {g : IV → IV → Sto → R IV} (ho : OpM X (compareOp op) g) (ha : ME X W xa a A) (hb : ME X W xa b B) (hm : behindInMarks op b = false) : MT X W xa (.Compare a [op] [b] pos) (iTest (iBin g A B)) := by
  obtain ⟨r, hr, k⟩ := ho
  refine PT.weak (pt_cmpR hr ha hb hm) fun σ H Q h => ?_
  obtain ⟨m, os, rs, ρ, st, P, h⟩ := h
  have h := h.bind
  exact ⟨m, os, rs, ρ, st, P, h.bind.mono fun x m1 st1 H1 g1 R1 h1 x' rx => ⟨m1, os, rs, ρ, st1, P.grow g1 R1, h1.bind.mono fun y m2 st2 H2 g2 R2 h2 y' ry =>
    k m2 _ st2 H2 x y x' y' _ _ R2 (RV.fits g2.fitsE _ _ rx) ry (h2.mono fun v m3 st3 H3 g3 R3 h3 u ru => asB_post R3 ru h3)⟩⟩
theorem mt_val (he : ME X W xa e A) (hs : ∀ whole, isTrue e X.env whole = (do let v ← whole; standAt e.pos; holding [v] (truthy v)) := by intro _; rfl) : MT X W xa e (iTest A) := by
  refine PT.weak (pt_val he hs) fun σ H Q h => ?_
  obtain ⟨m, os, rs, ρ, st, P, h⟩ := h
  exact ⟨m, os, rs, ρ, st, P, h.bind.mono fun v m3 st3 H3 g3 R3 h3 u ru => asB_post R3 ru h3⟩
/-- chains a < b < c -/
def iChain (g g' : IV → IV → Sto → R IV) (A B C : IE) : IE := fun ρ st => (A ρ st).bind fun x st => (B ρ st).bind fun y st => (g x y st).bind fun z st => (asB z st).bind fun k st => if k = true then (C ρ st).bind fun c st => g' y c st else .ok (.bl false) st
end
end Mi
set_option Elab.async false
set_option linter.all false
set_option maxRecDepth 100000
set_option maxHeartbeats 4000000
namespace Mi
open PySem PySem.Spec PyProof.Rows L2

theorem szl {n : Nat} (h : n ≤ 100000) : n ≤ sizeLine := Nat.le_trans h (by decide)
theorem szlt {n : Nat} (h : n < 100000) : n < sizeLine := Nat.lt_of_lt_of_le h (by decide)
/-- lists, tuples as they stand -/
def asL (st : Sto) : IV → Option (List IV)
  | .lst xs => some xs
  | .ref l => match st[l]? with
    | some (.lst xs) => some xs
    | _ => none
  | _ => none
def asT : IV → Option (List IV)
  | .tup xs => some xs
  | _ => none
/-- both -/
def asS (st : Sto) : IV → Option (List IV)
  | .tup xs => some xs
  | x => asL st x
section
variable {G : Gd} {m bs : List Addr} {st : Sto} {H : Hp}
theorem asL_sq (R : Rel G m bs st H) {x : IV} {v : V} {xs : List IV} (e : asL st x = some xs) (r : RV G m bs st H x v) : ∃ a vs, v = .ref a ∧ SqL G.K H a vs ∧ RVs G m bs st H xs vs := by
  cases x with
  | lst ys =>
    cases e
    simp only [RV] at r
    obtain ⟨a, vs, e, h, r⟩ := r
    exact ⟨a, vs, e, h.sq, r⟩
  | ref l =>
    simp only [RV] at r
    obtain ⟨a, ea, h⟩ := r
    simp only [asL] at e
    split at e
    · rename_i ys e1
      cases e
      obtain ⟨vs, e2, r2⟩ := R.obj l _ a e1 h
      exact ⟨a, vs, ea, .of e2, r2⟩
    · cases e
  | _ => cases e
theorem asT_sq {x : IV} {v : V} {xs : List IV} (e : asT x = some xs) (r : RV G m bs st H x v) : ∃ a vs, v = .ref a ∧ SqT G.K H a vs ∧ RVs G m bs st H xs vs := by
  cases x with
  | tup ys =>
    cases e
    simp only [RV] at r
    obtain ⟨a, vs, e, h, r⟩ := r
    exact ⟨a, vs, e, h.sq, r⟩
  | _ => cases e
theorem asS_sq (R : Rel G m bs st H) {x : IV} {v : V} {xs : List IV} (e : asS st x = some xs) (r : RV G m bs st H x v) : ∃ a vs, v = .ref a ∧ (SqL G.K H a vs ∨ SqT G.K H a vs) ∧ RVs G m bs st H xs vs := by
  cases x with
  | tup ys =>
    obtain ⟨a, vs, e, h, r⟩ := asT_sq (x := .tup ys) e r
    exact ⟨a, vs, e, .inr h, r⟩
  | lst ys =>
    obtain ⟨a, vs, e, h, r⟩ := asL_sq (x := .lst ys) R e r
    exact ⟨a, vs, e, .inl h, r⟩
  | ref l =>
    obtain ⟨a, vs, e, h, r⟩ := asL_sq (x := .ref l) R e r
    exact ⟨a, vs, e, .inl h, r⟩
  | _ => cases e
theorem RVs.length : ∀ {xs : List IV} {vs : List V}, RVs G m bs st H xs vs → xs.length = vs.length
  | [], vs, h => by simp only [RVs] at h; rw [h]; rfl
  | x :: xs, vs, h => by
    simp only [RVs] at h
    obtain ⟨v, r, e, _, h⟩ := h
    rw [e, List.length_cons, List.length_cons, RVs.length h]
theorem RVs.get : ∀ {xs : List IV} {vs : List V} {i : Nat} {x : IV}, RVs G m bs st H xs vs → xs[i]? = some x → ∃ v, vs[i]? = some v ∧ RV G m bs st H x v
  | [], vs, i, x, h, e => by simp at e
  | y :: xs, vs, 0, x, h, e => by
    simp only [RVs] at h
    obtain ⟨v, r, e1, h1, h⟩ := h
    have : y = x := by simpa using e
    subst this
    exact ⟨v, by rw [e1]; rfl, h1⟩
  | y :: xs, vs, i + 1, x, h, e => by
    simp only [RVs] at h
    obtain ⟨v, r, e1, h1, h⟩ := h
    obtain ⟨w, e2, h2⟩ := RVs.get (i := i) (x := x) h (by simpa using e)
    exact ⟨w, by rw [e1]; simpa using e2, h2⟩
theorem RVs.append : ∀ {xs ys : List IV} {vs ws : List V}, RVs G m bs st H xs vs → RVs G m bs st H ys ws → RVs G m bs st H (xs ++ ys) (vs ++ ws)
  | [], ys, vs, ws, h, h' => by simp only [RVs] at h; rw [h]; exact h'
  | x :: xs, ys, vs, ws, h, h' => by
    simp only [RVs] at h
    obtain ⟨v, r, e, h1, h⟩ := h
    rw [e]
    simp only [List.cons_append, RVs]
    exact ⟨v, _, rfl, h1, RVs.append h h'⟩
theorem RVs.take : ∀ {xs : List IV} {vs : List V} (n : Nat), RVs G m bs st H xs vs → RVs G m bs st H (xs.take n) (vs.take n)
  | _, _, 0, _ => by simp [RVs]
  | [], vs, n + 1, h => by simp only [RVs] at h; rw [h]; simp [RVs]
  | x :: xs, vs, n + 1, h => by
    simp only [RVs] at h
    obtain ⟨v, r, e, h1, h⟩ := h
    rw [e]
    simp only [List.take_succ_cons, RVs]
    exact ⟨v, _, rfl, h1, RVs.take n h⟩
theorem RVs.drop : ∀ {xs : List IV} {vs : List V} (n : Nat), RVs G m bs st H xs vs → RVs G m bs st H (xs.drop n) (vs.drop n)
  | _, _, 0, h => by simpa using h
  | [], vs, n + 1, h => by simp only [RVs] at h; rw [h]; simp [RVs]
  | x :: xs, vs, n + 1, h => by
    simp only [RVs] at h
    obtain ⟨v, r, e, h1, h⟩ := h
    rw [e]
    simpa using RVs.drop n h
theorem RVs.set : ∀ {xs : List IV} {vs : List V} (n : Nat) {x : IV} {v : V}, RVs G m bs st H xs vs → RV G m bs st H x v → RVs G m bs st H (xs.set n x) (vs.set n v)
  | [], vs, n, _, _, h, _ => by simp only [RVs] at h; rw [h]; simp [RVs]
  | y :: xs, vs, 0, x, v, h, q => by
    simp only [RVs] at h
    obtain ⟨w, r, e, h1, h⟩ := h
    rw [e]
    simp only [List.set_cons_zero, RVs]
    exact ⟨v, r, rfl, q, h⟩
  | y :: xs, vs, n + 1, x, v, h, q => by
    simp only [RVs] at h
    obtain ⟨w, r, e, h1, h⟩ := h
    rw [e]
    simp only [List.set_cons_succ, RVs]
    exact ⟨w, _, rfl, h1, RVs.set n h q⟩
theorem RVs.eraseIdx : ∀ {xs : List IV} {vs : List V} (n : Nat), RVs G m bs st H xs vs → RVs G m bs st H (xs.eraseIdx n) (vs.eraseIdx n)
  | [], vs, n, h => by simp only [RVs] at h; rw [h]; simp [RVs]
  | x :: xs, vs, 0, h => by
    simp only [RVs] at h
    obtain ⟨v, r, e, h1, h⟩ := h
    rw [e]; exact h
  | x :: xs, vs, n + 1, h => by
    simp only [RVs] at h
    obtain ⟨v, r, e, h1, h⟩ := h
    rw [e]
    simp only [List.eraseIdx_cons_succ, RVs]
    exact ⟨v, _, rfl, h1, RVs.eraseIdx n h⟩
theorem RVs.nil_iff {xs : List IV} {vs : List V} (h : RVs G m bs st H xs vs) : vs = [] ↔ xs = [] := by
  have e := RVs.length h
  cases xs <;> cases vs <;> simp at e ⊢
/-- an inline thing made at a fresh place: its reading -/
theorem Pst.newT {W : Value → Option Addr → Hp → Prop} {xs : List IV} {vs : List V} {Q : VK} (R : Rel G m bs st H) (r : RVs G m bs st H xs vs) (h : Pst G m bs st H W (.ok (.tup xs) st) (fun v m' st' H' => ∀ u, RV G m' bs st' H' v u → Q u H'))
    {p : Addr} (hp : H p = none) : Q (.ref p) (upd H p (.tup vs)) := by
  refine h m _ (grow_new hp) (R.new hp) (.ref p) ?_
  simp only [RV]
  exact ⟨p, vs, rfl, tupAt_new R hp, RVs.fits (grow_new hp).fitsE _ _ r⟩
theorem Pst.newL {W : Value → Option Addr → Hp → Prop} {xs : List IV} {vs : List V} {Q : VK} (R : Rel G m bs st H) (r : RVs G m bs st H xs vs) (h : Pst G m bs st H W (.ok (.lst xs) st) (fun v m' st' H' => ∀ u, RV G m' bs st' H' v u → Q u H'))
    {p : Addr} (hp : H p = none) : Q (.ref p) (upd H p (.lst vs)) := by
  refine h m _ (grow_new hp) (R.new hp) (.ref p) ?_
  simp only [RV]
  exact ⟨p, vs, rfl, lstAt_new R hp, RVs.fits (grow_new hp).fitsE _ _ r⟩
theorem Pst.v {W : Value → Option Addr → Hp → Prop} {x : IV} {v : V} {Q : VK} (R : Rel G m bs st H) (r : RV G m bs st H x v) (h : Pst G m bs st H W (.ok x st) (fun v m' st' H' => ∀ u, RV G m' bs st' H' v u → Q u H')) : Q v H := h.ok R v r
end

/-! ### arithmetic -/
def gAdd : IV → IV → Sto → R IV
  | .int i, .int j, st => .ok (.int (i + j)) st
  | .str i, .str j, st => if i.length + j.length ≤ 100000 then .ok (.str (i ++ j)) st else .bad
  | .tup xs, .tup ys, st => if xs.length + ys.length ≤ 100000 then .ok (.tup (xs ++ ys)) st else .bad
  | x, y, st => match asL st x, asL st y with
    | some xs, some ys => if xs.length + ys.length ≤ 100000 then .ok (.lst (xs ++ ys)) st else .bad
    | _, _ => .bad
def gSub : IV → IV → Sto → R IV
  | .int i, .int j, st => .ok (.int (i - j)) st
  | _, _, _ => .bad
/-- one factor below 2 ^ 64 -/
def gMul : IV → IV → Sto → R IV
  | .int i, .int j, st => if i.natAbs < 18446744073709551616 ∨ j.natAbs < 18446744073709551616 then .ok (.int (i * j)) st else .bad
  | _, _, _ => .bad
/-- a divisor of at most forty digits -/
def gDiv : IV → IV → Sto → R IV
  | .int i, .int j, st => if 0 < j ∧ j ≤ 10000000000000000000000000000000000000000 then .ok (.int (i / j)) st else .bad
  | _, _, _ => .bad
def gMod : IV → IV → Sto → R IV
  | .int i, .int j, st => if 0 < j then .ok (.int (i % j)) st else .bad
  | _, _, _ => .bad
def gPow : IV → IV → Sto → R IV
  | .int i, .int j, st => if 0 ≤ j ∧ j ≤ 1000000 ∧ i.natAbs < 18446744073709551616 then .ok (.int (i ^ j.toNat)) st else .bad
  | _, _, _ => .bad
section
variable {X : Cx}
theorem OpM.eq {f : Value → Value → Sem Value} {g g' : IV → IV → Sto → R IV} (h : OpM X f g) (e : ∀ x y st, g x y st = g' x y st) : OpM X f g' := by
  have : g = g' := funext fun x => funext fun y => funext fun st => e x y st
  rw [← this]; exact h
/-- list + list -/
def rCatL (K : PySem.W.Frag) : R2 := fun x y H Q => ∃ l b xs zs, x = .ref l ∧ y = .ref b ∧ SqL K H l xs ∧ SqL K H b zs ∧ xs.length + zs.length ≤ sizeLine ∧ ∀ p, H p = none → Q (.ref p) (upd H p (.lst (xs ++ zs)))
theorem op_catL : OpR X (binaryOp .Add) (rCatL X.K) := by
  intro pins s σ H x y v u Q I rx ry h
  obtain ⟨l, b, xs, zs, rfl, rfl, hH, hB, hz, q⟩ := h
  cases rx
  cases ry
  obtain ⟨its, r, ⟨o, n, e, c, d, dd⟩, _⟩ := I.list hH
  obtain ⟨its2, r2, ⟨o2, n2, e2, c2, d2, dd2⟩, _⟩ := I.list hB
  obtain ⟨oc, od, dt, sl⟩ := o
  obtain ⟨oc2, od2, dt2, sl2⟩ := o2
  simp only at c d dd c2 d2 dd2
  subst c d dd c2 d2 dd2
  have l1 := r.length
  have l2 := r2.length
  have ea : its.toArray ++ its2.toArray = (its ++ its2).toArray := by simp
  refine concat_meets ⟨_, e, rfl⟩ ⟨_, e2, rfl⟩ noFill_list_add seq_list_add PySem.F.slot_list_add PySem.F.entry_list_add (PySem.F.args_list_add_2 _ _) (list_addW l b its.toArray its2.toArray n n2 none none sl sl2 (by rw [List.size_toArray, List.size_toArray]; omega)) ⟨e, e2, ?_⟩
  rw [ea]
  exact ⟨.ref _, _, I.lnew (t' := s.toks) (r.append r2) (by rw [List.length_append]; omega), rfl, q _ I.fresh⟩
theorem opm_add : OpM X (binaryOp .Add) gAdd := by
  refine ⟨_, op_add.or (op_add_str.or (op_catA.or op_catL)), fun m bs st H x y x' y' Q W R rx ry h => ?_⟩
  unfold gAdd at h
  split at h
  · simp only [RV] at rx ry
    exact .inl ⟨_, _, rx, ry, h.v R (by simp only [RV])⟩
  · simp only [RV] at rx ry
    split at h
    · rename_i c
      exact .inr (.inl ⟨_, _, rx, ry, szl c, h.v R (by simp only [RV])⟩)
    · exact h.elim
  · split at h
    · rename_i xs ys c
      obtain ⟨a, vs, ea, h1, r1⟩ := asT_sq (x := .tup xs) rfl rx
      obtain ⟨b, ws, eb, h2, r2⟩ := asT_sq (x := .tup ys) rfl ry
      refine .inr (.inr (.inl ⟨a, b, vs, ws, ea, eb, h1, h2, by rw [← r1.length, ← r2.length]; exact szl c, fun z => ?_, fun z1 z2 => ?_, fun z1 z2 p hp => ?_⟩))
      · have e := r1.nil_iff.mp z
        subst e
        rw [← eb]
        exact h.v R ry
      · have e := r2.nil_iff.mp z2
        subst e
        rw [List.append_nil] at h
        rw [← ea]
        exact h.v R rx
      · exact h.newT R (r1.append r2) hp
    · exact h.elim
  · split at h
    · rename_i xs ys e1 e2
      split at h
      · rename_i c
        obtain ⟨a, vs, ea, h1, r1⟩ := asL_sq R e1 rx
        obtain ⟨b, ws, eb, h2, r2⟩ := asL_sq R e2 ry
        exact .inr (.inr (.inr ⟨a, b, vs, ws, ea, eb, h1, h2, by rw [← r1.length, ← r2.length]; exact szl c, fun p hp => h.newL R (r1.append r2) hp⟩))
      · exact h.elim
    · exact h.elim
theorem opm_sub : OpM X (binaryOp .Sub) gSub := by
  refine ⟨_, op_sub, fun m bs st H x y x' y' Q W R rx ry h => ?_⟩
  unfold gSub at h
  split at h
  · simp only [RV] at rx ry
    exact ⟨_, _, rx, ry, h.v R (by simp only [RV])⟩
  · exact h.elim
theorem opm_mul : OpM X (binaryOp .Mult) gMul := by
  refine ⟨_, op_mul, fun m bs st H x y x' y' Q W R rx ry h => ?_⟩
  unfold gMul at h
  split at h
  · simp only [RV] at rx ry
    split at h
    · rename_i c
      refine ⟨_, _, rx, ry, ?_, h.v R (by simp only [RV])⟩
      have e : (2 : Int) ^ 64 = 18446744073709551616 := by decide
      unfold CMul
      rw [e]
      rcases c with c | c
      · exact .inl (by omega)
      · exact .inr (by omega)
    · exact h.elim
  · exact h.elim
theorem log2_dig {j : Int} (h0 : 0 < j) (h : j ≤ 10000000000000000000000000000000000000000) : CDivW 0 j :=
  wide_div (b := 140) h0 (by have : (2 : Nat) ^ 140 = 1393796574908163946345982392040522594123776 := by decide +kernel
                             omega) (by decide) (by decide)
theorem opm_div : OpM X (binaryOp .FloorDiv) gDiv := by
  refine ⟨_, op_fdivW, fun m bs st H x y x' y' Q W R rx ry h => ?_⟩
  unfold gDiv at h
  split at h
  · simp only [RV] at rx ry
    split at h
    · rename_i c
      exact ⟨_, _, rx, ry, log2_dig c.1 c.2, h.v R (by simp only [RV])⟩
    · exact h.elim
  · exact h.elim
theorem opm_mod : OpM X (binaryOp .Mod) gMod := by
  refine ⟨_, op_mod, fun m bs st H x y x' y' Q W R rx ry h => ?_⟩
  unfold gMod at h
  split at h
  · simp only [RV] at rx ry
    split at h
    · rename_i c
      exact ⟨_, _, rx, ry, c, h.v R (by simp only [RV])⟩
    · exact h.elim
  · exact h.elim
theorem opm_pow : OpM X (binaryOp .Pow) gPow := by
  refine ⟨_, op_pow, fun m bs st H x y x' y' Q W R rx ry h => ?_⟩
  unfold gPow at h
  split at h
  · simp only [RV] at rx ry
    split at h
    · rename_i c
      refine ⟨_, _, rx, ry, ⟨c.1, c.2.1, ?_⟩, h.v R (by simp only [RV])⟩
      have e : (2 : Nat) ^ 64 = 18446744073709551616 := by decide
      rw [e]; exact c.2.2
    · exact h.elim
  · exact h.elim

/-! ### comparisons -/
def gRel (p : Int → Int → Bool) : IV → IV → Sto → R IV
  | .int i, .int j, st => .ok (.bl (p i j)) st
  | _, _, _ => .bad
theorem opm_rel {op : CmpOp} {p : Int → Int → Bool} (ho : OpR X (compareOp op) (rI0 fun i j => .bl (p i j))) : OpM X (compareOp op) (gRel p) := by
  refine ⟨_, ho, fun m bs st H x y x' y' Q W R rx ry h => ?_⟩
  unfold gRel at h
  split at h
  · simp only [RV] at rx ry
    exact ⟨_, _, rx, ry, h.v R (by simp only [RV])⟩
  · exact h.elim
abbrev gLt := gRel fun i j => decide (i < j)
abbrev gLe := gRel fun i j => decide (i ≤ j)
abbrev gGt := gRel fun i j => decide (j < i)
abbrev gGe := gRel fun i j => decide (j ≤ i)
theorem opm_lt : OpM X (compareOp .Lt) gLt := opm_rel op_lt
theorem opm_le : OpM X (compareOp .LtE) gLe := opm_rel op_le
theorem opm_gt : OpM X (compareOp .Gt) gGt := opm_rel op_gt
theorem opm_ge : OpM X (compareOp .GtE) gGe := opm_rel op_ge

/-- data that == compares -/
def toDs (toD : IV → Option PyData) : List IV → Option (List PyData)
  | [] => some []
  | x :: xs => (toD x).bind fun d => (toDs toD xs).map fun ds => d :: ds
mutual
def toD0 : IV → Option PyData
  | .non => some .none
  | .bl b => some (.bool b)
  | .int i => some (.int i)
  | .str x => some (.str x)
  | .tup xs => (toD0s xs).map .tuple
  | .lst xs => (toD0s xs).map .list
  | _ => none
def toD0s : List IV → Option (List PyData)
  | [] => some []
  | x :: xs => (toD0 x).bind fun d => (toD0s xs).map fun ds => d :: ds
end
/-- a live list on top -/
def toD (st : Sto) : IV → Option PyData
  | .ref l => match st[l]? with
    | some (.lst xs) => (toD0s xs).map .list
    | _ => none
  | x => toD0 x
mutual
theorem toD0_dp {G : Gd} {m bs : List Addr} {st : Sto} {H : Hp} : ∀ (x : IV) (v : V) (d : PyData), toD0 x = some d → RV G m bs st H x v → Dp G.K H v d
  | .non, v, d, e, r => by simp only [RV] at r; simp only [toD0] at e; cases e; rw [r]; exact .non
  | .bl b, v, d, e, r => by simp only [RV] at r; simp only [toD0] at e; cases e; rw [r]; exact .bl b
  | .int i, v, d, e, r => by simp only [RV] at r; simp only [toD0] at e; cases e; rw [r]; exact .int i
  | .str x, v, d, e, r => by simp only [RV] at r; simp only [toD0] at e; cases e; rw [r]; exact .str x
  | .ty n, v, d, e, r => by simp [toD0] at e
  | .ref l, v, d, e, r => by simp [toD0] at e
  | .ptp l, v, d, e, r => by simp [toD0] at e
  | .tup xs, v, d, e, r => by
    simp only [toD0, Option.map_eq_some_iff] at e
    obtain ⟨ds, e1, e2⟩ := e
    subst e2
    simp only [RV] at r
    obtain ⟨a, vs, ea, h, r⟩ := r
    rw [ea]
    exact .tup h.sq (toD0s_dp xs vs ds e1 r)
  | .lst xs, v, d, e, r => by
    simp only [toD0, Option.map_eq_some_iff] at e
    obtain ⟨ds, e1, e2⟩ := e
    subst e2
    simp only [RV] at r
    obtain ⟨a, vs, ea, h, r⟩ := r
    rw [ea]
    exact .lst h.sq (toD0s_dp xs vs ds e1 r)
theorem toD0s_dp {G : Gd} {m bs : List Addr} {st : Sto} {H : Hp} : ∀ (xs : List IV) (vs : List V) (ds : List PyData), toD0s xs = some ds → RVs G m bs st H xs vs → DpAll G.K H vs ds
  | [], vs, ds, e, r => by simp only [RVs] at r; simp only [toD0s] at e; cases e; rw [r]; exact .nil
  | x :: xs, vs, ds, e, r => by
    simp only [toD0s, Option.bind_eq_some_iff, Option.map_eq_some_iff] at e
    obtain ⟨d, e1, ds', e2, e3⟩ := e
    subst e3
    simp only [RVs] at r
    obtain ⟨v, t, ev, r1, r2⟩ := r
    rw [ev]
    exact .cons (toD0_dp x v d e1 r1) (toD0s_dp xs t ds' e2 r2)
end
theorem toD_dp {G : Gd} {m bs : List Addr} {st : Sto} {H : Hp} (R : Rel G m bs st H) {x : IV} {v : V} {d : PyData} (e : toD st x = some d) (r : RV G m bs st H x v) : Dp G.K H v d := by
  unfold toD at e
  split at e
  · rename_i l
    split at e
    · rename_i xs e1
      obtain ⟨a, vs, ea, h1, r1⟩ := asL_sq (x := .ref l) (xs := xs) R (by simp only [asL, e1]) r
      simp only [Option.map_eq_some_iff] at e
      obtain ⟨ds, e2, e3⟩ := e
      subst e3
      rw [ea]
      exact .lst h1 (toD0s_dp xs vs ds e2 r1)
    · cases e
  · exact toD0_dp _ _ _ e r
/-- x == y, as far as it is data -/
def eqB (st : Sto) (x y : IV) : Option Bool := match x, y with
  | .int i, .int j => some (decide (i = j))
  | .str i, .str j => some (decide (i = j))
  | x, y => match toD st x, toD st y with
    | some d, some e => if SeqAt.shaped d = true ∧ SeqAt.shaped e = true then some (PyData.eqv d e) else none
    | _, _ => none
def gEq : IV → IV → Sto → R IV := fun x y st => match eqB st x y with
  | some b => .ok (.bl b) st
  | none => .bad
def gNe : IV → IV → Sto → R IV := fun x y st => match eqB st x y with
  | some b => .ok (.bl (!b)) st
  | none => .bad
theorem opm_eq (hu : X.A.units + 64 < cLine) : OpM X (compareOp .Eq) gEq := by
  refine ⟨_, op_eq.or (op_eqD hu), fun m bs st H x y x' y' Q W R rx ry h => ?_⟩
  unfold gEq at h
  split at h
  · rename_i b e
    unfold eqB at e
    split at e
    · cases e
      simp only [RV] at rx ry
      subst rx ry
      refine .inl ⟨rfl, ?_⟩
      rename_i i j
      have := h.v R (v := .bl (decide (i = j))) (by simp only [RV])
      simpa using this
    · cases e
      simp only [RV] at rx ry
      subst rx ry
      refine .inl ⟨rfl, ?_⟩
      rename_i i j
      have := h.v R (v := .bl (decide (i = j))) (by simp only [RV])
      simpa using this
    · split at e
      · rename_i d e' h1 h2
        split at e
        · rename_i c
          cases e
          exact .inr ⟨d, e', toD_dp R h1 rx, toD_dp R h2 ry, c.1, c.2, h.v R (by simp only [RV])⟩
        · cases e
      · cases e
  · exact h.elim
theorem opm_ne (hu : X.A.units + 64 < cLine) : OpM X (compareOp .NotEq) gNe := by
  refine ⟨_, op_ne.or (op_neD hu), fun m bs st H x y x' y' Q W R rx ry h => ?_⟩
  unfold gNe at h
  split at h
  · rename_i b e
    unfold eqB at e
    split at e
    · cases e
      simp only [RV] at rx ry
      subst rx ry
      refine .inl ⟨rfl, ?_⟩
      rename_i i j
      have := h.v R (v := .bl (!decide (i = j))) (by simp only [RV])
      simpa using this
    · cases e
      simp only [RV] at rx ry
      subst rx ry
      refine .inl ⟨rfl, ?_⟩
      rename_i i j
      have := h.v R (v := .bl (!decide (i = j))) (by simp only [RV])
      simpa using this
    · split at e
      · rename_i d e' h1 h2
        split at e
        · rename_i c
          cases e
          exact .inr ⟨d, e', toD_dp R h1 rx, toD_dp R h2 ry, c.1, c.2, h.v R (by simp only [RV])⟩
        · cases e
      · cases e
  · exact h.elim
def isNon : IV → Bool
  | .non => true
  | _ => false
/-- is None -/
def gIsN (neg : Bool) : IV → IV → Sto → R IV
  | x, .non, st => .ok (.bl (neg != (isNon x))) st
  | _, _, _ => .bad
theorem rv_non {G : Gd} {m bs : List Addr} {st : Sto} {H : Hp} {x : IV} {v : V} (r : RV G m bs st H x v) : decide (v = .non) = (isNon x) := by
  cases x <;> simp only [RV] at r
  · rw [r]; rfl
  · rw [r]; rfl
  · rw [r]; rfl
  · rw [r]; rfl
  · rw [r]; rfl
  · obtain ⟨a, e, _⟩ := r; rw [e]; rfl
  · obtain ⟨a, _, e, _⟩ := r; rw [e]; rfl
  · obtain ⟨a, _, e, _⟩ := r; rw [e]; rfl
  · obtain ⟨a, _, e, _⟩ := r; rw [e]; rfl
theorem opm_isN : OpM X (compareOp .Is) (gIsN false) := by
  refine ⟨_, op_isN, fun m bs st H x y x' y' Q W R rx ry h => ?_⟩
  cases y with
  | non =>
    simp only [gIsN] at h
    simp only [RV] at ry
    refine ⟨ry, ?_⟩
    rw [rv_non rx]
    have := h.v R (v := .bl (false != isNon x)) (by simp only [RV])
    simpa using this
  | _ => exact h.elim
theorem opm_notN : OpM X (compareOp .IsNot) (gIsN true) := by
  refine ⟨_, op_notN, fun m bs st H x y x' y' Q W R rx ry h => ?_⟩
  cases y with
  | non =>
    simp only [gIsN] at h
    simp only [RV] at ry
    refine ⟨ry, ?_⟩
    rw [rv_non rx]
    have := h.v R (v := .bl (true != isNon x)) (by simp only [RV])
    simpa using this
  | _ => exact h.elim
/-- in -/
def flatI : IV → Bool
  | .non => true
  | .bl _ => true
  | .int _ => true
  | .str _ => true
  | _ => false
def eqI : IV → IV → Bool
  | .non, .non => true
  | .bl a, .bl b => a == b
  | .bl a, .int b => (if a then 1 else 0) == b
  | .int a, .bl b => a == (if b then 1 else 0)
  | .int a, .int b => a == b
  | .str a, .str b => a == b
  | _, _ => false
def inI (x : IV) (xs : List IV) : Bool := xs.any fun y => eqI y x
def vOf : IV → V
  | .bl a => .bl a
  | .int a => .int a
  | .str a => .str a
  | _ => .non
theorem rv_flat {G : Gd} {m bs : List Addr} {st : Sto} {H : Hp} {x : IV} {v : V} (f : flatI x = true) (r : RV G m bs st H x v) : v = vOf x ∧ flatV v = true := by
  cases x <;> simp only [RV] at r <;> first | (subst r; exact ⟨rfl, rfl⟩) | cases f
theorem rvs_flat {G : Gd} {m bs : List Addr} {st : Sto} {H : Hp} : ∀ {xs : List IV} {vs : List V}, xs.all flatI = true → RVs G m bs st H xs vs → vs = xs.map vOf ∧ vs.all flatV = true
  | [], vs, f, r => by simp only [RVs] at r; subst r; exact ⟨rfl, rfl⟩
  | x :: xs, vs, f, r => by
    simp only [RVs] at r
    obtain ⟨v, t, e, r1, r2⟩ := r
    rw [List.all_cons, Bool.and_eq_true] at f
    obtain ⟨e1, f1⟩ := rv_flat f.1 r1
    obtain ⟨e2, f2⟩ := rvs_flat f.2 r2
    subst e
    exact ⟨by rw [List.map_cons, e1, e2], by rw [List.all_cons, f1, f2]; rfl⟩
theorem eqV_of {x y : IV} (fx : flatI x = true) (fy : flatI y = true) : eqV (vOf y) (vOf x) = eqI y x := by
  cases x <;> cases y <;> first | rfl | (simp [flatI] at fx; done) | (simp [flatI] at fy; done)
theorem inV_of {x : IV} (fx : flatI x = true) : ∀ {xs : List IV}, xs.all flatI = true → inV (vOf x) (xs.map vOf) = inI x xs
  | [], _ => rfl
  | y :: ys, f => by
    rw [List.all_cons, Bool.and_eq_true] at f
    have ih := inV_of fx f.2
    unfold inV inI at ih ⊢
    rw [List.map_cons, List.any_cons, List.any_cons, ih, eqV_of fx f.1]
def inB (st : Sto) (x y : IV) : Option Bool := match x, y with
  | .str c, .str z => match c.cps.toList with
    | [k] => some (decide (k ∈ z.cps.toList))
    | _ => none
  | x, y => match asS st y with
    | some ys => if flatI x = true ∧ ys.all flatI = true then some (inI x ys) else none
    | none => none
def gIn (neg : Bool) : IV → IV → Sto → R IV := fun x y st => match inB st x y with
  | some b => .ok (.bl (if neg then !b else b)) st
  | none => .bad
theorem one_cps {c : Str} {k : Nat} (h : c.cps.toList = [k]) : c = ⟨#[k]⟩ := by
  obtain ⟨a⟩ := c
  have : a = #[k] := by
    apply Array.toList_inj.mp
    simpa using h
  rw [this]
theorem opm_in : OpM X (compareOp .In) (gIn false) := by
  refine ⟨_, op_in_sign.or op_in_seq, fun m bs st H x y x' y' Q W R rx ry h => ?_⟩
  unfold gIn at h
  split at h
  · rename_i b e
    unfold inB at e
    split at e
    · split at e
      · rename_i _ c z _ k hk
        cases e
        simp only [RV] at rx ry
        rw [one_cps hk] at rx
        exact .inl ⟨k, z, rx, ry, h.v R (by simp only [RV]; rfl)⟩
      · cases e
    · split at e
      · rename_i ys hy
        split at e
        · rename_i c
          cases e
          obtain ⟨a, vs, ea, hs, r⟩ := asS_sq R hy ry
          obtain ⟨ex, fx⟩ := rv_flat c.1 rx
          obtain ⟨ev, fv⟩ := rvs_flat c.2 r
          refine .inr ⟨a, vs, ea, hs, fx, fv, ?_⟩
          rw [ex, ev, inV_of c.1 c.2]
          exact h.v R (by simp only [RV])
        · cases e
      · cases e
  · exact h.elim
theorem opm_notIn : OpM X (compareOp .NotIn) (gIn true) := by
  refine ⟨_, op_notIn_sign.or op_notIn_seq, fun m bs st H x y x' y' Q W R rx ry h => ?_⟩
  unfold gIn at h
  split at h
  · rename_i b e
    unfold inB at e
    split at e
    · split at e
      · rename_i _ c z _ k hk
        cases e
        simp only [RV] at rx ry
        rw [one_cps hk] at rx
        exact .inl ⟨k, z, rx, ry, h.v R (by simp only [RV]; rfl)⟩
      · cases e
    · split at e
      · rename_i ys hy
        split at e
        · rename_i c
          cases e
          obtain ⟨a, vs, ea, hs, r⟩ := asS_sq R hy ry
          obtain ⟨ex, fx⟩ := rv_flat c.1 rx
          obtain ⟨ev, fv⟩ := rvs_flat c.2 r
          refine .inr ⟨a, vs, ea, hs, fx, fv, ?_⟩
          rw [ex, ev, inV_of c.1 c.2]
          exact h.v R (by simp only [RV])
        · cases e
      · cases e
  · exact h.elim
end
end Mi
set_option Elab.async false
set_option linter.all false
set_option maxRecDepth 100000
set_option maxHeartbeats 4000000
namespace Mi
open PySem PySem.Spec PyProof.Rows L2

section
variable {X : Cx} {W : WX} {xa : Xa} {a b c e : Expr} {A B C : IE} {S T : IT} {pos : Pos} {es rest : List Expr} {As : IA}

/-! ### tests -/
theorem me_chain {op op' : CmpOp} {g g' : IV → IV → Sto → R IV} (ho : OpM X (compareOp op) g) (ho' : OpM X (compareOp op') g') (ha : ME X W xa a A) (hb : ME X W xa b B) (hc : ME X W xa c C)
    (hm : lastMarks [op, op'] [b, c] = false := by with_unfolding_all rfl) : ME X W xa (.Compare a [op, op'] [b, c] pos) (iChain g g' A B C) := by
  obtain ⟨r, hr, k⟩ := ho
  obtain ⟨r', hr', k'⟩ := ho'
  refine PE.weak (pe_chain hr hr' ha hb hc hm) fun σ H Q h => ?_
  obtain ⟨m, os, rs, ρ, st, P, h⟩ := h
  refine ⟨m, os, rs, ρ, st, P, h.bind.mono fun x m1 st1 H1 g1 R1 h1 x' rx => ⟨m1, os, rs, ρ, st1, P.grow g1 R1, h1.bind.mono fun y m2 st2 H2 g2 R2 h2 y' ry =>
    k m2 _ st2 H2 x y x' y' _ _ R2 (RV.fits g2.fitsE _ _ rx) ry (h2.bind.mono fun z m3 st3 H3 g3 R3 h3 z' rz => asB_post (Q := fun k H3 => if k = true then teOf (gd X) W xa C σ H3 fun w' H4 => r' y' w' H4 Q else Q (.bl false) H3) R3 rz (h3.bind.mono fun q m4 st4 H4 g4 R4 h4 q' e => ?_))⟩⟩
  subst e
  cases q with
  | false => exact h4.v R4 (by simp only [RV])
  | true => exact ⟨m4, os, rs, ρ, st4, ((P.grow g1 R1).grow g2 R2 |>.grow g3 R3).grow g4 R4, Pst.mono (Pst.bind h4) fun w m5 st5 H5 g5 R5 h5 w' rw' =>
      k' m5 _ st5 H5 y w y' w' Q _ R5 (RV.fits (((g3.trans g4).trans g5)).fitsE _ _ ry) rw' h5⟩
theorem mt_chain {op op' : CmpOp} {g g' : IV → IV → Sto → R IV} (ho : OpM X (compareOp op) g) (ho' : OpM X (compareOp op') g') (ha : ME X W xa a A) (hb : ME X W xa b B) (hc : ME X W xa c C)
    (hm : lastMarks [op, op'] [b, c] = false := by with_unfolding_all rfl) : MT X W xa (.Compare a [op, op'] [b, c] pos) (iTest (iChain g g' A B C)) := by
  obtain ⟨r, hr, k⟩ := ho
  obtain ⟨r', hr', k'⟩ := ho'
  refine PT.weak (pt_chain hr hr' ha hb hc hm) fun σ H Q h => ?_
  obtain ⟨m, os, rs, ρ, st, P, h⟩ := h
  have h := h.bind
  refine ⟨m, os, rs, ρ, st, P, h.bind.mono fun x m1 st1 H1 g1 R1 h1 x' rx => ⟨m1, os, rs, ρ, st1, P.grow g1 R1, h1.bind.mono fun y m2 st2 H2 g2 R2 h2 y' ry =>
    k m2 _ st2 H2 x y x' y' _ _ R2 (RV.fits g2.fitsE _ _ rx) ry (h2.bind.mono fun z m3 st3 H3 g3 R3 h3 z' rz => asB_post (Q := fun k H3 => if k = true then teOf (gd X) W xa C σ H3 fun w' H4 => r' y' w' H4 fun x H' => ∃ k, x = V.bl k ∧ Q k H' else (fun x H' => ∃ k, x = V.bl k ∧ Q k H') (.bl false) H3) R3 rz (h3.bind.mono fun q m4 st4 H4 g4 R4 h4 q' e => ?_))⟩⟩
  subst e
  cases q with
  | false =>
    show ∃ k, V.bl false = V.bl k ∧ Q k H4
    exact asB_post R4 (x := .bl false) (by simp only [RV]) (h4.ok R4)
  | true => exact ⟨m4, os, rs, ρ, st4, ((P.grow g1 R1).grow g2 R2 |>.grow g3 R3).grow g4 R4, Pst.mono (Pst.bind h4) fun w m5 st5 H5 g5 R5 h5 w' rw' =>
      k' m5 _ st5 H5 y w y' w' _ _ R5 (RV.fits (((g3.trans g4).trans g5)).fitsE _ _ ry) rw' (h5.mono fun v m6 st6 H6 g6 R6 h6 u ru => asB_post R6 ru h6)⟩
abbrev MW (X : Cx) (W : WX) (xa : Xa) (e : Expr) (A : IT) : Prop := PW X e (ttOf (gd X) W xa A)
def iAnd (S T : IT) : IT := fun ρ st => (S ρ st).bind fun c st => if c = true then T ρ st else .ok false st
def iOr (S T : IT) : IT := fun ρ st => (S ρ st).bind fun c st => if c = true then .ok true st else T ρ st
def iNot (S : IT) : IT := fun ρ st => (S ρ st).bind fun c st => .ok (!c) st
theorem mw_and1 (h : MT X W xa a S) : MW X W xa (.BoolOp .And [a] pos) S := pw_and1 h
theorem mw_or1 (h : MT X W xa a S) : MW X W xa (.BoolOp .Or [a] pos) S := pw_or1 h
theorem mw_and (ha : MT X W xa a S) (hb : MW X W xa (.BoolOp .And (b :: rest) pos) T) : MW X W xa (.BoolOp .And (a :: b :: rest) pos) (iAnd S T) := by
  refine PW.weak (pw_and ha hb) fun σ H Q h => ?_
  obtain ⟨m, os, rs, ρ, st, P, h⟩ := h
  refine ⟨m, os, rs, ρ, st, P, h.bind.mono fun x m1 st1 H1 g1 R1 h1 x' e => ?_⟩
  subst e
  cases x with
  | true => exact ⟨m1, os, rs, ρ, st1, P.grow g1 R1, h1⟩
  | false => exact h1.ok R1 _ rfl
theorem mw_or (ha : MT X W xa a S) (hb : MW X W xa (.BoolOp .Or (b :: rest) pos) T) : MW X W xa (.BoolOp .Or (a :: b :: rest) pos) (iOr S T) := by
  refine PW.weak (pw_or ha hb) fun σ H Q h => ?_
  obtain ⟨m, os, rs, ρ, st, P, h⟩ := h
  refine ⟨m, os, rs, ρ, st, P, h.bind.mono fun x m1 st1 H1 g1 R1 h1 x' e => ?_⟩
  subst e
  cases x with
  | true => exact h1.ok R1 _ rfl
  | false => exact ⟨m1, os, rs, ρ, st1, P.grow g1 R1, h1⟩
theorem MW.pt (h : MW X W xa e S) : MT X W xa e S := PW.pt h
theorem mt_not (ha : MT X W xa a S) : MT X W xa (.UnaryOp .Not a pos) (iNot S) := by
  refine PT.weak (pt_not ha) fun σ H Q h => ?_
  obtain ⟨m, os, rs, ρ, st, P, h⟩ := h
  refine ⟨m, os, rs, ρ, st, P, h.bind.mono fun x m1 st1 H1 g1 R1 h1 x' e => ?_⟩
  subst e
  exact h1.ok R1 _ rfl
/-- values: bools -/
def iAndV (A B : IE) : IE := fun ρ st => (A ρ st).bind fun x st => (asB x st).bind fun c st => if c = true then B ρ st else .ok (.bl false) st
def iOrV (A B : IE) : IE := fun ρ st => (A ρ st).bind fun x st => (asB x st).bind fun c st => if c = true then .ok (.bl true) st else B ρ st
def iNotV (A : IE) : IE := fun ρ st => (A ρ st).bind fun x st => (asB x st).bind fun c st => .ok (.bl (!c)) st
theorem me_one {op} (h : ME X W xa a A) : ME X W xa (.BoolOp op [a] pos) A := pe_one h
theorem me_and (ha : ME X W xa a A) (hb : ME X W xa (.BoolOp .And (b :: rest) pos) B) : ME X W xa (.BoolOp .And (a :: b :: rest) pos) (iAndV A B) := by
  refine PE.weak (pe_and ha hb) fun σ H Q h => ?_
  obtain ⟨m, os, rs, ρ, st, P, h⟩ := h
  refine ⟨m, os, rs, ρ, st, P, h.bind.mono fun x m1 st1 H1 g1 R1 h1 x' rx => asB_post (Q := fun c H1 => if c = true then teOf (gd X) W xa B σ H1 Q else Q (.bl false) H1) R1 rx (h1.bind.mono fun c m2 st2 H2 g2 R2 h2 c' e => ?_)⟩
  subst e
  cases c with
  | true => exact ⟨m2, os, rs, ρ, st2, (P.grow g1 R1).grow g2 R2, h2⟩
  | false => exact h2.v R2 (by simp only [RV])
theorem me_or (ha : ME X W xa a A) (hb : ME X W xa (.BoolOp .Or (b :: rest) pos) B) : ME X W xa (.BoolOp .Or (a :: b :: rest) pos) (iOrV A B) := by
  refine PE.weak (pe_or ha hb) fun σ H Q h => ?_
  obtain ⟨m, os, rs, ρ, st, P, h⟩ := h
  refine ⟨m, os, rs, ρ, st, P, h.bind.mono fun x m1 st1 H1 g1 R1 h1 x' rx => asB_post (Q := fun c H1 => if c = true then Q (.bl true) H1 else teOf (gd X) W xa B σ H1 Q) R1 rx (h1.bind.mono fun c m2 st2 H2 g2 R2 h2 c' e => ?_)⟩
  subst e
  cases c with
  | true => exact h2.v R2 (by simp only [RV])
  | false => exact ⟨m2, os, rs, ρ, st2, (P.grow g1 R1).grow g2 R2, h2⟩
theorem me_not (ha : ME X W xa a A) : ME X W xa (.UnaryOp .Not a pos) (iNotV A) := by
  refine PE.weak (pe_not ha) fun σ H Q h => ?_
  obtain ⟨m, os, rs, ρ, st, P, h⟩ := h
  refine ⟨m, os, rs, ρ, st, P, h.bind.mono fun x m1 st1 H1 g1 R1 h1 x' rx => asB_post R1 rx (h1.bind.mono fun c m2 st2 H2 g2 R2 h2 c' e => ?_)⟩
  subst e
  exact h2.v R2 (by simp only [RV])
def iNeg (A : IE) : IE := fun ρ st => (A ρ st).bind fun x st => match x with | .int i => .ok (.int (-i)) st | _ => .bad
theorem me_neg (ha : ME X W xa a A) : ME X W xa (.UnaryOp .USub a pos) (iNeg A) := by
  refine PE.weak (pe_un un_neg ha) fun σ H Q h => ?_
  obtain ⟨m, os, rs, ρ, st, P, h⟩ := h
  refine ⟨m, os, rs, ρ, st, P, h.bind.mono fun x m1 st1 H1 g1 R1 h1 x' rx => ?_⟩
  cases x with
  | int i =>
    simp only [RV] at rx
    exact ⟨i, rx, h1.v R1 (by simp only [RV])⟩
  | _ => exact h1.elim
def iIf (S : IT) (A B : IE) : IE := fun ρ st => (S ρ st).bind fun c st => if c = true then A ρ st else B ρ st
theorem me_if (hc : MT X W xa c S) (ha : ME X W xa a A) (hb : ME X W xa b B) : ME X W xa (.IfExp c a b pos) (iIf S A B) := by
  refine PE.weak (pe_ifExp hc ha hb) fun σ H Q h => ?_
  obtain ⟨m, os, rs, ρ, st, P, h⟩ := h
  refine ⟨m, os, rs, ρ, st, P, h.bind.mono fun x m1 st1 H1 g1 R1 h1 x' e => ?_⟩
  subst e
  cases x with
  | true => exact ⟨m1, os, rs, ρ, st1, P.grow g1 R1, h1⟩
  | false => exact ⟨m1, os, rs, ρ, st1, P.grow g1 R1, h1⟩
/-- truth of a value -/
def truI (st : Sto) : IV → Option Bool
  | .non => some false
  | .bl b => some b
  | .int i => some (i != 0)
  | .str x => if x.length ≤ 100000 then some (x.length != 0) else none
  | x => (asS st x).map fun xs => !xs.isEmpty
def iTru (A : IE) : IT := fun ρ st => (A ρ st).bind fun x st => match truI st x with | some b => .ok b st | none => .bad

/-! ### arguments, displays -/
def iNil : IA := fun _ st => .ok [] st
def iCons (A : IE) (As : IA) : IA := fun ρ st => (A ρ st).bind fun x st => (As ρ st).bind fun xs st => .ok (x :: xs) st
theorem ma_nil : MA X W xa [] iNil := by
  refine PA.weak pa_nil fun σ H Q h => ?_
  obtain ⟨m, os, rs, ρ, st, P, h⟩ := h
  exact Pst.ok P.rel h [] (by simp only [RVs])
theorem ma_cons (ha : ME X W xa a A) (hr : MA X W xa es As) (hs : starEach (a :: es) X.env = (false, eval a X.env) :: starEach es X.env := by rfl) : MA X W xa (a :: es) (iCons A As) := by
  refine PA.weak (pa_cons ha hr hs) fun σ H Q h => ?_
  obtain ⟨m, os, rs, ρ, st, P, h⟩ := h
  refine ⟨m, os, rs, ρ, st, P, h.bind.mono fun x m1 st1 H1 g1 R1 h1 x' rx => ⟨m1, os, rs, ρ, st1, P.grow g1 R1, h1.bind.mono fun xs m2 st2 H2 g2 R2 h2 xs' rxs => ?_⟩⟩
  refine h2.ok R2 _ ?_
  simp only [RVs]
  exact ⟨x', xs', rfl, RV.fits g2.fitsE _ _ rx, rxs⟩
def iTup (As : IA) : IE := fun ρ st => (As ρ st).bind fun xs st => if xs.length ≤ 100000 then .ok (.tup xs) st else .bad
def iLst (As : IA) : IE := fun ρ st => (As ρ st).bind fun xs st => if xs.length ≤ 100000 then .ok (.lst xs) st else .bad
/-- a list that will change -/
def iLstS (As : IA) : IE := fun ρ st => (As ρ st).bind fun xs st => if xs.length ≤ 100000 then .ok (.ref st.length) (st ++ [.lst xs]) else .bad
theorem me_tup {k : Nat} (h : MA X W xa es As) : ME X W xa (.Tuple es k pos) (iTup As) := by
  refine PE.weak (pe_tup h) fun σ H Q h => ?_
  obtain ⟨m, os, rs, ρ, st, P, h⟩ := h
  refine ⟨m, os, rs, ρ, st, P, h.bind.mono fun xs m1 st1 H1 g1 R1 h1 xs' rx => ?_⟩
  split at h1
  · rename_i c
    exact ⟨by rw [← rx.length]; exact szl c, fun p hp => h1.newT R1 rx hp⟩
  · exact h1.elim
theorem me_lst (h : MA X W xa es As) : ME X W xa (.List es pos) (iLst As) := by
  refine PE.weak (pe_lst h) fun σ H Q h => ?_
  obtain ⟨m, os, rs, ρ, st, P, h⟩ := h
  refine ⟨m, os, rs, ρ, st, P, h.bind.mono fun xs m1 st1 H1 g1 R1 h1 xs' rx => ?_⟩
  split at h1
  · rename_i c
    exact ⟨by rw [← rx.length]; exact szl c, fun p hp => h1.newL R1 rx hp⟩
  · exact h1.elim
theorem Pst.newS {G : Gd} {m bs : List Addr} {st : Sto} {H : Hp} {W : Value → Option Addr → Hp → Prop} {o : IO} {u : HO} {Q : VK} (R : Rel G m bs st H) {p : Addr} (hp : H p = none)
    (r : ∀ m' st' H', GrowE m st H m' st' H' → H' p = some u → OR G m' bs st' H' o p)
    (h : Pst G m bs st H W (.ok (.ref st.length) (st ++ [o])) (fun v m' st' H' => ∀ u, RV G m' bs st' H' v u → Q u H')) : Q (.ref p) (upd H p u) := by
  refine h (m ++ [p]) _ (grow_live R hp) (R.live hp (r _ _ _ (grow_live R hp) upd_same)) (.ref p) ?_
  simp only [RV]
  exact ⟨p, rfl, by rw [← R.len, List.getElem?_append_right (Nat.le_refl _)]; simp⟩
theorem me_lstS (h : MA X W xa es As) : ME X W xa (.List es pos) (iLstS As) := by
  refine PE.weak (pe_lst h) fun σ H Q h => ?_
  obtain ⟨m, os, rs, ρ, st, P, h⟩ := h
  refine ⟨m, os, rs, ρ, st, P, h.bind.mono fun xs m1 st1 H1 g1 R1 h1 xs' rx => ?_⟩
  split at h1
  · rename_i c
    exact ⟨by rw [← rx.length]; exact szl c, fun p hp => h1.newS (o := .lst xs) R1 hp fun m' st' H' g e => ⟨_, e, RVs.fits g.fitsE _ _ rx⟩⟩
  · exact h1.elim

/-! ### built-ins by their names -/
def CallM (X : Cx) (f : Value) (g : List IV → Sto → R IV) : Prop :=
  ∃ r, CallR X f r ∧ ∀ m bs st H xs xs' (Q : VK) W, Rel (gd X) m bs st H → RVs (gd X) m bs st H xs xs' → Pst (gd X) m bs st H W (g xs st) (fun v m' st' H' => ∀ u, RV (gd X) m' bs st' H' v u → Q u H') → r xs' H Q
def iCallB (g : List IV → Sto → R IV) (As : IA) : IE := fun ρ st => (As ρ st).bind g
theorem me_callB {g : List IV → Sto → R IV} {id : String} {x : Str} {p : Pos} (hc : CallM X (.builtin id) g) (hg : Gl X x) (hm : X.mg x = none) (hv : bootBuiltins x = some (.builtin id)) (ha : MA X W xa (e :: es) As)
    (hn : x ≠ "__name__" := by decide) (hdb : (x == ("__debug__" : Str)) = false := by decide) (he : starEach (e :: es) X.env = (false, eval e X.env) :: starEach es X.env := by rfl) (hpl : (backTo pos (starEach es X.env)).any (·.1) = false := by rfl) :
    ME X W xa (.Call (.Name x p) (e :: es) [] pos) (iCallB g As) := by
  obtain ⟨r, hr, k⟩ := hc
  refine PE.weak (pe_callB hr hg hm hv ha hn hdb he hpl) fun σ H Q h => ?_
  obtain ⟨m, os, rs, ρ, st, P, h⟩ := h
  exact ⟨m, os, rs, ρ, st, P, h.bind.mono fun xs m1 st1 H1 g1 R1 h1 xs' rx => k m1 _ st1 H1 xs xs' Q _ R1 rx h1⟩
theorem me_callTy {g : List IV → Sto → R IV} {T : String} {x : Str} {p : Pos} (hc : CallM X (.type T) g) (hg : Gl X x) (hm : X.mg x = none) (hv : bootBuiltins x = some (.type T)) (ha : MA X W xa (e :: es) As)
    (hn : x ≠ "__name__" := by decide) (hdb : (x == ("__debug__" : Str)) = false := by decide) (he : starEach (e :: es) X.env = (false, eval e X.env) :: starEach es X.env := by rfl) (hpl : (backTo pos (starEach es X.env)).any (·.1) = false := by rfl) :
    ME X W xa (.Call (.Name x p) (e :: es) [] pos) (iCallB g As) := by
  obtain ⟨r, hr, k⟩ := hc
  refine PE.weak (pe_callTy hr hg hm hv ha hn hdb he hpl) fun σ H Q h => ?_
  obtain ⟨m, os, rs, ρ, st, P, h⟩ := h
  exact ⟨m, os, rs, ρ, st, P, h.bind.mono fun xs m1 st1 H1 g1 R1 h1 xs' rx => k m1 _ st1 H1 xs xs' Q _ R1 rx h1⟩
theorem rvs1 {G : Gd} {m bs : List Addr} {st : Sto} {H : Hp} {x : IV} {vs : List V} (r : RVs G m bs st H [x] vs) : ∃ v, vs = [v] ∧ RV G m bs st H x v := by
  simp only [RVs] at r
  obtain ⟨v, t, e, h, e2⟩ := r
  subst e2
  exact ⟨v, e, h⟩
theorem rvs2 {G : Gd} {m bs : List Addr} {st : Sto} {H : Hp} {x y : IV} {vs : List V} (r : RVs G m bs st H [x, y] vs) : ∃ v w, vs = [v, w] ∧ RV G m bs st H x v ∧ RV G m bs st H y w := by
  simp only [RVs] at r
  obtain ⟨v, t, e, h, w, t2, e2, h2, e3⟩ := r
  subst e3 e2
  exact ⟨v, w, e, h, h2⟩
def gAbs : List IV → Sto → R IV
  | [.int i], st => .ok (.int i.natAbs) st
  | _, _ => .bad
theorem cm_abs : CallM X (.builtin "abs") gAbs := by
  refine ⟨_, call_abs, fun m bs st H xs xs' Q W R rx h => ?_⟩
  unfold gAbs at h
  split at h
  · rename_i i
    obtain ⟨v, e, r⟩ := rvs1 rx
    simp only [RV] at r
    subst r
    refine ⟨i, e, ?_⟩
    have e : (if i < 0 then -i else i) = (i.natAbs : Int) := by split <;> omega
    rw [e]
    exact h.v R (by simp only [RV])
  · exact h.elim
def gMax : List IV → Sto → R IV
  | [.int i, .int j], st => .ok (.int (max i j)) st
  | _, _ => .bad
def gMin : List IV → Sto → R IV
  | [.int i, .int j], st => .ok (.int (min i j)) st
  | _, _ => .bad
theorem cm_max (hc : X.calm = true) : CallM X (.builtin "max") gMax := by
  refine ⟨_, call_max2 hc, fun m bs st H xs xs' Q W R rx h => ?_⟩
  unfold gMax at h
  split at h
  · rename_i i j
    obtain ⟨v, w, e, r1, r2⟩ := rvs2 rx
    simp only [RV] at r1 r2
    subst r1 r2
    refine ⟨i, j, e, ?_⟩
    have e : (if j > i then j else i) = max i j := by split <;> omega
    rw [e]
    exact h.v R (by simp only [RV])
  · exact h.elim
theorem cm_min (hc : X.calm = true) : CallM X (.builtin "min") gMin := by
  refine ⟨_, call_min2 hc, fun m bs st H xs xs' Q W R rx h => ?_⟩
  unfold gMin at h
  split at h
  · rename_i i j
    obtain ⟨v, w, e, r1, r2⟩ := rvs2 rx
    simp only [RV] at r1 r2
    subst r1 r2
    refine ⟨i, j, e, ?_⟩
    have e : (if j < i then j else i) = min i j := by split <;> omega
    rw [e]
    exact h.v R (by simp only [RV])
  · exact h.elim
def gInt : List IV → Sto → R IV
  | [.int i], st => .ok (.int i) st
  | [.bl b], st => .ok (.int (if b then 1 else 0)) st
  | _, _ => .bad
theorem cm_int : CallM X (.type "int") gInt := by
  refine ⟨_, call_int1, fun m bs st H xs xs' Q W R rx h => ?_⟩
  unfold gInt at h
  split at h
  · obtain ⟨v, e, r⟩ := rvs1 rx
    simp only [RV] at r
    subst r
    exact .inl ⟨_, e, h.v R (by simp only [RV])⟩
  · obtain ⟨v, e, r⟩ := rvs1 rx
    simp only [RV] at r
    subst r
    exact .inr ⟨_, e, h.v R (by simp only [RV])⟩
  · exact h.elim
/-- str of an int of at most 560 digits, of a text -/
def gStr : List IV → Sto → R IV
  | [.int i], st => if i.natAbs ≤ 10000000000000000000000000000000000000000000000000000000000000000 then .ok (.str (toString i : String)) st else .bad
  | [.str x], st => .ok (.str x) st
  | _, _ => .bad
theorem log2_str {i : Int} (h : i.natAbs ≤ 10000000000000000000000000000000000000000000000000000000000000000) : i.natAbs.log2 < 1920 := by
  have h2 : i.natAbs < 2 ^ 250 := Nat.lt_of_le_of_lt h (by decide +kernel)
  exact Nat.lt_of_lt_of_le (PySem.Flt.log2_lt_of (by decide) h2) (by decide)
def gLen : List IV → Sto → R IV
  | [.str x], st => if x.length ≤ 100000 then .ok (.int x.length) st else .bad
  | [x], st => match asS st x with
    | some xs => .ok (.int xs.length) st
    | none => .bad
  | _, _ => .bad
theorem cm_len : CallM X (.builtin "len") gLen := by
  refine ⟨_, call_len_str.or call_len_seq, fun m bs st H xs xs' Q W R rx h => ?_⟩
  unfold gLen at h
  split at h
  · obtain ⟨v, e, r⟩ := rvs1 rx
    simp only [RV] at r
    subst r
    split at h
    · rename_i c
      exact .inl ⟨_, e, szl c, h.v R (by simp only [RV])⟩
    · exact h.elim
  · split at h
    · rename_i ys hy
      obtain ⟨v, e, r⟩ := rvs1 rx
      obtain ⟨a, vs, ea, hs, r2⟩ := asS_sq R hy r
      subst ea
      refine .inr ⟨a, vs, e, hs, ?_⟩
      rw [← r2.length]
      exact h.v R (by simp only [RV])
    · exact h.elim
  · exact h.elim
def gList : List IV → Sto → R IV
  | [x], st => match asS st x with
    | some xs => .ok (.lst xs) st
    | none => .bad
  | _, _ => .bad
def gListS : List IV → Sto → R IV
  | [x], st => match asS st x with
    | some xs => .ok (.ref st.length) (st ++ [.lst xs])
    | none => .bad
  | _, _ => .bad
theorem cm_list : CallM X (.type "list") gList := by
  refine ⟨_, call_list_of, fun m bs st H xs xs' Q W R rx h => ?_⟩
  unfold gList at h
  split at h
  · split at h
    · rename_i ys hy
      obtain ⟨v, e, r⟩ := rvs1 rx
      obtain ⟨a, vs, ea, hs, r2⟩ := asS_sq R hy r
      subst ea
      exact ⟨a, vs, e, hs, fun l hl => h.newL R r2 hl⟩
    · exact h.elim
  · exact h.elim
theorem cm_listS : CallM X (.type "list") gListS := by
  refine ⟨_, call_list_of, fun m bs st H xs xs' Q W R rx h => ?_⟩
  unfold gListS at h
  split at h
  · split at h
    · rename_i ys hy
      obtain ⟨v, e, r⟩ := rvs1 rx
      obtain ⟨a, vs, ea, hs, r2⟩ := asS_sq R hy r
      subst ea
      exact ⟨a, vs, e, hs, fun l hl => h.newS (o := .lst ys) R hl fun m' st' H' g e => ⟨_, e, RVs.fits g.fitsE _ _ r2⟩⟩
    · exact h.elim
  · exact h.elim
def gTuple : List IV → Sto → R IV
  | [x], st => match asS st x with
    | some xs => .ok (.tup xs) st
    | none => .bad
  | _, _ => .bad
theorem cm_tuple : CallM X (.type "tuple") gTuple := by
  refine ⟨_, call_tuple_of, fun m bs st H xs xs' Q W R rx h => ?_⟩
  unfold gTuple at h
  split at h
  · rename_i x
    split at h
    · rename_i ys hy
      obtain ⟨v, e, r⟩ := rvs1 rx
      cases x with
      | tup zs =>
        cases hy
        obtain ⟨a, vs, ea, hs, r'⟩ := asT_sq (x := .tup ys) rfl r
        subst ea
        exact ⟨a, vs, e, .inr ⟨hs, h.v R r⟩⟩
      | lst zs =>
        obtain ⟨a, vs, ea, hs, r'⟩ := asL_sq (x := .lst zs) R hy r
        subst ea
        exact ⟨a, vs, e, .inl ⟨hs, fun l hl => h.newT R r' hl⟩⟩
      | ref l =>
        obtain ⟨a, vs, ea, hs, r'⟩ := asL_sq (x := .ref l) R hy r
        subst ea
        exact ⟨a, vs, e, .inl ⟨hs, fun l hl => h.newT R r' hl⟩⟩
      | _ => cases hy
    · exact h.elim
  · exact h.elim
def blsOf : List IV → Option (List Bool)
  | [] => some []
  | .bl b :: r => (blsOf r).map fun t => b :: t
  | _ => none
theorem blsOf_vs {G : Gd} {m bs : List Addr} {st : Sto} {H : Hp} : ∀ {xs : List IV} {vs : List V} {ks : List Bool}, blsOf xs = some ks → RVs G m bs st H xs vs → vs = ks.map V.bl
  | [], vs, ks, e, r => by cases e; simp only [RVs] at r; exact r
  | .bl b :: xs, vs, ks, e, r => by
    simp only [blsOf, Option.map_eq_some_iff] at e
    obtain ⟨t, e1, e2⟩ := e
    subst e2
    simp only [RVs, RV] at r
    obtain ⟨v, w, e3, e4, r⟩ := r
    rw [e3, e4, blsOf_vs e1 r]; rfl
def gAll : List IV → Sto → R IV
  | [x], st => match (asL st x).bind blsOf with
    | some ks => .ok (.bl (ks.all id)) st
    | none => .bad
  | _, _ => .bad
def gAny : List IV → Sto → R IV
  | [x], st => match (asL st x).bind blsOf with
    | some ks => .ok (.bl (ks.any id)) st
    | none => .bad
  | _, _ => .bad
theorem cm_all (hc : X.calm = true) : CallM X (.builtin "all") gAll := by
  refine ⟨_, cr_all hc, fun m bs st H xs xs' Q W R rx h => ?_⟩
  unfold gAll at h
  split at h
  · split at h
    · rename_i ks hk
      simp only [Option.bind_eq_some_iff] at hk
      obtain ⟨ys, h1, h2⟩ := hk
      obtain ⟨v, e, r⟩ := rvs1 rx
      obtain ⟨a, vs, ea, hs, r2⟩ := asL_sq R h1 r
      subst ea
      exact ⟨a, ks, e, by rw [← blsOf_vs h2 r2]; exact hs, h.v R (by simp only [RV])⟩
    · exact h.elim
  · exact h.elim
theorem cm_any (hc : X.calm = true) : CallM X (.builtin "any") gAny := by
  refine ⟨_, cr_any hc, fun m bs st H xs xs' Q W R rx h => ?_⟩
  unfold gAny at h
  split at h
  · split at h
    · rename_i ks hk
      simp only [Option.bind_eq_some_iff] at hk
      obtain ⟨ys, h1, h2⟩ := hk
      obtain ⟨v, e, r⟩ := rvs1 rx
      obtain ⟨a, vs, ea, hs, r2⟩ := asL_sq R h1 r
      subst ea
      exact ⟨a, ks, e, by rw [← blsOf_vs h2 r2]; exact hs, h.v R (by simp only [RV])⟩
    · exact h.elim
  · exact h.elim
theorem cm_str : CallM X (.type "str") gStr := by
  refine ⟨_, call_str_int.or SkE.call_str_str, fun m bs st H xs xs' Q W R rx h => ?_⟩
  unfold gStr at h
  split at h
  · obtain ⟨v, e, r⟩ := rvs1 rx
    simp only [RV] at r
    subst r
    split at h
    · rename_i c
      exact .inl ⟨_, e, log2_str c, h.v R (by simp only [RV])⟩
    · exact h.elim
  · obtain ⟨v, e, r⟩ := rvs1 rx
    simp only [RV] at r
    subst r
    exact .inr ⟨_, e, h.v R (by simp only [RV])⟩
  · exact h.elim

/-! ### items, slices -/
def gIx : IV → IV → Sto → R IV
  | x, .int i, st => match x with
    | .str z => if z.length ≤ 100000 then (match atI z.cps.toList i with | some c => .ok (.str ⟨#[c]⟩) st | none => .bad) else .bad
    | x => match asS st x with
      | some xs => (match atI xs i with | some v => .ok v st | none => .bad)
      | none => .bad
  | _, _, _ => .bad
theorem atI_rel {G : Gd} {m bs : List Addr} {st : Sto} {H : Hp} {xs : List IV} {vs : List V} {i : Int} {x : IV} (r : RVs G m bs st H xs vs) (e : atI xs i = some x) : ∃ v, atI vs i = some v ∧ RV G m bs st H x v := by
  unfold atI at e ⊢
  rw [← r.length]
  cases hn : ixN xs.length i with
  | none => rw [hn] at e; cases e
  | some j =>
    rw [hn] at e
    exact r.get e
def iIx (A B : IE) : IE := fun ρ st => (A ρ st).bind fun x st => (B ρ st).bind fun y st => gIx x y st
theorem me_ix (ha : ME X W xa a A) (hb : ME X W xa b B) (hs : PlainIx b := by exact fun _ _ => rfl) : ME X W xa (.Subscript a b pos) (iIx A B) := by
  refine PE.weak (pe_ix ix_seq ha hb hs) fun σ H Q h => ?_
  obtain ⟨m, os, rs, ρ, st, P, h⟩ := h
  refine ⟨m, os, rs, ρ, st, P, h.bind.mono fun x m1 st1 H1 g1 R1 h1 x' rx => ⟨m1, os, rs, ρ, st1, P.grow g1 R1, h1.bind.mono fun y m2 st2 H2 g2 R2 h2 y' ry => ?_⟩⟩
  have rx := RV.fits g2.fitsE _ _ rx
  unfold gIx at h2
  split at h2
  · simp only [RV] at ry
    split at h2
    · simp only [RV] at rx
      split at h2
      · rename_i c
        split at h2
        · rename_i k hk
          exact .inr (.inr ⟨_, _, k, rx, ry, szl c, hk, h2.v R2 (by simp only [RV])⟩)
        · exact h2.elim
      · exact h2.elim
    · split at h2
      · rename_i xs hx
        split at h2
        · rename_i v hv
          obtain ⟨p, vs, ep, hs, r⟩ := asS_sq R2 hx rx
          obtain ⟨w, e1, e2⟩ := atI_rel r hv
          rcases hs with hs | hs
          · exact .inl ⟨p, vs, _, w, ep, ry, hs, e1, h2.v R2 e2⟩
          · exact .inr (.inl ⟨p, vs, _, w, ep, ry, hs, e1, h2.v R2 e2⟩)
        · exact h2.elim
      · exact h2.elim
  · exact h2.elim
abbrev IO' := Slots → Sto → R (Option Int)
def iNoPart : IO' := fun _ st => .ok none st
def iPart (A : IE) : IO' := fun ρ st => (A ρ st).bind fun x st => match x with | .int i => .ok (some i) st | _ => .bad
abbrev MO (X : Cx) (W : WX) (xa : Xa) (e : Option Expr) (A : IO') : Prop := PO X e (rd (fun _ _ _ _ a b => a = b) (gd X) W xa A)
theorem PO.weak {X : Cx} {e : Option Expr} {t t' : TO} (h : PO X e t) (k : ∀ σ H Q, t' σ H Q → t σ H Q) : PO X e t' := ⟨fun pins s σ H Q I q => h.run pins s σ H Q I (k σ H Q q)⟩
theorem mo_none : MO X W xa none iNoPart := by
  refine PO.weak po_none fun σ H Q h => ?_
  obtain ⟨m, os, rs, ρ, st, P, h⟩ := h
  exact Pst.ok P.rel h _ rfl
theorem mo_some (ha : ME X W xa a A) : MO X W xa (some a) (iPart A) := by
  refine PO.weak (po_some ha) fun σ H Q h => ?_
  obtain ⟨m, os, rs, ρ, st, P, h⟩ := h
  refine ⟨m, os, rs, ρ, st, P, h.bind.mono fun x m1 st1 H1 g1 R1 h1 x' rx => ?_⟩
  cases x with
  | int i =>
    simp only [RV] at rx
    exact ⟨i, rx, h1.ok R1 _ rfl⟩
  | _ => exact h1.elim
def cutI {α : Type} (xs : List α) (lo hi : Option Int) : List α := (xs.drop (HT.sIx xs.length 0 lo)).take (HT.sIx xs.length xs.length hi - HT.sIx xs.length 0 lo)
theorem cutI_rel {G : Gd} {m bs : List Addr} {st : Sto} {H : Hp} {xs : List IV} {vs : List V} (r : RVs G m bs st H xs vs) (lo hi : Option Int) : RVs G m bs st H (cutI xs lo hi) (cutV vs lo hi) := by
  unfold cutI cutV
  rw [← r.length]
  exact (r.drop _).take _
def gCut : IV → Option Int → Option Int → Sto → R IV
  | .str z, lo, hi, st => if z.length ≤ 100000 then .ok (.str (cutS z lo hi)) st else .bad
  | .tup xs, lo, hi, st => .ok (.tup (cutI xs lo hi)) st
  | x, lo, hi, st => match asL st x with
    | some xs => .ok (.lst (cutI xs lo hi)) st
    | none => .bad
def iCut (A : IE) (L U : IO') : IE := fun ρ st => (A ρ st).bind fun x st => (L ρ st).bind fun lo st => (U ρ st).bind fun hi st => gCut x lo hi st
theorem me_cut {lo hi : Option Expr} {L U : IO'} {p2 : Pos} (ha : ME X W xa a A) (hl : MO X W xa lo L) (hh : MO X W xa hi U) : ME X W xa (.Subscript a (.Slice lo hi none p2) pos) (iCut A L U) := by
  refine PE.weak (pe_slice (sl_str.or (sl_tupA.or sl_list)) ha hl hh) fun σ H Q h => ?_
  obtain ⟨m, os, rs, ρ, st, P, h⟩ := h
  refine ⟨m, os, rs, ρ, st, P, h.bind.mono fun x m1 st1 H1 g1 R1 h1 x' rx => ⟨m1, os, rs, ρ, st1, P.grow g1 R1, h1.bind.mono fun l m2 st2 H2 g2 R2 h2 l' el =>
    ⟨m2, os, rs, ρ, st2, (P.grow g1 R1).grow g2 R2, h2.bind.mono fun u m3 st3 H3 g3 R3 h3 u' eu => ?_⟩⟩⟩
  subst el eu
  have rx := RV.fits (g2.trans g3).fitsE _ _ rx
  have fin : ∀ {xs : List IV}, asL st3 x = some xs → Pst (gd X) m3 (os ++ rs) st3 H3 (fun cls d H' => W cls d σ H') (.ok (.lst (cutI xs l u)) st3) (fun v m' st' H' => ∀ u, RV (gd X) m' (os ++ rs) st' H' v u → Q u H') → rSlL X.K x' l u H3 Q := fun {xs} hx h3 => by
    obtain ⟨p, vs, ep, hs, r⟩ := asL_sq R3 hx rx
    exact ⟨p, vs, ep, hs, fun p hp => h3.newL R3 (cutI_rel r _ _) hp⟩
  cases x with
  | str z =>
    simp only [gCut] at h3
    simp only [RV] at rx
    split at h3
    · rename_i c
      exact .inl ⟨_, rx, szl c, h3.v R3 (by simp only [RV])⟩
    · exact h3.elim
  | tup xs =>
    simp only [gCut] at h3
    obtain ⟨p, vs, ep, hs, r⟩ := asT_sq (x := .tup xs) rfl rx
    refine .inr (.inl ⟨p, vs, ep, hs, fun z => ?_, fun z p hp => h3.newT R3 (cutI_rel r _ _) hp⟩)
    have e : cutI xs l u = xs := by
      unfold cutI
      rw [r.length, z.1, z.2, List.drop_zero, Nat.sub_zero, ← r.length, List.take_length]
    rw [e] at h3
    rw [← ep]
    exact h3.v R3 rx
  | lst ys => exact .inr (.inr (fin rfl h3))
  | ref n =>
    simp only [gCut] at h3
    split at h3
    · rename_i xs hx
      exact .inr (.inr (fin hx h3))
    · exact h3.elim
  | _ => exact h3.elim
end
end Mi
set_option Elab.async false
set_option linter.all false
set_option maxRecDepth 100000
set_option maxHeartbeats 4000000
namespace Mi
open PySem PySem.Spec PyProof.Rows L2

def RS.ofR {α : Type} (r : R α) (ρ : Slots) (k : α → Sto → RS) : RS := match r with
  | .ok a st => k a st
  | .exc c fs st => .exc c fs ρ st
  | .bad => .bad
def RS.seq (r : RS) (B : IS) : RS := match r with
  | .nx ρ st => B ρ st
  | r => r
def PstS (G : Gd) (xa : Xa) (m os rs : List Addr) (st : Sto) (H : Hp) (W : WX) (D : Ends) (r : RS) : Prop := match r with
  | .nx ρ' st' => ∀ m' os' H' σ', Grow m st os H m' st' os' H' → Pre G xa σ' H' m' os' rs ρ' st' → D.nx σ' H'
  | .bk ρ' st' => ∀ m' os' H' σ', Grow m st os H m' st' os' H' → Pre G xa σ' H' m' os' rs ρ' st' → D.bk σ' H'
  | .ct ρ' st' => ∀ m' os' H' σ', Grow m st os H m' st' os' H' → Pre G xa σ' H' m' os' rs ρ' st' → D.ct σ' H'
  | .rt v st' => ∀ m' os' H' u, Grow m st os H m' st' os' H' → Rel G m' (os' ++ rs) st' H' → RV G m' (os' ++ rs) st' H' v u → D.rt u H'
  | .exc c fs ρ' st' => ∀ m' os' H' σ' cls d, Grow m st os H m' st' os' H' → Pre G xa σ' H' m' os' rs ρ' st' → XR G m' (os' ++ rs) st' H' c fs cls d → W cls d σ' H'
  | .bad => False
def tsOf (G : Gd) (W : WX) (xa : Xa) (A : IS) : TS := fun D σ H => ∃ m os rs ρ st, Pre G xa σ H m os rs ρ st ∧ PstS G xa m os rs st H W D (A ρ st)
abbrev MS (X : Cx) (W : WX) (xa : Xa) (s : Stmt) (A : IS) : Prop := PS X s (tsOf (gd X) W xa A)
abbrev MSs (X : Cx) (W : WX) (xa : Xa) (s : List Stmt) (A : IS) : Prop := PSs X s (tsOf (gd X) W xa A)

section
variable {G : Gd} {xa : Xa} {m os rs bs : List Addr} {st : Sto} {H : Hp} {W W' : WX} {D D' : Ends} {σ : L2.St} {ρ : Slots} {α : Type}
theorem PstS.shift {r : RS} {m1 os1 : List Addr} {st1 : Sto} {H1 : Hp} (g : Grow m st os H m1 st1 os1 H1) (h : PstS G xa m os rs st H W D r) : PstS G xa m1 os1 rs st1 H1 W D r := by
  cases r with
  | nx ρ' st' => exact fun m' os' H' σ' g' P => h m' os' H' σ' (g.trans g') P
  | bk ρ' st' => exact fun m' os' H' σ' g' P => h m' os' H' σ' (g.trans g') P
  | ct ρ' st' => exact fun m' os' H' σ' g' P => h m' os' H' σ' (g.trans g') P
  | rt v st' => exact fun m' os' H' u g' R r => h m' os' H' u (g.trans g') R r
  | exc c fs ρ' st' => exact fun m' os' H' σ' cls d g' P x => h m' os' H' σ' cls d (g.trans g') P x
  | bad => exact h
theorem PstS.mono {r : RS} (h : PstS G xa m os rs st H W D r) (hn : ∀ σ H, D.nx σ H → D'.nx σ H) (hr : ∀ v H, D.rt v H → D'.rt v H) (hb : ∀ σ H, D.bk σ H → D'.bk σ H) (hc : ∀ σ H, D.ct σ H → D'.ct σ H) : PstS G xa m os rs st H W D' r := by
  cases r with
  | nx ρ' st' => exact fun m' os' H' σ' g' P => hn _ _ (h m' os' H' σ' g' P)
  | bk ρ' st' => exact fun m' os' H' σ' g' P => hb _ _ (h m' os' H' σ' g' P)
  | ct ρ' st' => exact fun m' os' H' σ' g' P => hc _ _ (h m' os' H' σ' g' P)
  | rt v st' => exact fun m' os' H' u g' R r => hr _ _ (h m' os' H' u g' R r)
  | exc c fs ρ' st' => exact h
  | bad => exact h
theorem PstS.ofR {r : R α} {k : α → Sto → RS} (P : Pre G xa σ H m os rs ρ st) (h : PstS G xa m os rs st H W D (RS.ofR r ρ k)) :
    Pst G m (os ++ rs) st H (fun cls d H' => W cls d σ H') r (fun a m1 st1 H1 => PstS G xa m1 os rs st1 H1 W D (k a st1)) := by
  cases r with
  | ok a st' =>
    have h' : PstS G xa m os rs st H W D (k a st') := h
    exact fun m' H' g R => h'.shift (.ofE g)
  | exc c fs st' => exact fun m' H' cls d g R x => h m' os H' σ cls d (.ofE g) (P.grow g R) x
  | bad => exact h
theorem PstS.here {ρ' : Slots} {σ' : L2.St} (h : PstS G xa m os rs st H W D (.nx ρ' st)) (P : Pre G xa σ' H m os rs ρ' st) : D.nx σ' H := h m os H σ' .refl P

theorem Pre.set {x : IV} {v : V} {i : Nat} (P : Pre G xa σ H m os rs ρ st) (r : RV G m (os ++ rs) st H x v) : Pre G xa (σ.set i (some v)) H m os rs (ρ.set i (some (.v x))) st := by
  refine ⟨P.rel, by simp [P.re.len], fun j y e => ?_, fun j xs e => ?_, fun j k xs ys w e1 e2 e3 e4 => ?_⟩
  · by_cases hj : i = j
    · subst hj
      have hl : i < ρ.length := by
        have := (List.getElem?_eq_some_iff.mp e).1
        simpa using this
      rw [List.getElem?_set_self hl] at e
      cases e
      exact ⟨v, by rw [List.getElem?_set_self (by rw [← P.re.len]; exact hl)], r⟩
    · rw [List.getElem?_set_ne hj] at e
      obtain ⟨w, e1, r1⟩ := P.re.at_ j y e
      exact ⟨w, by rw [List.getElem?_set_ne hj]; exact e1, r1⟩
  · by_cases hj : i = j
    · subst hj
      have hl : i < ρ.length := by
        have := (List.getElem?_eq_some_iff.mp e).1
        simpa using this
      rw [List.getElem?_set_self hl] at e
      cases e
    · rw [List.getElem?_set_ne hj] at e
      obtain ⟨a, e1, r1⟩ := P.re.own j xs e
      exact ⟨a, by rw [List.getElem?_set_ne hj]; exact e1, r1⟩
  · have key : ∀ {j : Nat} {xs : List IV}, (ρ.set i (some (.v x)))[j]? = some (some (.own xs)) → i ≠ j := fun {j xs} e hj => by
      subst hj
      have hl : i < ρ.length := by
        have := (List.getElem?_eq_some_iff.mp e).1
        simpa using this
      rw [List.getElem?_set_self hl] at e
      cases e
    have n1 := key e1
    have n2 := key e2
    rw [List.getElem?_set_ne n1] at e1 e3
    rw [List.getElem?_set_ne n2] at e2 e4
    exact P.re.uniq j k xs ys w e1 e2 e3 e4
theorem Pre.setN {i : Nat} (P : Pre G xa σ H m os rs ρ st) {w : Option V} : Pre G xa (σ.set i w) H m os rs (ρ.set i none) st := by
  have key : ∀ {j : Nat} {y : SV}, (ρ.set i none)[j]? = some (some y) → i ≠ j := fun {j y} e hj => by
    subst hj
    have hl : i < ρ.length := by
      have := (List.getElem?_eq_some_iff.mp e).1
      simpa using this
    rw [List.getElem?_set_self hl] at e
    cases e
  refine ⟨P.rel, by simp [P.re.len], fun j y e => ?_, fun j xs e => ?_, fun j k xs ys w e1 e2 e3 e4 => ?_⟩
  · have hj := key e
    rw [List.getElem?_set_ne hj] at e
    obtain ⟨w, e1, r1⟩ := P.re.at_ j y e
    exact ⟨w, by rw [List.getElem?_set_ne hj]; exact e1, r1⟩
  · have hj := key e
    rw [List.getElem?_set_ne hj] at e
    obtain ⟨a, e1, r1⟩ := P.re.own j xs e
    exact ⟨a, by rw [List.getElem?_set_ne hj]; exact e1, r1⟩
  · have n1 := key e1
    have n2 := key e2
    rw [List.getElem?_set_ne n1] at e1 e3
    rw [List.getElem?_set_ne n2] at e2 e4
    exact P.re.uniq j k xs ys _ e1 e2 e3 e4
end

section
variable {X : Cx} {W : WX} {xa : Xa} {a b c e : Expr} {A B C : IE} {S T : IT} {pos : Pos} {es rest : List Expr} {As : IA} {s : Stmt} {ss us : List Stmt} {I J : IS}

/-! ### blocks -/
def iSkip : IS := fun ρ st => .nx ρ st
def iSeq (I J : IS) : IS := fun ρ st => (I ρ st).seq J
theorem mss_nil : MSs X W xa [] iSkip := by
  refine PSs.weak pss_nil fun D σ H h => ?_
  obtain ⟨m, os, rs, ρ, st, P, h⟩ := h
  exact h.here P
theorem seq_weak {D : Ends} {σ : L2.St} {H : Hp} (h : tsOf (gd X) W xa (iSeq I J) D σ H) : tsOf (gd X) W xa I { D with nx := tsOf (gd X) W xa J D } σ H := by
  obtain ⟨m, os, rs, ρ, st, P, h⟩ := h
  refine ⟨m, os, rs, ρ, st, P, ?_⟩
  unfold iSeq RS.seq at h
  cases r : I ρ st with
  | nx ρ' st' =>
    rw [r] at h
    exact fun m' os' H' σ' g P' => ⟨m', os', rs, ρ', st', P', PstS.shift g h⟩
  | bk ρ' st' => rw [r] at h; exact h
  | ct ρ' st' => rw [r] at h; exact h
  | rt v st' => rw [r] at h; exact h
  | exc c fs ρ' st' => rw [r] at h; exact h
  | bad => rw [r] at h; exact h
theorem mss_cons (h1 : MS X W xa s I) (h2 : MSs X W xa ss J) : MSs X W xa (s :: ss) (iSeq I J) := PSs.weak (pss_cons h1 h2) fun D σ H h => seq_weak h
theorem mss_one (h1 : MS X W xa s I) : MSs X W xa [s] I := pss_one h1
theorem ms_pass : MS X W xa (.Pass pos) iSkip := by
  refine PS.weak ps_pass fun D σ H h => ?_
  obtain ⟨m, os, rs, ρ, st, P, h⟩ := h
  exact h.here P
def iBreak : IS := fun ρ st => .bk ρ st
def iCont : IS := fun ρ st => .ct ρ st
theorem ms_break : MS X W xa (.Break pos) iBreak := by
  refine PS.weak ps_break fun D σ H h => ?_
  obtain ⟨m, os, rs, ρ, st, P, h⟩ := h
  exact h m os H σ .refl P
theorem ms_continue : MS X W xa (.Continue pos) iCont := by
  refine PS.weak ps_continue fun D σ H h => ?_
  obtain ⟨m, os, rs, ρ, st, P, h⟩ := h
  exact h m os H σ .refl P
def iDrop (A : IE) : IS := fun ρ st => RS.ofR (A ρ st) ρ fun _ st => .nx ρ st
theorem ms_expr (ha : ME X W xa a A) (hs : swapsWith a none pos.line X.env = pure false := by rfl) : MS X W xa (.Expr a pos) (iDrop A) := by
  refine PS.weak (ps_expr ha hs) fun D σ H h => ?_
  obtain ⟨m, os, rs, ρ, st, P, h⟩ := h
  exact ⟨m, os, rs, ρ, st, P, (h.ofR P).mono fun v m1 st1 H1 g1 R1 h1 u ru => h1.here (P.grow g1 R1)⟩
def iRet (A : IE) : IS := fun ρ st => RS.ofR (A ρ st) ρ fun v st => .rt v st
theorem ms_ret (ha : ME X W xa a A) : MS X W xa (.Return (some a) pos) (iRet A) := by
  refine PS.weak (ps_ret ha) fun D σ H h => ?_
  obtain ⟨m, os, rs, ρ, st, P, h⟩ := h
  exact ⟨m, os, rs, ρ, st, P, (h.ofR P).mono fun v m1 st1 H1 g1 R1 h1 u ru => h1 m1 os H1 u .refl R1 ru⟩
def iRetN : IS := fun _ st => .rt .non st
theorem ms_retN : MS X W xa (.Return none pos) iRetN := by
  refine PS.weak ps_retN fun D σ H h => ?_
  obtain ⟨m, os, rs, ρ, st, P, h⟩ := h
  exact h m os H .non .refl P.rel (by simp only [RV])
def iIfS (S : IT) (I J : IS) : IS := fun ρ st => RS.ofR (S ρ st) ρ fun b st => if b = true then I ρ st else J ρ st
theorem ms_if (hc : MT X W xa c S) (h1 : MSs X W xa ss I) (h2 : MSs X W xa us J) : MS X W xa (.If c ss us pos) (iIfS S I J) := by
  refine PS.weak (ps_if hc h1 h2) fun D σ H h => ?_
  obtain ⟨m, os, rs, ρ, st, P, h⟩ := h
  refine ⟨m, os, rs, ρ, st, P, (h.ofR P).mono fun b m1 st1 H1 g1 R1 h1 b' e => ?_⟩
  subst e
  cases b with
  | true => exact ⟨m1, os, rs, ρ, st1, P.grow g1 R1, h1⟩
  | false => exact ⟨m1, os, rs, ρ, st1, P.grow g1 R1, h1⟩
def iSet (i : Nat) (A : IE) : IS := fun ρ st => RS.ofR (A ρ st) ρ fun v st => .nx (ρ.set i (some (.v v))) st
theorem set_weak {i : Nat} {D : Ends} {σ : L2.St} {H : Hp} (h : tsOf (gd X) W xa (iSet i A) D σ H) : tAsg (teOf (gd X) W xa A) (gName i) D σ H := by
  obtain ⟨m, os, rs, ρ, st, P, h⟩ := h
  exact ⟨m, os, rs, ρ, st, P, (h.ofR P).mono fun v m1 st1 H1 g1 R1 h1 u ru => h1.here ((P.grow g1 R1).set ru)⟩
theorem ms_set {i : Nat} {x : Str} {pos' : Pos} (hN : X.N.Nodup) (hi : X.N[i]? = some x) (hx : Loc X.env.scope x) (ha : ME X W xa a A) (hs : swapsWith a (some (.Name x pos')) pos.line X.env = pure false := by rfl)
    (hf : X.fn x = true ∨ X.env.scope.names.lookup x = some .local := by first | exact .inl rfl | exact .inr rfl | assumption) : MS X W xa (.Assign [.Name x pos'] a pos) (iSet i A) :=
  PS.weak (ps_set hN hi hx ha hs hf) fun D σ H h => set_weak h
/-- name op= e, ints and texts -/
def iAug (g : IV → IV → Sto → R IV) (i : Nat) (A : IE) : IS := fun ρ st => match ρ[i]? with
  | some (some (.v x)) => RS.ofR ((A ρ st).bind fun y st => g x y st) ρ fun v st => .nx (ρ.set i (some (.v v))) st
  | _ => .bad
def IpM (X : Cx) (op : Operator) (g : IV → IV → Sto → R IV) : Prop :=
  ∃ r, PIp X op r ∧ ∀ m bs st H x y x' y' (Q : VK) W, Rel (gd X) m bs st H → RV (gd X) m bs st H x x' → RV (gd X) m bs st H y y' →
    Pst (gd X) m bs st H W (g x y st) (fun v m' st' H' => ∀ u, RV (gd X) m' bs st' H' v u → Q u H') → r x' y' H Q
theorem ms_aug {op : Operator} {g : IV → IV → Sto → R IV} {i : Nat} {x : Str} {pos' : Pos} (hN : X.N.Nodup) (hi : X.N[i]? = some x) (hx : Loc X.env.scope x) (ha : ME X W xa a A) (ho : IpM X op g)
    (hf : X.fn x = true ∨ X.env.scope.names.lookup x = some .local := by first | exact .inl rfl | exact .inr rfl | assumption) : MS X W xa (.AugAssign (.Name x pos') op a pos) (iAug g i A) := by
  obtain ⟨r, hr, k⟩ := ho
  refine PS.weak (ps_aug hN hi hx ha hr hf) fun D σ H h => ?_
  obtain ⟨m, os, rs, ρ, st, P, h⟩ := h
  unfold iAug at h
  split at h
  · rename_i x e
    obtain ⟨v, e1, r1⟩ := P.re.at_ _ _ e
    exact ⟨v, e1, m, os, rs, ρ, st, P, (h.ofR P).bind.mono fun y m1 st1 H1 g1 R1 h1 u ru => k m1 _ st1 H1 x y v u _ _ R1 (RV.fits g1.fitsE _ _ r1) ru
      (h1.mono fun z m2 st2 H2 g2 R2 h2 z' rz => h2.here (((P.grow g1 R1).grow g2 R2).set rz))⟩
  · exact h.elim
def gIAdd : IV → IV → Sto → R IV
  | .int i, .int j, st => .ok (.int (i + j)) st
  | _, _, _ => .bad
theorem ipm_add : IpM X .Add gIAdd := by
  refine ⟨_, ip_add, fun m bs st H x y x' y' Q W R rx ry h => ?_⟩
  unfold gIAdd at h
  split at h
  · simp only [RV] at rx ry
    exact ⟨_, _, rx, ry, h.v R (by simp only [RV])⟩
  · exact h.elim
theorem ipm_sub : IpM X .Sub gSub := by
  refine ⟨_, ip_sub, fun m bs st H x y x' y' Q W R rx ry h => ?_⟩
  unfold gSub at h
  split at h
  · simp only [RV] at rx ry
    exact ⟨_, _, rx, ry, h.v R (by simp only [RV])⟩
  · exact h.elim

/-! ### targets -/
abbrev ITg := IV → Slots → Sto → RS
abbrev ITgs := List IV → Slots → Sto → RS
def tgOf (G : Gd) (xa : Xa) (T : ITg) : TG := fun v σ H Q => ∃ m os rs ρ st x, Pre G xa σ H m os rs ρ st ∧ RV G m (os ++ rs) st H x v ∧ PstS G xa m os rs st H (fun _ _ _ _ => False) ⟨Q, fun _ _ => False, fun _ _ => False, fun _ _ => False⟩ (T x ρ st)
def tgsOf (G : Gd) (xa : Xa) (T : ITgs) : TGs := fun v σ H Q => ∃ m os rs ρ st x, Pre G xa σ H m os rs ρ st ∧ RVs G m (os ++ rs) st H x v ∧ PstS G xa m os rs st H (fun _ _ _ _ => False) ⟨Q, fun _ _ => False, fun _ _ => False, fun _ _ => False⟩ (T x ρ st)
abbrev MG (X : Cx) (xa : Xa) (t : Expr) (T : ITg) : Prop := PG X t (tgOf (gd X) xa T)
abbrev MGs (X : Cx) (xa : Xa) (t : List Expr) (T : ITgs) : Prop := PGs X t (tgsOf (gd X) xa T)
theorem PGs.weak {X : Cx} {e : List Expr} {t t' : TGs} (h : PGs X e t) (k : ∀ v σ H Q, t' v σ H Q → t v σ H Q) : PGs X e t' := ⟨fun pins s σ H v u Q I r q => h.run pins s σ H v u Q I r (k v σ H Q q)⟩
def tgName (i : Nat) : ITg := fun x ρ st => .nx (ρ.set i (some (.v x))) st
def tgNil : ITgs := fun xs ρ st => match xs with | [] => .nx ρ st | _ => .bad
def tgCons (T : ITg) (Ts : ITgs) : ITgs := fun xs ρ st => match xs with | x :: r => (T x ρ st).seq (Ts r) | _ => .bad
def tgTup (n : Nat) (Ts : ITgs) : ITg := fun x ρ st => match x with | .tup xs => if xs.length = n then Ts xs ρ st else .bad | _ => .bad
theorem mg_name {i : Nat} {x : Str} (hN : X.N.Nodup) (hi : X.N[i]? = some x) (hx : Loc X.env.scope x) (hf : X.fn x = true ∨ X.env.scope.names.lookup x = some .local := by first | exact .inl rfl | exact .inr rfl | assumption) : MG X xa (.Name x pos) (tgName i) := by
  refine PG.weak (pg_name hN hi hx hf) fun v σ H Q h => ?_
  obtain ⟨m, os, rs, ρ, st, x, P, r, h⟩ := h
  exact h.here (P.set r)
theorem mgs_nil : MGs X xa [] tgNil := by
  refine PGs.weak pgs_nil fun v σ H Q h => ?_
  obtain ⟨m, os, rs, ρ, st, xs, P, r, h⟩ := h
  cases xs with
  | nil =>
    simp only [RVs] at r
    exact ⟨r, h.here P⟩
  | cons _ _ => exact h.elim
theorem mgs_cons {T : ITg} {Ts : ITgs} (h1 : MG X xa e T) (h2 : MGs X xa es Ts) (hs : (assignEach (e :: es) X.env).map (·.2) = assign e X.env :: (assignEach es X.env).map (·.2) := by rfl) : MGs X xa (e :: es) (tgCons T Ts) := by
  refine PGs.weak (pgs_cons h1 h2 hs) fun v σ H Q h => ?_
  obtain ⟨m, os, rs, ρ, st, xs, P, r, h⟩ := h
  cases xs with
  | nil => exact h.elim
  | cons x xs =>
    simp only [RVs] at r
    obtain ⟨u, t, e, r1, r2⟩ := r
    refine ⟨u, t, e, m, os, rs, ρ, st, x, P, r1, ?_⟩
    unfold tgCons RS.seq at h
    cases q : T x ρ st with
    | nx ρ' st' =>
      simp only [q] at h
      exact fun m' os' H' σ' g P' => ⟨m', os', rs, ρ', st', xs, P', RVs.fits g.fits _ _ r2, PstS.shift g h⟩
    | bk ρ' st' => simp only [q] at h; exact fun _ _ _ _ g P' => (h _ _ _ _ g P').elim
    | ct ρ' st' => simp only [q] at h; exact fun _ _ _ _ g P' => (h _ _ _ _ g P').elim
    | rt v st' => simp only [q] at h; exact fun _ _ _ _ g P' r => (h _ _ _ _ g P' r).elim
    | exc c fs ρ' st' => simp only [q] at h; exact fun _ _ _ _ _ _ g P' x => (h _ _ _ _ _ _ g P' x).elim
    | bad => simp only [q] at h; exact h
theorem mg_tup {Ts : ITgs} {k n : Nat} (hc : X.calm = true) (h : MGs X xa es Ts) (hn : (assignEach es X.env).length = n := by rfl) (hst : (assignEach es X.env).findIdx? (·.1) = none := by rfl) : MG X xa (.Tuple es k pos) (tgTup n Ts) := by
  refine PG.weak (pg_tup hc h hn hst) fun v σ H Q h => ?_
  obtain ⟨m, os, rs, ρ, st, x, P, r, h⟩ := h
  cases x with
  | tup xs =>
    simp only [tgTup] at h
    split at h
    · rename_i hl
      obtain ⟨p, vs, ep, hs, r2⟩ := asT_sq (x := .tup xs) rfl r
      exact ⟨p, vs, ep, hs, by rw [← r2.length]; exact hl, m, os, rs, ρ, st, xs, P, r2, h⟩
    · exact h.elim
  | _ => exact h.elim
def iAsg (A : IE) (T : ITg) : IS := fun ρ st => RS.ofR (A ρ st) ρ fun v st => T v ρ st
theorem ms_asg {t : Expr} {T : ITg} (ha : ME X W xa a A) (hg : MG X xa t T) (hs : swapsWithSole [t] a pos.line X.env = pure false := by rfl) (hw : swappedStores [t] a X.env = pure none := by rfl)
    (h1 : (assignEach [t] X.env).map (·.2) = [assign t X.env] := by rfl) (hT : ∀ x ρ st, match T x ρ st with | .nx _ _ => True | .bad => True | _ => False) : MS X W xa (.Assign [t] a pos) (iAsg A T) := by
  refine PS.weak (ps_asg ha hg hs hw h1) fun D σ H h => ?_
  obtain ⟨m, os, rs, ρ, st, P, h⟩ := h
  refine ⟨m, os, rs, ρ, st, P, (h.ofR P).mono fun v m1 st1 H1 g1 R1 h1 u ru => ⟨m1, os, rs, ρ, st1, v, P.grow g1 R1, ru, ?_⟩⟩
  have z := hT v ρ st1
  cases q : T v ρ st1 with
  | nx ρ' st' => rw [q] at h1; exact h1
  | bad => rw [q] at h1; exact h1
  | _ => rw [q] at z; exact z.elim
/-- o[i] = v -/
def gSetL : IV → IV → IV → Sto → Option Sto
  | .ref l, .int i, x, st => match st[l]? with
    | some (.lst xs) => (ixN xs.length i).map fun j => st.set l (.lst (xs.set j x))
    | _ => none
  | _, _, _, _ => none
def tgSub (A B : IE) : ITg := fun x ρ st => match A ρ st with
  | .ok o st1 => match B ρ st1 with
    | .ok i st2 => match gSetL o i x st2 with
      | some st3 => .nx ρ st3
      | none => .bad
    | _ => .bad
  | _ => .bad
theorem mg_sub {o i : Expr} (ho : ME X (fun _ _ _ _ => False) xa o A) (hi : ME X (fun _ _ _ _ => False) xa i B)
    (ha : ∀ v, assign (.Subscript o i pos) X.env v = (do
      let ov ← holding [v] (eval o X.env)
      let iv ← holding [v, ov] (eval i X.env)
      standAt pos
      holding [v, ov, iv] (setItem ov iv v)
      release [v, ov, iv] []) := by intro _; rfl) : MG X xa (.Subscript o i pos) (tgSub A B) := by
  refine PG.weak (pg_sub ho hi set_list ha) fun v σ H Q h => ?_
  obtain ⟨m, os, rs, ρ, st, x, P, r, h⟩ := h
  refine ⟨m, os, rs, ρ, st, P, ?_⟩
  unfold tgSub at h
  cases q1 : A ρ st with
  | ok o st1 =>
    simp only [q1] at h
    intro m1 H1 g1 R1 u1 ru1
    refine ⟨m1, os, rs, ρ, st1, P.grow g1 R1, ?_⟩
    cases q2 : B ρ st1 with
    | ok i st2 =>
      simp only [q2] at h
      intro m2 H2 g2 R2 u2 ru2
      cases q3 : gSetL o i x st2 with
      | none => simp only [q3] at h; exact h.elim
      | some st3 =>
        simp only [q3] at h
        unfold gSetL at q3
        split at q3
        · rename_i l k
          split at q3
          · rename_i xs hx
            simp only [Option.map_eq_some_iff] at q3
            obtain ⟨j, hj, e3⟩ := q3
            subst e3
            simp only [RV] at ru1 ru2
            obtain ⟨p, ep, hp⟩ := ru1
            have hp2 := g2.at hp
            obtain ⟨vs, hv, rv⟩ := R2.obj l _ p hx hp2
            refine ⟨p, vs, k, j, ep, ru2, hv, by rw [← rv.length]; exact hj, ?_⟩
            have g3 : GrowE m2 st2 H2 m2 (st2.set l (.lst (xs.set j x))) (upd H2 p (.lst (vs.set j v))) := grow_set hp2 hx (by simp)
            have R3 := R2.set (o' := .lst (xs.set j x)) (u := .lst (vs.set j v)) hp2 hx (by simp) ⟨_, upd_same, RVs.fits g3.fitsE _ _ (rv.set j (RV.fits (g1.trans g2).fitsE _ _ r))⟩
            exact h m2 os _ σ (.ofE ((g1.trans g2).trans g3)) (((P.grow g1 R1).grow g2 R2).grow g3 R3)
          · cases q3
        · cases q3
    | exc c fs st2 => simp only [q2] at h; exact h.elim
    | bad => simp only [q2] at h; exact h.elim
  | exc c fs st1 => simp only [q1] at h; exact h.elim
  | bad => simp only [q1] at h; exact h.elim
end
end Mi
set_option Elab.async false
set_option linter.all false
set_option maxRecDepth 100000
set_option maxHeartbeats 4000000
namespace Mi
open PySem PySem.Spec PyProof.Rows L2

/-! ### targets that end plainly -/
def RS.plain : RS → Bool
  | .nx _ _ => true
  | .bad => true
  | _ => false
def TgOk (T : ITg) : Prop := ∀ x ρ st, (T x ρ st).plain = true
def TgsOk (T : ITgs) : Prop := ∀ x ρ st, (T x ρ st).plain = true
theorem TgOk.use {T : ITg} (h : TgOk T) : ∀ x ρ st, match T x ρ st with | .nx _ _ => True | .bad => True | _ => False := fun x ρ st => by
  have z := h x ρ st
  cases q : T x ρ st <;> first | exact trivial | (rw [q] at z; cases z)
theorem tgok_name {i : Nat} : TgOk (tgName i) := fun _ _ _ => rfl
theorem tgsok_nil : TgsOk tgNil := fun x _ _ => by cases x <;> rfl
theorem tgsok_cons {T : ITg} {Ts : ITgs} (h : TgOk T) (h2 : TgsOk Ts) : TgsOk (tgCons T Ts) := fun x ρ st => by
  cases x with
  | nil => rfl
  | cons y r =>
    have z := h y ρ st
    unfold tgCons RS.seq
    cases q : T y ρ st with
    | nx ρ' st' => simp only [q]; exact h2 r ρ' st'
    | bad => simp only [q]; rfl
    | _ => rw [q] at z; cases z
theorem tgok_tup {n : Nat} {Ts : ITgs} (h : TgsOk Ts) : TgOk (tgTup n Ts) := fun x ρ st => by
  cases x with
  | tup xs =>
    by_cases hl : xs.length = n
    · simp only [tgTup, hl, if_true]; exact h xs ρ st
    · simp only [tgTup, hl, if_false]; rfl
  | _ => rfl
theorem tgok_sub {A B : IE} : TgOk (tgSub A B) := fun x ρ st => by
  unfold tgSub
  cases A ρ st with
  | ok o st1 =>
    cases q : B ρ st1 with
    | ok i st2 =>
      simp only [q]
      cases gSetL o i x st2 <;> rfl
    | _ => simp only [q]; rfl
  | _ => rfl

/-! ### defs -/
abbrev Fn := List IV → Sto → R IV
def spOf (G : Gd) (n : Nat) (F : Fn) : Sp := fun vs H Q E => vs.length = n ∧ ∃ m bs st args, Rel G m bs st H ∧ RVs G m bs st H args vs ∧ Pst G m bs st H E (F args st) (fun v m' st' H' => ∀ u, RV G m' bs st' H' v u → Q u H')
def fnOf (k : Nat) (B : IS) : Fn := fun args st => match B (args.map (fun x => some (.v x)) ++ List.replicate k none) st with
  | .nx _ st' => .ok .non st'
  | .rt v st' => .ok v st'
  | .exc c fs _ st' => .exc c fs st'
  | _ => .bad
theorem Rel.less {G : Gd} {m os rs : List Addr} {st : Sto} {H : Hp} (R : Rel G m (os ++ rs) st H) : Rel G m rs st H := by
  have f : Fits G m (os ++ rs) st H m rs st H := ⟨fun _ _ h => h, fun a vs h => by
    rcases h with ⟨h, n, q⟩ | h
    · exact .inl ⟨h, n, fun z => q (List.mem_append_right _ z)⟩
    · exact .inr h, fun a vs h => by
    rcases h with ⟨h, n, q⟩ | h
    · exact .inl ⟨h, n, fun z => q (List.mem_append_right _ z)⟩
    · exact .inr h, fun a vs h => by
    obtain ⟨o, h, d, n, q⟩ := h
    exact ⟨o, h, d, n, fun z => q (List.mem_append_right _ z)⟩⟩
  exact ⟨R.len, R.nd, fun l o a e1 e2 => (R.obj l o a e1 e2).fits f fun _ e => e, fun a h => R.bsd a (List.mem_append_right _ h)⟩
theorem fits_less {G : Gd} {m os rs : List Addr} {st : Sto} {H : Hp} : Fits G m (os ++ rs) st H m rs st H := ⟨fun _ _ h => h, fun a vs h => by
    rcases h with ⟨h, n, q⟩ | h
    · exact .inl ⟨h, n, fun z => q (List.mem_append_right _ z)⟩
    · exact .inr h, fun a vs h => by
    rcases h with ⟨h, n, q⟩ | h
    · exact .inl ⟨h, n, fun z => q (List.mem_append_right _ z)⟩
    · exact .inr h, fun a vs h => by
    obtain ⟨o, h, d, n, q⟩ := h
    exact ⟨o, h, d, n, fun z => q (List.mem_append_right _ z)⟩⟩
theorem XR.less {G : Gd} {m os rs : List Addr} {st : Sto} {H : Hp} {c : Str} {fs : List (Str × IV)} {cls : Value} {d : Option Addr} (h : XR G m (os ++ rs) st H c fs cls d) : XR G m rs st H c fs cls d := by
  obtain ⟨C, h1, h2, h3⟩ := h
  refine ⟨C, h1, h2, ?_⟩
  rcases h3 with h3 | ⟨dd, gs, e1, e2, e3, e4, r⟩
  · exact .inl h3
  · exact .inr ⟨dd, gs, e1, e2, e3, fun z => e4 (List.mem_append_right _ z), RFs.fits fits_less _ _ r⟩
theorem Grow.toE {m st H m' st' os' H'} (g : Grow m st [] H m' st' os' H') : GrowE m st H m' st' H' := ⟨g.pre, fun a o h n q nx => let ⟨h1, n1, _⟩ := g.keep a o h n q nx; ⟨h1, n1, by simp⟩, g.stay⟩
/-- a def's start -/
theorem re_start {G : Gd} {m bs : List Addr} {st : Sto} {H : Hp} {args : List IV} {vs : List V} {N : List Str} {k : Nat} (R : Rel G m bs st H) (r : RVs G m bs st H args vs) (hk : N.length - vs.length = k) :
    Pre G none (L2.start N vs) H m [] bs (args.map (fun x => some (.v x)) ++ List.replicate k none) st := by
  have key : ∀ (i : Nat) y, (args.map (fun x => some (SV.v x)) ++ List.replicate k none)[i]? = some (some y) → ∃ x, y = .v x ∧ args[i]? = some x := fun i y e => by
    by_cases hi : i < args.length
    · rw [List.getElem?_append_left (by simpa using hi), List.getElem?_map, List.getElem?_eq_getElem hi] at e
      simp at e
      exact ⟨args[i], e.symm, List.getElem?_eq_getElem hi⟩
    · rw [List.getElem?_append_right (by simpa using hi), List.getElem?_replicate] at e
      split at e <;> simp at e
  refine ⟨R, by simp [L2.start, r.length, hk], fun i y e => ?_, fun i xs e => ?_, fun i j xs ys v e1 e2 e3 e4 => ?_⟩
  · obtain ⟨x, rfl, e1⟩ := key i y e
    obtain ⟨v, e2, r2⟩ := r.get e1
    refine ⟨v, ?_, r2⟩
    unfold L2.start
    rw [List.getElem?_append_left (by simpa using (List.getElem?_eq_some_iff.mp e2).1), List.getElem?_map, e2]; rfl
  · obtain ⟨x, h, _⟩ := key i _ e; cases h
  · obtain ⟨x, h, _⟩ := key i _ e1; cases h
section
variable {P : Program} {w : World} {K : PySem.W.Frag} {mg : Str → Option Value} {base : Heap}
theorem fn_ok {x qual : Str} {st : Stmt} {f : Addr} {fd : FuncData} {N ps : List Str} {k j : Nat} {B : IS} (F : L2.Fun K x qual st f fd) (S : FnScope N ps (defScope st)) (hj : N.length - ps.length = j)
    (hb : ∀ (cdv : Value) (A : Around) (outer : List Env) (s : Shared) (H : Hp) (E : XK), Room k (A.deeper (envOfC qual (defScope st) s.heap.objs.size f cdv)) →
      MSs (cxOf (L2.CX P w) P w K mg base N qual (defScope st) f cdv A outer s H E) (fun cls d _ H => E cls d H) none (defBody st) B) : FnOk P w K mg base (L2.CX P w) (k + 1) f fd ps (spOf ⟨K, mg, P, w⟩ ps.length (fnOf j B)) := by
  refine F.okX S (fun vs H Q E h => h.1) (fun cdv A outer s H vs Q E hr h => ⟨_, hb cdv A outer s H E hr, ?_⟩)
  obtain ⟨hl, m, bs, st, args, R, r, h⟩ := h
  have P0 := re_start (k := j) (N := N) R r (by rw [hl, hj])
  show tsOf ⟨K, mg, P, w⟩ (fun cls d _ H => E cls d H) none B _ _ _
  refine ⟨m, [], bs, _, st, P0, ?_⟩
  unfold fnOf at h
  cases q : B (args.map (fun x => some (.v x)) ++ List.replicate j none) st with
  | nx ρ' st' =>
    rw [q] at h
    exact fun m' os' H' σ' g P' => h m' H' g.toE P'.rel.less .non (by simp only [RV])
  | rt v st' =>
    rw [q] at h
    exact fun m' os' H' u g R' ru => h m' H' g.toE R'.less u (RV.fits fits_less _ _ ru)
  | exc c fs ρ' st' =>
    rw [q] at h
    exact fun m' os' H' σ' cls d g P' x => h m' H' cls d g.toE P'.rel.less x.less
  | bk ρ' st' => rw [q] at h; exact h.elim
  | ct ρ' st' => rw [q] at h; exact h.elim
  | bad => rw [q] at h; exact h.elim
/-- a def of the module with its function -/
def FnM (P : Program) (w : World) (K : PySem.W.Frag) (mg : Str → Option Value) (base : Heap) (x : Str) (k n : Nat) (F : Fn) : Prop :=
  ∃ f fd ps, mg x = some (.ref f) ∧ PySem.W.keepIn K (.ref f) = true ∧ Binds K fd ps [] ∧ FnOk P w K mg base (L2.CX P w) k f fd ps (spOf ⟨K, mg, P, w⟩ n F)
end

section
variable {X : Cx} {W : WX} {xa : Xa} {a b c e o : Expr} {A B C : IE} {S T : IT} {pos p apos : Pos} {es rest : List Expr} {As : IA} {k n : Nat} {F : Fn} {x : Str}
def iCall (F : Fn) (As : IA) : IE := fun ρ st => (As ρ st).bind F
theorem wish_of (tk : Takes X W) (σ : L2.St) : PassesAt (L2.CX X.prog X.w) X σ (fun cls d H => W cls d σ H) := passAt tk σ
theorem RVs.len_eq {G : Gd} {m bs : List Addr} {st : Sto} {H : Hp} {xs : List IV} {vs : List V} {n : Nat} (r : RVs G m bs st H xs vs) (h : xs.length = n) : vs.length = n := by rw [← r.length]; exact h
/-- the function wants its own number of arguments -/
def arity (n : Nat) (F : Fn) : Fn := fun args st => if args.length = n then F args st else .bad
theorem me_call (h : FnM X.prog X.w X.K X.mg X.base x k n F) (hr : Room k X.A) (tk : Takes X W) (hg : Gl X x) (ha : MA X W xa (e :: es) As)
    (hdb : (x == ("__debug__" : Str)) = false := by decide) (he : starEach (e :: es) X.env = (false, eval e X.env) :: starEach es X.env := by rfl) (hpl : (backTo pos (starEach es X.env)).any (·.1) = false := by rfl) :
    ME X W xa (.Call (.Name x p) (e :: es) [] pos) (iCall (arity n F) As) := by
  obtain ⟨f, fd, ps, hm, hk, hb, hf⟩ := h
  refine PE.weak (pe_callSD hf hr hg hm hk hb .nil (E := fun σ cls d H => W cls d σ H) (fun σ => wish_of tk σ) ha hdb he hpl) fun σ H Q h => ?_
  obtain ⟨m, os, rs, ρ, st, P, h⟩ := h
  refine ⟨m, os, rs, ρ, st, P, h.bind.mono fun args m1 st1 H1 g1 R1 h1 vs rv => ?_⟩
  unfold arity at h1
  split at h1
  · rename_i hl
    rw [List.append_nil]
    exact ⟨rv.len_eq hl, m1, _, st1, args, R1, rv, h1⟩
  · exact h1.elim
end
end Mi
set_option Elab.async false
set_option linter.all false
set_option maxRecDepth 100000
set_option maxHeartbeats 4000000
namespace Mi
open PySem PySem.Spec PyProof.Rows L2

/-! ### values are compared -/
mutual
def IV.beq : IV → IV → Bool
  | .non, .non => true
  | .bl a, .bl b => a == b
  | .int a, .int b => a == b
  | .str a, .str b => decide (a = b)
  | .ty a, .ty b => a == b
  | .ref a, .ref b => a == b
  | .tup a, .tup b => IVs.beq a b
  | .lst a, .lst b => IVs.beq a b
  | .ptp a, .ptp b => IVs.beq a b
  | _, _ => false
def IVs.beq : List IV → List IV → Bool
  | [], [] => true
  | x :: xs, y :: ys => IV.beq x y && IVs.beq xs ys
  | _, _ => false
end
mutual
theorem IV.beq_eq : ∀ {a b : IV}, IV.beq a b = true → a = b
  | .non, b, h => by cases b <;> simp [IV.beq] at h <;> rfl
  | .bl _, b, h => by cases b <;> simp [IV.beq] at h; rw [h]
  | .int _, b, h => by cases b <;> simp [IV.beq] at h; rw [h]
  | .str _, b, h => by cases b <;> simp [IV.beq] at h; rw [h]
  | .ty _, b, h => by cases b <;> simp [IV.beq] at h; rw [h]
  | .ref _, b, h => by cases b <;> simp [IV.beq] at h; rw [h]
  | .tup xs, b, h => by cases b <;> simp [IV.beq] at h; rw [IVs.beq_eq h]
  | .lst xs, b, h => by cases b <;> simp [IV.beq] at h; rw [IVs.beq_eq h]
  | .ptp xs, b, h => by cases b <;> simp [IV.beq] at h; rw [IVs.beq_eq h]
theorem IVs.beq_eq : ∀ {a b : List IV}, IVs.beq a b = true → a = b
  | [], b, h => by cases b <;> simp [IVs.beq] at h <;> rfl
  | x :: xs, b, h => by
    cases b with
    | nil => simp [IVs.beq] at h
    | cons y ys =>
      simp [IVs.beq] at h
      rw [IV.beq_eq h.1, IVs.beq_eq h.2]
end
mutual
theorem IV.beq_refl : ∀ a : IV, IV.beq a a = true
  | .non => rfl
  | .bl _ => by simp [IV.beq]
  | .int _ => by simp [IV.beq]
  | .str _ => by simp [IV.beq]
  | .ty _ => by simp [IV.beq]
  | .ref _ => by simp [IV.beq]
  | .tup xs => by simp [IV.beq, IVs.beq_refl xs]
  | .lst xs => by simp [IV.beq, IVs.beq_refl xs]
  | .ptp xs => by simp [IV.beq, IVs.beq_refl xs]
theorem IVs.beq_refl : ∀ a : List IV, IVs.beq a a = true
  | [] => rfl
  | x :: xs => by simp [IVs.beq, IV.beq_refl x, IVs.beq_refl xs]
end
abbrev GI := Option (Nat × List IV)
/-- the list that is walked is as it was -/
def gokB (g : GI) (st : Sto) (_xs : List IV) : Bool := match g with
  | none => true
  | some (l, xs) => match st[l]? with
    | some (.lst ys) => IVs.beq ys xs
    | _ => false
theorem gokB_none {st : Sto} {xs : List IV} : gokB none st xs = true := rfl
theorem gokB_some {l : Nat} {st : Sto} {xs zs : List IV} (h : st[l]? = some (.lst xs)) : gokB (some (l, xs)) st zs = true := by
  simp [gokB, h, IVs.beq_refl]
theorem gokB_at {l : Nat} {st : Sto} {xs zs : List IV} (h : gokB (some (l, xs)) st zs = true) : st[l]? = some (.lst xs) := by
  simp only [gokB] at h
  split at h
  · rename_i ys e; rw [e, IVs.beq_eq h]
  · cases h

/-! ### what is walked -/
abbrev IIt := Slots → Sto → R (List IV × GI)
def Walks (G : Gd) (m0 bs0 : List Addr) (st0 : Sto) (H0 : Hp) (xs : List IV) (g : GI) (J : It) : Prop :=
  ∀ (i : Nat) m bs st H, Fits G m0 bs0 st0 H0 m bs st H → Rel G m bs st H → gokB g st xs = true →
    (∀ x, xs[i]? = some x → J.go i H ∧ ∀ v H', J.yld i H v H' → GrowE m st H m st H' ∧ Rel G m bs st H' ∧ RV G m bs st H' x v) ∧ (xs.length ≤ i → J.stop i H)
def tiOf (G : Gd) (W : WX) (xa : Xa) (A : IIt) : TI := fun σ H R => ∃ m os rs ρ st, Pre G xa σ H m os rs ρ st ∧
  Pst G m (os ++ rs) st H (fun cls d H' => W cls d σ H') (A ρ st) (fun p m' st' H' => ∀ J, Walks G m' (os ++ rs) st' H' p.1 p.2 J → R J H')
abbrev MI (X : Cx) (W : WX) (xa : Xa) (tg e : Expr) (A : IIt) : Prop := PI X tg e (tiOf (gd X) W xa A)

section
variable {X : Cx} {tg l : Expr} {tl : TE} {pins : List (Addr × Obj)} {s : Shared} {σ : L2.St} {H : Hp} {R : It → Hp → Prop} {E : Value → Shared → Prop}
theorem iter_list (I1 : L2.Inv X pins σ H s) {a : Addr} {xs : List V} (hq : SqL X.K H a xs) (q : R (Itl X.K a) H) : wpAny (model X.prog X.w) X.A (pyIter (.ref a)) (PIE X pins σ tg R) E s := by
  obtain ⟨its, rv, p, hz⟩ := I1.list hq
  refine wpAny_pyIter_list p.isList ?_
  refine ⟨s.heap.objs.size, [s.heap.objs.size], _, _, H, rfl, I1.kept (t' := s.toks) fun b o e => Heap.get?_push_of_some _ e, turn_list a _, ⟨_, Heap.get?_push_size _ rfl, rfl, rfl⟩, fun b hb => ?_, q⟩
  have e : b = s.heap.objs.size := by simpa using hb
  subst e
  exact I1.fpOk (Nat.le_refl _) (I1.hok.fresh (Nat.le_refl _))
theorem iter_tup (I1 : L2.Inv X pins σ H s) {a : Addr} {xs : List V} (hq : SqT X.K H a xs) (q : R (Itt X.K a) H) : wpAny (model X.prog X.w) X.A (pyIter (.ref a)) (PIE X pins σ tg R) E s := by
  obtain ⟨its, rv, p, hz⟩ := I1.tuple hq
  refine wpAny_pyIter_tuple (show s.heap.IsTuple a its.toArray from p) ?_
  refine ⟨s.heap.objs.size, [s.heap.objs.size], _, _, H, rfl, I1.kept (t' := s.toks) fun b o e => Heap.get?_push_of_some _ e, turn_tuple a _, ⟨_, Heap.get?_push_size _ rfl, rfl, rfl⟩, fun b hb => ?_, q⟩
  have e : b = s.heap.objs.size := by simpa using hb
  subst e
  exact I1.fpOk (Nat.le_refl _) (I1.hok.fresh (Nat.le_refl _))
theorem iter_str (I1 : L2.Inv X pins σ H s) {x : Str} {t : Tok} (q : R (Its x) H) : wpAny (model X.prog X.w) X.A (pyIter (.str x t)) (PIE X pins σ tg R) E s := by
  cases ha : x.cps.all (· < 128)
  · exact wpAny_pyIter_wide ha (pi_one (tk := s.toks) I1 _ (turn_str _ x t "str_iterator" (.inr rfl)) ⟨_, Heap.get?_push_size _ rfl, rfl, rfl⟩ q)
  · exact wpAny_pyIter_ascii ha (pi_one (tk := s.toks) I1 _ (turn_str _ x t "str_ascii_iterator" (.inl rfl)) ⟨_, Heap.get?_push_size _ rfl, rfl, rfl⟩ q)
end

/-! the items of a thing -/
def itemsI (st : Sto) : IV → Option (List IV × GI)
  | .tup xs => some (xs, none)
  | .lst xs => some (xs, none)
  | .ref l => match st[l]? with
    | some (.lst xs) => some (xs, some (l, xs))
    | _ => none
  | .str x => some (x.cps.toList.map fun c => .str ⟨#[c]⟩, none)
  | _ => none
def iOver (A : IE) : IIt := fun ρ st => (A ρ st).bind fun x st => match itemsI st x with | some p => .ok p st | none => .bad
section
variable {G : Gd} {m0 bs0 : List Addr} {st0 : Sto} {H0 : Hp}
theorem at_end {α : Type} {l : List α} {i : Nat} (h : l.length ≤ i) : l[i]? = none := List.getElem?_eq_none h
theorem walks_l {a : Addr} {vs : List V} {xs : List IV} (h : LstAt G m0 bs0 st0 H0 a vs) (r : RVs G m0 bs0 st0 H0 xs vs) : Walks G m0 bs0 st0 H0 xs none (Itl G.K a) := by
  intro i m bs st H g R _
  have h1 := (g.lst _ _ h).sq
  have r1 := RVs.fits g _ _ r
  refine ⟨fun x hx => ?_, fun hl => ⟨vs, h1, by rw [← r.length]; exact hl⟩⟩
  obtain ⟨v, hv, rv⟩ := r1.get hx
  exact ⟨⟨vs, v, h1, hv⟩, fun w H' y => by
    obtain ⟨e, y⟩ := y
    subst e
    have : w = v := Option.some.inj ((y vs h1).symm.trans hv)
    subst this
    exact ⟨.refl, R, rv⟩⟩
theorem walks_t {a : Addr} {vs : List V} {xs : List IV} (h : TupAt G m0 bs0 st0 H0 a vs) (r : RVs G m0 bs0 st0 H0 xs vs) : Walks G m0 bs0 st0 H0 xs none (Itt G.K a) := by
  intro i m bs st H g R _
  have h1 := (g.tup _ _ h).sq
  have r1 := RVs.fits g _ _ r
  refine ⟨fun x hx => ?_, fun hl => ⟨vs, h1, by rw [← r.length]; exact hl⟩⟩
  obtain ⟨v, hv, rv⟩ := r1.get hx
  exact ⟨⟨vs, v, h1, hv⟩, fun w H' y => by
    obtain ⟨e, y⟩ := y
    subst e
    have : w = v := Option.some.inj ((y vs h1).symm.trans hv)
    subst this
    exact ⟨.refl, R, rv⟩⟩
theorem sql_fun {K : PySem.W.Frag} {H : Hp} {a : Addr} {xs ys : List V} (h : H a = some (.lst xs)) (h2 : Rd H a (.lst ys)) : ys = xs := by
  rcases h2 with h2 | ⟨o, h2⟩
  · rw [h] at h2; cases h2; rfl
  · rw [h] at h2; cases h2
theorem walks_s {x : Str} : Walks G m0 bs0 st0 H0 (x.cps.toList.map fun c => .str ⟨#[c]⟩) none (Its x) := by
  intro i m os st H g R _
  refine ⟨fun y hy => ?_, fun hl => ?_⟩
  · rw [List.getElem?_map, Option.map_eq_some_iff] at hy
    obtain ⟨c, hc, e⟩ := hy
    subst e
    refine ⟨?_, fun w H' z => ?_⟩
    · have := (List.getElem?_eq_some_iff.mp hc).1
      show i < x.cps.size
      simpa using this
    · obtain ⟨e, c', h1, h2⟩ := z
      subst e
      have e : c' = c := by
        have h3 : x.cps.toList[i]? = some c' := by simpa using h1
        rw [hc] at h3
        exact (Option.some.inj h3).symm
      subst e
      exact ⟨.refl, R, by simp only [RV]; exact h2⟩
  · show x.cps.size ≤ i
    simpa using hl
end
section
variable {X : Cx} {W : WX} {xa : Xa} {tg e : Expr} {A : IE} {G : Gd}
/-- for x in e: a list, a tuple, a text -/
theorem mi_over (he : ME X W xa e A) : MI X W xa tg e (iOver A) := by
  refine ⟨fun pins s σ H R I h => ?_⟩
  obtain ⟨m, os, rs, ρ, st, P, h⟩ := h
  refine thn (he.run pins s σ H (fun u H1 => ∃ m1 st1 x, GrowE m st H m1 st1 H1 ∧ Rel (gd X) m1 (os ++ rs) st1 H1 ∧ RV (gd X) m1 (os ++ rs) st1 H1 x u ∧
    Pst (gd X) m1 (os ++ rs) st1 H1 (fun cls d H' => W cls d σ H') (match itemsI st1 x with | some p => .ok p st1 | none => .bad) (fun p m' st' H' => ∀ J, Walks (gd X) m' (os ++ rs) st' H' p.1 p.2 J → R J H')) I
    ⟨m, os, rs, ρ, st, P, h.bind.mono fun x m1 st1 H1 g1 R1 h1 u ru => ⟨m1, st1, x, g1, R1, ru, h1⟩⟩) fun u s1 ⟨v, H1, I1, rv, m1, st1, x, g1, R1, rx, h1⟩ => ?_
  cases x with
  | tup xs =>
    obtain ⟨a, vs, ea, ht, r⟩ := (show ∃ a vs, v = .ref a ∧ TupAt (gd X) m1 (os ++ rs) st1 H1 a vs ∧ RVs (gd X) m1 (os ++ rs) st1 H1 xs vs by simpa only [RV] using rx)
    subst ea
    cases rv
    exact iter_tup I1 ht.sq (h1.ok R1 _ (walks_t ht r))
  | lst xs =>
    obtain ⟨a, vs, ea, ht, r⟩ := (show ∃ a vs, v = .ref a ∧ LstAt (gd X) m1 (os ++ rs) st1 H1 a vs ∧ RVs (gd X) m1 (os ++ rs) st1 H1 xs vs by simpa only [RV] using rx)
    subst ea
    cases rv
    exact iter_list I1 ht.sq (h1.ok R1 _ (walks_l ht r))
  | ref l =>
    obtain ⟨a, ea, hm⟩ := (show ∃ a, v = .ref a ∧ m1[l]? = some a by simpa only [RV] using rx)
    subst ea
    cases rv
    simp only [itemsI] at h1
    cases q : st1[l]? with
    | none => rw [q] at h1; exact h1.elim
    | some o =>
      cases o with
      | lst xs =>
        rw [q] at h1
        obtain ⟨vs, hv, r⟩ := R1.obj l _ a q hm
        refine iter_list I1 (.of hv) (h1.ok R1 _ ?_)
        intro i m2 bs2 st2 H2 g R gk
        have hs := gokB_at gk
        have hm1 := g.at_ _ _ hm
        obtain ⟨vs, hv, rv⟩ := R.obj l _ a hs hm1
        refine ⟨fun x hx => ?_, fun hl => ⟨vs, .of hv, by rw [← rv.length]; exact hl⟩⟩
        obtain ⟨v, hv1, r1⟩ := rv.get hx
        exact ⟨⟨vs, v, .of hv, hv1⟩, fun w H' y => by
          obtain ⟨e, y⟩ := y
          subst e
          have : w = v := Option.some.inj ((y vs (.of hv)).symm.trans hv1)
          subst this
          exact ⟨.refl, R, r1⟩⟩
      | _ => rw [q] at h1; exact h1.elim
  | str z =>
    simp only [RV] at rx
    subst rx
    obtain ⟨t, rfl⟩ := rv
    exact iter_str I1 (h1.ok R1 _ walks_s)
  | _ => exact h1.elim
/-- range -/
def rngI (lo : Int) (n : Nat) : List IV := (List.range n).map fun (i : Nat) => IV.int (lo + i)
theorem walks_rng {m0 bs0 : List Addr} {st0 : Sto} {H0 : Hp} {lo : Int} {n : Nat} : Walks G m0 bs0 st0 H0 (rngI lo n) none (Itr lo n) := by
  intro i m os st H g R _
  refine ⟨fun y hy => ?_, fun hl => ?_⟩
  · unfold rngI at hy
    rw [List.getElem?_map, Option.map_eq_some_iff] at hy
    obtain ⟨c, hc, e⟩ := hy
    have hi := (List.getElem?_eq_some_iff.mp hc).1
    rw [List.length_range] at hi
    rw [List.getElem?_range hi] at hc
    cases hc
    subst e
    refine ⟨hi, fun w H' z => ?_⟩
    obtain ⟨e, h1⟩ := z
    subst e h1
    exact ⟨.refl, R, by simp only [RV]⟩
  · show n ≤ i
    simpa [rngI] using hl
def gRng1 : List IV → Sto → R (List IV × GI)
  | [.int j], st => if j ≤ 1000000000000000000 ∧ -1000000000000000000 ≤ j then .ok (rngI 0 j.toNat, none) st else .bad
  | _, _ => .bad
def gRng2 : List IV → Sto → R (List IV × GI)
  | [.int i, .int j], st => if j ≤ 1000000000000000000 ∧ -1000000000000000000 ≤ j ∧ i ≤ 1000000000000000000 ∧ -1000000000000000000 ≤ i then .ok (rngI i (j - i).toNat, none) st else .bad
  | _, _ => .bad
def iRng (g : List IV → Sto → R (List IV × GI)) (As : IA) : IIt := fun ρ st => (As ρ st).bind g
theorem PI.mi {tg e : Expr} {wi : TI} {A : IIt} (h : PI X tg e wi) (k : ∀ σ H R, tiOf (gd X) W xa A σ H R → wi σ H R) : MI X W xa tg e A := ⟨fun pins s σ H R I q => h.run pins s σ H R I (k σ H R q)⟩
theorem mi_range1 {a : Expr} {As : IA} {p pos : Pos} (hg : Gl X "range") (hm : X.mg "range" = none) (ha : MA X W xa [a] As) (hs : starEach [a] X.env = [(false, eval a X.env)] := by rfl) : MI X W xa tg (.Call (.Name "range" p) [a] [] pos) (iRng gRng1 As) := by
  refine PI.mi (pi_range1 hg hm ha hs) fun σ H R h => ?_
  obtain ⟨m, os, rs, ρ, st, P, h⟩ := h
  refine ⟨m, os, rs, ρ, st, P, h.bind.mono fun xs m1 st1 H1 g1 R1 h1 vs rv => ?_⟩
  unfold gRng1 at h1
  split at h1
  · split at h1
    · rename_i j c
      obtain ⟨v, e, r⟩ := rvs1 rv
      simp only [RV] at r
      subst r
      exact ⟨j, e, by omega, by omega, h1.ok R1 _ walks_rng⟩
    · exact h1.elim
  · exact h1.elim
theorem mi_range2 {a b : Expr} {As : IA} {p pos : Pos} (hg : Gl X "range") (hm : X.mg "range" = none) (ha : MA X W xa [a, b] As) (hs : starEach [a, b] X.env = [(false, eval a X.env), (false, eval b X.env)] := by rfl) (hs2 : starEach [b] X.env = [(false, eval b X.env)] := by rfl) :
    MI X W xa tg (.Call (.Name "range" p) [a, b] [] pos) (iRng gRng2 As) := by
  refine PI.mi (pi_range2 hg hm ha hs hs2) fun σ H R h => ?_
  obtain ⟨m, os, rs, ρ, st, P, h⟩ := h
  refine ⟨m, os, rs, ρ, st, P, h.bind.mono fun xs m1 st1 H1 g1 R1 h1 vs rv => ?_⟩
  unfold gRng2 at h1
  split at h1
  · split at h1
    · rename_i i j c
      obtain ⟨v, w, e, r, r2⟩ := rvs2 rv
      simp only [RV] at r r2
      subst r r2
      exact ⟨i, j, e, by omega, h1.ok R1 _ walks_rng⟩
    · exact h1.elim
  · exact h1.elim
/-- enumerate of a list, zip of two lists or two tuples: inline ones -/
theorem rv_pair {m bs : List Addr} {st : Sto} {H : Hp} {x y : IV} {v w : V} {T : Addr} (R : Rel G m bs st H) (hT : H T = none) (rx : RV G m bs st H x v) (ry : RV G m bs st H y w) :
    GrowE m st H m st (upd H T (.tup [v, w])) ∧ Rel G m bs st (upd H T (.tup [v, w])) ∧ RV G m bs st (upd H T (.tup [v, w])) (.tup [x, y]) (.ref T) := by
  have g : GrowE m st H m st (upd H T (.tup [v, w])) := grow_new hT
  refine ⟨g, R.new hT, ?_⟩
  simp only [RV]
  exact ⟨T, _, rfl, tupAt_new R hT, by simp only [RVs]; exact ⟨v, _, rfl, RV.fits g.fitsE _ _ rx, w, _, rfl, RV.fits g.fitsE _ _ ry, rfl⟩⟩
def enumI (i : Nat) : List IV → List IV
  | [] => []
  | x :: xs => .tup [.int i, x] :: enumI (i + 1) xs
theorem enumI_len : ∀ (xs : List IV) (i : Nat), (enumI i xs).length = xs.length
  | [], _ => rfl
  | x :: xs, i => by simp [enumI, enumI_len xs]
theorem enumI_get : ∀ (xs : List IV) (k i : Nat) (y : IV), (enumI k xs)[i]? = some y → ∃ x, xs[i]? = some x ∧ y = .tup [.int ((k + i : Nat) : Int), x]
  | [], _, _, _, h => by simp [enumI] at h
  | x :: xs, k, 0, y, h => by simp [enumI] at h; exact ⟨x, rfl, h.symm⟩
  | x :: xs, k, i + 1, y, h => by
    simp only [enumI, List.getElem?_cons_succ] at h
    obtain ⟨z, e1, e2⟩ := enumI_get xs (k + 1) i y h
    exact ⟨z, by simpa using e1, by rw [e2]; congr 3; omega⟩
def gEnum : List IV → Sto → R (List IV × GI)
  | [.lst xs], st => .ok (enumI 0 xs, none) st
  | [.ref l], st => match st[l]? with
    | some (.lst xs) => .ok (enumI 0 xs, some (l, xs)) st
    | _ => .bad
  | _, _ => .bad
theorem mi_enum {a : Expr} {As : IA} {p pos tpos : Pos} {elts : List Expr} {kk : Nat} (hg : Gl X "enumerate") (hm : X.mg "enumerate" = none) (ha : MA X W xa [a] As) (hs : starEach [a] X.env = [(false, eval a X.env)] := by rfl) :
    MI X W xa (.Tuple elts kk tpos) (.Call (.Name "enumerate" p) [a] [] pos) (iRng gEnum As) := by
  refine PI.mi (pi_enum hg hm ha hs) fun σ H R h => ?_
  obtain ⟨m, os, rs, ρ, st, P, h⟩ := h
  refine ⟨m, os, rs, ρ, st, P, h.bind.mono fun xs m1 st1 H1 g1 R1 h1 vs rv => ?_⟩
  unfold gEnum at h1
  split at h1
  · rename_i ys
    obtain ⟨v, e, r⟩ := rvs1 rv
    simp only [RV] at r
    obtain ⟨a, ws, ea, hl, rs1⟩ := r
    subst ea
    refine ⟨a, ws, e, hl.sq, h1.ok R1 _ ?_⟩
    intro i m2 bs2 st2 H2 g R _
    have hl1 := (g.lst _ _ hl).sq
    have r1 := RVs.fits g _ _ rs1
    refine ⟨fun x hx => ?_, fun hl => ⟨ws, hl1, by rw [← rs1.length]; simpa [enumI_len] using hl⟩⟩
    obtain ⟨z, hz, ez⟩ := enumI_get _ _ _ _ hx
    subst ez
    obtain ⟨v, hv, rv⟩ := r1.get hz
    refine ⟨⟨ws, v, hl1, hv⟩, fun w H' y => ?_⟩
    obtain ⟨T, u, e1, hT, e2, hu⟩ := y
    subst e1 e2
    have e : u = v := Option.some.inj ((hu ws hl1).symm.trans hv)
    subst e
    have := rv_pair (x := .int ((i : Nat) : Int)) (v := .int ((i : Nat) : Int)) R hT (by simp only [RV]) rv
    simpa using this
  · rename_i l
    split at h1
    · rename_i ys eo
      obtain ⟨v, e, r⟩ := rvs1 rv
      simp only [RV] at r
      obtain ⟨a, ea, hm1⟩ := r
      subst ea
      obtain ⟨ws, hw, rs1⟩ := R1.obj l _ a eo hm1
      refine ⟨a, ws, e, .of hw, h1.ok R1 _ ?_⟩
      intro i m2 bs2 st2 H2 g R gk
      have hs := gokB_at gk
      obtain ⟨ws, hw2, r1⟩ := R.obj l _ a hs (g.at_ _ _ hm1)
      refine ⟨fun x hx => ?_, fun hl => ⟨ws, .of hw2, by rw [← r1.length]; simpa [enumI_len] using hl⟩⟩
      obtain ⟨z, hz, ez⟩ := enumI_get _ _ _ _ hx
      subst ez
      obtain ⟨v, hv, rv⟩ := r1.get hz
      refine ⟨⟨ws, v, .of hw2, hv⟩, fun w H' y => ?_⟩
      obtain ⟨T, u, e1, hT, e2, hu⟩ := y
      subst e1 e2
      have e : u = v := Option.some.inj ((hu ws (.of hw2)).symm.trans hv)
      subst e
      have := rv_pair (x := .int ((i : Nat) : Int)) (v := .int ((i : Nat) : Int)) R hT (by simp only [RV]) rv
      simpa using this
    · exact h1.elim
  · exact h1.elim
def zipI : List IV → List IV → List IV
  | x :: xs, y :: ys => .tup [x, y] :: zipI xs ys
  | _, _ => []
theorem zipI_get : ∀ (xs ys : List IV) (i : Nat) (z : IV), (zipI xs ys)[i]? = some z → ∃ x y, xs[i]? = some x ∧ ys[i]? = some y ∧ z = .tup [x, y]
  | [], _, _, _, h => by simp [zipI] at h
  | _ :: _, [], _, _, h => by simp [zipI] at h
  | x :: xs, y :: ys, 0, z, h => by simp [zipI] at h; exact ⟨x, y, rfl, rfl, h.symm⟩
  | x :: xs, y :: ys, i + 1, z, h => by
    simp only [zipI, List.getElem?_cons_succ] at h
    obtain ⟨u, v, e1, e2, e3⟩ := zipI_get xs ys i z h
    exact ⟨u, v, by simpa using e1, by simpa using e2, e3⟩
theorem zipI_len : ∀ (xs ys : List IV), (zipI xs ys).length = min xs.length ys.length
  | [], _ => by simp [zipI]
  | _ :: _, [] => by simp [zipI]
  | x :: xs, y :: ys => by simp [zipI, zipI_len xs ys]
def gZip : List IV → Sto → R (List IV × GI)
  | [.lst xs, .lst ys], st => .ok (zipI xs ys, none) st
  | [.tup xs, .tup ys], st => .ok (zipI xs ys, none) st
  | _, _ => .bad
theorem mi_zip {a b : Expr} {As : IA} {p pos tpos : Pos} {elts : List Expr} {kk : Nat} (hg : Gl X "zip") (hm : X.mg "zip" = none) (ha : MA X W xa [a, b] As)
    (hs : starEach [a, b] X.env = (false, eval a X.env) :: starEach [b] X.env := by rfl) (hpl : (backTo pos (starEach [b] X.env)).any (·.1) = false := by rfl) :
    MI X W xa (.Tuple elts kk tpos) (.Call (.Name "zip" p) [a, b] [] pos) (iRng gZip As) := by
  refine PI.mi (RZ.pi_zipA hg hm ha hs hpl) fun σ H R h => ?_
  obtain ⟨m, os, rs, ρ, st, P, h⟩ := h
  refine ⟨m, os, rs, ρ, st, P, h.bind.mono fun xs m1 st1 H1 g1 R1 h1 vs rv => ?_⟩
  unfold gZip at h1
  split at h1
  · rename_i us ws
    obtain ⟨v, w, e, r, r'⟩ := rvs2 rv
    simp only [RV] at r r'
    obtain ⟨a, as, ea, hl, ra⟩ := r
    obtain ⟨b, bs, eb, hk, rb⟩ := r'
    subst ea eb
    refine ⟨a, b, as, bs, e, .inl ⟨hl.sq, hk.sq, h1.ok R1 _ ?_⟩⟩
    intro i m2 bs2 st2 H2 g R _
    have hl1 := (g.lst _ _ hl).sq
    have hk1 := (g.lst _ _ hk).sq
    have ra1 := RVs.fits g _ _ ra
    have rb1 := RVs.fits g _ _ rb
    refine ⟨fun x hx => ?_, fun hq => ⟨as, bs, hl1, hk1, ?_⟩⟩
    · obtain ⟨x1, y1, e1, e2, e3⟩ := zipI_get _ _ _ _ hx
      subst e3
      obtain ⟨v1, f1, q1⟩ := ra1.get e1
      obtain ⟨v2, f2, q2⟩ := rb1.get e2
      refine ⟨⟨as, bs, v1, v2, hl1, hk1, f1, f2⟩, fun w H' y => ?_⟩
      obtain ⟨T, u1, u2, z1, hT, z2, z3, z4⟩ := y
      subst z1 z2
      have e : u1 = v1 := Option.some.inj ((z3 as hl1).symm.trans f1)
      have e' : u2 = v2 := Option.some.inj ((z4 bs hk1).symm.trans f2)
      subst e e'
      exact rv_pair R hT q1 q2
    · rw [zipI_len, ra.length, rb.length] at hq
      omega
  · rename_i us ws
    obtain ⟨v, w, e, r, r'⟩ := rvs2 rv
    simp only [RV] at r r'
    obtain ⟨a, as, ea, hl, ra⟩ := r
    obtain ⟨b, bs, eb, hk, rb⟩ := r'
    subst ea eb
    refine ⟨a, b, as, bs, e, .inr ⟨hl.sq, hk.sq, h1.ok R1 _ ?_⟩⟩
    intro i m2 bs2 st2 H2 g R _
    have hl1 := (g.tup _ _ hl).sq
    have hk1 := (g.tup _ _ hk).sq
    have ra1 := RVs.fits g _ _ ra
    have rb1 := RVs.fits g _ _ rb
    refine ⟨fun x hx => ?_, fun hq => ⟨as, bs, hl1, hk1, ?_⟩⟩
    · obtain ⟨x1, y1, e1, e2, e3⟩ := zipI_get _ _ _ _ hx
      subst e3
      obtain ⟨v1, f1, q1⟩ := ra1.get e1
      obtain ⟨v2, f2, q2⟩ := rb1.get e2
      refine ⟨⟨as, bs, v1, v2, hl1, hk1, f1, f2⟩, fun w H' y => ?_⟩
      obtain ⟨T, u1, u2, z1, hT, z2, z3, z4⟩ := y
      subst z1 z2
      have e : u1 = v1 := Option.some.inj ((z3 as hl1).symm.trans f1)
      have e' : u2 = v2 := Option.some.inj ((z4 bs hk1).symm.trans f2)
      subst e e'
      exact rv_pair R hT q1 q2
    · rw [zipI_len, ra.length, rb.length] at hq
      omega
  · exact h1.elim

/-! ### for -/
def forL (g : GI) (all : List IV) (T : ITg) (B : IS) : List IV → Slots → Sto → RS
  | [], ρ, st => if gokB g st all = true then .nx ρ st else .bad
  | x :: r, ρ, st => if gokB g st all = true then
      match T x ρ st with
      | .nx ρ1 st1 => match B ρ1 st1 with
        | .nx ρ2 st2 => forL g all T B r ρ2 st2
        | .ct ρ2 st2 => forL g all T B r ρ2 st2
        | .bk ρ2 st2 => .nx ρ2 st2
        | q => q
      | _ => .bad
    else .bad
def iFor (I : IIt) (T : ITg) (B : IS) : IS := fun ρ st => RS.ofR (I ρ st) ρ fun p st => forL p.2 p.1 T B p.1 ρ st
theorem ms_for {iter : Expr} {body : List Stmt} {I : IIt} {T : ITg} {B : IS} {pos : Pos} (hp : PassesOwn (model X.prog X.w) X.A X.env X.xe) (hc : X.calm = true) (hi : MI X W xa tg iter I) (hg : MG X xa tg T) (hb : MSs X W xa body B)
    (hs : ∀ x, foldedSetIterable iter X.env x = pure x := by intro _; rfl) : MS X W xa (.For tg iter body [] pos) (iFor I T B) := by
  refine PS.weak (ps_for hp hc hi hg hb hs) fun D σ H h => ?_
  obtain ⟨m, os, rs, ρ, st, P, h⟩ := h
  refine ⟨m, os, rs, ρ, st, P, (h.ofR P).mono fun p m1 st1 H1 g1 R1 h1 J hw => ?_⟩
  obtain ⟨xs, g⟩ := p
  refine ⟨fun i n σ H => n = xs.length - i ∧ i ≤ xs.length ∧ ∃ m os' ρ st, Grow m1 st1 os H1 m st os' H ∧ Pre (gd X) xa σ H m os' rs ρ st ∧ PstS (gd X) xa m os' rs st H W D (forL g xs T B (xs.drop i) ρ st),
    ⟨xs.length, by simp, Nat.zero_le _, m1, os, ρ, st1, .refl, P.grow g1 R1, by simpa using h1⟩, ?_⟩
  rintro i n σ2 H2 ⟨rfl, hi, m2, os2, ρ2, st2, g2, P2, h2⟩
  have w := hw i m2 _ st2 H2 g2.fits P2.rel
  by_cases hlt : i < xs.length
  · have ed : xs.drop i = xs[i] :: xs.drop (i + 1) := List.drop_eq_getElem_cons hlt
    rw [ed, forL] at h2
    split at h2
    · rename_i gk
      obtain ⟨w1, _⟩ := w gk
      obtain ⟨go, yl⟩ := w1 xs[i] (List.getElem?_eq_getElem hlt)
      refine .inr ⟨go, fun σ' H' => i + 1 ≤ xs.length ∧ ∃ m os' ρ st, Grow m1 st1 os H1 m st os' H' ∧ Pre (gd X) xa σ' H' m os' rs ρ st ∧ PstS (gd X) xa m os' rs st H' W D (forL g xs T B (xs.drop (i + 1)) ρ st), fun σ' H' q => ⟨xs.length - (i + 1), by omega, rfl, q⟩, fun v H3 y => ?_⟩
      obtain ⟨g3, R3, r3⟩ := yl v H3 y
      have P3 := P2.grow g3 R3
      refine ⟨m2, os2, rs, ρ2, st2, xs[i], P3, r3, ?_⟩
      cases q1 : T xs[i] ρ2 st2 with
      | nx ρ4 st4 =>
        simp only [q1] at h2
        intro m4 os4 H4 σ4 g4 P4
        refine ⟨m4, os4, rs, ρ4, st4, P4, ?_⟩
        have gg : Grow m1 st1 os H1 m4 st4 os4 H4 := (g2.trans (.ofE g3)).trans g4
        have sh : ∀ {r : RS}, PstS (gd X) xa m2 os2 rs st2 H2 W D r → PstS (gd X) xa m4 os4 rs st4 H4 W D r := fun h => h.shift ((Grow.ofE g3).trans g4)
        cases q2 : B ρ4 st4 with
        | nx ρ5 st5 =>
          simp only [q2] at h2
          exact fun m5 os5 H5 σ5 g5 P5 => ⟨hlt, m5, os5, ρ5, st5, gg.trans g5, P5, (sh h2).shift g5⟩
        | ct ρ5 st5 =>
          simp only [q2] at h2
          exact fun m5 os5 H5 σ5 g5 P5 => ⟨hlt, m5, os5, ρ5, st5, gg.trans g5, P5, (sh h2).shift g5⟩
        | bk ρ5 st5 =>
          simp only [q2] at h2
          exact sh h2
        | rt v st5 =>
          simp only [q2] at h2
          exact sh h2
        | exc c fs ρ5 st5 =>
          simp only [q2] at h2
          exact sh h2
        | bad => simp only [q2] at h2; exact h2.elim
      | _ => simp only [q1] at h2; exact h2.elim
    · exact h2.elim
  · have ei : i = xs.length := by omega
    rw [List.drop_eq_nil_of_le (by omega), forL] at h2
    split at h2
    · rename_i gk
      exact .inl ⟨(w gk).2 (by show xs.length ≤ i; omega), h2.here P2⟩
    · exact h2.elim

/-! ### while: at most so many turns -/
def whileN (S : IT) (B : IS) : Nat → Slots → Sto → RS
  | 0, _, _ => .bad
  | n + 1, ρ, st => RS.ofR (S ρ st) ρ fun b st => if b = true then
      match B ρ st with
      | .nx ρ2 st2 => whileN S B n ρ2 st2
      | .ct ρ2 st2 => whileN S B n ρ2 st2
      | .bk ρ2 st2 => .nx ρ2 st2
      | q => q
    else .nx ρ st
def iWhile (n : Nat) (S : IT) (B : IS) : IS := fun ρ st => whileN S B n ρ st
theorem ms_while {c : Expr} {body : List Stmt} {S : IT} {B : IS} {pos : Pos} {n : Nat} (hp : PassesOwn (model X.prog X.w) X.A X.env X.xe) (hc : MT X W xa c S) (hb : MSs X W xa body B) : MS X W xa (.While c body [] pos) (iWhile n S B) := by
  refine PS.weak (ps_while hp hc hb) fun D σ H h => ?_
  obtain ⟨m, os, rs, ρ, st, P, h⟩ := h
  refine ⟨fun k σ H => ∃ m os ρ st, Pre (gd X) xa σ H m os rs ρ st ∧ PstS (gd X) xa m os rs st H W D (whileN S B k ρ st), ⟨n, m, os, ρ, st, P, h⟩, ?_⟩
  rintro k σ2 H2 ⟨m2, os2, ρ2, st2, P2, h2⟩
  cases k with
  | zero => exact h2.elim
  | succ k =>
    rw [whileN] at h2
    refine ⟨m2, os2, rs, ρ2, st2, P2, (h2.ofR P2).mono fun b m3 st3 H3 g3 R3 h3 b' e => ?_⟩
    subst e
    cases b with
    | false => exact h3.here (P2.grow g3 R3)
    | true =>
      refine ⟨fun σ' H' => ∃ m os ρ st, Pre (gd X) xa σ' H' m os rs ρ st ∧ PstS (gd X) xa m os rs st H' W D (whileN S B k ρ st), fun σ' H' q => ⟨k, Nat.lt_succ_self k, q⟩, m3, os2, rs, ρ2, st3, P2.grow g3 R3, ?_⟩
      simp only [if_true] at h3
      cases q2 : B ρ2 st3 with
      | nx ρ5 st5 =>
        simp only [q2] at h3
        exact fun m5 os5 H5 σ5 g5 P5 => ⟨m5, os5, ρ5, st5, P5, h3.shift g5⟩
      | ct ρ5 st5 =>
        simp only [q2] at h3
        exact fun m5 os5 H5 σ5 g5 P5 => ⟨m5, os5, ρ5, st5, P5, h3.shift g5⟩
      | bk ρ5 st5 => simp only [q2] at h3; exact h3
      | rt v st5 => simp only [q2] at h3; exact h3
      | exc c fs ρ5 st5 => simp only [q2] at h3; exact h3
      | bad => simp only [q2] at h3; exact h3.elim
end
end Mi
set_option Elab.async false
set_option linter.all false
set_option maxRecDepth 100000
set_option maxHeartbeats 4000000
namespace Mi
open PySem PySem.Spec PyProof.Rows L2

section
variable {G : Gd} {m m' bs bs' bs'' os os' rs : List Addr} {st st' : Sto} {H H' H'' : Hp} {D : Addr}
theorem Fits.trans {m'' : List Addr} {st'' : Sto} (a : Fits G m bs st H m' bs' st' H') (b : Fits G m' bs' st' H' m'' bs'' st'' H'') : Fits G m bs st H m'' bs'' st'' H'' :=
  ⟨fun l x h => b.at_ l x (a.at_ l x h), fun x vs h => b.tup x vs (a.tup x vs h), fun x vs h => b.lst x vs (a.lst x vs h), fun x vs h => b.ptp x vs (a.ptp x vs h)⟩
/-- fewer are blocked -/
theorem fits_sub (h : ∀ a ∈ bs', a ∈ bs) : Fits G m bs st H m bs' st H := ⟨fun _ _ h => h, fun a vs x => by
    rcases x with ⟨x, n, q⟩ | x
    · exact .inl ⟨x, n, fun z => q (h a z)⟩
    · exact .inr x, fun a vs x => by
    rcases x with ⟨x, n, q⟩ | x
    · exact .inl ⟨x, n, fun z => q (h a z)⟩
    · exact .inr x, fun a vs x => by
    obtain ⟨o, x, d, n, q⟩ := x
    exact ⟨o, x, d, n, fun z => q (h a z)⟩⟩
theorem Rel.sub (R : Rel G m bs st H) (h : ∀ a ∈ bs', a ∈ bs) : Rel G m bs' st H :=
  ⟨R.len, R.nd, fun l o a e1 e2 => (R.obj l o a e1 e2).fits (fits_sub h) fun _ e => e, fun a z => R.bsd a (h a z)⟩
theorem rd_ne {a : Addr} {u w : HO} (hD : H D = none) (h : Rd H a u) : a ≠ D ∧ Rd (upd H D w) a u := by
  rcases h with h | ⟨o, h⟩
  · have ne := ne_of_none h hD
    exact ⟨ne, .inl (by rw [upd_ne ne]; exact h)⟩
  · have ne := ne_of_none h hD
    exact ⟨ne, .inr ⟨o, by rw [upd_ne ne]; exact h⟩⟩
/-- a new place is blocked from its birth -/
theorem fits_block {u : HO} (hD : H D = none) (h : ∀ a ∈ bs', a = D ∨ a ∈ bs) : Fits G m bs st H m bs' st (upd H D u) := ⟨fun _ _ h => h, fun a vs x => by
    rcases x with ⟨x, n, q⟩ | x
    · obtain ⟨ne, x⟩ := rd_ne (w := u) hD x
      exact .inl ⟨x, n, fun z => (h a z).elim ne q⟩
    · exact .inr x, fun a vs x => by
    rcases x with ⟨x, n, q⟩ | x
    · obtain ⟨ne, x⟩ := rd_ne (w := u) hD x
      exact .inl ⟨x, n, fun z => (h a z).elim ne q⟩
    · exact .inr x, fun a vs x => by
    obtain ⟨o, x, d, n, q⟩ := x
    have ne := ne_of_none x hD
    exact ⟨o, by rw [upd_ne ne]; exact x, d, n, fun z => (h a z).elim ne q⟩⟩
theorem Rel.block (R : Rel G m bs st H) {u : HO} (hD : H D = none) (h : ∀ a ∈ bs', a = D ∨ a ∈ bs) : Rel G m bs' st (upd H D u) := by
  refine ⟨R.len, R.nd, fun l o a e1 e2 => (R.obj l o a e1 e2).fits (fits_block hD h) fun w e => ?_, fun a z => ?_⟩
  · rw [upd_ne (ne_of_none e hD)]; exact e
  · rcases h a z with e | z
    · rw [e]; exact ⟨(R.fresh hD).1, _, upd_same⟩
    · obtain ⟨n, o, e⟩ := R.bsd a z
      exact ⟨n, o, by rw [upd_ne (ne_of_none e hD)]; exact e⟩
/-- what is blocked may change -/
theorem fits_upd {u : HO} (h : D ∈ bs) : Fits G m bs st H m bs st (upd H D u) := ⟨fun _ _ h => h, fun a vs x => by
    rcases x with ⟨x, n, q⟩ | x
    · have ne : a ≠ D := fun z => q (z ▸ h)
      exact .inl ⟨by rcases x with x | ⟨o, x⟩
                     · exact .inl (by rw [upd_ne ne]; exact x)
                     · exact .inr ⟨o, by rw [upd_ne ne]; exact x⟩, n, q⟩
    · exact .inr x, fun a vs x => by
    rcases x with ⟨x, n, q⟩ | x
    · have ne : a ≠ D := fun z => q (z ▸ h)
      exact .inl ⟨by rcases x with x | ⟨o, x⟩
                     · exact .inl (by rw [upd_ne ne]; exact x)
                     · exact .inr ⟨o, by rw [upd_ne ne]; exact x⟩, n, q⟩
    · exact .inr x, fun a vs x => by
    obtain ⟨o, x, d, n, q⟩ := x
    have ne : a ≠ D := fun z => q (z ▸ h)
    exact ⟨o, by rw [upd_ne ne]; exact x, d, n, q⟩⟩
theorem Rel.upd (R : Rel G m bs st H) {u : HO} (h : D ∈ bs) : Rel G m bs st (upd H D u) := by
  refine ⟨R.len, R.nd, fun l o a e1 e2 => (R.obj l o a e1 e2).fits (fits_upd h) fun w e => ?_, fun a z => ?_⟩
  · have ne : a ≠ D := fun z => (R.bsd D h).1 (z ▸ List.mem_of_getElem? e2)
    rw [upd_ne ne]; exact e
  · obtain ⟨n, o, e⟩ := R.bsd a z
    by_cases ha : a = D
    · rw [ha]; exact ⟨(R.bsd D h).1, _, upd_same⟩
    · exact ⟨n, o, by rw [upd_ne ha]; exact e⟩
theorem back_fresh (R : Rel G m' bs st' H') (g : GrowE m st H m' st' H') (R0 : Rel G m bs st H) {p : Addr} (h : H' p = none) : H p = none := g.stay p h
end

/-! ### lists just made -/
def PstF (G : Gd) (m bs : List Addr) (st : Sto) (H : Hp) (W : Value → Option Addr → Hp → Prop) (r : R (List IV)) (Q : VK) : Prop := match r with
  | .ok xs st' => ∀ m' H' D vs, H D = none → GrowE m st H m' st' H' → Rel G m' (D :: bs) st' H' → H' D = some (.lst vs) → RVs G m' (D :: bs) st' H' xs vs → Q (.ref D) H'
  | .exc c fs st' => ∀ m' H' cls d, GrowE m st H m' st' H' → Rel G m' bs st' H' → XR G m' bs st' H' c fs cls d → W cls d H'
  | .bad => False
def tfOf (G : Gd) (W : WX) (xa : Xa) (A : IA) : TE := fun σ H Q => ∃ m os rs ρ st, Pre G xa σ H m os rs ρ st ∧ PstF G m (os ++ rs) st H (fun cls d H' => W cls d σ H') (A ρ st) Q
abbrev MF (X : Cx) (W : WX) (xa : Xa) (e : Expr) (A : IA) : Prop := PE X e (tfOf (gd X) W xa A)
theorem Pst.toF {G : Gd} {m bs : List Addr} {st : Sto} {H : Hp} {W : Value → Option Addr → Hp → Prop} {r : R (List IV)} {Q : VK} {P : List IV → List Addr → Sto → Hp → Prop} (h : PstF G m bs st H W r Q)
    (k : ∀ xs m' st' H', GrowE m st H m' st' H' → Rel G m' bs st' H' → (∀ m2 H2 D vs, H D = none → GrowE m st H m2 st' H2 → Rel G m2 (D :: bs) st' H2 → H2 D = some (.lst vs) → RVs G m2 (D :: bs) st' H2 xs vs → Q (.ref D) H2) → P xs m' st' H') : Pst G m bs st H W r P := by
  cases r with
  | ok xs st' => exact fun m' H' g R => k xs m' st' H' g R h
  | exc c fs st' => exact h
  | bad => exact h
section
variable {X : Cx} {W : WX} {xa : Xa} {e a b : Expr} {A : IE} {As : IA} {pos : Pos} {es : List Expr}
def iF (As : IA) : IE := fun ρ st => (As ρ st).bind fun xs st => .ok (.lst xs) st
def iFS (As : IA) : IE := fun ρ st => (As ρ st).bind fun xs st => .ok (.ref st.length) (st ++ [.lst xs])
theorem F_weak {σ : L2.St} {H : Hp} {Q : VK} (h : teOf (gd X) W xa (iF As) σ H Q) : tfOf (gd X) W xa As σ H Q := by
  obtain ⟨m, os, rs, ρ, st, P, h⟩ := h
  refine ⟨m, os, rs, ρ, st, P, ?_⟩
  unfold iF at h
  cases q : As ρ st with
  | ok xs st' =>
    rw [q] at h
    intro m' H' D vs hD g R e r
    have sub : ∀ a ∈ os ++ rs, a ∈ D :: (os ++ rs) := fun a z => List.mem_cons_of_mem _ z
    refine h m' H' g (R.sub sub) (.ref D) ?_
    simp only [RV]
    have hn := R.bsd D List.mem_cons_self
    refine ⟨D, vs, rfl, .inl ⟨.inl e, fun z => hn.1 z.mem, fun z => ?_⟩, RVs.fits (fits_sub sub) _ _ r⟩
    obtain ⟨_, o, e'⟩ := P.rel.bsd D z
    rw [hD] at e'; cases e'
  | exc c fs st' => rw [q] at h; exact h
  | bad => rw [q] at h; exact h
theorem FS_weak {σ : L2.St} {H : Hp} {Q : VK} (h : teOf (gd X) W xa (iFS As) σ H Q) : tfOf (gd X) W xa As σ H Q := by
  obtain ⟨m, os, rs, ρ, st, P, h⟩ := h
  refine ⟨m, os, rs, ρ, st, P, ?_⟩
  unfold iFS at h
  cases q : As ρ st with
  | ok xs st' =>
    rw [q] at h
    intro m' H' D vs hD g R e r
    have sub : ∀ a ∈ os ++ rs, a ∈ D :: (os ++ rs) := fun a z => List.mem_cons_of_mem _ z
    have hn := R.bsd D List.mem_cons_self
    have nb : D ∉ os ++ rs := fun z => by
      obtain ⟨_, o, e'⟩ := P.rel.bsd D z
      rw [hD] at e'; cases e'
    have f : Fits (gd X) m' (D :: (os ++ rs)) st' H' (m' ++ [D]) (os ++ rs) (st' ++ [.lst xs]) H' := by
      refine ⟨fun l a h => ?_, fun a vs h => ?_, fun a vs h => ?_, fun a vs h => ?_⟩
      · rw [List.getElem?_append_left (List.getElem?_eq_some_iff.mp h).1]; exact h
      · rcases h with ⟨h, n, z⟩ | h
        · exact .inl ⟨h, fun y => (lv_snoc R.len y).elim n fun y => z (y ▸ List.mem_cons_self), fun y => z (sub a y)⟩
        · exact .inr h
      · rcases h with ⟨h, n, z⟩ | h
        · exact .inl ⟨h, fun y => (lv_snoc R.len y).elim n fun y => z (y ▸ List.mem_cons_self), fun y => z (sub a y)⟩
        · exact .inr h
      · obtain ⟨o, h, d, n, z⟩ := h
        exact ⟨o, h, d, fun y => (lv_snoc R.len y).elim n fun y => z (y ▸ List.mem_cons_self), fun y => z (sub a y)⟩
    have g2 : GrowE m st H (m' ++ [D]) (st' ++ [.lst xs]) H' := ⟨g.pre.trans (List.prefix_append _ _), fun a o ha na qa nx => by
      obtain ⟨h1, n1, _⟩ := g.keep a o ha na qa nx
      exact ⟨h1, fun y => (lv_snoc R.len y).elim n1 (fun y => by rw [y, hD] at ha; cases ha), qa⟩, g.stay⟩
    refine h (m' ++ [D]) H' g2 ⟨by simp [R.len], fun i j x e1 e2 => ?_, fun l w x e1 e2 => ?_, fun x z => ⟨fun y => ?_, (R.bsd x (sub x z)).2⟩⟩ (.ref D) ?_
    · rcases getElem?_snoc e1 with e1 | ⟨i1, e1⟩
      · rcases getElem?_snoc e2 with e2 | ⟨i2, e2⟩
        · exact R.nd i j x e1 e2
        · exact absurd (List.mem_of_getElem? e1) (by rw [e2]; exact hn.1)
      · rcases getElem?_snoc e2 with e2 | ⟨i2, e2⟩
        · exact absurd (List.mem_of_getElem? e2) (by rw [e1]; exact hn.1)
        · omega
    · rcases getElem?_snoc e2 with e2 | ⟨i2, e2⟩
      · have hlt : l < st'.length := by rw [← R.len]; exact (List.getElem?_eq_some_iff.mp e2).1
        rw [List.getElem?_append_left hlt] at e1
        exact (R.obj l w x e1 e2).fits f fun _ e => e
      · subst e2
        rw [R.len] at i2; subst i2
        rw [List.getElem?_append_right (Nat.le_refl _)] at e1
        have ew : IO.lst xs = w := by simpa using e1
        rw [← ew]; exact ⟨vs, e, RVs.fits f _ _ r⟩
    · rcases List.mem_append.mp y with y | y
      · exact (R.bsd x (sub x z)).1 y
      · have : x = D := by simpa using y
        exact nb (this ▸ z)
    · simp only [RV]
      exact ⟨D, rfl, by rw [← R.len, List.getElem?_append_right (Nat.le_refl _)]; simp⟩
  | exc c fs st' => rw [q] at h; exact h
  | bad => rw [q] at h; exact h
theorem me_F (h : MF X W xa e As) : ME X W xa e (iF As) := PE.weak h fun σ H Q h => F_weak h
theorem me_FS (h : MF X W xa e As) : ME X W xa e (iFS As) := PE.weak h fun σ H Q h => FS_weak h
/-- x = a list just made, the name's own -/
def iSetOwn (i : Nat) (As : IA) : IS := fun ρ st => RS.ofR (As ρ st) ρ fun xs st => if i < ρ.length then .nx (ρ.set i (some (.own xs))) st else .bad
theorem own_weak {i : Nat} {D0 : Ends} {σ : L2.St} {H : Hp} (h : tsOf (gd X) W xa (iSetOwn i As) D0 σ H) : tAsg (tfOf (gd X) W xa As) (gName i) D0 σ H := by
  obtain ⟨m, os, rs, ρ, st, P, h⟩ := h
  refine ⟨m, os, rs, ρ, st, P, ?_⟩
  unfold iSetOwn at h
  cases q : As ρ st with
  | ok xs st' =>
    rw [q] at h
    intro m' H' D vs hD g R e r
    simp only [RS.ofR] at h
    split at h
    · rename_i hi
      have hiσ : i < σ.length := by rw [← P.re.len]; exact hi
      have nr : D ∉ os ++ rs := fun z => by
        obtain ⟨_, o, e'⟩ := P.rel.bsd D z
        rw [hD] at e'; cases e'
      refine h m' (D :: os) H' (σ.set i (some (.ref D))) ⟨g.pre, fun a o ha n qa nx => ?_, g.stay⟩ ⟨R, by simp [P.re.len], fun j y e1 => ?_, fun j ys e1 => ?_, fun j k ys zs w e1 e2 e3 e4 => ?_⟩
      · obtain ⟨h1, n1, _⟩ := g.keep a o ha n (by simp) nx
        exact ⟨h1, n1, fun z => by
          rcases List.mem_cons.mp z with z | z
          · rw [z, hD] at ha; cases ha
          · exact qa z⟩
      · by_cases hj : i = j
        · subst hj
          rw [List.getElem?_set_self hi] at e1
          cases e1
          exact ⟨.ref D, by rw [List.getElem?_set_self hiσ], D, vs, rfl, e, r, List.mem_cons_self⟩
        · rw [List.getElem?_set_ne hj] at e1
          obtain ⟨v, e2, r2⟩ := P.re.at_ j y e1
          refine ⟨v, by rw [List.getElem?_set_ne hj]; exact e2, ?_⟩
          have R' : Rel (gd X) m' (os ++ rs) st' H' := R.sub fun a z => List.mem_cons_of_mem _ z
          cases y with
          | v x =>
            -- its places stood at the beginning
            have key : ∀ a o, H a = some o → ¬ Lv m st a → NX o → H' a = some o ∧ ¬ Lv m' st' a ∧ a ≠ D := fun a o ha na nx => by
              obtain ⟨h1, n1, _⟩ := g.keep a o ha na (by simp) nx
              exact ⟨h1, n1, fun z => by rw [z, hD] at ha; cases ha⟩
            have f : Fits (gd X) m (os ++ rs) st H m' (D :: (os ++ rs)) st' H' := by
              refine ⟨fun l a h => g.at h, fun a vs h => ?_, fun a vs h => ?_, fun a vs h => ?_⟩
              · rcases h with ⟨h, n, z⟩ | h
                · rcases h with h | ⟨o, h⟩
                  · obtain ⟨k1, k2, k3⟩ := key a _ h n nxt
                    exact .inl ⟨.inl k1, k2, fun y => (List.mem_cons.mp y).elim k3 z⟩
                  · obtain ⟨k1, k2, k3⟩ := key a _ h n nxf
                    exact .inl ⟨.inr ⟨o, k1⟩, k2, fun y => (List.mem_cons.mp y).elim k3 z⟩
                · exact .inr h
              · rcases h with ⟨h, n, z⟩ | h
                · rcases h with h | ⟨o, h⟩
                  · obtain ⟨k1, k2, k3⟩ := key a _ h n nxl
                    exact .inl ⟨.inl k1, k2, fun y => (List.mem_cons.mp y).elim k3 z⟩
                  · obtain ⟨k1, k2, k3⟩ := key a _ h n nxf
                    exact .inl ⟨.inr ⟨o, k1⟩, k2, fun y => (List.mem_cons.mp y).elim k3 z⟩
                · exact .inr h
              · obtain ⟨o, h, d, n, z⟩ := h
                obtain ⟨k1, k2, k3⟩ := key a _ h n nxf
                exact ⟨o, k1, d, k2, fun y => (List.mem_cons.mp y).elim k3 z⟩
            exact RV.fits f _ _ r2
          | own ys =>
            obtain ⟨a, ws, ea, ha, ra, hb⟩ := r2
            have key : ∀ a o, H a = some o → ¬ Lv m st a → NX o → H' a = some o ∧ ¬ Lv m' st' a ∧ a ≠ D := fun a o ha na nx => by
              obtain ⟨h1, n1, _⟩ := g.keep a o ha na (by simp) nx
              exact ⟨h1, n1, fun z => by rw [z, hD] at ha; cases ha⟩
            have f : Fits (gd X) m (os ++ rs) st H m' (D :: (os ++ rs)) st' H' := by
              refine ⟨fun l a h => g.at h, fun a vs h => ?_, fun a vs h => ?_, fun a vs h => ?_⟩
              · rcases h with ⟨h, n, z⟩ | h
                · rcases h with h | ⟨o, h⟩
                  · obtain ⟨k1, k2, k3⟩ := key a _ h n nxt
                    exact .inl ⟨.inl k1, k2, fun y => (List.mem_cons.mp y).elim k3 z⟩
                  · obtain ⟨k1, k2, k3⟩ := key a _ h n nxf
                    exact .inl ⟨.inr ⟨o, k1⟩, k2, fun y => (List.mem_cons.mp y).elim k3 z⟩
                · exact .inr h
              · rcases h with ⟨h, n, z⟩ | h
                · rcases h with h | ⟨o, h⟩
                  · obtain ⟨k1, k2, k3⟩ := key a _ h n nxl
                    exact .inl ⟨.inl k1, k2, fun y => (List.mem_cons.mp y).elim k3 z⟩
                  · obtain ⟨k1, k2, k3⟩ := key a _ h n nxf
                    exact .inl ⟨.inr ⟨o, k1⟩, k2, fun y => (List.mem_cons.mp y).elim k3 z⟩
                · exact .inr h
              · obtain ⟨o, h, d, n, z⟩ := h
                obtain ⟨k1, k2, k3⟩ := key a _ h n nxf
                exact ⟨o, k1, d, k2, fun y => (List.mem_cons.mp y).elim k3 z⟩
            exact ⟨a, ws, ea, (key a _ ha (fun z => (P.rel.bsd a hb).1 z.mem) nxl).1, RVs.fits f _ _ ra, List.mem_cons_of_mem _ hb⟩
          | exn l =>
            obtain ⟨a, d, e, e2, e3⟩ := r2
            exact ⟨a, d, e, e2, g.at e3⟩
      · by_cases hj : i = j
        · subst hj
          exact ⟨D, by rw [List.getElem?_set_self hiσ], List.mem_cons_self, fun z => nr (List.mem_append_right _ z)⟩
        · rw [List.getElem?_set_ne hj] at e1
          obtain ⟨a, e2, q2⟩ := P.re.own j ys e1
          exact ⟨a, by rw [List.getElem?_set_ne hj]; exact e2, List.mem_cons_of_mem _ q2.1, q2.2⟩
      · have other : ∀ {j : Nat} {ys : List IV}, i ≠ j → (ρ.set i (some (.own xs)))[j]? = some (some (.own ys)) → (σ.set i (some (.ref D)))[j]? ≠ some (some (.ref D)) := fun {j ys} hj e1 e3 => by
          rw [List.getElem?_set_ne hj] at e1 e3
          obtain ⟨a, e2, q2⟩ := P.re.own j ys e1
          rw [e3] at e2
          cases e2
          exact nr (List.mem_append_left _ q2.1)
        by_cases hj : i = j
        · subst hj
          by_cases hk : i = k
          · exact hk
          · rw [List.getElem?_set_self hiσ] at e3
            cases e3
            exact absurd e4 (other hk e2)
        · by_cases hk : i = k
          · subst hk
            rw [List.getElem?_set_self hiσ] at e4
            cases e4
            exact absurd e3 (other hj e1)
          · rw [List.getElem?_set_ne hj] at e1 e3
            rw [List.getElem?_set_ne hk] at e2 e4
            exact P.re.uniq j k ys zs w e1 e2 e3 e4
    · exact h.elim
  | exc c fs st' =>
    rw [q] at h
    exact fun m' H' cls d g R x => h m' os H' σ cls d (.ofE g) (P.grow g R) x
  | bad => rw [q] at h; exact h
theorem ms_setOwn {i : Nat} {x : Str} {pos' : Pos} (hN : X.N.Nodup) (hi : X.N[i]? = some x) (hx : Loc X.env.scope x) (ha : MF X W xa a As) (hs : swapsWith a (some (.Name x pos')) pos.line X.env = pure false := by rfl)
    (hf : X.fn x = true ∨ X.env.scope.names.lookup x = some .local := by first | exact .inl rfl | exact .inr rfl | assumption) : MS X W xa (.Assign [.Name x pos'] a pos) (iSetOwn i As) :=
  PS.weak (ps_set hN hi hx ha hs hf) fun D σ H h => own_weak h
/-- [a, b, ..] -/
def iFew (As : IA) : IA := fun ρ st => (As ρ st).bind fun xs st => if xs.length ≤ 100000 then .ok xs st else .bad
theorem mf_new {m bs : List Addr} {st : Sto} {H : Hp} {m1 : List Addr} {st1 : Sto} {H1 : Hp} {xs : List IV} {vs : List V} {W : Value → Option Addr → Hp → Prop} {Q : VK} (R0 : Rel (gd X) m bs st H) (g : GrowE m st H m1 st1 H1) (R : Rel (gd X) m1 bs st1 H1)
    (r : RVs (gd X) m1 bs st1 H1 xs vs) (h : PstF (gd X) m bs st H W (.ok xs st1) Q) {p : Addr} (hp : H1 p = none) : Q (.ref p) (upd H1 p (.lst vs)) := by
  have blk : ∀ a ∈ p :: bs, a = p ∨ a ∈ bs := fun a z => List.mem_cons.mp z
  exact h m1 _ p vs (back_fresh R g R0 hp) (g.trans (grow_new hp)) (R.block hp blk) upd_same (RVs.fits (fits_block hp blk) _ _ r)
theorem mf_lst (h : MA X W xa es As) : MF X W xa (.List es pos) (iFew As) := by
  refine PE.weak (pe_lst h) fun σ H Q h => ?_
  obtain ⟨m, os, rs, ρ, st, P, h⟩ := h
  refine ⟨m, os, rs, ρ, st, P, ?_⟩
  unfold iFew at h
  cases q : As ρ st with
  | ok xs st1 =>
    rw [q] at h
    intro m1 H1 g1 R1 vs rv
    simp only [R.bind] at h
    split at h
    · rename_i c
      exact ⟨by rw [← rv.length]; exact szl c, fun p hp => mf_new P.rel g1 R1 rv h hp⟩
    · exact h.elim
  | exc c fs st1 => rw [q] at h; exact h
  | bad => rw [q] at h; exact h
/-- list(e) -/
def gListF : List IV → Sto → R (List IV)
  | [x], st => match asS st x with
    | some xs => .ok xs st
    | none => .bad
  | _, _ => .bad
def iCallF (g : List IV → Sto → R (List IV)) (As : IA) : IA := fun ρ st => (As ρ st).bind g
theorem mf_list {x : Str} {p : Pos} (hg : Gl X x) (hm : X.mg x = none) (hv : bootBuiltins x = some (.type "list")) (ha : MA X W xa (e :: es) As)
    (hn : x ≠ "__name__" := by decide) (hdb : (x == ("__debug__" : Str)) = false := by decide) (he : starEach (e :: es) X.env = (false, eval e X.env) :: starEach es X.env := by rfl) (hpl : (backTo pos (starEach es X.env)).any (·.1) = false := by rfl) :
    MF X W xa (.Call (.Name x p) (e :: es) [] pos) (iCallF gListF As) := by
  refine PE.weak (pe_callTy call_list_of hg hm hv ha hn hdb he hpl) fun σ H Q h => ?_
  obtain ⟨m, os, rs, ρ, st, P, h⟩ := h
  refine ⟨m, os, rs, ρ, st, P, ?_⟩
  unfold iCallF at h
  cases q : As ρ st with
  | ok xs st1 =>
    rw [q] at h
    intro m1 H1 g1 R1 vs rv
    simp only [R.bind, gListF] at h
    split at h
    · split at h
      · rename_i ys hy
        obtain ⟨v, e, r⟩ := rvs1 rv
        obtain ⟨a, ws, ea, hs, r2⟩ := asS_sq R1 hy r
        subst ea
        exact ⟨a, ws, e, hs, fun l hl => mf_new P.rel g1 R1 r2 h hl⟩
      · exact h.elim
    · exact h.elim
  | exc c fs st1 => rw [q] at h; exact h
  | bad => rw [q] at h; exact h
end

/-! ### comprehensions -/
def wipeI (ρ : Slots) : List Nat → Slots
  | [] => ρ
  | v :: vs => (wipeI ρ vs).set v none
section
variable {G : Gd} {xa : Xa} {m os rs : List Addr} {st : Sto} {H : Hp} {σ : L2.St} {ρ : Slots}
theorem Pre.wipe (P : Pre G xa σ H m os rs ρ st) : ∀ vs : List Nat, Pre G xa (wipe σ vs) H m os rs (wipeI ρ vs) st
  | [] => P
  | v :: vs => by
    have h := Pre.wipe P vs
    show Pre G xa ((L2.wipe σ vs).set v none) H m os rs ((wipeI ρ vs).set v none) st
    exact h.setN
theorem wipe_set {v : Nat} : ∀ {vs : List Nat}, v ∈ vs → ∀ (σ : L2.St) (x : Option V), wipe (σ.set v x) vs = wipe σ vs
  | [], h, _, _ => nomatch h
  | u :: vs, h, σ, x => by
    show ((L2.wipe (σ.set v x) vs).set u none) = (L2.wipe σ vs).set u none
    by_cases hm : v ∈ vs
    · rw [wipe_set hm]
    · have hv : v = u := by
        rcases List.mem_cons.mp h with h | h
        · exact h
        · exact absurd h hm
      subst hv
      have : ∀ (vs : List Nat) (σ : L2.St) (x : Option V), v ∉ vs → L2.wipe (σ.set v x) vs = (L2.wipe σ vs).set v x := by
        intro vs
        induction vs with
        | nil => intro σ x _; rfl
        | cons w ws ih =>
          intro σ x hn
          show ((L2.wipe (σ.set v x) ws).set w none) = ((L2.wipe σ ws).set w none).set v x
          rw [ih σ x fun z => hn (List.mem_cons_of_mem _ z), List.set_comm _ _ (fun (z : w = v) => hn (by rw [z]; exact List.mem_cons_self))]
      rw [this vs σ x hm, List.set_set]
theorem wipe_wipe : ∀ (vs : List Nat) (σ : L2.St), wipe (wipe σ vs) vs = wipe σ vs
  | [], _ => rfl
  | v :: vs, σ => by
    show (L2.wipe ((L2.wipe σ vs).set v none) vs).set v none = (L2.wipe σ vs).set v none
    by_cases hm : v ∈ vs
    · rw [wipe_set hm, wipe_wipe vs σ]
    · have : ∀ (vs : List Nat) (σ : L2.St) (x : Option V), v ∉ vs → L2.wipe (σ.set v x) vs = (L2.wipe σ vs).set v x := by
        intro vs
        induction vs with
        | nil => intro σ x _; rfl
        | cons w ws ih =>
          intro σ x hn
          show ((L2.wipe (σ.set v x) ws).set w none) = ((L2.wipe σ ws).set w none).set v x
          rw [ih σ x fun z => hn (List.mem_cons_of_mem _ z), List.set_comm _ _ (fun (z : w = v) => hn (by rw [z]; exact List.mem_cons_self))]
      rw [this vs _ none hm, wipe_wipe vs σ, List.set_set]
/-- a comprehension's target: it stores the block's own names alone -/
def CTg (G : Gd) (xa : Xa) (vs : List Nat) (g : TG) (T : ITg) : Prop :=
  ∀ (v : V) (σ : L2.St) (H : Hp) (Q : L2.St → Hp → Prop) m os rs ρ st x, Pre G xa σ H m os rs ρ st → RV G m (os ++ rs) st H x v →
    (∃ ρ' , T x ρ st = .nx ρ' st ∧ ∀ σ2, Pre G xa σ2 H m os rs ρ' st → wipe σ2 vs = wipe σ vs → Q σ2 H) → g v σ H Q
theorem ctg_name {vs : List Nat} {i : Nat} (h : i ∈ vs) : CTg G xa vs (gName i) (tgName i) := by
  intro v σ H Q m os rs ρ st x P r h'
  obtain ⟨ρ', e, k⟩ := h'
  cases e
  exact k _ (P.set r) (wipe_set h σ _)
theorem ctg_pair {vs : List Nat} {i j : Nat} (hi : i ∈ vs) (hj : j ∈ vs) : CTg G xa vs (gTup G.K 2 (gCons (gName i) (gCons (gName j) gNil))) (tgTup 2 (tgCons (tgName i) (tgCons (tgName j) tgNil))) := by
  intro v σ H Q m os rs ρ st x P r h'
  obtain ⟨ρ', e, k⟩ := h'
  cases x with
  | tup xs =>
    simp only [tgTup] at e
    split at e
    · rename_i hl
      obtain ⟨p, ws, ep, hs, r2⟩ := asT_sq (x := .tup xs) rfl r
      refine ⟨p, ws, ep, hs, by rw [← r2.length]; exact hl, ?_⟩
      match xs, hl with
      | [y, z], _ =>
        obtain ⟨v1, v2, ev, r3, r4⟩ := rvs2 r2
        refine ⟨v1, [v2], ev, v2, [], rfl, rfl, ?_⟩
        simp only [tgCons, tgName, RS.seq, tgNil] at e
        cases e
        exact k _ ((P.set r3).set r4) (by rw [wipe_set hj, wipe_set hi])
    · cases e
  | _ => cases e
end
/-- an exception inside is none of ours -/
def R.noE {α : Type} : R α → R α
  | .exc _ _ _ => .bad
  | r => r
theorem Pst.noE {α : Type} {G : Gd} {m bs : List Addr} {st : Sto} {H : Hp} {W W' : Value → Option Addr → Hp → Prop} {r : R α} {P : α → List Addr → Sto → Hp → Prop} (h : Pst G m bs st H W r.noE P) : Pst G m bs st H W' r P := by
  cases r with
  | ok a st' => exact h
  | exc c fs st' => exact h.elim
  | bad => exact h
theorem PstF.shift {G : Gd} {m bs : List Addr} {st : Sto} {H : Hp} {W : Value → Option Addr → Hp → Prop} {r : R (List IV)} {Q : VK} (R : Rel G m bs st H) {m1 : List Addr} {st1 : Sto} {H1 : Hp} (R1 : Rel G m1 bs st1 H1) (g : GrowE m st H m1 st1 H1) (h : PstF G m bs st H W r Q) : PstF G m1 bs st1 H1 W r Q := by
  cases r with
  | ok a st' => exact fun m' H' D vs hD g' R' e r => h m' H' D vs (back_fresh R1 g R hD) (g.trans g') R' e r
  | exc c fs st' => exact fun m' H' cls d g' R' x => h m' H' cls d (g.trans g') R' x
  | bad => exact h
/-- one clause, at most one test -/
def lcL (g : GI) (all : List IV) (vs : List Nat) (T : ITg) (S : IT) (E : IE) (ρ : Slots) : List IV → Nat → List IV → Sto → R (List IV)
  | [], _, acc, st => if gokB g st all = true then .ok acc st else .bad
  | x :: r, n, acc, st => if gokB g st all = true ∧ acc.length < 100000 then
      match T x (wipeI ρ vs) st with
      | .nx ρ1 st1 => ((S ρ1 st1).noE).bind fun b st2 => if b = true then ((E ρ1 st2).noE).bind fun y st3 => lcL g all vs T S E ρ r (n + 1) (acc ++ [y]) st3 else lcL g all vs T S E ρ r (n + 1) acc st2
      | _ => .bad
    else .bad
def iLc (I : IIt) (vs : List Nat) (T : ITg) (S : IT) (E : IE) : IA := fun ρ st => (I ρ st).bind fun p st => lcL p.2 p.1 vs T S E ρ p.1 0 [] st
def iYes : IT := fun _ st => .ok true st
abbrev W0 : WX := fun _ _ _ _ => False
section
variable {X : Cx} {W : WX} {xa : Xa} {e a b : Expr} {A : IE} {As : IA} {pos : Pos} {es : List Expr}
/-- what the tests read -/
def TtOk (G : Gd) (xa : Xa) (tt : TT) (S : IT) : Prop := ∀ σ H Q, ttOf G W0 xa S σ H Q → tt σ H Q
theorem ttok_yes {G : Gd} : TtOk G xa tYes iYes := fun σ H Q h => by
  obtain ⟨m, os, rs, ρ, st, P, h⟩ := h
  exact Pst.ok P.rel h true rfl
theorem ttok_one {G : Gd} {S : IT} : TtOk G xa (ttOf G W0 xa S) S := fun σ H Q h => h
theorem lc_weak {g : TG} {tt : TT} {I : IIt} {T : ITg} {S : IT} {E : IE} {vs : List Nat} (hT : CTg (gd X) xa vs g T) (hS : TtOk (gd X) xa tt S) (hpl : ∀ x ρ st, match T x ρ st with | .nx _ st' => st' = st | _ => True)
    {σ : L2.St} {H : Hp} {Q : VK} (h : tfOf (gd X) W xa (iLc I vs T S E) σ H Q) : tLc (tiOf (gd X) W xa I) g tt (teOf (gd X) W0 xa E) vs σ H Q := by
  obtain ⟨m, os, rs, ρ, st, P, h⟩ := h
  refine ⟨m, os, rs, ρ, st, P, ?_⟩
  unfold iLc at h
  cases q : I ρ st with
  | exc c fs st1 => rw [q] at h; exact h
  | bad => rw [q] at h; exact h
  | ok p st1 =>
    rw [q] at h
    intro m1 H1 g1 R1 J hw D hD
    obtain ⟨xs, gd0⟩ := p
    have h0 : PstF (gd X) m (os ++ rs) st H (fun cls d H' => W cls d σ H') (lcL gd0 xs vs T S E ρ xs 0 [] st1) Q := h
    have blk : ∀ a ∈ os ++ (D :: rs), a = D ∨ a ∈ os ++ rs := fun a z => by
      rcases List.mem_append.mp z with z | z
      · exact .inr (List.mem_append_left _ z)
      · rcases List.mem_cons.mp z with z | z
        · exact .inl z
        · exact .inr (List.mem_append_right _ z)
    have perm : ∀ a ∈ D :: (os ++ rs), a ∈ os ++ (D :: rs) := fun a z => by
      rcases List.mem_cons.mp z with z | z
      · rw [z]; exact List.mem_append_right _ List.mem_cons_self
      · rcases List.mem_append.mp z with z | z
        · exact List.mem_append_left _ z
        · exact List.mem_append_right _ (List.mem_cons_of_mem _ z)
    have Dm : D ∈ os ++ (D :: rs) := List.mem_append_right _ List.mem_cons_self
    have hD0 : H D = none := back_fresh R1 g1 P.rel hD
    have P1 := P.grow g1 R1
    -- the relation with D blocked
    have f1 : Fits (gd X) m1 (os ++ rs) st1 H1 m1 (os ++ (D :: rs)) st1 (upd H1 D (.lst [])) := fits_block hD blk
    have Q1 : Pre (gd X) xa σ (upd H1 D (.lst [])) m1 os (D :: rs) ρ st1 := by
      refine ⟨P1.rel.block hD blk, P1.re.len, fun i x e => ?_, fun i xs e => let ⟨a, e1, e2, e3⟩ := P1.re.own i xs e; ⟨a, e1, e2, fun z => (List.mem_cons.mp z).elim (fun z => by obtain ⟨_, o, q⟩ := P1.rel.bsd a (List.mem_append_left _ e2); rw [z, hD] at q; cases q) e3⟩, P1.re.uniq⟩
      obtain ⟨v, e1, r⟩ := P1.re.at_ i x e
      refine ⟨v, e1, ?_⟩
      cases x with
      | v x => exact RV.fits f1 _ _ r
      | own xs =>
        obtain ⟨a, vs, ea, ha, ra, hb⟩ := r
        have ne : a ≠ D := ne_of_none ha hD
        refine ⟨a, vs, ea, by rw [upd_ne ne]; exact ha, RVs.fits f1 _ _ ra, ?_⟩
        rcases List.mem_append.mp hb with z | z
        · exact List.mem_append_left _ z
        · exact List.mem_append_right _ (List.mem_cons_of_mem _ z)
      | exn l => exact r
    refine ⟨fun i n H2 => n = xs.length - i ∧ i ≤ xs.length ∧ ∃ m2 st2 acc ws k, GrowE m st H m2 st2 H2 ∧ Fits (gd X) m1 (os ++ rs) st1 H1 m2 (os ++ (D :: rs)) st2 H2 ∧ Pre (gd X) xa σ H2 m2 os (D :: rs) ρ st2 ∧ H2 D = some (.lst ws) ∧ RVs (gd X) m2 (os ++ (D :: rs)) st2 H2 acc ws ∧
        PstF (gd X) m (os ++ rs) st H (fun cls d H' => W cls d σ H') (lcL gd0 xs vs T S E ρ (xs.drop i) k acc st2) Q,
      ⟨xs.length, by simp, Nat.zero_le _, m1, st1, [], [], 0, g1.trans (grow_new hD), f1, Q1, upd_same, by simp only [RVs], by simpa using h0⟩, ?_⟩
    rintro i n H2 ⟨rfl, hi, m2, st2, acc, ws, k, g2, f2, P2, eD, ra, h2⟩
    have w := hw i m2 _ st2 H2 f2 P2.rel
    by_cases hlt : i < xs.length
    · have ed : xs.drop i = xs[i] :: xs.drop (i + 1) := List.drop_eq_getElem_cons hlt
      rw [ed, lcL] at h2
      split at h2
      · rename_i gk
        obtain ⟨w1, _⟩ := w gk.1
        obtain ⟨go, yl⟩ := w1 xs[i] (List.getElem?_eq_getElem hlt)
        refine .inr ⟨go, fun H' => i + 1 ≤ xs.length ∧ ∃ m2 st2 acc ws k, GrowE m st H m2 st2 H' ∧ Fits (gd X) m1 (os ++ rs) st1 H1 m2 (os ++ (D :: rs)) st2 H' ∧ Pre (gd X) xa σ H' m2 os (D :: rs) ρ st2 ∧ H' D = some (.lst ws) ∧ RVs (gd X) m2 (os ++ (D :: rs)) st2 H' acc ws ∧
          PstF (gd X) m (os ++ rs) st H (fun cls d H' => W cls d σ H') (lcL gd0 xs vs T S E ρ (xs.drop (i + 1)) k acc st2) Q, fun H' q => ⟨xs.length - (i + 1), by omega, rfl, q⟩, fun v H3 y => ?_⟩
        obtain ⟨g3, R3, r3⟩ := yl v H3 y
        have P3 := (P2.grow g3 R3).wipe vs
        have hp := hpl xs[i] (wipeI ρ vs) st2
        cases q1 : T xs[i] (wipeI ρ vs) st2 with
        | nx ρ4 st4 =>
          rw [q1] at hp
          simp only at hp
          subst hp
          simp only [q1] at h2
          refine hT v (wipe σ vs) H3 _ m2 os (D :: rs) (wipeI ρ vs) st4 xs[i] P3 r3 ⟨ρ4, q1, fun σ2 P4 ew => ⟨by rw [ew, wipe_wipe], ?_⟩⟩
          have keepD : ∀ {m' : List Addr} {st' : Sto} {H' : Hp}, GrowE m2 st4 H2 m' st' H' → H' D = some (.lst ws) := fun {m' st' H'} g => (g.keep D _ eD (fun z => (P2.rel.bsd D Dm).1 z.mem) (by simp) nxl).1
          refine hS σ2 H3 _ ⟨m2, os, D :: rs, ρ4, st4, P4, ?_⟩
          cases q2 : S ρ4 st4 with
          | ok b st5 =>
            rw [q2] at h2
            intro m5 H5 g5 R5 b' eb
            subst eb
            have gg5 : GrowE m2 st4 H2 m5 st5 H5 := g3.trans g5
            cases b with
            | false =>
              simp only [R.noE, R.bind] at h2
              exact ⟨hlt, m5, st5, acc, ws, k + 1, g2.trans gg5, f2.trans gg5.fitsE, (P2.grow g3 R3).grow g5 R5, keepD gg5, RVs.fits gg5.fitsE _ _ ra, by simpa using h2⟩
            | true =>
              simp only [R.noE, R.bind, if_true] at h2
              refine ⟨m5, os, D :: rs, ρ4, st5, P4.grow g5 R5, ?_⟩
              cases q3 : E ρ4 st5 with
              | ok y st6 =>
                rw [q3] at h2
                intro m6 H6 g6 R6 u ru
                have gg6 : GrowE m2 st4 H2 m6 st6 H6 := gg5.trans g6
                have e6 := keepD gg6
                refine ⟨ws, e6, ?_, ?_⟩
                · rw [← ra.length]; exact szlt gk.2
                · have fu : Fits (gd X) m6 (os ++ (D :: rs)) st6 H6 m6 (os ++ (D :: rs)) st6 (upd H6 D (.lst (ws ++ [u]))) := fits_upd Dm
                  have P6 := ((P2.grow g3 R3).grow g5 R5).grow g6 R6
                  have ra6 : RVs (gd X) m6 (os ++ (D :: rs)) st6 H6 (acc ++ [y]) (ws ++ [u]) := (RVs.fits gg6.fitsE _ _ ra).append (by simp only [RVs]; exact ⟨u, [], rfl, ru, rfl⟩)
                  refine ⟨hlt, m6, st6, acc ++ [y], ws ++ [u], k + 1, ?_, (f2.trans gg6.fitsE).trans fu, ⟨P6.rel.upd Dm, P6.re.len, fun j x e => ?_, P6.re.own, P6.re.uniq⟩, upd_same, RVs.fits fu _ _ ra6, h2⟩
                  · have gg := g2.trans gg6
                    exact ⟨gg.pre, fun a o ha na qa nx => by
                      obtain ⟨k1, k2, _⟩ := gg.keep a o ha na qa nx
                      exact ⟨by rw [upd_ne (ne_of_none ha hD0)]; exact k1, k2, qa⟩, fun a e => gg.stay a (upd_stay e)⟩
                  · obtain ⟨v, e1, r⟩ := P6.re.at_ j x e
                    refine ⟨v, e1, ?_⟩
                    cases x with
                    | v x => exact RV.fits fu _ _ r
                    | own zs =>
                      obtain ⟨a, us, ea, ha, rz, hb⟩ := r
                      obtain ⟨a', e3, ho⟩ := P6.re.own j zs e
                      have ne : a ≠ D := by
                        intro z
                        rw [e1, ea] at e3
                        have z2 : a = a' := by cases e3; rfl
                        obtain ⟨_, o, e4⟩ := P.rel.bsd a' (List.mem_append_left _ ho.1)
                        rw [← z2, z, hD0] at e4; cases e4
                      exact ⟨a, us, ea, by rw [upd_ne ne]; exact ha, RVs.fits fu _ _ rz, hb⟩
                    | exn l => exact r
              | exc c fs st6 => rw [q3] at h2; exact h2.elim
              | bad => rw [q3] at h2; exact h2.elim
          | exc c fs st5 => rw [q2] at h2; exact h2.elim
          | bad => rw [q2] at h2; exact h2.elim
        | _ => simp only [q1] at h2; exact h2.elim
      · exact h2.elim
    · have ei : i = xs.length := by omega
      rw [List.drop_eq_nil_of_le (by omega), lcL] at h2
      split at h2
      · rename_i gk
        exact .inl ⟨(w gk).2 (by show xs.length ≤ i; omega), h2 m2 H2 D ws hD0 g2 (P2.rel.sub perm) eD (RVs.fits (fits_sub perm) _ _ ra)⟩
      · exact h2.elim
/-- [elt for tg in iter if ..] -/
theorem mf_lc {elt tg iter : Expr} {ifs : List Expr} {scope : Scope} {own : List (Str × Nat)} {g : TG} {tt : TT} {I : IIt} {T : ITg} {S : IT} {E : IE} (hc : X.calm = true) (hN : X.N.Nodup) (hi : MI X W xa tg iter I) (ok : BlkOk X.N X.env.scope scope own)
    (hg : ∀ (s : Shared) (H : Hp) (C : Addr) (cl : List (Str × Addr)) (fp : List Addr), PG (X.blk s H scope (compEnvC scope cl C X.env) fp) tg g) (hT : CTg (gd X) xa (own.map (·.2)) g T) (hpl : ∀ x ρ st, match T x ρ st with | .nx _ st' => st' = st | _ => True)
    (ht : ∀ (s : Shared) (H : Hp) (C : Addr) (cl : List (Str × Addr)) (fp : List Addr), PTs (X.blk s H scope (compEnvC scope cl C X.env) fp) ifs tt) (hS : TtOk (gd X) xa tt S)
    (he : ∀ (s : Shared) (H : Hp) (C : Addr) (cl : List (Str × Addr)) (fp : List Addr), PE (X.blk s H scope (compEnvC scope cl C X.env) fp) elt (teOf (gd X) W0 xa E)) (hs : ∀ x, foldedSetIterable iter X.env x = pure x := by intro _; rfl) :
    MF X W xa (.ListComp elt [⟨tg, iter, ifs, 0⟩] scope pos) (iLc I (own.map (·.2)) T S E) :=
  PE.weak (pe_lc hc hN hi ok hg ht he hs) fun σ H Q h => lc_weak hT hS hpl h
theorem setLc {i : Nat} {y : Str} {py : Pos} {elt tg iter : Expr} {ifs : List Expr} {scope : Scope} {own : List (Str × Nat)} {spos : Pos} {g : TG} {tt : TT} {I : IIt} {T : ITg} {S : IT} {E : IE} {J : IS} (hc : X.calm = true) (hN : X.N.Nodup) (hy : X.N[i]? = some y) (hyl : X.env.scope.names.lookup y = some .local)
    (hsw : swapsWith (.ListComp elt [⟨tg, iter, ifs, 0⟩] scope pos) (some (.Name y py)) spos.line X.env = pure true) (hi : MI X W xa tg iter I) (ok : BlkOk X.N X.env.scope scope own)
    (hg : ∀ (s : Shared) (H : Hp) (C : Addr) (cl : List (Str × Addr)) (fp : List Addr), PG (X.blk s H scope (compEnvC scope cl C X.env) fp) tg g) (hT : CTg (gd X) xa (own.map (·.2)) g T) (hpl : ∀ x ρ st, match T x ρ st with | .nx _ st' => st' = st | _ => True)
    (ht : ∀ (s : Shared) (H : Hp) (C : Addr) (cl : List (Str × Addr)) (fp : List Addr), PTs (X.blk s H scope (compEnvC scope cl C X.env) fp) ifs tt) (hS : TtOk (gd X) xa tt S)
    (he : ∀ (s : Shared) (H : Hp) (C : Addr) (cl : List (Str × Addr)) (fp : List Addr), PE (X.blk s H scope (compEnvC scope cl C X.env) fp) elt (teOf (gd X) W0 xa E))
    (hw : ∀ D σ H, tsOf (gd X) W xa J D σ H → tAsg (tfOf (gd X) W xa (iLc I (own.map (·.2)) T S E)) (gName i) D σ H) (hs : ∀ x, foldedSetIterable iter X.env x = pure x := by intro _; rfl) :
    MS X W xa (.Assign [.Name y py] (.ListComp elt [⟨tg, iter, ifs, 0⟩] scope pos) spos) J :=
  PS.weak (ps_setLc hc hN hy hyl hsw hi ok hg ht he hs) fun D σ H h => lc_weak hT hS hpl (hw D σ H h)
theorem hw_in {i : Nat} : ∀ (D : Ends) (σ : L2.St) (H : Hp), tsOf (gd X) W xa (iSet i (iF As)) D σ H → tAsg (tfOf (gd X) W xa As) (gName i) D σ H := fun D σ H h => F_weak (set_weak h)
theorem hw_st {i : Nat} : ∀ (D : Ends) (σ : L2.St) (H : Hp), tsOf (gd X) W xa (iSet i (iFS As)) D σ H → tAsg (tfOf (gd X) W xa As) (gName i) D σ H := fun D σ H h => FS_weak (set_weak h)
theorem hw_own {i : Nat} : ∀ (D : Ends) (σ : L2.St) (H : Hp), tsOf (gd X) W xa (iSetOwn i As) D σ H → tAsg (tfOf (gd X) W xa As) (gName i) D σ H := fun D σ H h => own_weak h
theorem tgpl_name {i : Nat} : ∀ x ρ st, match tgName i x ρ st with | .nx _ st' => st' = st | _ => True := fun _ _ _ => rfl
theorem tgpl_pair {i j : Nat} : ∀ x ρ st, match tgTup 2 (tgCons (tgName i) (tgCons (tgName j) tgNil)) x ρ st with | .nx _ st' => st' = st | _ => True := fun x ρ st => by
  cases x with
  | tup xs =>
    match xs with
    | [] => exact trivial
    | [_] => exact trivial
    | [_, _] => exact rfl
    | _ :: _ :: _ :: r => simp [tgTup]
  | _ => exact trivial
end
end Mi
set_option Elab.async false
set_option linter.all false
set_option maxRecDepth 100000
set_option maxHeartbeats 4000000
namespace Mi
open PySem PySem.Spec PyProof.Rows L2

/-! ### a name's own list -/
section
variable {X : Cx} {W : WX} {xa : Xa} {a b c e o : Expr} {A B C : IE} {pos p apos : Pos} {es : List Expr} {As : IA}
def ownAt (ρ : Slots) (i : Nat) : Option (List IV) := match ρ[i]? with
  | some (some (.own xs)) => some xs
  | _ => none
theorem ownAt_re {G : Gd} {m os rs : List Addr} {st : Sto} {H : Hp} {ρ : Slots} {σ : L2.St} {i : Nat} {xs : List IV} (P : Pre G xa σ H m os rs ρ st) (h : ownAt ρ i = some xs) :
    ∃ d vs, σ[i]? = some (some (.ref d)) ∧ H d = some (.lst vs) ∧ RVs G m (os ++ rs) st H xs vs ∧ d ∈ os ∧ d ∉ rs ∧ ρ[i]? = some (some (.own xs)) := by
  unfold ownAt at h
  split at h
  · rename_i ys e
    cases h
    obtain ⟨v, e1, d, vs, ev, hd, r, hb⟩ := P.re.at_ i _ e
    obtain ⟨d', e2, hd'⟩ := P.re.own i _ e
    subst ev
    rw [e1] at e2
    cases e2
    exact ⟨d, vs, e1, hd, r, hd'.1, hd'.2, e⟩
  · cases h
def iOwnLen (i : Nat) : IE := fun ρ st => match ownAt ρ i with | some xs => .ok (.int xs.length) st | none => .bad
theorem me_ownLen {i : Nat} {x y : Str} {p2 : Pos} (hv : PE X (.Name y p2) (tVar i)) (hg : Gl X "len") (hm : X.mg "len" = none) : ME X W xa (.Call (.Name "len" p) [.Name y p2] [] pos) (iOwnLen i) := by
  refine PE.weak (pe_callB call_len_seq hg hm boot_len (pa_cons hv pa_nil)) fun σ H Q h => ?_
  obtain ⟨m, os, rs, ρ, st, P, h⟩ := h
  unfold iOwnLen at h
  split at h
  · rename_i xs e
    obtain ⟨d, vs, e1, hd, r, _⟩ := ownAt_re P e
    exact ⟨.ref d, e1, d, vs, rfl, .inl (.of hd), by rw [← r.length]; exact h.v P.rel (by simp only [RV])⟩
  · exact h.elim
def iOwnTup (i : Nat) : IE := fun ρ st => match ownAt ρ i with | some xs => .ok (.tup xs) st | none => .bad
theorem me_ownTup {i : Nat} {y : Str} {p2 : Pos} (hv : PE X (.Name y p2) (tVar i)) (hg : Gl X "tuple") (hm : X.mg "tuple" = none) (hb : bootBuiltins "tuple" = some (.type "tuple")) : ME X W xa (.Call (.Name "tuple" p) [.Name y p2] [] pos) (iOwnTup i) := by
  refine PE.weak (pe_callTy call_tuple_of hg hm hb (pa_cons hv pa_nil)) fun σ H Q h => ?_
  obtain ⟨m, os, rs, ρ, st, P, h⟩ := h
  unfold iOwnTup at h
  split at h
  · rename_i xs e
    obtain ⟨d, vs, e1, hd, r, _⟩ := ownAt_re P e
    exact ⟨.ref d, e1, d, vs, rfl, .inl ⟨.of hd, fun l hl => h.newT P.rel r hl⟩⟩
  · exact h.elim
theorem Pre.own_keep {G : Gd} {m os rs : List Addr} {st : Sto} {H : Hp} {ρ : Slots} {σ : L2.St} {m1 : List Addr} {st1 : Sto} {H1 : Hp} {d : Addr} {us : List V} (P : Pre G xa σ H m os rs ρ st) (g : GrowE m st H m1 st1 H1) (h : H d = some (.lst us)) (hb : d ∈ os ++ rs) : H1 d = some (.lst us) :=
  (g.keep d _ h (fun z => (P.rel.bsd d hb).1 z.mem) (by simp) nxl).1
def iOwnIx (i : Nat) (B : IE) : IE := fun ρ st => match ownAt ρ i with
  | some xs => (B ρ st).bind fun y st => match y with
    | .int k => (match atI xs k with | some v => .ok v st | none => .bad)
    | _ => .bad
  | none => .bad
theorem me_ownIx {i : Nat} {y : Str} {p2 : Pos} (hv : PE X (.Name y p2) (tVar i)) (hb : ME X W xa b B) (hs : PlainIx b := by exact fun _ _ => rfl) : ME X W xa (.Subscript (.Name y p2) b pos) (iOwnIx i B) := by
  refine PE.weak (pe_ix ix_list hv hb hs) fun σ H Q h => ?_
  obtain ⟨m, os, rs, ρ, st, P, h⟩ := h
  unfold iOwnIx at h
  split at h
  · rename_i xs e
    obtain ⟨d, vs, e1, hd, r, ho, _⟩ := ownAt_re P e
    refine ⟨.ref d, e1, m, os, rs, ρ, st, P, h.bind.mono fun y m1 st1 H1 g1 R1 h1 u ru => ?_⟩
    split at h1
    · simp only [RV] at ru
      split at h1
      · rename_i v hv
        obtain ⟨w, e3, r3⟩ := atI_rel (RVs.fits g1.fitsE _ _ r) hv
        exact ⟨d, vs, _, w, rfl, ru, .of (P.own_keep g1 hd (List.mem_append_left _ ho)), e3, h1.v R1 r3⟩
      · exact h1.elim
    · exact h1.elim
  · exact h.elim
/-- e in x, e not in x -/
def iOwnIn (neg : Bool) (A : IE) (i : Nat) : IE := fun ρ st => match ownAt ρ i with
  | some xs => (A ρ st).bind fun y st => if flatI y = true ∧ xs.all flatI = true then .ok (.bl (if neg then !inI y xs else inI y xs)) st else .bad
  | none => .bad
theorem own_in {i : Nat} {neg : Bool} {σ : L2.St} {H : Hp} {Q : VK} (h : teOf (gd X) W xa (iOwnIn neg A i) σ H Q) : tOp (rIn X.K neg) (teOf (gd X) W xa A) (tVar i) σ H Q := by
  obtain ⟨m, os, rs, ρ, st, P, h⟩ := h
  unfold iOwnIn at h
  split at h
  · rename_i xs e
    obtain ⟨d, vs, e1, hd, r, ho, _⟩ := ownAt_re P e
    refine ⟨m, os, rs, ρ, st, P, h.bind.mono fun y m1 st1 H1 g1 R1 h1 u ru => ?_⟩
    split at h1
    · rename_i c
      obtain ⟨ex, fx⟩ := rv_flat c.1 ru
      obtain ⟨ev, fv⟩ := rvs_flat c.2 (RVs.fits g1.fitsE _ _ r)
      refine ⟨.ref d, e1, d, vs, rfl, .inl (.of (P.own_keep g1 hd (List.mem_append_left _ ho))), fx, fv, ?_⟩
      rw [ex, ev, inV_of c.1 c.2]
      exact h1.v R1 (by simp only [RV])
    · exact h1.elim
  · exact h.elim
theorem me_ownIn {i : Nat} (ha : ME X W xa a A) (hv : PE X b (tVar i)) (hm : behindInMarks .In b = false) : ME X W xa (.Compare a [.In] [b] pos) (iOwnIn false A i) := PE.weak (pe_cmpR op_in_seq ha hv hm) fun σ H Q h => own_in h
theorem me_ownNotIn {i : Nat} (ha : ME X W xa a A) (hv : PE X b (tVar i)) (hm : behindInMarks .NotIn b = false) : ME X W xa (.Compare a [.NotIn] [b] pos) (iOwnIn true A i) := PE.weak (pe_cmpR op_notIn_seq ha hv hm) fun σ H Q h => own_in h
theorem mt_of_bool {t : TE} (h : PT X e (tTest t)) (k : ∀ σ H Q, teOf (gd X) W xa A σ H Q → t σ H Q) : MT X W xa e (iTest A) := by
  refine PT.weak h fun σ H Q h => ?_
  refine k σ H _ ?_
  obtain ⟨m, os, rs, ρ, st, P, h⟩ := h
  exact ⟨m, os, rs, ρ, st, P, h.bind.mono fun v m3 st3 H3 g3 R3 h3 u ru => asB_post R3 ru h3⟩
theorem mt_ownIn {i : Nat} (ha : ME X W xa a A) (hv : PE X b (tVar i)) (hm : behindInMarks .In b = false) : MT X W xa (.Compare a [.In] [b] pos) (iTest (iOwnIn false A i)) := mt_of_bool (pt_cmpR op_in_seq ha hv hm) fun σ H Q h => own_in h
theorem mt_ownNotIn {i : Nat} (ha : ME X W xa a A) (hv : PE X b (tVar i)) (hm : behindInMarks .NotIn b = false) : MT X W xa (.Compare a [.NotIn] [b] pos) (iTest (iOwnIn true A i)) := mt_of_bool (pt_cmpR op_notIn_seq ha hv hm) fun σ H Q h => own_in h
/-- the name's list changed -/
theorem Pre.ownSet {G : Gd} {m os rs : List Addr} {st : Sto} {H : Hp} {ρ : Slots} {σ : L2.St} {i : Nat} {xs ys : List IV} {d : Addr} {vs ws : List V} (P : Pre G xa σ H m os rs ρ st) (e : ownAt ρ i = some xs) (e1 : σ[i]? = some (some (.ref d))) (hd : H d = some (.lst vs)) (ho : d ∈ os) (hr : d ∉ rs) (r : RVs G m (os ++ rs) st H ys ws) :
    Grow m st os H m st os (upd H d (.lst ws)) ∧ Pre G xa σ (upd H d (.lst ws)) m os rs (ρ.set i (some (.own ys))) st := by
  have hb : d ∈ os ++ rs := List.mem_append_left _ ho
  have f : Fits G m (os ++ rs) st H m (os ++ rs) st (upd H d (.lst ws)) := fits_upd hb
  have ei : ρ[i]? = some (some (.own xs)) := by
    unfold ownAt at e
    split at e
    · rename_i z q; cases e; exact q
    · cases e
  have hi : i < ρ.length := (List.getElem?_eq_some_iff.mp ei).1
  refine ⟨⟨List.prefix_refl _, fun a u q n ho' _ => ⟨by rw [upd_ne (fun (z : a = d) => ho' (by rw [z]; exact ho))]; exact q, n, ho'⟩, fun a e => upd_stay e⟩, P.rel.upd hb, by simp [P.re.len], fun j y e2 => ?_, fun j zs e2 => ?_, fun j k zs us w q1 q2 q3 q4 => ?_⟩
  · by_cases hj : i = j
    · subst hj
      rw [List.getElem?_set_self hi] at e2
      cases e2
      exact ⟨.ref d, e1, d, ws, rfl, upd_same, RVs.fits f _ _ r, hb⟩
    · rw [List.getElem?_set_ne hj] at e2
      obtain ⟨v, e3, r3⟩ := P.re.at_ j y e2
      refine ⟨v, e3, ?_⟩
      cases y with
      | v x => exact RV.fits f _ _ r3
      | own zs =>
        obtain ⟨a, us, ea, ha, rz, hz⟩ := r3
        have ne : a ≠ d := fun z => by
          rw [ea, z] at e3
          exact hj (P.re.uniq i j xs zs _ ei e2 e1 e3)
        exact ⟨a, us, ea, by rw [upd_ne ne]; exact ha, RVs.fits f _ _ rz, hz⟩
      | exn l => exact r3
  · by_cases hj : i = j
    · subst hj
      exact ⟨d, e1, ho, hr⟩
    · rw [List.getElem?_set_ne hj] at e2
      exact P.re.own j zs e2
  · have back : ∀ {j : Nat} {zs : List IV}, (ρ.set i (some (.own ys)))[j]? = some (some (.own zs)) → ∃ zs', ρ[j]? = some (some (.own zs')) := fun {j zs} q => by
      by_cases hj : i = j
      · subst hj; exact ⟨xs, ei⟩
      · rw [List.getElem?_set_ne hj] at q; exact ⟨zs, q⟩
    obtain ⟨z1, q1⟩ := back q1
    obtain ⟨z2, q2⟩ := back q2
    exact P.re.uniq j k z1 z2 w q1 q2 q3 q4
/-- x.append(e) -/
def iOwnApp (i : Nat) (A : IE) : IS := fun ρ st => match ownAt ρ i with
  | some xs => RS.ofR (A ρ st) ρ fun y st => if xs.length < 100000 then .nx (ρ.set i (some (.own (xs ++ [y])))) st else .bad
  | none => .bad
theorem ms_ownApp {i : Nat} {y : Str} {p2 : Pos} (hv : PE X (.Name y p2) (tVar i)) (ha : ME X W xa a A) (hs : starEach [a] X.env = (false, eval a X.env) :: starEach [] X.env := by rfl)
    (hbase : attributeBase (.Name y p2) "append" X.env (eval (.Name y p2) X.env) = eval (.Name y p2) X.env := by rfl)
    (hfew : ((backTo p (starEach [a] X.env)).all (fun x => !x.1) && (backToKw p (keywordEach [] X.env)).all (fun x => x.1.isSome)
      && decide ([a].length + ([] : List Keyword).length + (if ([] : List Keyword).isEmpty then 0 else 1) < 30)) = true := by rfl)
    (hline : (apos.endLine == p.line) = true := by rfl) (hplain : (backTo p (starEach [] X.env)).any (·.1) = false := by rfl)
    (hsw : swapsWith (.Call (.Attribute (.Name y p2) "append" apos) [a] [] p) none pos.line X.env = pure false := by rfl) : MS X W xa (.Expr (.Call (.Attribute (.Name y p2) "append" apos) [a] [] p) pos) (iOwnApp i A) := by
  refine PS.weak (ps_expr (pe_bm PySem.F.plainAttrs_list PySem.F.slot_list_append PySem.F.type_list_append mt_append hv (pa_cons ha pa_nil hs) hbase hfew hline hs hplain) hsw) fun D σ H h => ?_
  obtain ⟨m, os, rs, ρ, st, P, h⟩ := h
  unfold iOwnApp at h
  split at h
  · rename_i xs e
    obtain ⟨d, vs, e1, hd, r, ho, hr, _⟩ := ownAt_re P e
    refine ⟨.ref d, e1, .inl ⟨rfl, vs, .of hd⟩, m, os, rs, ρ, st, P, (h.ofR P).mono fun y m1 st1 H1 g1 R1 h1 u ru => ?_⟩
    split at h1
    · rename_i c
      have hd1 := P.own_keep g1 hd (List.mem_append_left _ ho)
      have r1 := RVs.fits g1.fitsE _ _ r
      have P1 := P.grow g1 R1
      refine ⟨d, vs, u, rfl, rfl, hd1, by rw [← r.length]; exact szlt c, ?_⟩
      obtain ⟨g2, P2⟩ := P1.ownSet (ys := xs ++ [y]) (ws := vs ++ [u]) e e1 hd1 ho hr (r1.append (by simp only [RVs]; exact ⟨u, [], rfl, ru, rfl⟩))
      exact h1 m1 os _ σ g2 P2
    · exact h1.elim
  · exact h.elim
/-- return x: the list is frozen -/
def iRetOwn (i : Nat) : IS := fun ρ st => match ownAt ρ i with
  | some xs => .rt (.lst xs) st
  | none => .bad
theorem ms_retOwn {i : Nat} (hv : PE X a (tVar i)) : MS X W xa (.Return (some a) pos) (iRetOwn i) := by
  refine PS.weak (ps_ret hv) fun D σ H h => ?_
  obtain ⟨m, os, rs, ρ, st, P, h⟩ := h
  unfold iRetOwn at h
  split at h
  · rename_i xs e
    obtain ⟨d, vs, e1, hd, r, ho, hr, _⟩ := ownAt_re P e
    have sub : ∀ a ∈ (os.filter fun b => decide (b ≠ d)) ++ rs, a ∈ os ++ rs := fun a z => by
      rcases List.mem_append.mp z with z | z
      · exact List.mem_append_left _ (List.mem_filter.mp z).1
      · exact List.mem_append_right _ z
    refine ⟨.ref d, e1, h m (os.filter fun b => decide (b ≠ d)) H (.ref d) ⟨List.prefix_refl _, fun a u q n ho' _ => ⟨q, n, fun z => ho' (List.mem_filter.mp z).1⟩, fun _ h => h⟩ (P.rel.sub sub) ?_⟩
    simp only [RV]
    refine ⟨d, vs, rfl, .inl ⟨.inl hd, fun z => (P.rel.bsd d (List.mem_append_left _ ho)).1 z.mem, fun z => ?_⟩, RVs.fits (fits_sub sub) _ _ r⟩
    rcases List.mem_append.mp z with z | z
    · have := (List.mem_filter.mp z).2
      simp at this
    · exact hr z
  · exact h.elim
end
end Mi
set_option Elab.async false
set_option linter.all false
set_option maxRecDepth 100000
set_option maxHeartbeats 4000000
namespace Mi
open PySem PySem.Spec PyProof.Rows L2

/-! ### attributes -/
def putI (f : Str) (v : IV) : List (Str × IV) → List (Str × IV)
  | [] => [(f, v)]
  | (g, x) :: r => if g = f then (g, v) :: r else (g, x) :: putI f v r
section
variable {G : Gd} {m bs : List Addr} {st : Sto} {H : Hp}
theorem RFs.put {f : Str} {x : IV} {v : V} (rx : RV G m bs st H x v) : ∀ {fs : List (Str × IV)} {gs : List (Str × V)}, RFs G m bs st H fs gs → RFs G m bs st H (putI f x fs) (putF f v gs)
  | [], gs, h => by
    simp only [RFs] at h
    subst h
    exact ⟨v, [], rfl, rx, rfl⟩
  | (g, y) :: r, gs, h => by
    obtain ⟨w, t, e, h1, h2⟩ := h
    subst e
    unfold putI putF
    by_cases hg : g = f
    · rw [if_pos hg, if_pos hg]; exact ⟨v, t, rfl, rx, h2⟩
    · rw [if_neg hg, if_neg hg]; exact ⟨w, _, rfl, h1, RFs.put rx h2⟩
theorem RFs.look {f : Str} {x : IV} : ∀ {fs : List (Str × IV)} {gs : List (Str × V)}, RFs G m bs st H fs gs → fs.lookup f = some x → ∃ v, gs.lookup f = some v ∧ RV G m bs st H x v
  | [], gs, h, e => by cases e
  | (g, y) :: r, gs, h, e => by
    obtain ⟨w, t, eg, h1, h2⟩ := h
    subst eg
    by_cases hg : f = g
    · subst hg
      rw [List.lookup_cons_self] at e ⊢
      cases e
      exact ⟨w, rfl, h1⟩
    · have hb : (f == g) = false := by simpa using hg
      rw [List.lookup_cons, hb] at e ⊢
      exact RFs.look h2 e
theorem RFs.length : ∀ {fs : List (Str × IV)} {gs : List (Str × V)}, RFs G m bs st H fs gs → fs.length = gs.length
  | [], gs, h => by simp only [RFs] at h; subst h; rfl
  | (g, y) :: r, gs, h => by
    obtain ⟨w, t, e, _, h2⟩ := h
    subst e
    rw [List.length_cons, List.length_cons, RFs.length h2]
theorem RFs.look_none {f : Str} : ∀ {fs : List (Str × IV)} {gs : List (Str × V)}, RFs G m bs st H fs gs → fs.lookup f = none → gs.lookup f = none
  | [], gs, h, e => by simp only [RFs] at h; subst h; rfl
  | (g, y) :: r, gs, h, e => by
    obtain ⟨w, t, eg, h1, h2⟩ := h
    subst eg
    by_cases hg : f = g
    · subst hg
      rw [List.lookup_cons_self] at e; cases e
    · have hb : (f == g) = false := by simpa using hg
      rw [List.lookup_cons, hb] at e ⊢
      exact RFs.look_none h2 e
end
/-- a class, and an attribute that its text does not have -/
def FdM (K : PySem.W.Frag) (mg : Str → Option Value) (cs : List Str) (f : Str) : Prop := ∀ c ∈ cs, ∀ C, mg c = some (.ref C) → Cls K C ∧ NoAttr K C f
def insAt (st : Sto) (cs : List Str) : IV → Option (Nat × Str × List (Str × IV))
  | .ref l => match st[l]? with
    | some (.ins c fs) => if c ∈ cs then some (l, c, fs) else none
    | _ => none
  | _ => none
theorem insAt_at {G : Gd} {m bs : List Addr} {st : Sto} {H : Hp} {cs : List Str} {x : IV} {v : V} {l : Nat} {c : Str} {fs : List (Str × IV)} (R : Rel G m bs st H) (e : insAt st cs x = some (l, c, fs)) (r : RV G m bs st H x v) :
    x = .ref l ∧ c ∈ cs ∧ st[l]? = some (.ins c fs) ∧ ∃ p C dx gs, v = .ref p ∧ m[l]? = some p ∧ G.mg c = some (.ref C) ∧ H p = some (.ins C dx gs) ∧ RFs G m bs st H fs gs := by
  unfold insAt at e
  split at e
  · rename_i k
    split at e
    · rename_i c' fs' e1
      split at e
      · rename_i hc
        cases e
        simp only [RV] at r
        obtain ⟨p, ev, hp⟩ := r
        obtain ⟨C, dx, gs, e2, e3, e4⟩ := R.obj _ _ p e1 hp
        exact ⟨rfl, hc, e1, p, C, dx, gs, ev, hp, e2, e3, e4⟩
      · cases e
    · cases e
  · cases e
section
variable {X : Cx} {W : WX} {xa : Xa} {a b c e o : Expr} {A B C : IE} {pos p apos : Pos} {es : List Expr} {As : IA} {f : Str} {cs : List Str}
def iFld (cs : List Str) (f : Str) (A : IE) : IE := fun ρ st => (A ρ st).bind fun x st => match insAt st cs x with
  | some (_, _, fs) => (match fs.lookup f with | some v => .ok v st | none => .bad)
  | none => .bad
theorem me_fld (hf : FdM X.K X.mg cs f) (ha : ME X W xa a A) (hb : attributeBase a f X.env (eval a X.env) = eval a X.env := by rfl) : ME X W xa (.Attribute a f pos) (iFld cs f A) := by
  refine PE.weak (pe_fld ha hb) fun σ H Q h => ?_
  obtain ⟨m, os, rs, ρ, st, P, h⟩ := h
  refine ⟨m, os, rs, ρ, st, P, h.bind.mono fun x m1 st1 H1 g1 R1 h1 u ru => ?_⟩
  split at h1
  · rename_i l c fs e
    obtain ⟨_, hc, _, p, C, dx, gs, ev, _, hC, hH, rf⟩ := insAt_at R1 e ru
    split at h1
    · rename_i v hv
      obtain ⟨w, e1, r1⟩ := rf.look hv
      obtain ⟨c1, c2⟩ := hf c hc C hC
      exact ⟨p, C, dx, gs, w, ev, hH, c1, c2, e1, h1.v R1 r1⟩
    · exact h1.elim
  · exact h1.elim
/-- o.f = e -/
def iStFld (cs : List Str) (f : Str) (A B : IE) : IS := fun ρ st => RS.ofR ((B ρ st).bind fun y st => (A ρ st).bind fun x st => match insAt st cs x with
  | some (l, c, fs) => if fs.length < 1000 then .ok IV.non (st.set l (.ins c (putI f y fs))) else .bad
  | none => .bad) ρ fun _ st => .nx ρ st
theorem ms_fld {pos' : Pos} (hf : FdM X.K X.mg cs f) (ha : ME X W xa o A) (hb : ME X W xa b B) (hs : swapsWith b (some (.Attribute o f pos')) pos.line X.env = pure false := by rfl) : MS X W xa (.Assign [.Attribute o f pos'] b pos) (iStFld cs f A B) := by
  refine PS.weak (ps_fld ha hb hs) fun D σ H h => ?_
  obtain ⟨m, os, rs, ρ, st, P, h⟩ := h
  refine ⟨m, os, rs, ρ, st, P, (h.ofR P).bind.mono fun y m1 st1 H1 g1 R1 h1 u ru => ⟨m1, os, rs, ρ, st1, P.grow g1 R1, h1.bind.mono fun x m2 st2 H2 g2 R2 h2 v rv => ?_⟩⟩
  split at h2
  · rename_i l c fs e
    obtain ⟨_, hc, hst, p, C, dx, gs, ev, hm, hC, hH, rf⟩ := insAt_at R2 e rv
    split at h2
    · rename_i hl
      obtain ⟨c1, c2⟩ := hf c hc C hC
      refine ⟨p, C, dx, gs, ev, hH, c1, c2, by rw [← rf.length]; exact hl, ?_⟩
      have g3 : GrowE m2 st2 H2 m2 (st2.set l (.ins c (putI f y fs))) (upd H2 p (.ins C dx (putF f u gs))) := grow_set hm hst (by simp)
      have R3 := R2.set (o' := .ins c (putI f y fs)) (u := .ins C dx (putF f u gs)) hm hst (by simp) ⟨C, dx, _, hC, upd_same, RFs.fits g3.fitsE _ _ (rf.put (RV.fits g2.fitsE _ _ ru))⟩
      have h3 := h2 m2 _ g3 R3
      exact h3.here (((P.grow g1 R1).grow g2 R2).grow g3 R3)
    · exact h2.elim
  · exact h2.elim

/-! ### list methods in the store -/
def gApp : IV → List IV → Sto → R IV
  | .ref l, [y], st => match st[l]? with
    | some (.lst xs) => if xs.length < 100000 then .ok .non (st.set l (.lst (xs ++ [y]))) else .bad
    | _ => .bad
  | _, _, _ => .bad
def gPop : IV → List IV → Sto → R IV
  | .ref l, [], st => match st[l]? with
    | some (.lst xs) => (match xs[xs.length - 1]? with | some v => .ok v (st.set l (.lst xs.dropLast)) | none => .bad)
    | _ => .bad
  | _, _, _ => .bad
def gPopAt : IV → List IV → Sto → R IV
  | .ref l, [.int i], st => match st[l]? with
    | some (.lst xs) => if 0 ≤ i ∧ i ≤ 1000000 then (match xs[i.toNat]? with | some v => .ok v (st.set l (.lst (xs.eraseIdx i.toNat))) | none => .bad) else .bad
    | _ => .bad
  | _, _, _ => .bad
def gClear : IV → List IV → Sto → R IV
  | .ref l, [], st => match st[l]? with
    | some (.lst xs) => .ok .non (st.set l (.lst []))
    | _ => .bad
  | _, _, _ => .bad
def MtdM (X : Cx) (id : String) (g : IV → List IV → Sto → R IV) : Prop :=
  ∃ r, MtR X id r ∧ ∀ m bs st H x xs x' xs' (Q : VK) W, Rel (gd X) m bs st H → RV (gd X) m bs st H x x' → RVs (gd X) m bs st H xs xs' → Pst (gd X) m bs st H W (g x xs st) (fun v m' st' H' => ∀ u, RV (gd X) m' bs st' H' v u → Q u H') → r x' xs' H Q
def isLst (st : Sto) : IV → Bool
  | .ref l => match st[l]? with | some (.lst _) => true | _ => false
  | _ => false
/-- a list's method; the receiver must be a live list ahead of the arguments, too -/
def iMtd (g : IV → List IV → Sto → R IV) (A : IE) (As : IA) : IE := fun ρ st => (A ρ st).bind fun x st => if isLst st x = true then (As ρ st).bind fun xs st => g x xs st else .bad
theorem isLst_ty {G : Gd} {m bs : List Addr} {st : Sto} {H : Hp} {x : IV} {v : V} (R : Rel G m bs st H) (e : isLst st x = true) (r : RV G m bs st H x v) : tyV G.K "list" v H := by
  cases x with
  | ref l =>
    simp only [isLst] at e
    split at e
    · rename_i xs h
      simp only [RV] at r
      obtain ⟨p, ev, hp⟩ := r
      subst ev
      obtain ⟨vs, e1, _⟩ := R.obj _ _ p h hp
      exact .inl ⟨rfl, vs, .of e1⟩
    · cases e
  | _ => cases e
theorem me_mtd {name : Str} {id : String} {g : IV → List IV → Sto → R IV} (hg : MtdM X id g) (slot : Slot "list" name id) (hty : typeOf (.builtin id) = pure (.type "method_descriptor")) (ho : ME X W xa o A) (ha : MA X W xa (e :: es) As)
    (hbase : attributeBase o name X.env (eval o X.env) = eval o X.env := by rfl)
    (hfew : ((backTo p (starEach (e :: es) X.env)).all (fun x => !x.1) && (backToKw p (keywordEach [] X.env)).all (fun x => x.1.isSome)
      && decide ((e :: es).length + ([] : List Keyword).length + (if ([] : List Keyword).isEmpty then 0 else 1) < 30)) = true := by rfl)
    (hline : (apos.endLine == p.line) = true := by rfl) (hs : starEach (e :: es) X.env = (false, eval e X.env) :: starEach es X.env := by rfl) (hplain : (backTo p (starEach es X.env)).any (·.1) = false := by rfl) :
    ME X W xa (.Call (.Attribute o name apos) (e :: es) [] p) (iMtd g A As) := by
  obtain ⟨r, hr, k⟩ := hg
  refine PE.weak (pe_bm PySem.F.plainAttrs_list slot hty hr ho ha hbase hfew hline hs hplain) fun σ H Q h => ?_
  obtain ⟨m, os, rs, ρ, st, P, h⟩ := h
  refine ⟨m, os, rs, ρ, st, P, h.bind.mono fun x m1 st1 H1 g1 R1 h1 u ru => ?_⟩
  split at h1
  · rename_i hl
    exact ⟨isLst_ty R1 hl ru, m1, os, rs, ρ, st1, P.grow g1 R1, h1.bind.mono fun xs m2 st2 H2 g2 R2 h2 vs rv => k m2 _ st2 H2 x xs u vs Q _ R2 (RV.fits g2.fitsE _ _ ru) rv h2⟩
  · exact h1.elim
theorem me_mtd0 {name : Str} {id : String} {g : IV → List IV → Sto → R IV} (hg : MtdM X id g) (slot : Slot "list" name id) (hty : typeOf (.builtin id) = pure (.type "method_descriptor")) (ho : ME X W xa o A)
    (hbase : attributeBase o name X.env (eval o X.env) = eval o X.env := by rfl) (hline : (apos.endLine == p.line) = true := by rfl) :
    ME X W xa (.Call (.Attribute o name apos) [] [] p) (iMtd g A iNil) := by
  obtain ⟨r, hr, k⟩ := hg
  refine PE.weak (pe_bm0 PySem.F.plainAttrs_list slot hty hr ho hbase hline) fun σ H Q h => ?_
  obtain ⟨m, os, rs, ρ, st, P, h⟩ := h
  refine ⟨m, os, rs, ρ, st, P, h.bind.mono fun x m1 st1 H1 g1 R1 h1 u ru => ?_⟩
  split at h1
  · rename_i hl
    exact ⟨isLst_ty R1 hl ru, k m1 _ st1 H1 x [] u [] Q _ R1 ru (by simp only [RVs]) h1⟩
  · exact h1.elim
theorem lstObj {G : Gd} {m bs : List Addr} {st : Sto} {H : Hp} {l : Nat} {v : V} {xs : List IV} (R : Rel G m bs st H) (r : RV G m bs st H (.ref l) v) (e : st[l]? = some (.lst xs)) : ∃ p vs, v = .ref p ∧ m[l]? = some p ∧ H p = some (.lst vs) ∧ RVs G m bs st H xs vs := by
  simp only [RV] at r
  obtain ⟨p, ev, hp⟩ := r
  obtain ⟨vs, e1, r1⟩ := R.obj _ _ p e hp
  exact ⟨p, vs, ev, hp, e1, r1⟩
theorem set_lst {G : Gd} {m bs : List Addr} {st : Sto} {H : Hp} {l : Nat} {p : Addr} {xs ys : List IV} {ws : List V} (R : Rel G m bs st H) (hp : m[l]? = some p) (e : st[l]? = some (.lst xs)) (r : RVs G m bs st H ys ws) :
    GrowE m st H m (st.set l (.lst ys)) (upd H p (.lst ws)) ∧ Rel G m bs (st.set l (.lst ys)) (upd H p (.lst ws)) := by
  have g : GrowE m st H m (st.set l (.lst ys)) (upd H p (.lst ws)) := grow_set hp e (by simp)
  exact ⟨g, R.set hp e (by simp) ⟨ws, upd_same, RVs.fits g.fitsE _ _ r⟩⟩
theorem mtd_append : MtdM X "list.append" gApp := by
  refine ⟨_, mt_append, fun m bs st H x xs x' xs' Q W R rx rxs h => ?_⟩
  unfold gApp at h
  split at h
  · rename_i l y
    split at h
    · rename_i zs hz
      split at h
      · rename_i c
        obtain ⟨p, vs, ev, hp, hH, r⟩ := lstObj R rx hz
        obtain ⟨w, ew, rw'⟩ := rvs1 rxs
        obtain ⟨g, R'⟩ := set_lst (ys := zs ++ [y]) (ws := vs ++ [w]) R hp hz (r.append (by simp only [RVs]; exact ⟨w, [], rfl, rw', rfl⟩))
        exact ⟨p, vs, w, ev, ew, hH, by rw [← r.length]; exact szlt c, h m _ g R' .non (by simp only [RV])⟩
      · exact h.elim
    · exact h.elim
  · exact h.elim
theorem RVs.dropLast {G : Gd} {m bs : List Addr} {st : Sto} {H : Hp} {xs : List IV} {vs : List V} (r : RVs G m bs st H xs vs) : RVs G m bs st H xs.dropLast vs.dropLast := by
  rw [List.dropLast_eq_take, List.dropLast_eq_take, r.length]
  exact r.take _
theorem mtd_pop : MtdM X "list.pop" gPop := by
  refine ⟨_, mt_pop, fun m bs st H x xs x' xs' Q W R rx rxs h => ?_⟩
  unfold gPop at h
  split at h
  · rename_i l
    split at h
    · rename_i zs hz
      split at h
      · rename_i v hv
        obtain ⟨p, vs, ev, hp, hH, r⟩ := lstObj R rx hz
        simp only [RVs] at rxs
        obtain ⟨w, e1, r1⟩ := r.get hv
        obtain ⟨g, R'⟩ := set_lst R hp hz r.dropLast
        exact ⟨p, vs, w, ev, rxs, hH, by rw [← r.length]; exact e1, h m _ g R' w (RV.fits g.fitsE _ _ r1)⟩
      · exact h.elim
    · exact h.elim
  · exact h.elim
theorem mtd_popAt : MtdM X "list.pop" gPopAt := by
  refine ⟨_, mt_popAt, fun m bs st H x xs x' xs' Q W R rx rxs h => ?_⟩
  unfold gPopAt at h
  split at h
  · rename_i l i
    split at h
    · rename_i zs hz
      split at h
      · rename_i c
        split at h
        · rename_i v hv
          obtain ⟨p, vs, ev, hp, hH, r⟩ := lstObj R rx hz
          obtain ⟨u, eu, ru⟩ := rvs1 rxs
          simp only [RV] at ru
          subst ru
          obtain ⟨w, e1, r1⟩ := r.get hv
          obtain ⟨g, R'⟩ := set_lst R hp hz (r.eraseIdx i.toNat)
          have hlt : i.toNat < vs.length := (List.getElem?_eq_some_iff.mp e1).1
          refine ⟨p, vs, i, i.toNat, w, ev, eu, hH, by omega, by omega, ?_, e1, h m _ g R' w (RV.fits g.fitsE _ _ r1)⟩
          have := (ixN_seq (n := vs.length) (i := i) (j := i.toNat) (by unfold ixN; rw [if_pos c.1, if_pos (by omega)])).1
          exact this
        · exact h.elim
      · exact h.elim
    · exact h.elim
  · exact h.elim
theorem mtd_clear : MtdM X "list.clear" gClear := by
  refine ⟨_, mt_clear, fun m bs st H x xs x' xs' Q W R rx rxs h => ?_⟩
  unfold gClear at h
  split at h
  · rename_i l
    split at h
    · rename_i zs hz
      obtain ⟨p, vs, ev, hp, hH, r⟩ := lstObj R rx hz
      simp only [RVs] at rxs
      obtain ⟨g, R'⟩ := set_lst (ys := []) (ws := []) R hp hz (by simp only [RVs])
      exact ⟨p, vs, ev, rxs, hH, h m _ g R' .non (by simp only [RV])⟩
    · exact h.elim
  · exact h.elim

/-! ### isinstance with a built-in class -/
def tyName (st : Sto) : IV → Option String
  | .non => some "NoneType"
  | .bl _ => some "bool"
  | .int _ => some "int"
  | .str _ => some "str"
  | .tup _ => some "tuple"
  | .lst _ => some "list"
  | .ref l => match st[l]? with | some (.lst _) => some "list" | some (.dic _) => some "dict" | _ => none
  | _ => none
def isSubB (a b : String) : Bool := a == b || (a == "bool" && b == "int")
def basicT : List String := ["NoneType", "bool", "int", "str", "tuple", "list", "dict"]
def askT : List String := ["bool", "int", "str", "tuple", "list", "dict"]
theorem kit_table : ∀ a ∈ basicT, ∀ b ∈ askT, kitB a b = some (isSubB a b) := by decide +kernel
def gIsi : List IV → Sto → R IV
  | [x, .ty b], st => match tyName st x with
    | some a => if b ∈ askT then .ok (.bl (isSubB a b)) st else .bad
    | none => .bad
  | _, _ => .bad
theorem tyName_x {G : Gd} {m bs : List Addr} {st : Sto} {H : Hp} {x : IV} {v : V} {t : String} (R : Rel G m bs st H) (e : tyName st x = some t) (r : RV G m bs st H x v) : TyX G.K H v (.type t) ∧ t ∈ basicT := by
  cases x with
  | non => cases e; simp only [RV] at r; subst r; exact ⟨.base .non, by decide⟩
  | bl b => cases e; simp only [RV] at r; subst r; exact ⟨.base (.bl b), by decide⟩
  | int b => cases e; simp only [RV] at r; subst r; exact ⟨.base (.int b), by decide⟩
  | str b => cases e; simp only [RV] at r; subst r; exact ⟨.base (.str b), by decide⟩
  | ty n => cases e
  | ptp n => cases e
  | tup xs =>
    cases e
    simp only [RV] at r
    obtain ⟨a, vs, ev, h, _⟩ := r
    subst ev
    refine ⟨?_, by decide⟩
    rcases h with ⟨h | ⟨o, h⟩, _⟩ | h
    · exact .base (.tup h)
    · exact .fTuple h
    · rcases h with h | ⟨o, its, n, h1, h2, _⟩
      · exact (h0_rd h).elim
      · exact .kTuple h1 h2
  | lst xs =>
    cases e
    simp only [RV] at r
    obtain ⟨a, vs, ev, h, _⟩ := r
    subst ev
    refine ⟨?_, by decide⟩
    rcases h with ⟨h | ⟨o, h⟩, _⟩ | h
    · exact .base (.lst h)
    · exact .base (.frz h)
    · rcases h with h | ⟨o, its, n, h1, h2, _⟩
      · exact (h0_rd h).elim
      · exact .kList h1 h2
  | ref l =>
    simp only [tyName] at e
    split at e
    · rename_i xs h
      cases e
      obtain ⟨p, vs, ev, _, hH, _⟩ := lstObj R r h
      subst ev
      exact ⟨.base (.lst hH), by decide⟩
    · rename_i kvs h
      cases e
      simp only [RV] at r
      obtain ⟨p, ev, hp⟩ := r
      subst ev
      obtain ⟨ws, hH, _⟩ := R.obj _ _ p h hp
      exact ⟨.base (.dK hH), by decide⟩
    · cases e
theorem cm_isi : CallM X (.builtin "isinstance") gIsi := by
  refine ⟨_, call_isi, fun m bs st H xs xs' Q W R rx h => ?_⟩
  unfold gIsi at h
  split at h
  · rename_i x b
    split at h
    · rename_i t ht
      split at h
      · rename_i hb
        obtain ⟨v, w, e, r1, r2⟩ := rvs2 rx
        simp only [RV] at r2
        subst r2
        obtain ⟨tx, hm⟩ := tyName_x R ht r1
        exact ⟨v, .ty b, _, _, _, e, .ty b, tx, kit_ty (kit_table t hm b hb), h.v R (by simp only [RV])⟩
      · exact h.elim
    · exact h.elim
  · exact h.elim
theorem me_bty {n : String} {x : Str} (hg : Gl X x) (hm : X.mg x = none) (hv : bootBuiltins x = some (.type n)) (hn : x ≠ "__name__" := by decide) (hd : (x == ("__debug__" : Str)) = false := by decide) : ME X W xa (.Name x pos) (iC (.ty n)) :=
  me_c (pe_bltn (v := .ty n) hg hm hv rfl hn hd) fun _ _ _ _ => by simp only [RV]
/-- a constant of the module: an int, a text, a tuple of the written part -/
theorem me_glob {x : Str} {iv : IV} {v : V} {u : Value} (hg : Gl X x) (hm : X.mg x = some u) (r : RelV v u) (hr : ∀ m bs st H, RV (gd X) m bs st H iv v) (hd : (x == ("__debug__" : Str)) = false := by decide) : ME X W xa (.Name x pos) (iC iv) :=
  me_c (pe_glob hg hm r hd) hr
end
end Mi
set_option Elab.async false
set_option linter.all false
set_option maxRecDepth 100000
set_option maxHeartbeats 4000000
namespace Mi
open PySem PySem.Spec PyProof.Rows L2

section
variable {X : Cx} {CX : CXT} {k : Nat} {f C : Addr} {fd : FuncData} {ps : List Str} {sp : Sp} {dvs : List V} {ds : List Value} {E : L2.St → XK} {x m : Str} {p pos apos : Pos} {e o : Expr} {es : List Expr} {ta : TE} {t : TA}
/-! calls whose raising is wished for at the slots -/
def tMakeS (C : Addr) (sp : Sp) (E : L2.St → XK) (t : TA) : TE := fun σ H Q => t σ H fun vs H1 => ∀ x dx, H1 x = none → H1 dx = none → dx ≠ x →
  sp (.ref x :: vs) (upd (upd H1 dx (.own x)) x (.ins C dx [])) (fun v H2 => v = .non ∧ Q (.ref x) H2) (E σ)
theorem run_makeS {pins : List (Addr × Obj)} {σ : L2.St} {H : Hp} {s : Shared} {Q : VK} {us : List Value} {vs : List V} (M : Mk X.K C f) (F : FnOk X.prog X.w X.K X.mg X.base CX k f fd ps sp) (hr : Room (k + 1) X.A) (hb : Binds X.K fd ps [])
    (hx : PassesAt CX X σ (E σ)) (I : L2.Inv X pins σ H s) (r : Vals vs us)
    (h : ∀ x dx, H x = none → H dx = none → dx ≠ x → sp (.ref x :: vs) (upd (upd H dx (.own x)) x (.ins C dx [])) (fun v H2 => v = .non ∧ Q (.ref x) H2) (E σ)) :
    wpAny (model X.prog X.w) X.A (call (.ref C) us) (EP X pins σ Q) X.xe s := by
  have hq := h (s.heap.objs.size + 1) s.heap.objs.size (I.hok.fresh (Nat.le_succ _)) (I.hok.fresh (Nat.le_refl _)) (Nat.ne_of_lt (Nat.lt_succ_self _))
  have I2 := L2.Inv.made (C := C) I
  have r2 : Vals (V.ref (s.heap.objs.size + 1) :: vs) (Value.ref (s.heap.objs.size + 1) :: us) := .cons rfl r
  have hl : (Value.ref (s.heap.objs.size + 1) :: us ++ []).length = ps.length := by
    have e := r2.length
    rw [F.len _ _ _ _ hq] at e
    rw [List.append_nil]
    exact e.symm
  have b := hb _ (Value.ref (s.heap.objs.size + 1) :: us) I2.kIn hl
  rw [List.append_nil] at b
  refine wpAny_call (make_map (f := f) I.kIn M.makes M.init (beq_iff_eq.mp M.fn) (codeAny_mono (F.run _ X.stack _ _ ⟨Value.ref (s.heap.objs.size + 1) :: us, []⟩ (Value.ref (s.heap.objs.size + 1) :: us) _ _ (E σ) (hr.make C us [])
    (I2.env0.make C us []) b r2 hq) fun r s' hq' => ?_))
  cases r with
  | error e => exact hx pins _ _ e s' I2 hq'
  | ok fl =>
    cases fl with
    | ret u =>
      obtain ⟨v, H', I3, rv, ev, q3⟩ := I2.after hq'
      subst ev
      exact ⟨rv, ⟨V.ref (s.heap.objs.size + 1), H', I3, rfl, q3⟩⟩
    | next => exact False.elim hq'
    | brk => exact False.elim hq'
    | cont => exact False.elim hq'
theorem pe_makeS (M : Mk X.K C f) (F : FnOk X.prog X.w X.K X.mg X.base CX k f fd ps sp) (hr : Room (k + 1) X.A) (hg : Gl X x) (hm : X.mg x = some (.ref C)) (hb : Binds X.K fd ps []) (hx : ∀ σ, PassesAt CX X σ (E σ))
    (ha : PA X (e :: es) t) (hdb : (x == ("__debug__" : Str)) = false := by decide) (he : starEach (e :: es) X.env = (false, eval e X.env) :: starEach es X.env := by rfl) (hpl : (backTo pos (starEach es X.env)).any (·.1) = false := by rfl) :
    PE X (.Call (.Name x p) (e :: es) [] pos) (tMakeS C sp E t) := by
  refine ⟨fun pins s σ H Q I h => ?_⟩
  refine wpAny_Call_Name_kw (ld_glob I hg hm ?_ hdb)
  refine PySem.W.callWith_K (h₀ := X.base) I.ok.mod.kin M.kp (thn (ha.run pos pins s σ H _ I h) fun us s1 ⟨vs, H1, I1, r, q⟩ => ⟨I1.kIn, ?_⟩) he hpl
  exact run_makeS M F hr hb (hx σ) I1 r q
def tMethS (C : Addr) (m : Str) (sp : Sp) (E : L2.St → XK) (ta : TE) (t : TA) : TE := fun σ H Q => ta σ H fun x H1 => ∃ a dx fs, x = .ref a ∧ H1 a = some (.ins C dx fs) ∧ fs.lookup m = none ∧
  t σ H1 fun vs H2 => sp (x :: vs) H2 Q (E σ)
theorem pe_methSD {pl : Sem Bool} (he : PE X o ta) (c : Cls X.K C) (hm : Meth X.K C m f) (F : FnOk X.prog X.w X.K X.mg X.base CX k f fd ps sp) (hr : Room k X.A) (hb : Binds X.K fd ps []) (hx : ∀ σ, PassesAt CX X σ (E σ)) (ha : PA X (e :: es) t)
    (hst : starEach (e :: es) X.env = (false, eval e X.env) :: starEach es X.env := by rfl) (hpl : (backTo pos (starEach es X.env)).any (·.1) = false := by rfl)
    (ht : eval (.Call (.Attribute o m apos) (e :: es) [] pos) X.env = (do
      let ov ← eval o X.env
      standAt apos.atName
      let (f, first) ← holding [ov] (getMethod ov m pl)
      callWith pos f first (backTo pos (starEach (e :: es) X.env)) (backToKw pos (keywordEach [] X.env))) := by rfl) :
    PE X (.Call (.Attribute o m apos) (e :: es) [] pos) (tMethS C m sp E ta t) := by
  refine ⟨fun pins s σ H Q I h => ?_⟩
  refine PySem.W.methodCall_KW (pl := pl) (thn (he.run pins s σ H _ I h) fun u s1 ⟨x, H1, I1, rx, a, dx, fs, ex, ea, l, q⟩ => ?_) ht
  subst ex
  obtain rfl : u = Value.ref a := rx
  refine getmeth_ok I1 ea c hm l ?_
  refine PySem.W.callWith_K (first := [.ref a]) (h₀ := X.base) I.ok.mod.kin hm.kp (thn (ha.run pos pins s1 σ H1 _ I1 q) fun us s2 ⟨vs, H2, I2, r, q2⟩ => ⟨I2.kIn, ?_⟩) hst hpl
  exact run_fnS (us := .ref a :: us) (vs := .ref a :: vs) F hr hb (hx σ) I2 (.cons rfl r) q2
theorem pe_meth0SD {pl : Sem Bool} (he : PE X o ta) (c : Cls X.K C) (hm : Meth X.K C m f) (F : FnOk X.prog X.w X.K X.mg X.base CX k f fd ps sp) (hr : Room k X.A) (hb : Binds X.K fd ps []) (hx : ∀ σ, PassesAt CX X σ (E σ))
    (ht : eval (.Call (.Attribute o m apos) [] [] pos) X.env = (do
      let ov ← eval o X.env
      standAt apos.atName
      let (f, first) ← holding [ov] (getMethod ov m pl)
      callWith pos f first (backTo pos (starEach [] X.env)) (backToKw pos (keywordEach [] X.env))) := by rfl) :
    PE X (.Call (.Attribute o m apos) [] [] pos) (tMethS C m sp E ta tNil) := by
  refine ⟨fun pins s σ H Q I h => ?_⟩
  refine PySem.W.methodCall_KW (pl := pl) (thn (he.run pins s σ H _ I h) fun u s1 ⟨x, H1, I1, rx, a, dx, fs, ex, ea, l, q⟩ => ?_) ht
  subst ex
  obtain rfl : u = Value.ref a := rx
  refine getmeth_ok I1 ea c hm l ?_
  exact PySem.W.callWith_K0 (first := [.ref a]) I1.kIn hm.kp (run_fnS (us := [.ref a]) (vs := [.ref a]) F hr hb (hx σ) I1 (.cons rfl .nil) q)
theorem pe_callS0 (F : FnOk X.prog X.w X.K X.mg X.base CX k f fd ps sp) (hr : Room k X.A) (hg : Gl X x) (hm : X.mg x = some (.ref f)) (hk : PySem.W.keepIn X.K (.ref f) = true) (hb : Binds X.K fd ps []) (hx : ∀ σ, PassesAt CX X σ (E σ))
    (hdb : (x == ("__debug__" : Str)) = false := by decide) : PE X (.Call (.Name x p) [] [] pos) (tCallS sp E tNil) := by
  refine ⟨fun pins s σ H Q I h => ?_⟩
  refine wpAny_Call_Name_kw (ld_glob I hg hm ?_ hdb)
  exact PySem.W.callWith_K0 I.kIn hk (run_fnS (us := []) F hr hb (hx σ) I .nil h)
end

/-! ### the mirror's calls -/
section
variable {P : Program} {w : World} {K : PySem.W.Frag} {mg : Str → Option Value} {base : Heap}
/-- a class with its __init__ -/
def MkM (P : Program) (w : World) (K : PySem.W.Frag) (mg : Str → Option Value) (base : Heap) (c : Str) (k n : Nat) (F : Fn) : Prop :=
  ∃ C f fd ps, mg c = some (.ref C) ∧ Mk K C f ∧ Binds K fd ps [] ∧ FnOk P w K mg base (L2.CX P w) k f fd ps (spOf ⟨K, mg, P, w⟩ n F)
/-- a method -/
def MethM (P : Program) (w : World) (K : PySem.W.Frag) (mg : Str → Option Value) (base : Heap) (c m : Str) (k n : Nat) (F : Fn) : Prop :=
  ∃ C f fd ps, mg c = some (.ref C) ∧ Cls K C ∧ Meth K C m f ∧ Binds K fd ps [] ∧ FnOk P w K mg base (L2.CX P w) k f fd ps (spOf ⟨K, mg, P, w⟩ n F)
end
section
variable {X : Cx} {W : WX} {xa : Xa} {a b e o : Expr} {A B : IE} {pos p apos : Pos} {es : List Expr} {As : IA} {k n : Nat} {F : Fn} {x c m : Str}
theorem me_call0 (h : FnM X.prog X.w X.K X.mg X.base x k 0 F) (hr : Room k X.A) (tk : Takes X W) (hg : Gl X x)
    (hdb : (x == ("__debug__" : Str)) = false := by decide) : ME X W xa (.Call (.Name x p) [] [] pos) (iCall (arity 0 F) iNil) := by
  obtain ⟨f, fd, ps, hm, hk, hb, hf⟩ := h
  refine PE.weak (pe_callS0 hf hr hg hm hk hb (E := fun σ cls d H => W cls d σ H) (fun σ => wish_of tk σ) hdb) fun σ H Q h => ?_
  obtain ⟨m, os, rs, ρ, st, P, h⟩ := h
  have h : Pst (gd X) m (os ++ rs) st H (fun cls d H' => W cls d σ H') (F [] st) (fun v m' st' H' => ∀ u, RV (gd X) m' (os ++ rs) st' H' v u → Q u H') := h
  exact ⟨rfl, m, _, st, [], P.rel, by simp only [RVs], h⟩
/-- C(e, ..) -/
def iMake (c : Str) (F : Fn) (As : IA) : IE := fun ρ st => (As ρ st).bind fun args st => (F (.ref st.length :: args) (st ++ [.ins c []])).bind fun v st' => match v with
  | .non => .ok (.ref st.length) st'
  | _ => .bad
theorem me_make (h : MkM X.prog X.w X.K X.mg X.base c k (n + 1) F) (hr : Room (k + 1) X.A) (tk : Takes X W) (hg : Gl X c) (ha : MA X W xa (e :: es) As)
    (hdb : (c == ("__debug__" : Str)) = false := by decide) (he : starEach (e :: es) X.env = (false, eval e X.env) :: starEach es X.env := by rfl) (hpl : (backTo pos (starEach es X.env)).any (·.1) = false := by rfl) :
    ME X W xa (.Call (.Name c p) (e :: es) [] pos) (iMake c (arity (n + 1) F) As) := by
  obtain ⟨C, f, fd, ps, hm, hM, hb, hf⟩ := h
  refine PE.weak (pe_makeS hM hf hr hg hm hb (E := fun σ cls d H => W cls d σ H) (fun σ => wish_of tk σ) ha hdb he hpl) fun σ H Q h => ?_
  obtain ⟨m, os, rs, ρ, st, P, h⟩ := h
  refine ⟨m, os, rs, ρ, st, P, h.bind.mono fun args m1 st1 H1 g1 R1 h1 vs rv => fun x dx hx hdx ne => ?_⟩
  have hx2 : upd H1 dx (.own x) x = none := by rw [upd_ne (Ne.symm ne)]; exact hx
  have R2 : Rel (gd X) m1 (os ++ rs) st1 (upd H1 dx (.own x)) := R1.new hdx
  have g2 : GrowE m1 st1 H1 m1 st1 (upd H1 dx (.own x)) := grow_new hdx
  have g3 : GrowE m1 st1 (upd H1 dx (.own x)) (m1 ++ [x]) (st1 ++ [.ins c []]) (upd (upd H1 dx (.own x)) x (.ins C dx [])) := grow_live R2 hx2
  have R3 : Rel (gd X) (m1 ++ [x]) (os ++ rs) (st1 ++ [.ins c []]) (upd (upd H1 dx (.own x)) x (.ins C dx [])) := R2.live hx2 ⟨C, dx, [], hm, upd_same, rfl⟩
  have el : (m1 ++ [x])[st1.length]? = some x := by rw [← R1.len, List.getElem?_append_right (Nat.le_refl _)]; simp
  have h2 : Pst (gd X) (m1 ++ [x]) (os ++ rs) (st1 ++ [.ins c []]) (upd (upd H1 dx (.own x)) x (.ins C dx [])) (fun cls d H' => W cls d σ H') ((arity (n + 1) F (.ref st1.length :: args) (st1 ++ [.ins c []])).bind fun v st' => match v with
      | .non => .ok (.ref st1.length) st'
      | _ => .bad) (fun v m' st' H' => ∀ u, RV (gd X) m' (os ++ rs) st' H' v u → Q u H') := h1.shift (g2.trans g3)
  unfold arity at h2
  split at h2
  · rename_i hl
    refine ⟨by rw [List.length_cons, ← rv.length]; simpa using hl, m1 ++ [x], _, st1 ++ [.ins c []], .ref st1.length :: args, R3, ?_, h2.bind.mono fun v m4 st4 H4 g4 R4 h4 u ru => ?_⟩
    · simp only [RVs]
      exact ⟨.ref x, vs, rfl, by simp only [RV]; exact ⟨x, rfl, el⟩, RVs.fits (g2.trans g3).fitsE _ _ rv⟩
    · cases v with
      | non =>
        simp only [RV] at ru
        refine ⟨ru, h4.v R4 ?_⟩
        simp only [RV]
        exact ⟨x, rfl, g4.at el⟩
      | _ => exact h4.elim
  · exact h2.elim
/-- o.m(e, ..): the classes that may stand there, each with the method's function -/
def iMeth (c m : Str) (F : Fn) (A : IE) (As : IA) : IE := fun ρ st => (A ρ st).bind fun x st => match insAt st [c] x with
  | some (_, _, fs) => if (fs.lookup m).isNone = true then (As ρ st).bind fun args st => F (x :: args) st else .bad
  | none => .bad
theorem meth_weak {C f : Addr} {fd : FuncData} {ps : List Str} {t : TA} {σ : L2.St} {H : Hp} {Q : VK} (hC : X.mg c = some (.ref C)) (ht : ∀ σ H Q, taOf (gd X) W xa As σ H Q → t σ H Q)
    (h : teOf (gd X) W xa (iMeth c m (arity (n + 1) F) A As) σ H Q) : tMethS C m (spOf (gd X) (n + 1) F) (fun σ cls d H => W cls d σ H) (teOf (gd X) W xa A) t σ H Q := by
  obtain ⟨m0, os, rs, ρ, st, P, h⟩ := h
  refine ⟨m0, os, rs, ρ, st, P, h.bind.mono fun x m1 st1 H1 g1 R1 h1 u ru => ?_⟩
  split at h1
  · rename_i l c' fs e
    obtain ⟨ex, hc, _, p, C', dx, gs, ev, hm, hC', hH, rf⟩ := insAt_at R1 e ru
    have ec : c' = c := by simpa using hc
    subst ec
    have hC2 : X.mg c' = some (.ref C') := hC'
    rw [hC] at hC2
    cases hC2
    split at h1
    · rename_i hn
      refine ⟨p, dx, gs, ev, hH, rf.look_none (by simpa using hn), ht _ _ _ ⟨m1, os, rs, ρ, st1, P.grow g1 R1, h1.bind.mono fun args m2 st2 H2 g2 R2 h2 vs rv => ?_⟩⟩
      unfold arity at h2
      split at h2
      · rename_i hl
        refine ⟨by rw [List.length_cons, ← rv.length]; simpa using hl, m2, _, st2, x :: args, R2, ?_, h2⟩
        simp only [RVs]
        exact ⟨u, vs, rfl, RV.fits g2.fitsE _ _ ru, rv⟩
      · exact h2.elim
    · exact h1.elim
  · exact h1.elim
theorem me_meth {pl : Sem Bool} (h : MethM X.prog X.w X.K X.mg X.base c m k (n + 1) F) (hr : Room k X.A) (tk : Takes X W) (ho : ME X W xa o A) (ha : MA X W xa (e :: es) As)
    (hst : starEach (e :: es) X.env = (false, eval e X.env) :: starEach es X.env := by rfl) (hpl : (backTo pos (starEach es X.env)).any (·.1) = false := by rfl)
    (ht : eval (.Call (.Attribute o m apos) (e :: es) [] pos) X.env = (do
      let ov ← eval o X.env
      standAt apos.atName
      let (f, first) ← holding [ov] (getMethod ov m pl)
      callWith pos f first (backTo pos (starEach (e :: es) X.env)) (backToKw pos (keywordEach [] X.env))) := by rfl) :
    ME X W xa (.Call (.Attribute o m apos) (e :: es) [] pos) (iMeth c m (arity (n + 1) F) A As) := by
  obtain ⟨C, f, fd, ps, hm, hC, hM, hb, hf⟩ := h
  exact PE.weak (pe_methSD ho hC hM hf hr hb (E := fun σ cls d H => W cls d σ H) (fun σ => wish_of tk σ) ha hst hpl ht) fun σ H Q h => meth_weak (f := f) (fd := fd) (ps := ps) hm (fun _ _ _ h => h) h
theorem me_meth0 {pl : Sem Bool} (h : MethM X.prog X.w X.K X.mg X.base c m k 1 F) (hr : Room k X.A) (tk : Takes X W) (ho : ME X W xa o A)
    (ht : eval (.Call (.Attribute o m apos) [] [] pos) X.env = (do
      let ov ← eval o X.env
      standAt apos.atName
      let (f, first) ← holding [ov] (getMethod ov m pl)
      callWith pos f first (backTo pos (starEach [] X.env)) (backToKw pos (keywordEach [] X.env))) := by rfl) :
    ME X W xa (.Call (.Attribute o m apos) [] [] pos) (iMeth c m (arity 1 F) A iNil) := by
  obtain ⟨C, f, fd, ps, hm, hC, hM, hb, hf⟩ := h
  refine PE.weak (pe_meth0SD ho hC hM hf hr hb (E := fun σ cls d H => W cls d σ H) (fun σ => wish_of tk σ) ht) fun σ H Q h => meth_weak (n := 0) (f := f) (fd := fd) (ps := ps) hm (fun σ H Q h => ?_) h
  obtain ⟨m, os, rs, ρ, st, P, h⟩ := h
  exact h.ok P.rel [] (by simp only [RVs])

/-! ### exceptions with one field -/
def spI (K : PySem.W.Frag) (C : Addr) (f : Str) : Sp := fun vs H Q _ => ∃ a v, vs = [.ref a, v] ∧ H a = some (exo a C none) ∧ ∀ d, H d = none → d ≠ a → Q .non (upd (upd H d (exd d [(f, v)])) a (exo a C (some d)))
/-- a class of exceptions with the field f -/
def ExcM (P : Program) (w : World) (K : PySem.W.Frag) (mg : Str → Option Value) (base : Heap) (c f : Str) (k : Nat) : Prop :=
  ∃ C fI fd ps, mg c = some (.ref C) ∧ OexC K C ∧ XfC K C ∧ PySem.W.findIn K (.ref C) f = some none ∧ PySem.W.findIn K (.ref C) "__init__" = some (some (.ref fI)) ∧ PySem.W.typeIn K (.ref fI) = some (.type "function") ∧
    Binds K fd ps [] ∧ FnOk P w K mg base (L2.CX P w) k fI fd ps (spI K C f)
def iRaise (c f : Str) (A : IE) : IS := fun ρ st => RS.ofR (A ρ st) ρ fun v st => .exc c [(f, v)] ρ st
theorem ms_raise {f : Str} (hc : X.calm = true) (h : ExcM X.prog X.w X.K X.mg X.base c f k) (hr : Room (k + 1) X.A) (tk : Takes X W) (hg : Gl X c) (ha : ME X W xa e A)
    (hs : starEach (e :: []) X.env = (false, eval e X.env) :: starEach [] X.env := by rfl) (hdb : (c == ("__debug__" : Str)) = false := by decide) (hpl : (backTo pos (starEach [] X.env)).any (·.1) = false := by rfl) :
    MS X W xa (.Raise (some (.Call (.Name c p) [e] [] pos)) none apos) (iRaise c f A) := by
  obtain ⟨C, fI, fd, ps, hC, hO, hX, hn, hI, hT, hb, hf⟩ := h
  refine PS.weak (ps_raise hc tk (pmk_oex hO hI hT hf hr hb .nil (fun _ _ _ _ _ _ _ z => by obtain ⟨_, _, _, _, _, _, _, _, _, _, _, _, z⟩ := z; exact z.elim) hg hC (pa_cons ha pa_nil hs) hdb hs hpl)) fun D σ H h => ?_
  obtain ⟨m, os, rs, ρ, st, P, h⟩ := h
  refine ⟨m, os, rs, ρ, st, P, (h.ofR P).mono fun v m1 st1 H1 g1 R1 h1 u ru => ⟨by show 1 ≤ 1000; decide, fun a ha => ⟨a, u, rfl, upd_same, fun d hd ne => ?_⟩⟩⟩
  have hd1 : H1 d = none := by rw [upd_ne ne] at hd; exact hd
  refine ⟨rfl, d, [(f, u)], upd_same, by rw [upd_ne ne, upd_same], hd1, ?_⟩
  have e : upd (del (upd (upd (upd H1 a (exo a C none)) d (exd d [(f, u)])) a (exo a C (some d))) a) d (.xd [(f, u)]) = upd H1 d (.xd [(f, u)]) := by
    funext b
    by_cases hb : b = d
    · rw [hb, upd_same, upd_same]
    · rw [upd_ne hb, upd_ne hb]
      by_cases hba : b = a
      · rw [hba, del_same, ha]
      · rw [del_ne hba, upd_ne hba, upd_ne hb, upd_ne hba]
  rw [e]
  have g2 : GrowE m1 st1 H1 m1 st1 (upd H1 d (.xd [(f, u)])) := grow_new hd1
  have R2 : Rel (gd X) m1 (os ++ rs) st1 (upd H1 d (.xd [(f, u)])) := R1.new hd1
  exact h1 m1 os _ σ _ _ (.ofE g2) ((P.grow g1 R1).grow g2 R2) ⟨C, hC, rfl, .inr ⟨d, _, rfl, upd_same, (R1.fresh hd1).1, (R1.fresh hd1).2, u, [], rfl, RV.fits g2.fitsE _ _ ru, rfl⟩⟩

/-! ### try: .. except C as n: .. -/
/-- no name of an exception outlives its suite -/
def noExn (ρ : Slots) : Slots := ρ.map fun x => match x with
  | some (.exn _) => none
  | y => y
theorem noExn_at {ρ : Slots} {i : Nat} {y : SV} (h : (noExn ρ)[i]? = some (some y)) : ρ[i]? = some (some y) ∧ ∀ l, y ≠ .exn l := by
  unfold noExn at h
  rw [List.getElem?_map, Option.map_eq_some_iff] at h
  obtain ⟨z, e, h⟩ := h
  cases z with
  | none => cases h
  | some z =>
    cases z with
    | exn l => cases h
    | v x => cases h; exact ⟨e, fun l q => by cases q⟩
    | own xs => cases h; exact ⟨e, fun l q => by cases q⟩
theorem Pre.noExn {G : Gd} {xa xa' : Xa} {σ : L2.St} {H : Hp} {m os rs : List Addr} {ρ : Slots} {st : Sto} (P : Pre G xa σ H m os rs ρ st) : Pre G xa' σ H m os rs (noExn ρ) st := by
  refine ⟨P.rel, by simp [Mi.noExn, P.re.len], fun i y e => ?_, fun i xs e => P.re.own i xs (noExn_at e).1, fun i j xs ys v e1 e2 e3 e4 => P.re.uniq i j xs ys v (noExn_at e1).1 (noExn_at e2).1 e3 e4⟩
  obtain ⟨e1, ne⟩ := noExn_at e
  obtain ⟨v, e2, r⟩ := P.re.at_ i y e1
  refine ⟨v, e2, ?_⟩
  cases y with
  | v x => exact r
  | own xs => exact r
  | exn l => exact absurd rfl (ne l)
def hEnd (i l : Nat) (r : RS) : RS := match r with
  | .nx ρ st => .nx (noExn (ρ.set i none)) (st.set l .dead)
  | .bk ρ st => .bk (noExn (ρ.set i none)) (st.set l .dead)
  | .ct ρ st => .ct (noExn (ρ.set i none)) (st.set l .dead)
  | .rt v st => .rt v (st.set l .dead)
  | _ => .bad
theorem hEnd_post {G : Gd} {xa xa' : Xa} {m os rs : List Addr} {st : Sto} {H : Hp} {W : WX} {D : Ends} {i l : Nat} {r : RS} (h : PstS G xa m os rs st H W D (hEnd i l r)) :
    PstS G xa' m os rs st H W0 { nx := fun σ' H' => D.nx (σ'.set i none) H', rt := D.rt, bk := fun σ' H' => D.bk (σ'.set i none) H', ct := fun σ' H' => D.ct (σ'.set i none) H' } r := by
  cases r with
  | nx ρ' st' => exact fun m' os' H' σ' g P => h m' os' H' _ (g.trans (.ofE grow_kill)) (P.setN.noExn.grow grow_kill P.rel.kill)
  | bk ρ' st' => exact fun m' os' H' σ' g P => h m' os' H' _ (g.trans (.ofE grow_kill)) (P.setN.noExn.grow grow_kill P.rel.kill)
  | ct ρ' st' => exact fun m' os' H' σ' g P => h m' os' H' _ (g.trans (.ofE grow_kill)) (P.setN.noExn.grow grow_kill P.rel.kill)
  | rt v st' => exact fun m' os' H' u g R r => h m' os' H' u (g.trans (.ofE grow_kill)) R.kill (RV.fits (grow_kill (m := m') (H := H')).fitsE _ _ r)
  | exc c fs ρ' st' => exact h.elim
  | bad => exact h
/-- M: whether the clause takes the class -/
def iTryAs (i : Nat) (M : Str → Option Bool) (B J : IS) : IS := fun ρ st => match B ρ st with
  | .exc c fs ρ1 st1 => (match M c with
    | some true => if fs.isEmpty = true ∨ ¬ i < ρ1.length then .bad else hEnd i st1.length (J ((noExn ρ1).set i (some (.exn st1.length))) (st1 ++ [.xd fs]))
    | some false => .exc c fs ρ1 st1
    | none => .bad)
  | r => r
theorem PSs.under {X : Cx} {st : List Stmt} {q : Prop} {t : TS} (h : q → PSs X st t) : PSs X st (fun D σ H => q ∧ t D σ H) := ⟨fun pins s σ H D I z => (h z.1).run pins s σ H D I z.2⟩
theorem ms_tryAs {x n : Str} {cv : Value} {i : Nat} {body suite : List Stmt} {b₀ : Stmt} {np pos' : Pos} {M : Str → Option Bool} {B J : IS} {q : Value → Prop} (hs : X.stack = X.env :: X.outer) (hf : X.env.frame = some X.env.locals) (hN : X.N.Nodup) (hi : X.N[i]? = some n) (hln : X.env.kindOf n = some .local) (hc : Names X x cv) (tk : Takes X W)
    (hM : ∀ c k C, M c = some k → X.mg c = some (.ref C) → PySem.W.exmOne X.K (.ref C) cv = some k ∧ (k = true → q (.ref C)))
    (hb : ∀ (W : WX) (pn : List (Addr × Obj)) (xe : Value → Shared → Prop), Takes (X.tr pn xe) W → PassesOwn (model X.prog X.w) X.A X.env xe → MSs (X.tr pn xe) W xa body B)
    (hsu : ∀ (a : Addr) (oe : Obj) (cls : Value) (dd : Addr) (pn : List (Addr × Obj)), q cls → Zc cls (some dd) oe → (∃ vs, oe.data = .fields vs) → MSs (X.suite a ((a, oe) :: pn)) W0 (some (a, dd)) (b₀ :: suite) J) :
    MS X W xa (.Try body [.ExceptHandler (some (.Name x np)) (some n) (b₀ :: suite) pos'] [] [] pos) (iTryAs i M B J) := by
  refine PS.weak (ps_try_as (tb := fun W => tsOf (gd X) W xa B) (ts := fun a cls d D σ H => (∃ dd, d = some dd ∧ q cls) ∧ tsOf (gd X) W0 (d.map fun dd => (a, dd)) J D σ H) hs hf hN hi hln hc tk hb (fun a oe cls d pn hz hd => PSs.under fun ⟨dd, ed, hq⟩ => by
    subst ed
    exact hsu a oe cls dd pn hq hz hd)) fun D σ H h => ?_
  obtain ⟨m, os, rs, ρ, st, P, h⟩ := h
  refine ⟨m, os, rs, ρ, st, P, ?_⟩
  unfold iTryAs at h
  cases r : B ρ st with
  | exc c fs ρ1 st1 =>
    simp only [r] at h
    intro m1 os1 H1 σ1 cls d g1 P1 hx
    obtain ⟨C, hC, ecls, hxs⟩ := hx
    subst ecls
    cases k : M c with
    | none => rw [k] at h; exact h.elim
    | some kk =>
      rw [k] at h
      obtain ⟨e1, e2⟩ := hM c kk C k hC
      refine ⟨kk, e1, fun hk a ha => ?_, fun hk => ?_⟩
      · subst hk
        simp only at h
        split at h
        · exact h.elim
        · rename_i hne
          simp only [not_or, Decidable.not_not] at hne
          rcases hxs with hxs | ⟨dd, gs, ed, hH, hdm, hdb, rf⟩
          · rw [hxs] at hne; exact absurd rfl hne.1
          · subst ed
            refine ⟨⟨dd, rfl, e2 rfl⟩, ?_⟩
            have hlen := P1.rel.len
            -- the exception's own dict comes under the mirror
            have f : Fits (gd X) m1 (os1 ++ rs) st1 H1 (m1 ++ [dd]) (os1 ++ rs) (st1 ++ [.xd fs]) H1 := by
              have nt : ∀ {a : Addr} {vs : List V}, Rd H1 a (.tup vs) → a ≠ dd := fun {a vs} h z => by
                rcases h with h | ⟨o, h⟩ <;> (rw [z, hH] at h; cases h)
              have nl : ∀ {a : Addr} {vs : List V}, Rd H1 a (.lst vs) → a ≠ dd := fun {a vs} h z => by
                rcases h with h | ⟨o, h⟩ <;> (rw [z, hH] at h; cases h)
              refine ⟨fun l a h => ?_, fun a vs h => ?_, fun a vs h => ?_, fun a vs h => ?_⟩
              · rw [List.getElem?_append_left (List.getElem?_eq_some_iff.mp h).1]; exact h
              · rcases h with ⟨h, n, z⟩ | h
                · exact .inl ⟨h, fun y => (lv_snoc hlen y).elim n (nt h), z⟩
                · exact .inr h
              · rcases h with ⟨h, n, z⟩ | h
                · exact .inl ⟨h, fun y => (lv_snoc hlen y).elim n (nl h), z⟩
                · exact .inr h
              · obtain ⟨o, h, d, n, z⟩ := h
                exact ⟨o, h, d, fun y => (lv_snoc hlen y).elim n (nt (.inr ⟨o, h⟩)), z⟩
            have el : (m1 ++ [dd])[st1.length]? = some dd := by rw [← hlen, List.getElem?_append_right (Nat.le_refl _)]; simp
            have R2 : Rel (gd X) (m1 ++ [dd]) (os1 ++ rs) (st1 ++ [.xd fs]) H1 := by
              refine ⟨by simp [hlen], fun i j x e1 e2 => ?_, fun l w x e1 e2 => ?_, fun x z => ⟨fun y => ?_, (P1.rel.bsd x z).2⟩⟩
              · rcases getElem?_snoc e1 with e1 | ⟨i1, e1⟩
                · rcases getElem?_snoc e2 with e2 | ⟨i2, e2⟩
                  · exact P1.rel.nd i j x e1 e2
                  · exact absurd (List.mem_of_getElem? e1) (by rw [e2]; exact hdm)
                · rcases getElem?_snoc e2 with e2 | ⟨i2, e2⟩
                  · exact absurd (List.mem_of_getElem? e2) (by rw [e1]; exact hdm)
                  · omega
              · rcases getElem?_snoc e2 with e2 | ⟨i2, e2⟩
                · have hlt : l < st1.length := by rw [← hlen]; exact (List.getElem?_eq_some_iff.mp e2).1
                  rw [List.getElem?_append_left hlt] at e1
                  exact (P1.rel.obj l w x e1 e2).fits f fun _ e => e
                · subst e2
                  rw [hlen] at i2; subst i2
                  rw [List.getElem?_append_right (Nat.le_refl _)] at e1
                  have ew : IO.xd fs = w := by simpa using e1
                  rw [← ew]; exact ⟨gs, hH, RFs.fits f _ _ rf⟩
              · rcases List.mem_append.mp y with y | y
                · exact (P1.rel.bsd x z).1 y
                · have : x = dd := by simpa using y
                  exact hdb (this ▸ z)
            have hi1 : i < σ1.length := by rw [← P1.re.len]; exact hne.2
            have Q1 : Pre (gd X) (some (a, dd)) σ1 H1 m1 os1 rs (noExn ρ1) st1 := P1.noExn
            have hi2 : i < (noExn ρ1).length := by simpa [noExn] using hne.2
            have P2 : Pre (gd X) (some (a, dd)) (σ1.set i (some (.ref a))) H1 (m1 ++ [dd]) os1 rs ((noExn ρ1).set i (some (.exn st1.length))) (st1 ++ [.xd fs]) := by
              refine ⟨R2, by simp [Q1.re.len], fun j y e => ?_, fun j xs e => ?_, fun j k xs ys w q1 q2 q3 q4 => ?_⟩
              · by_cases hj : i = j
                · subst hj
                  rw [List.getElem?_set_self hi2] at e
                  cases e
                  exact ⟨.ref a, by rw [List.getElem?_set_self hi1], a, dd, rfl, rfl, el⟩
                · rw [List.getElem?_set_ne hj] at e
                  obtain ⟨v, e1, r⟩ := Q1.re.at_ j y e
                  refine ⟨v, by rw [List.getElem?_set_ne hj]; exact e1, ?_⟩
                  cases y with
                  | v x => exact RV.fits f _ _ r
                  | own xs => obtain ⟨b, vs, eb, hb, rb, hbb⟩ := r; exact ⟨b, vs, eb, hb, RVs.fits f _ _ rb, hbb⟩
                  | exn l => exact absurd rfl ((noExn_at e).2 l)
              · have hj : i ≠ j := fun z => by
                  subst z
                  rw [List.getElem?_set_self hi2] at e
                  cases e
                rw [List.getElem?_set_ne hj] at e
                obtain ⟨b, e1, r⟩ := Q1.re.own j xs e
                exact ⟨b, by rw [List.getElem?_set_ne hj]; exact e1, r⟩
              · have key : ∀ {j : Nat} {xs : List IV}, ((noExn ρ1).set i (some (.exn st1.length)))[j]? = some (some (.own xs)) → i ≠ j := fun {j xs} e z => by
                  subst z
                  rw [List.getElem?_set_self hi2] at e
                  cases e
                have n1 := key q1
                have n2 := key q2
                rw [List.getElem?_set_ne n1] at q1 q3
                rw [List.getElem?_set_ne n2] at q2 q4
                exact Q1.re.uniq j k xs ys w q1 q2 q3 q4
            have g2 : Grow m1 st1 os1 H1 (m1 ++ [dd]) (st1 ++ [.xd fs]) os1 H1 := ⟨List.prefix_append _ _, fun b o hb nb qb nx => ⟨hb, fun z => (lv_snoc hlen z).elim nb (fun z => by rw [z, hH] at hb; cases hb; exact nx _ rfl), qb⟩, fun _ h => h⟩
            show tsOf (gd X) W0 (some (a, dd)) J _ _ _
            refine ⟨m1 ++ [dd], os1, rs, _, _, P2, ?_⟩
            exact hEnd_post ((PstS.shift g1 h).shift g2)
      · subst hk
        exact h m1 os1 H1 σ1 _ _ g1 P1 ⟨C, hC, rfl, hxs⟩
  | nx ρ1 st1 => simp only [r] at h; exact h
  | bk ρ1 st1 => simp only [r] at h; exact h
  | ct ρ1 st1 => simp only [r] at h; exact h
  | rt v st1 => simp only [r] at h; exact h
  | bad => simp only [r] at h; exact h
/-- n.f in the suite -/
def iExf (i : Nat) (f : Str) : IE := fun ρ st => match ρ[i]? with
  | some (some (.exn l)) => (match st[l]? with
    | some (.xd fs) => (match fs.lookup f with | some v => .ok v st | none => .bad)
    | _ => .bad)
  | _ => .bad
theorem me_exf {a dd C : Addr} {oe : Obj} {cls : Value} {pn : List (Addr × Obj)} {i : Nat} {f y : Str} {p2 : Pos} (T : XfC X.K C) (hno : PySem.W.findIn X.K (.ref C) f = some none) (hcls : cls = .ref C)
    (hz : Zc cls (some dd) oe) (hf : ∃ vs, oe.data = .fields vs) (hv : PE (X.suite a ((a, oe) :: pn)) (.Name y p2) (tVar i)) (hb : attributeBase (.Name y p2) f X.env (eval (.Name y p2) X.env) = eval (.Name y p2) X.env := by rfl) :
    ME (X.suite a ((a, oe) :: pn)) W (some (a, dd)) (.Attribute (.Name y p2) f pos) (iExf i f) := by
  refine PE.weak (pe_xf T hno hz hf hv hb) fun σ H Q h => ?_
  obtain ⟨m, os, rs, ρ, st, P, h⟩ := h
  unfold iExf at h
  split at h
  · rename_i l e
    obtain ⟨v, e1, a', d', e2, e3, e4⟩ := P.re.at_ _ _ e
    cases e2
    split at h
    · rename_i fs e5
      split at h
      · rename_i u hu
        obtain ⟨gs, e6, rf⟩ := P.rel.obj _ _ dd e5 e4
        obtain ⟨w, e7, rw'⟩ := rf.look hu
        exact ⟨v, e1, e3, hcls, dd, gs, w, rfl, e6, e7, h.v P.rel rw'⟩
      · exact h.elim
    · exact h.elim
  · exact h.elim
end
end Mi
set_option Elab.async false
set_option linter.all false
set_option maxRecDepth 100000
set_option maxHeartbeats 4000000
namespace Mi
open PySem PySem.Spec PyProof.Rows L2

/-- two clauses -/
def lcO (g : GI) (all : List IV) (vs : List Nat) (T : ITg) (S : IT) (I1 : IIt) (vs1 : List Nat) (T1 : ITg) (S1 : IT) (E : IE) (ρ : Slots) : List IV → List IV → Sto → R (List IV)
  | [], acc, st => if gokB g st all = true then .ok acc st else .bad
  | x :: r, acc, st => if gokB g st all = true then
      match T x (wipeI ρ vs) st with
      | .nx ρ1 st1 => ((S ρ1 st1).noE).bind fun b st2 => if b = true then ((I1 ρ1 st2).noE).bind fun p st3 => (lcL p.2 p.1 vs1 T1 S1 E ρ1 p.1 0 acc st3).bind fun acc' st4 => lcO g all vs T S I1 vs1 T1 S1 E ρ r acc' st4 else lcO g all vs T S I1 vs1 T1 S1 E ρ r acc st2
      | _ => .bad
    else .bad
def iLc2 (I : IIt) (vs : List Nat) (T : ITg) (S : IT) (I1 : IIt) (vs1 : List Nat) (T1 : ITg) (S1 : IT) (E : IE) : IA := fun ρ st => (I ρ st).bind fun p st => lcO p.2 p.1 vs T S I1 vs1 T1 S1 E ρ p.1 [] st
section
variable {X : Cx} {W : WX} {xa : Xa}
/-- the new list D grows by u -/
theorem grow_D {m m6 os rs : List Addr} {st st6 : Sto} {H H6 : Hp} {σ σ' : L2.St} {ρ ρ' : Slots} {D : Addr} {ws : List V} {u : V} {acc : List IV} {y : IV} (P : Pre (gd X) xa σ H m os rs ρ st) (hD0 : H D = none)
    (P6 : Pre (gd X) xa σ' H6 m6 os (D :: rs) ρ' st6) (g6 : GrowE m st H m6 st6 H6) (ra : RVs (gd X) m6 (os ++ (D :: rs)) st6 H6 acc ws) (ru : RV (gd X) m6 (os ++ (D :: rs)) st6 H6 y u) :
    GrowE m st H m6 st6 (upd H6 D (.lst (ws ++ [u]))) ∧ Fits (gd X) m6 (os ++ (D :: rs)) st6 H6 m6 (os ++ (D :: rs)) st6 (upd H6 D (.lst (ws ++ [u]))) ∧ Pre (gd X) xa σ' (upd H6 D (.lst (ws ++ [u]))) m6 os (D :: rs) ρ' st6 ∧ RVs (gd X) m6 (os ++ (D :: rs)) st6 (upd H6 D (.lst (ws ++ [u]))) (acc ++ [y]) (ws ++ [u]) := by
  have Dm : D ∈ os ++ (D :: rs) := List.mem_append_right _ List.mem_cons_self
  have fu : Fits (gd X) m6 (os ++ (D :: rs)) st6 H6 m6 (os ++ (D :: rs)) st6 (upd H6 D (.lst (ws ++ [u]))) := fits_upd Dm
  have ra6 : RVs (gd X) m6 (os ++ (D :: rs)) st6 H6 (acc ++ [y]) (ws ++ [u]) := ra.append (by simp only [RVs]; exact ⟨u, [], rfl, ru, rfl⟩)
  refine ⟨⟨g6.pre, fun a o ha na qa nx => ?_, fun a e => g6.stay a (upd_stay e)⟩, fu, ⟨P6.rel.upd Dm, P6.re.len, fun j x e => ?_, P6.re.own, P6.re.uniq⟩, RVs.fits fu _ _ ra6⟩
  · obtain ⟨k1, k2, _⟩ := g6.keep a o ha na qa nx
    exact ⟨by rw [upd_ne (ne_of_none ha hD0)]; exact k1, k2, qa⟩
  · obtain ⟨v, e1, r⟩ := P6.re.at_ j x e
    refine ⟨v, e1, ?_⟩
    cases x with
    | v x => exact RV.fits fu _ _ r
    | own zs =>
      obtain ⟨a, us, ea, ha, rz, hb⟩ := r
      obtain ⟨a', e3, ho, _⟩ := P6.re.own j zs e
      have ne : a ≠ D := by
        intro z
        rw [e1, ea] at e3
        have z2 : a = a' := by cases e3; rfl
        obtain ⟨_, o, e4⟩ := P.rel.bsd a' (List.mem_append_left _ ho)
        rw [← z2, z, hD0] at e4; cases e4
      exact ⟨a, us, ea, by rw [upd_ne ne]; exact ha, RVs.fits fu _ _ rz, hb⟩
    | exn l => exact r
/-- a new list D blocked -/
theorem Pre.blockD {m1 os rs : List Addr} {st1 : Sto} {H1 : Hp} {σ : L2.St} {ρ : Slots} {D : Addr} {u : HO} (P1 : Pre (gd X) xa σ H1 m1 os rs ρ st1) (hD : H1 D = none) :
    Fits (gd X) m1 (os ++ rs) st1 H1 m1 (os ++ (D :: rs)) st1 (upd H1 D u) ∧ Pre (gd X) xa σ (upd H1 D u) m1 os (D :: rs) ρ st1 := by
  have blk : ∀ a ∈ os ++ (D :: rs), a = D ∨ a ∈ os ++ rs := fun a z => by
    rcases List.mem_append.mp z with z | z
    · exact .inr (List.mem_append_left _ z)
    · rcases List.mem_cons.mp z with z | z
      · exact .inl z
      · exact .inr (List.mem_append_right _ z)
  have f1 : Fits (gd X) m1 (os ++ rs) st1 H1 m1 (os ++ (D :: rs)) st1 (upd H1 D u) := fits_block hD blk
  refine ⟨f1, P1.rel.block hD blk, P1.re.len, fun i x e => ?_, fun i xs e => let ⟨a, e1, e2, e3⟩ := P1.re.own i xs e; ⟨a, e1, e2, fun z => (List.mem_cons.mp z).elim (fun z => by obtain ⟨_, o, q⟩ := P1.rel.bsd a (List.mem_append_left _ e2); rw [z, hD] at q; cases q) e3⟩, P1.re.uniq⟩
  obtain ⟨v, e1, r⟩ := P1.re.at_ i x e
  refine ⟨v, e1, ?_⟩
  cases x with
  | v x => exact RV.fits f1 _ _ r
  | own xs =>
    obtain ⟨a, vs, ea, ha, ra, hb⟩ := r
    have ne : a ≠ D := ne_of_none ha hD
    refine ⟨a, vs, ea, by rw [upd_ne ne]; exact ha, RVs.fits f1 _ _ ra, ?_⟩
    rcases List.mem_append.mp hb with z | z
    · exact List.mem_append_left _ z
    · exact List.mem_append_right _ (List.mem_cons_of_mem _ z)
  | exn l => exact r
theorem lc2_weak {g g1 : TG} {tt tt1 : TT} {I I1 : IIt} {T T1 : ITg} {S S1 : IT} {E : IE} {vs vs1 : List Nat} (hT : CTg (gd X) xa vs g T) (hS : TtOk (gd X) xa tt S) (hpl : ∀ x ρ st, match T x ρ st with | .nx _ st' => st' = st | _ => True)
    (hT1 : CTg (gd X) xa vs1 g1 T1) (hS1 : TtOk (gd X) xa tt1 S1) (hpl1 : ∀ x ρ st, match T1 x ρ st with | .nx _ st' => st' = st | _ => True)
    {σ : L2.St} {H : Hp} {Q : VK} (h : tfOf (gd X) W xa (iLc2 I vs T S I1 vs1 T1 S1 E) σ H Q) : tLc2 (tiOf (gd X) W xa I) g tt (tiOf (gd X) W0 xa I1) g1 tt1 (teOf (gd X) W0 xa E) vs vs1 σ H Q := by
  obtain ⟨m, os, rs, ρ, st, P, h⟩ := h
  refine ⟨m, os, rs, ρ, st, P, ?_⟩
  unfold iLc2 at h
  cases q : I ρ st with
  | exc c fs st1 => rw [q] at h; exact h
  | bad => rw [q] at h; exact h
  | ok p st1 =>
    rw [q] at h
    intro m1 H1 g1' R1 J hw D hD
    obtain ⟨xs, gd0⟩ := p
    have h0 : PstF (gd X) m (os ++ rs) st H (fun cls d H' => W cls d σ H') (lcO gd0 xs vs T S I1 vs1 T1 S1 E ρ xs [] st1) Q := h
    have perm : ∀ a ∈ D :: (os ++ rs), a ∈ os ++ (D :: rs) := fun a z => by
      rcases List.mem_cons.mp z with z | z
      · rw [z]; exact List.mem_append_right _ List.mem_cons_self
      · rcases List.mem_append.mp z with z | z
        · exact List.mem_append_left _ z
        · exact List.mem_append_right _ (List.mem_cons_of_mem _ z)
    have Dm : D ∈ os ++ (D :: rs) := List.mem_append_right _ List.mem_cons_self
    have hD0 : H D = none := g1'.stay D hD
    have P1 := P.grow g1' R1
    obtain ⟨f1, Q1⟩ := P1.blockD (u := .lst []) hD
    refine ⟨fun i n H2 => n = xs.length - i ∧ i ≤ xs.length ∧ ∃ m2 st2 acc ws, GrowE m st H m2 st2 H2 ∧ Fits (gd X) m1 (os ++ rs) st1 H1 m2 (os ++ (D :: rs)) st2 H2 ∧ Pre (gd X) xa σ H2 m2 os (D :: rs) ρ st2 ∧ H2 D = some (.lst ws) ∧ RVs (gd X) m2 (os ++ (D :: rs)) st2 H2 acc ws ∧
        PstF (gd X) m (os ++ rs) st H (fun cls d H' => W cls d σ H') (lcO gd0 xs vs T S I1 vs1 T1 S1 E ρ (xs.drop i) acc st2) Q,
      ⟨xs.length, by simp, Nat.zero_le _, m1, st1, [], [], g1'.trans (grow_new hD), f1, Q1, upd_same, by simp only [RVs], by simpa using h0⟩, ?_⟩
    rintro i n H2 ⟨rfl, hi, m2, st2, acc, ws, g2, f2, P2, eD, ra, h2⟩
    have w := hw i m2 _ st2 H2 f2 P2.rel
    by_cases hlt : i < xs.length
    · have ed : xs.drop i = xs[i] :: xs.drop (i + 1) := List.drop_eq_getElem_cons hlt
      rw [ed, lcO] at h2
      split at h2
      · rename_i gk
        obtain ⟨w1, _⟩ := w gk
        obtain ⟨go, yl⟩ := w1 xs[i] (List.getElem?_eq_getElem hlt)
        refine .inr ⟨go, fun H' => i + 1 ≤ xs.length ∧ ∃ m2 st2 acc ws, GrowE m st H m2 st2 H' ∧ Fits (gd X) m1 (os ++ rs) st1 H1 m2 (os ++ (D :: rs)) st2 H' ∧ Pre (gd X) xa σ H' m2 os (D :: rs) ρ st2 ∧ H' D = some (.lst ws) ∧ RVs (gd X) m2 (os ++ (D :: rs)) st2 H' acc ws ∧
          PstF (gd X) m (os ++ rs) st H (fun cls d H' => W cls d σ H') (lcO gd0 xs vs T S I1 vs1 T1 S1 E ρ (xs.drop (i + 1)) acc st2) Q, fun H' q => ⟨xs.length - (i + 1), by omega, rfl, q⟩, fun v H3 y => ?_⟩
        obtain ⟨g3, R3, r3⟩ := yl v H3 y
        have P3 := (P2.grow g3 R3).wipe vs
        have hp := hpl xs[i] (wipeI ρ vs) st2
        cases q1 : T xs[i] (wipeI ρ vs) st2 with
        | nx ρ4 st4 =>
          rw [q1] at hp
          simp only at hp
          subst hp
          simp only [q1] at h2
          refine hT v (wipe σ vs) H3 _ m2 os (D :: rs) (wipeI ρ vs) st4 xs[i] P3 r3 ⟨ρ4, q1, fun σ2 P4 ew => ⟨by rw [ew, wipe_wipe], ?_⟩⟩
          have keepD : ∀ {m' : List Addr} {st' : Sto} {H' : Hp}, GrowE m2 st4 H2 m' st' H' → H' D = some (.lst ws) := fun {m' st' H'} g => (g.keep D _ eD (fun z => (P2.rel.bsd D Dm).1 z.mem) (by simp) nxl).1
          refine hS σ2 H3 _ ⟨m2, os, D :: rs, ρ4, st4, P4, ?_⟩
          cases q2 : S ρ4 st4 with
          | ok b st5 =>
            rw [q2] at h2
            intro m5 H5 g5 R5 b' eb
            subst eb
            have gg5 : GrowE m2 st4 H2 m5 st5 H5 := g3.trans g5
            cases b with
            | false =>
              simp only [R.noE, R.bind] at h2
              exact ⟨hlt, m5, st5, acc, ws, g2.trans gg5, f2.trans gg5.fitsE, (P2.grow g3 R3).grow g5 R5, keepD gg5, RVs.fits gg5.fitsE _ _ ra, by simpa using h2⟩
            | true =>
              simp only [R.noE, R.bind, if_true] at h2
              have P5 := P4.grow g5 R5
              refine ⟨m5, os, D :: rs, ρ4, st5, P5, ?_⟩
              cases q3 : I1 ρ4 st5 with
              | exc c fs st6 => rw [q3] at h2; exact h2.elim
              | bad => rw [q3] at h2; exact h2.elim
              | ok p6 st6 =>
                obtain ⟨ys, gd1⟩ := p6
                rw [q3] at h2
                intro m6 H6 g6 R6 J1 hw1
                have gg6 : GrowE m2 st4 H2 m6 st6 H6 := gg5.trans g6
                have e6 := keepD gg6
                have O6 := ((P2.grow g3 R3).grow g5 R5).grow g6 R6
                have P6 := P5.grow g6 R6
                have h3 : PstF (gd X) m (os ++ rs) st H (fun cls d H' => W cls d σ H') ((lcL gd1 ys vs1 T1 S1 E ρ4 ys 0 acc st6).bind fun acc' st4 => lcO gd0 xs vs T S I1 vs1 T1 S1 E ρ (xs.drop (i + 1)) acc' st4) Q := h2
                refine ⟨fun j k H7 => k = ys.length - j ∧ j ≤ ys.length ∧ ∃ m7 st7 acc ws n, GrowE m st H m7 st7 H7 ∧ Fits (gd X) m1 (os ++ rs) st1 H1 m7 (os ++ (D :: rs)) st7 H7 ∧ Fits (gd X) m6 (os ++ (D :: rs)) st6 H6 m7 (os ++ (D :: rs)) st7 H7 ∧ Pre (gd X) xa σ H7 m7 os (D :: rs) ρ st7 ∧ Pre (gd X) xa σ2 H7 m7 os (D :: rs) ρ4 st7 ∧ H7 D = some (.lst ws) ∧ RVs (gd X) m7 (os ++ (D :: rs)) st7 H7 acc ws ∧
                    PstF (gd X) m (os ++ rs) st H (fun cls d H' => W cls d σ H') ((lcL gd1 ys vs1 T1 S1 E ρ4 (ys.drop j) n acc st7).bind fun acc' st4 => lcO gd0 xs vs T S I1 vs1 T1 S1 E ρ (xs.drop (i + 1)) acc' st4) Q,
                  ⟨ys.length, by simp, Nat.zero_le _, m6, st6, acc, ws, 0, g2.trans gg6, f2.trans gg6.fitsE, ⟨fun _ _ h => h, fun _ _ h => h, fun _ _ h => h, fun _ _ h => h⟩, O6, P6, e6, RVs.fits gg6.fitsE _ _ ra, by simpa using h3⟩, ?_⟩
                rintro j k H7 ⟨rfl, hj, m7, st7, acc, ws, n, g7, f7, f7', O7, P7, eD7, ra7, h7⟩
                have w7 := hw1 j m7 _ st7 H7 f7' P7.rel
                by_cases hlt1 : j < ys.length
                · have ed1 : ys.drop j = ys[j] :: ys.drop (j + 1) := List.drop_eq_getElem_cons hlt1
                  rw [ed1, lcL] at h7
                  split at h7
                  · rename_i gk1
                    obtain ⟨w8, _⟩ := w7 gk1.1
                    obtain ⟨go1, yl1⟩ := w8 ys[j] (List.getElem?_eq_getElem hlt1)
                    refine .inr ⟨go1, fun H' => j + 1 ≤ ys.length ∧ ∃ m7 st7 acc ws n, GrowE m st H m7 st7 H' ∧ Fits (gd X) m1 (os ++ rs) st1 H1 m7 (os ++ (D :: rs)) st7 H' ∧ Fits (gd X) m6 (os ++ (D :: rs)) st6 H6 m7 (os ++ (D :: rs)) st7 H' ∧ Pre (gd X) xa σ H' m7 os (D :: rs) ρ st7 ∧ Pre (gd X) xa σ2 H' m7 os (D :: rs) ρ4 st7 ∧ H' D = some (.lst ws) ∧ RVs (gd X) m7 (os ++ (D :: rs)) st7 H' acc ws ∧
                      PstF (gd X) m (os ++ rs) st H (fun cls d H' => W cls d σ H') ((lcL gd1 ys vs1 T1 S1 E ρ4 (ys.drop (j + 1)) n acc st7).bind fun acc' st4 => lcO gd0 xs vs T S I1 vs1 T1 S1 E ρ (xs.drop (i + 1)) acc' st4) Q, fun H' q => ⟨ys.length - (j + 1), by omega, rfl, q⟩, fun v8 H8 y8 => ?_⟩
                    obtain ⟨g8, R8, r8⟩ := yl1 v8 H8 y8
                    have P8 := (P7.grow g8 R8).wipe vs1
                    have hp1 := hpl1 ys[j] (wipeI ρ4 vs1) st7
                    cases q8 : T1 ys[j] (wipeI ρ4 vs1) st7 with
                    | nx ρ9 st9 =>
                      rw [q8] at hp1
                      simp only at hp1
                      subst hp1
                      simp only [q8] at h7
                      refine hT1 v8 (wipe σ2 vs1) H8 _ m7 os (D :: rs) (wipeI ρ4 vs1) st9 ys[j] P8 r8 ⟨ρ9, q8, fun σ9 P9 ew9 => ⟨by rw [ew9, wipe_wipe], ?_⟩⟩
                      have keepD7 : ∀ {m' : List Addr} {st' : Sto} {H' : Hp}, GrowE m7 st9 H7 m' st' H' → H' D = some (.lst ws) := fun {m' st' H'} g => (g.keep D _ eD7 (fun z => (P7.rel.bsd D Dm).1 z.mem) (by simp) nxl).1
                      refine hS1 σ9 H8 _ ⟨m7, os, D :: rs, ρ9, st9, P9, ?_⟩
                      cases q10 : S1 ρ9 st9 with
                      | ok b st10 =>
                        rw [q10] at h7
                        intro m10 H10 g10 R10 b' eb
                        subst eb
                        have gg10 : GrowE m7 st9 H7 m10 st10 H10 := g8.trans g10
                        cases b with
                        | false =>
                          exact ⟨hlt1, m10, st10, acc, ws, n + 1, g7.trans gg10, f7.trans gg10.fitsE, f7'.trans gg10.fitsE, (O7.grow g8 R8).grow g10 R10, (P7.grow g8 R8).grow g10 R10, keepD7 gg10, RVs.fits gg10.fitsE _ _ ra7, h7⟩
                        | true =>
                          simp only [R.noE, R.bind, if_true] at h7
                          refine ⟨m10, os, D :: rs, ρ9, st10, P9.grow g10 R10, ?_⟩
                          cases q11 : E ρ9 st10 with
                          | ok y st11 =>
                            rw [q11] at h7
                            intro m11 H11 g11 R11 u ru
                            have gg11 : GrowE m7 st9 H7 m11 st11 H11 := gg10.trans g11
                            have e11 := keepD7 gg11
                            have ra11 := RVs.fits gg11.fitsE _ _ ra7
                            refine ⟨ws, e11, ?_, ?_⟩
                            · rw [← ra7.length]; exact szlt gk1.2
                            · obtain ⟨d1, d2, d3, d4⟩ := grow_D (D := D) P hD0 (((O7.grow g8 R8).grow g10 R10).grow g11 R11) (g7.trans gg11) ra11 ru
                              obtain ⟨_, _, d5, _⟩ := grow_D (D := D) P hD0 (((P7.grow g8 R8).grow g10 R10).grow g11 R11) (g7.trans gg11) ra11 ru
                              exact ⟨hlt1, m11, st11, acc ++ [y], ws ++ [u], n + 1, d1, (f7.trans gg11.fitsE).trans d2, (f7'.trans gg11.fitsE).trans d2, d3, d5, upd_same, d4, h7⟩
                          | exc c fs st11 => rw [q11] at h7; exact h7.elim
                          | bad => rw [q11] at h7; exact h7.elim
                      | exc c fs st10 => rw [q10] at h7; exact h7.elim
                      | bad => rw [q10] at h7; exact h7.elim
                    | _ => simp only [q8] at h7; exact h7.elim
                  · exact h7.elim
                · have ej : j = ys.length := by omega
                  rw [List.drop_eq_nil_of_le (by omega), lcL] at h7
                  split at h7
                  · rename_i gk1
                    exact .inl ⟨(w7 gk1).2 (by show ys.length ≤ j; omega), hlt, m7, st7, acc, ws, g7, f7, O7, eD7, ra7, h7⟩
                  · exact h7.elim
          | exc c fs st5 => rw [q2] at h2; exact h2.elim
          | bad => rw [q2] at h2; exact h2.elim
        | _ => simp only [q1] at h2; exact h2.elim
      · exact h2.elim
    · have ei : i = xs.length := by omega
      rw [List.drop_eq_nil_of_le (by omega), lcO] at h2
      split at h2
      · rename_i gk
        exact .inl ⟨(w gk).2 (by show xs.length ≤ i; omega), h2 m2 H2 D ws hD0 g2 (P2.rel.sub perm) eD (RVs.fits (fits_sub perm) _ _ ra)⟩
      · exact h2.elim
theorem mf_lc2 {elt tg iter tg1 iter1 : Expr} {ifs ifs1 : List Expr} {scope : Scope} {own : List (Str × Nat)} {vs1 : List Nat} {pos : Pos} {g g1 : TG} {tt tt1 : TT} {I I1 : IIt} {T T1 : ITg} {S S1 : IT} {E : IE} (hc : X.calm = true) (hN : X.N.Nodup) (hi : MI X W xa tg iter I) (ok : BlkOk X.N X.env.scope scope own) (hv : ∀ i ∈ vs1, i ∈ own.map (·.2))
    (hg : ∀ (s : Shared) (H : Hp) (C : Addr) (cl : List (Str × Addr)) (fp : List Addr), PG (X.blk s H scope (compEnvC scope cl C X.env) fp) tg g) (hT : CTg (gd X) xa (own.map (·.2)) g T) (hpl : ∀ x ρ st, match T x ρ st with | .nx _ st' => st' = st | _ => True)
    (ht : ∀ (s : Shared) (H : Hp) (C : Addr) (cl : List (Str × Addr)) (fp : List Addr), PTs (X.blk s H scope (compEnvC scope cl C X.env) fp) ifs tt) (hS : TtOk (gd X) xa tt S)
    (hi1 : ∀ (s : Shared) (H : Hp) (C : Addr) (cl : List (Str × Addr)) (fp : List Addr), PI (X.blk s H scope (compEnvC scope cl C X.env) fp) tg1 iter1 (tiOf (gd X) W0 xa I1))
    (hg1 : ∀ (s : Shared) (H : Hp) (C : Addr) (cl : List (Str × Addr)) (fp : List Addr), PG (X.blk s H scope (compEnvC scope cl C X.env) fp) tg1 g1) (hT1 : CTg (gd X) xa vs1 g1 T1) (hpl1 : ∀ x ρ st, match T1 x ρ st with | .nx _ st' => st' = st | _ => True)
    (ht1 : ∀ (s : Shared) (H : Hp) (C : Addr) (cl : List (Str × Addr)) (fp : List Addr), PTs (X.blk s H scope (compEnvC scope cl C X.env) fp) ifs1 tt1) (hS1 : TtOk (gd X) xa tt1 S1)
    (he : ∀ (s : Shared) (H : Hp) (C : Addr) (cl : List (Str × Addr)) (fp : List Addr), PE (X.blk s H scope (compEnvC scope cl C X.env) fp) elt (teOf (gd X) W0 xa E)) (hs : ∀ x, foldedSetIterable iter X.env x = pure x := by intro _; rfl) (hs1 : ∀ env x, foldedSetIterable iter1 env x = pure x := by intro _ _; rfl) :
    MF X W xa (.ListComp elt [⟨tg, iter, ifs, 0⟩, ⟨tg1, iter1, ifs1, 0⟩] scope pos) (iLc2 I (own.map (·.2)) T S I1 vs1 T1 S1 E) :=
  PE.weak (pe_lc2 hc hN hi ok hv hg ht hi1 hg1 ht1 he hs hs1) fun σ H Q h => lc2_weak hT hS hpl hT1 hS1 hpl1 h
theorem setLc2 {i : Nat} {y : Str} {py : Pos} {elt tg iter tg1 iter1 : Expr} {ifs ifs1 : List Expr} {scope : Scope} {own : List (Str × Nat)} {vs1 : List Nat} {pos spos : Pos} {g g1 : TG} {tt tt1 : TT} {I I1 : IIt} {T T1 : ITg} {S S1 : IT} {E : IE} {J : IS} (hc : X.calm = true) (hN : X.N.Nodup) (hy : X.N[i]? = some y) (hyl : X.env.scope.names.lookup y = some .local)
    (hsw : swapsWith (.ListComp elt [⟨tg, iter, ifs, 0⟩, ⟨tg1, iter1, ifs1, 0⟩] scope pos) (some (.Name y py)) spos.line X.env = pure true) (hi : MI X W xa tg iter I) (ok : BlkOk X.N X.env.scope scope own) (hv : ∀ i ∈ vs1, i ∈ own.map (·.2))
    (hg : ∀ (s : Shared) (H : Hp) (C : Addr) (cl : List (Str × Addr)) (fp : List Addr), PG (X.blk s H scope (compEnvC scope cl C X.env) fp) tg g) (hT : CTg (gd X) xa (own.map (·.2)) g T) (hpl : ∀ x ρ st, match T x ρ st with | .nx _ st' => st' = st | _ => True)
    (ht : ∀ (s : Shared) (H : Hp) (C : Addr) (cl : List (Str × Addr)) (fp : List Addr), PTs (X.blk s H scope (compEnvC scope cl C X.env) fp) ifs tt) (hS : TtOk (gd X) xa tt S)
    (hi1 : ∀ (s : Shared) (H : Hp) (C : Addr) (cl : List (Str × Addr)) (fp : List Addr), PI (X.blk s H scope (compEnvC scope cl C X.env) fp) tg1 iter1 (tiOf (gd X) W0 xa I1))
    (hg1 : ∀ (s : Shared) (H : Hp) (C : Addr) (cl : List (Str × Addr)) (fp : List Addr), PG (X.blk s H scope (compEnvC scope cl C X.env) fp) tg1 g1) (hT1 : CTg (gd X) xa vs1 g1 T1) (hpl1 : ∀ x ρ st, match T1 x ρ st with | .nx _ st' => st' = st | _ => True)
    (ht1 : ∀ (s : Shared) (H : Hp) (C : Addr) (cl : List (Str × Addr)) (fp : List Addr), PTs (X.blk s H scope (compEnvC scope cl C X.env) fp) ifs1 tt1) (hS1 : TtOk (gd X) xa tt1 S1)
    (he : ∀ (s : Shared) (H : Hp) (C : Addr) (cl : List (Str × Addr)) (fp : List Addr), PE (X.blk s H scope (compEnvC scope cl C X.env) fp) elt (teOf (gd X) W0 xa E))
    (hw : ∀ D σ H, tsOf (gd X) W xa J D σ H → tAsg (tfOf (gd X) W xa (iLc2 I (own.map (·.2)) T S I1 vs1 T1 S1 E)) (gName i) D σ H) (hs : ∀ x, foldedSetIterable iter X.env x = pure x := by intro _; rfl) (hs1 : ∀ env x, foldedSetIterable iter1 env x = pure x := by intro _ _; rfl) :
    MS X W xa (.Assign [.Name y py] (.ListComp elt [⟨tg, iter, ifs, 0⟩, ⟨tg1, iter1, ifs1, 0⟩] scope pos) spos) J :=
  PS.weak (ps_setLc2 hc hN hy hyl hsw hi ok hv hg ht hi1 hg1 ht1 he hs hs1) fun D σ H h => lc2_weak hT hS hpl hT1 hS1 hpl1 (hw D σ H h)
end
end Mi
set_option Elab.async false
set_option linter.all false
set_option maxRecDepth 100000
set_option maxHeartbeats 4000000
namespace Mi
open PySem PySem.Spec PyProof.Rows L2

section
variable {X : Cx} {W : WX} {xa : Xa} {a b c e : Expr} {A B : IE} {pos : Pos} {es : List Expr} {As : IA}
/-! ### a, b = x, y -/
def iPar2 (i j : Nat) (As : IA) : IS := fun ρ st => RS.ofR (As ρ st) ρ fun xs st => match xs with
  | [x, y] => .nx ((ρ.set i (some (.v x))).set j (some (.v y))) st
  | _ => .bad
theorem ms_par2 {i j : Nat} {x y : Str} {px py pt : Pos} {kt k2 : Nat} {pt2 : Pos} (hc : X.calm = true) (hN : X.N.Nodup) (hi : X.N[i]? = some x) (hj : X.N[j]? = some y) (hij : i ≠ j)
    (hx : X.env.scope.names.lookup x = some .local) (hy : X.env.scope.names.lookup y = some .local) (ha : MA X W xa [a, b] As)
    (hw : swappedStores [.Tuple [.Name x px, .Name y py] kt pt] (.Tuple [a, b] k2 pt2) X.env = pure (some [x, y]))
    (hs : swapsWithSole [.Tuple [.Name x px, .Name y py] kt pt] (.Tuple [a, b] k2 pt2) pos.line X.env = pure false := by rfl) :
    MS X W xa (.Assign [.Tuple [.Name x px, .Name y py] kt pt] (.Tuple [a, b] k2 pt2) pos) (iPar2 i j As) := by
  refine PS.weak (ps_par hc hN hi hj hij hx hy ha hw hs) fun D σ H h => ?_
  obtain ⟨m, os, rs, ρ, st, P, h⟩ := h
  refine ⟨m, os, rs, ρ, st, P, (h.ofR P).mono fun xs m1 st1 H1 g1 R1 h1 vs rv => ?_⟩
  split at h1
  · obtain ⟨v, w, e, r1, r2⟩ := rvs2 rv
    exact ⟨v, w, e, h1.here (((P.grow g1 R1).set r1).set r2)⟩
  · exact h1.elim
def iPar3 (i j l : Nat) (As : IA) : IS := fun ρ st => RS.ofR (As ρ st) ρ fun xs st => match xs with
  | [x, y, z] => .nx (((ρ.set i (some (.v x))).set j (some (.v y))).set l (some (.v z))) st
  | _ => .bad
end
end Mi
set_option Elab.async false
set_option linter.all false
set_option maxRecDepth 100000
set_option maxHeartbeats 4000000
namespace Mi
open PySem PySem.Spec PyProof.Rows L2

/-! ### globals that are tuples of texts or numbers -/
def okFlat : IV → Bool
  | .non => true
  | .bl _ => true
  | .int _ => true
  | .str _ => true
  | _ => false
theorem rv_vOf {G : Gd} {m bs : List Addr} {st : Sto} {H : Hp} {x : IV} (h : okFlat x = true) : RV G m bs st H x (vOf x) := by
  cases x <;> first | (simp only [RV, vOf]; done) | cases h
theorem rvs_vOf {G : Gd} {m bs : List Addr} {st : Sto} {H : Hp} : ∀ {xs : List IV}, xs.all okFlat = true → RVs G m bs st H xs (xs.map vOf)
  | [], _ => by simp only [RVs]; rfl
  | x :: xs, h => by
    rw [List.all_cons, Bool.and_eq_true] at h
    simp only [RVs, List.map_cons]
    exact ⟨_, _, rfl, rv_vOf h.1, rvs_vOf h.2⟩
/-- the top's tuple of flat values -/
def GTup (K : PySem.W.Frag) (mg : Str → Option Value) (x : Str) (xs : List IV) : Prop := ∃ a, mg x = some (.ref a) ∧ SqT K H0 a (xs.map vOf)
section
variable {X : Cx} {W : WX} {xa : Xa} {pos : Pos}
theorem me_globT {x : Str} {xs : List IV} (hg : Gl X x) (h : GTup X.K X.mg x xs) (hf : xs.all okFlat = true := by rfl) (hd : (x == ("__debug__" : Str)) = false := by decide) : ME X W xa (.Name x pos) (iC (.tup xs)) := by
  obtain ⟨a, hm, hs⟩ := h
  refine me_c (pe_glob hg hm (v := .ref a) rfl hd) fun m bs st H => ?_
  simp only [RV]
  exact ⟨a, xs.map vOf, rfl, .inr hs, rvs_vOf hf⟩
theorem me_globS {x y : Str} (hg : Gl X x) (h : ∃ t, X.mg x = some (.str y t)) (hd : (x == ("__debug__" : Str)) = false := by decide) : ME X W xa (.Name x pos) (iC (.str y)) := by
  obtain ⟨t, h⟩ := h
  exact me_c (pe_glob hg h (v := .str y) ⟨t, rfl⟩ hd) fun m bs st H => by simp only [RV]
theorem me_globI {x : Str} {y : Int} (hg : Gl X x) (h : ∃ t, X.mg x = some (.int y t)) (hd : (x == ("__debug__" : Str)) = false := by decide) : ME X W xa (.Name x pos) (iC (.int y)) := by
  obtain ⟨t, h⟩ := h
  exact me_c (pe_glob hg h (v := .int y) ⟨t, rfl⟩ hd) fun m bs st H => by simp only [RV]
end

/-! ### the one field of an exception -/
section
variable {P : Program} {w : World} {K : PySem.W.Frag} {mg : Str → Option Value} {base : Heap} {C : Addr}
/-- def __init__(self, f): self.f = f -/
theorem exc_init {qual x y : Str} {st : Stmt} {f : Addr} {fd : FuncData} {fl : Str} {p1 p2 p3 p4 : Pos} (F : L2.Fun K "__init__" qual st f fd) (S : FnScope [x, y] [x, y] (defScope st)) (T : OexC K C) (hno : PySem.W.findIn K (.ref C) fl = some none)
    (hb : defBody st = [.Assign [.Attribute (.Name x p1) fl p2] (.Name y p3) p4]) (hx : Vis (defScope st) x) (hy : Vis (defScope st) y) (dx : (x == ("__debug__" : Str)) = false) (dy : (y == ("__debug__" : Str)) = false)
    (ex : (x == ("__classdict__" : Str)) = false) (ey : (y == ("__classdict__" : Str)) = false) : FnOk P w K mg base (L2.CX P w) 1 f fd [x, y] (spI K C fl) := by
  refine F.okX S (fun vs H Q E h => ?_) (fun cdv A outer s H vs Q E hr h => ?_)
  · obtain ⟨a, v, rfl, _⟩ := h
    rfl
  · obtain ⟨a, v, rfl, ha, k⟩ := h
    rw [hb]
    refine ⟨_, pss_one (ps_ost (pe_var (i := 0) rfl hx dx ex) (pe_var (i := 1) rfl hy dy ey) rfl), ?_⟩
    exact ⟨_, rfl, _, rfl, a, C, rfl, T, hno, .inl ⟨ha, fun d hd hne => k d hd hne⟩⟩

/-! ### classes, exceptions by a name -/
theorem fdm_one {c f : Str} (hc : mg c = some (.ref C)) (h1 : Cls K C) (h2 : NoAttr K C f) : FdM K mg [c] f := by
  intro c' hc' C' e
  have : c' = c := by simpa using hc'
  subst this
  rw [hc] at e
  cases e
  exact ⟨h1, h2⟩
theorem exm_one {n : Str} (hn : mg n = some (.ref C)) (te : PySem.W.exmOne K (.ref C) (.ref C) = some true) : ∀ c k C', (if c = n then some true else none) = some k → mg c = some (.ref C') → PySem.W.exmOne K (.ref C') (.ref C) = some k ∧ (k = true → (Value.ref C') = .ref C) := by
  intro c k C' h e
  split at h
  · rename_i z
    cases h
    subst z
    rw [hn] at e
    cases e
    exact ⟨te, fun _ => rfl⟩
  · cases h

/-! ### the law's end -/
def spLaw (K : PySem.W.Frag) : Sp := fun vs H Q _ => ∃ (a : Addr) (ns : List Int), vs = [.ref a] ∧ SqL K H a (ns.map V.int) ∧ ns.length ≤ 63 ∧ ∀ H', Q (.bl true) H'
theorem rvs_ints {G : Gd} {m bs : List Addr} {st : Sto} {H : Hp} : ∀ (ns : List Int), RVs G m bs st H (ns.map IV.int) (ns.map V.int)
  | [] => by simp only [List.map_nil, RVs]
  | n :: r => by
    simp only [List.map_cons, RVs]
    exact ⟨_, _, rfl, by simp only [RV], rvs_ints r⟩
theorem law_end {k : Nat} {f : Addr} {fd : FuncData} {ps : List Str} {F : Fn} (h : FnOk P w K mg base (L2.CX P w) k f fd ps (spOf ⟨K, mg, P, w⟩ 1 F))
    (hF : ∀ ns : List Int, ns.length ≤ 63 → ∃ st', F [.lst (ns.map .int)] [] = .ok (.bl true) st') : FnOk P w K mg base (L2.CX P w) k f fd ps (spLaw K) := by
  refine h.imp fun vs H Q E q => ?_
  obtain ⟨a, ns, rfl, hS, hl, k⟩ := q
  obtain ⟨st', e⟩ := hF ns hl
  refine ⟨rfl, [], [], [], [.lst (ns.map .int)], ⟨rfl, fun i j a e => by simp at e, fun l o a e => by simp at e, fun a e => by simp at e⟩, ?_, ?_⟩
  · simp only [RVs]
    refine ⟨.ref a, [], rfl, ?_, rfl⟩
    simp only [RV]
    refine ⟨a, ns.map V.int, rfl, ?_, rvs_ints ns⟩
    rcases sql_split hS with z | z
    · exact .inl ⟨z, fun ⟨l, o, e, _⟩ => by simp at e, by simp⟩
    · exact .inr z
  · rw [e]
    intro m' H' g R u ru
    simp only [RV] at ru
    rw [ru]
    exact k H'
end

theorem relV_abs {x : V} {u : Value} (h : absV u = some x) : RelV x u := by
  cases u <;> first | (cases h; first | rfl | exact ⟨_, rfl⟩) | cases h
theorem vals_abs : ∀ {xs : List V} {us : List Value}, us.map absV = xs.map some → Vals xs us
  | [], [], _ => .nil
  | [], _ :: _, h => by simp at h
  | _ :: _, [], h => by simp at h
  | x :: xs, u :: us, h => by
    simp only [List.map_cons, List.cons.injEq] at h
    exact .cons (relV_abs h.1) (vals_abs h.2)
theorem gtup_of {K : PySem.W.Frag} {mg : Str → Option Value} {x : Str} {a : Addr} {o : Obj} {xs : List IV} (hm : mg x = some (.ref a)) (l : K.lookup a = some o)
    (d : o.cls = .type "tuple" ∧ ∃ (its : Array Value) (n : Nat), o.data = .seq its n ∧ its.size ≤ 1000 ∧ its.toList.map absV = (xs.map fun x => some (vOf x))) : GTup K mg x xs := by
  obtain ⟨h1, its, n, h2, h3, h4⟩ := d
  refine ⟨a, hm, .inr ⟨o, its, n, l, h1, h2, szl (by omega), vals_abs ?_⟩⟩
  rw [h4, List.map_map]; rfl
theorem exm_self {K : PySem.W.Frag} {S : Addr} (h1 : PySem.W.subIn K (.ref S) (.type "BaseException") = some true) (h2 : PySem.W.isClsIn K S = true) (h3 : PySem.W.typeIn K (.ref S) = some (.type "type")) (h4 : PySem.W.subIn K (.ref S) (.ref S) = some true) :
    PySem.W.exmOne K (.ref S) (.ref S) = some true := by
  have e1 : (PySem.W.subIn K (.ref S) (.type "BaseException") == some true) = true := by rw [h1] <;> rfl
  have e2 : ((PySem.W.clsIn K S).isSome && PySem.W.typeIn K (.ref S) == some (.type "type")) = true := by
    have h2' : (PySem.W.clsIn K S).isSome = true := h2
    rw [h2', h3] <;> rfl
  show (if (PySem.W.subIn K (.ref S) (.type "BaseException") == some true) = true then (if ((PySem.W.clsIn K S).isSome && PySem.W.typeIn K (.ref S) == some (.type "type")) = true then PySem.W.subIn K (.ref S) (.ref S) else none) else none) = some true
  rw [if_pos e1, if_pos e2]
  exact h4

end Mi
set_option Elab.async false
set_option linter.all false
set_option maxRecDepth 100000
set_option maxHeartbeats 4000000
namespace Mi
open PySem PySem.Spec PyProof.Rows L2

/-! ### calls by the machine: own __contains__, __len__, __eq__, __repr__, __str__ -/
section
variable {X : Cx} {pins : List (Addr × Obj)} {σ : L2.St} {H : Hp} {s : Shared} {Q : VK} {k n : Nat} {f C : Addr} {fd : FuncData} {ps : List Str} {sp : Sp} {A : Around}
theorem own_run {us : List Value} {vs : List V} (F : FnOk X.prog X.w X.K X.mg X.base (L2.CX X.prog X.w) k f fd ps sp) (hb : Binds X.K fd ps []) (sb : Sub X k A) (I : Inv X pins σ H s) (r2 : Vals vs us) (h : sp vs H Q (fun _ _ _ => False)) :
    wpAny (model X.prog X.w) A (call (.ref f) us) (EP X pins σ Q) X.xe s := by
  have e0 : Env0 X.prog X.w X.K X.mg X.base A X.stack s H := by
    have e := I.env0
    exact ⟨by rw [sb.fr]; exact e.frames, e.mod, e.bs, e.bsz, e.funs, e.frf, e.hok, e.bare⟩
  have hl := F.len _ _ _ _ h
  have hl2 : us.length = ps.length := by rw [← r2.length]; exact hl
  refine wpAny_call (codeAny_mono (F.run A X.stack s H ⟨us, []⟩ us vs Q (fun _ _ _ => False) sb.room e0 (by
    have := hb s us I.kIn (by simpa using hl2)
    simpa using this) r2 h) fun r s' hq => ?_)
  cases r with
  | error e => exact passAt (X := X) (W := W0) takes0 σ pins H s e s' I hq
  | ok fl =>
    cases fl with
    | ret w => exact I.after hq
    | next => exact False.elim hq
    | brk => exact False.elim hq
    | cont => exact False.elim hq
/-- of an own object: a method of the class c whose promise is the mirror F -/
def bl1 (neg : Bool) : IV → Sto → R IV
  | .bl b, st => .ok (.bl (neg != b)) st
  | _, _ => .bad
def quiet {α : Type} : R α → R α
  | .exc _ _ _ => .bad
  | r => r
def gOwnHas (neg : Bool) (c : Str) (F : Fn) : IV → IV → Sto → R IV := fun x y st => match insAt st [c] y with
  | some _ => (quiet (F [y, x] st)).bind (bl1 neg)
  | none => .bad
def rOwnHas (neg : Bool) (C : Addr) (sp : Sp) : R2 := fun x y H Q => ∃ a dx fs, y = .ref a ∧ H a = some (.ins C dx fs) ∧ sp [y, x] H (fun v H' => ∃ b, v = .bl b ∧ Q (.bl (neg != b)) H') (fun _ _ _ => False)
theorem opOwnHas (neg : Bool) (M : Meth X.K C "__contains__" f) (F : FnOk X.prog X.w X.K X.mg X.base (L2.CX X.prog X.w) k f fd ps sp) (hb : Binds X.K fd ps []) (hr : Room k X.A) :
    OpR X (compareOp (if neg then .NotIn else .In)) (rOwnHas neg C sp) := by
  intro pins s σ H x y v u Q I rx ry hq
  obtain ⟨a, dx, fs, rfl, ha, hs⟩ := hq
  cases ry
  obtain ⟨mA, J, _⟩ := ins_get I.hok ha
  obtain ⟨od, J, _⟩ := J.look
  obtain ⟨m, hF⟩ := I.fr
  have run := own_run F hb ⟨hr, rfl⟩ I (us := [.ref a, v]) (vs := [.ref a, x]) (.cons rfl (.cons rx .nil)) hs
  cases neg with
  | false =>
    refine PySem.W.in_K hF I.ok.mod.kin J M.at_ M.fn (wpAny_mono run (fun r s' q => ?_) fun _ _ z => z)
    obtain ⟨z, H', I', rz, b, ez, q⟩ := q
    subst ez
    cases rz
    exact wpAny_truthy_bool ⟨.bl b, H', I', rfl, by simpa using q⟩
  | true =>
    refine PySem.W.notIn_K hF I.ok.mod.kin J M.at_ M.fn (wpAny_mono run (fun r s' q => ?_) fun _ _ z => z)
    obtain ⟨z, H', I', rz, b, ez, q⟩ := q
    subst ez
    cases rz
    exact wpAny_truthy_bool ⟨.bl (!b), H', I', rfl, by simpa using q⟩
theorem quiet_post {α : Type} {G : Gd} {m bs : List Addr} {st : Sto} {H : Hp} {W W' : Value → Option Addr → Hp → Prop} {r : R α} {P : α → List Addr → Sto → Hp → Prop} (h : Pst G m bs st H W (quiet r) P) : Pst G m bs st H W' r P := by
  cases r with
  | ok a st => exact h
  | exc c fs st => exact h.elim
  | bad => exact h.elim
theorem ins_of {G : Gd} {m bs : List Addr} {st : Sto} {H : Hp} {x : IV} {v : V} {c : Str} {p : Nat × Str × List (Str × IV)} (R : Rel G m bs st H) (e : insAt st [c] x = some p) (r : RV G m bs st H x v) : ∃ a C dx gs, v = .ref a ∧ G.mg c = some (.ref C) ∧ H a = some (.ins C dx gs) := by
  cases x with
  | ref l =>
    simp only [insAt] at e
    split at e
    · rename_i c' fs e1
      split at e
      · rename_i hc
        simp only [RV] at r
        obtain ⟨a, ea, ha⟩ := r
        have : c' = c := by simpa using hc
        subst this
        obtain ⟨C, dx, gs, h1, h2, _⟩ := R.obj l _ a e1 ha
        exact ⟨a, C, dx, gs, ea, h1, h2⟩
      · cases e
    · cases e
  | _ => cases e
theorem opm_ownHas {c : Str} {F : Fn} (neg : Bool) (h : MethM X.prog X.w X.K X.mg X.base c "__contains__" k 2 F) (hr : Room k X.A) : OpM X (compareOp (if neg then .NotIn else .In)) (gOwnHas neg c F) := by
  obtain ⟨C, f, fd, ps, hm, hC, hM, hb, hf⟩ := h
  refine ⟨_, opOwnHas neg hM hf hb hr, fun m bs st H x y x' y' Q W R rx ry h => ?_⟩
  unfold gOwnHas at h
  split at h
  · rename_i p e
    obtain ⟨a, C', dx, gs, ev, h1, h2⟩ := ins_of R e ry
    have : C' = C := by
        have h1' : X.mg c = some (.ref C') := h1
        rw [hm] at h1'; cases h1'; rfl
    subst this
    refine ⟨a, dx, gs, ev, h2, rfl, m, bs, st, [y, x], R, ?_, ?_⟩
    · simp only [RVs]
      exact ⟨y', [x'], rfl, ry, x', [], rfl, rx, rfl⟩
    · refine quiet_post (W := W) (h.bind.mono fun v m1 st1 H1 g1 R1 h1 u ru => ?_)
      cases v with
      | bl b =>
        simp only [RV] at ru
        exact ⟨b, ru, h1.v R1 (by simp only [RV])⟩
      | _ => exact h1.elim
  · exact h.elim

/-! len(o) -/
def gOwnLenO (c : Str) (F : Fn) : List IV → Sto → R IV
  | [x], st => match insAt st [c] x with
    | some _ => (quiet (F [x] st)).bind fun v st => match v with
      | .int n => if 0 ≤ n ∧ n < 9223372036854775808 then .ok (.int n) st else .bad
      | _ => .bad
    | none => .bad
  | _, _ => .bad
def rOwnLen (C : Addr) (sp : Sp) : List V → Hp → VK → Prop := fun xs H Q => ∃ a dx fs, xs = [.ref a] ∧ H a = some (.ins C dx fs) ∧ sp [.ref a] H (fun v H' => ∃ n : Int, v = .int n ∧ (0 ≤ n ∧ n < 2 ^ 63) ∧ Q (.int n) H') (fun _ _ _ => False)
theorem callOwnLen (M : Meth X.K C "__len__" f) (F : FnOk X.prog X.w X.K X.mg X.base (L2.CX X.prog X.w) k f fd ps sp) (hb : Binds X.K fd ps []) (hr : Room (k + 1) X.A) : CallR X (.builtin "len") (rOwnLen C sp) := by
  intro pins s σ H xs us Q I r h
  obtain ⟨a, dx, fs, rfl, ha, hs⟩ := h
  cases r with
  | cons r1 r2 =>
    cases r2
    cases r1
    obtain ⟨mA, J, _⟩ := ins_get I.hok ha
    obtain ⟨od, J, _⟩ := J.look
    obtain ⟨m, hF⟩ := I.fr
    have sb : Sub X (k + 1) X.A := ⟨hr, rfl⟩
    have run := own_run F hb sb.in1 I (us := [.ref a]) (vs := [.ref a]) (.cons rfl .nil) hs
    refine PySem.W.len_K hF I.ok.mod.kin J M.at_ M.fn (wpAny_mono run (fun r s' q => ?_) fun _ _ z => z)
    obtain ⟨z, H', I', rz, n, ez, hn, q⟩ := q
    subst ez
    obtain ⟨t, rfl⟩ := rz
    exact ⟨hn, .int n, H', I'.tok _, ⟨_, rfl⟩, q⟩
theorem cm_ownLen {c : Str} {F : Fn} (h : MethM X.prog X.w X.K X.mg X.base c "__len__" k 1 F) (hr : Room (k + 1) X.A) : CallM X (.builtin "len") (gOwnLenO c F) := by
  obtain ⟨C, f, fd, ps, hm, hC, hM, hb, hf⟩ := h
  refine ⟨_, callOwnLen hM hf hb hr, fun m bs st H xs xs' Q W R rx h => ?_⟩
  unfold gOwnLenO at h
  split at h
  · rename_i x
    split at h
    · rename_i p e
      simp only [RVs] at rx
      obtain ⟨v, r, ex, rv, er⟩ := rx
      subst er
      obtain ⟨a, C', dx, gs, ev, h1, h2⟩ := ins_of R e rv
      have : C' = C := by
        have h1' : X.mg c = some (.ref C') := h1
        rw [hm] at h1'; cases h1'; rfl
      subst this
      subst ev
      refine ⟨a, dx, gs, ex, h2, rfl, m, bs, st, [x], R, ?_, ?_⟩
      · simp only [RVs]
        exact ⟨_, [], rfl, rv, rfl⟩
      · refine quiet_post (W := W) (h.bind.mono fun v m1 st1 H1 g1 R1 h1 u ru => ?_)
        cases v with
        | int n =>
          simp only [RV] at ru
          simp only at h1
          split at h1
          · rename_i c
            exact ⟨n, ru, by have : (2 : Int) ^ 63 = 9223372036854775808 := by decide
                             omega, h1.v R1 (by simp only [RV])⟩
          · exact h1.elim
        | _ => exact h1.elim
    · exact h.elim
  · exact h.elim

/-! repr(o), str(o) -/
def gOwnStr (c : Str) (F : Fn) : List IV → Sto → R IV
  | [x], st => match insAt st [c] x with
    | some _ => (quiet (F [x] st)).bind fun v st => match v with
      | .str z => .ok (.str z) st
      | _ => .bad
    | none => .bad
  | _, _ => .bad
def rOwnStr (C : Addr) (sp : Sp) : List V → Hp → VK → Prop := fun xs H Q => ∃ a dx fs, xs = [.ref a] ∧ H a = some (.ins C dx fs) ∧ sp [.ref a] H (fun v H' => ∃ n : Str, v = .str n ∧ Q (.str n) H') (fun _ _ _ => False)
theorem callOwnRepr (M : Meth X.K C "__repr__" f) (F : FnOk X.prog X.w X.K X.mg X.base (L2.CX X.prog X.w) k f fd ps sp) (hb : Binds X.K fd ps []) (hr : Room (k + 1) X.A) : CallR X (.builtin "repr") (rOwnStr C sp) := by
  intro pins s σ H xs us Q I r h
  obtain ⟨a, dx, fs, rfl, ha, hs⟩ := h
  cases r with
  | cons r1 r2 =>
    cases r2
    cases r1
    obtain ⟨mA, J, _⟩ := ins_get I.hok ha
    obtain ⟨od, J, _⟩ := J.look
    obtain ⟨m, hF⟩ := I.fr
    have sb : Sub X (k + 1) X.A := ⟨hr, rfl⟩
    have run := own_run F hb sb.in1 I (us := [.ref a]) (vs := [.ref a]) (.cons rfl .nil) hs
    refine PySem.W.repr_K hr.in1.units0 hF I.ok.mod.kin J M.at_ M.fn (wpAny_mono run (fun r s' q => ?_) fun _ _ z => z)
    obtain ⟨z, H', I', rz, n, ez, q⟩ := q
    subst ez
    obtain ⟨t, rfl⟩ := rz
    exact ⟨.str n, H', I', ⟨_, rfl⟩, q⟩
theorem callOwnStr (M : Meth X.K C "__str__" f) (F : FnOk X.prog X.w X.K X.mg X.base (L2.CX X.prog X.w) k f fd ps sp) (hb : Binds X.K fd ps []) (hr : Room (k + 2) X.A) : CallR X (.type "str") (rOwnStr C sp) := by
  intro pins s σ H xs us Q I r h
  obtain ⟨a, dx, fs, rfl, ha, hs⟩ := h
  cases r with
  | cons r1 r2 =>
    cases r2
    cases r1
    obtain ⟨mA, J, _⟩ := ins_get I.hok ha
    obtain ⟨od, J, _⟩ := J.look
    have sb : Sub X (k + 2) X.A := ⟨hr, rfl⟩
    have run := own_run F hb sb.in1.in1 I (us := [.ref a]) (vs := [.ref a]) (.cons rfl .nil) hs
    refine PySem.W.kso_call hr.in1.in1.units0 I.kIn J M.at_ M.fn (wpAny_mono run (fun r s' q => ?_) fun _ _ z => z)
    obtain ⟨z, H', I', rz, n, ez, q⟩ := q
    subst ez
    obtain ⟨t, rfl⟩ := rz
    exact ⟨.str n, H', I', ⟨_, rfl⟩, q⟩
theorem ownStr_weak {c : Str} {F : Fn} {callee : Value} (hm : X.mg c = some (.ref C)) (hc : CallR X callee (rOwnStr C (spOf ⟨X.K, X.mg, X.prog, X.w⟩ 1 F))) : CallM X callee (gOwnStr c F) := by
  refine ⟨_, hc, fun m bs st H xs xs' Q W R rx h => ?_⟩
  unfold gOwnStr at h
  split at h
  · rename_i x
    split at h
    · rename_i p e
      simp only [RVs] at rx
      obtain ⟨v, r, ex, rv, er⟩ := rx
      subst er
      obtain ⟨a, C', dx, gs, ev, h1, h2⟩ := ins_of R e rv
      have : C' = C := by
        have h1' : X.mg c = some (.ref C') := h1
        rw [hm] at h1'; cases h1'; rfl
      subst this
      subst ev
      refine ⟨a, dx, gs, ex, h2, rfl, m, bs, st, [x], R, ?_, ?_⟩
      · simp only [RVs]
        exact ⟨_, [], rfl, rv, rfl⟩
      · refine quiet_post (W := W) (h.bind.mono fun v m1 st1 H1 g1 R1 h1 u ru => ?_)
        cases v with
        | str n =>
          simp only [RV] at ru
          exact ⟨n, ru, h1.v R1 (by simp only [RV])⟩
        | _ => exact h1.elim
    · exact h.elim
  · exact h.elim
theorem cm_ownRepr {c : Str} {F : Fn} (h : MethM X.prog X.w X.K X.mg X.base c "__repr__" k 1 F) (hr : Room (k + 1) X.A) : CallM X (.builtin "repr") (gOwnStr c F) := by
  obtain ⟨C, f, fd, ps, hm, hC, hM, hb, hf⟩ := h
  exact ownStr_weak hm (callOwnRepr hM hf hb hr)
theorem cm_ownStr {c : Str} {F : Fn} (h : MethM X.prog X.w X.K X.mg X.base c "__str__" k 1 F) (hr : Room (k + 2) X.A) : CallM X (.type "str") (gOwnStr c F) := by
  obtain ⟨C, f, fd, ps, hm, hC, hM, hb, hf⟩ := h
  exact ownStr_weak hm (callOwnStr hM hf hb hr)
end
end Mi
set_option Elab.async false
set_option linter.all false
set_option maxRecDepth 100000
set_option maxHeartbeats 4000000
namespace PySem.W
open PySem PySem.Spec PyProof.Rows
theorem one_bind (self : Value) : bindSpecial (.builtin "object.__ne__") self = pure (.builtin "object.__ne__", [self]) :=
  (Slot.of (T := "object") (name := "__ne__") (owner := "object") (n := "__ne__") (by rw [typeLookup_type, builtinLookup_eq_fast]; kernel_rfl) (by decide +kernel) (by decide +kernel) (by decide +kernel)
    (.inl (by decide +kernel)) (by rw [isSubtype_type]; kernel_rfl)).bind self
section
variable {prog : Program} {w : World} {A : Around} {E : Value → Shared → Prop} {s : Shared} {K : Frag} {x C L f : Addr} {h₀ : Heap} {m : Str → Option Value} {ox : Obj} {od : Option Obj} {b tb : Value}
theorem ifBoundB {M : Model} {id : String} {name : Str} {args : List Value} {Q : Option Value → Shared → Prop} (X : K.In s.heap) (I : InstAt s.heap x ox C od) (hs : findIn K (.ref C) name = some (some (.builtin id)))
    (hb : ∀ self, bindSpecial (.builtin id) self = pure (.builtin id, [self])) (h : wpAny M A (call (.builtin id) (.ref x :: args)) (fun v => Q (some v)) E s) : wpAny M A (callSpecialIfBound? (.ref x) name args) Q E s := by
  simp only [callSpecialIfBound?, bindSpecialIfBound?]
  refine wpAny_holding (wpAny_bind (wpAny_bind (wpAny_bind (I.type.here ((looks_findIn X hs).here ?_)))))
  refine wpAny_bind (wpAny_askSetting (wpAny_ite ?_))
  have fin : wpAny M A (call (.builtin id) ([.ref x] ++ args) >>= fun v => pure (some v)) Q E s := wpAny_bind (wpAny_mono h (fun v s' h' => wpAny_pure h') fun _ _ h' => h')
  split
  · exact wpAny_bind ((Looks.of_pure (hb _)).here (wpAny_pure (by exact fin)))
  · exact wpAny_tryCatch (wpAny_bind ((Looks.of_pure (hb _)).here (wpAny_pure (by exact fin))))
theorem one_call (hu : A.in1.units < cLine) {Q : Value → Shared → Prop} (X : K.In s.heap) (I : InstAt s.heap x ox C od) (hm : mroIn K C (.type "object") = some true) (he : findIn K (.ref C) "__eq__" = some (some (.ref f))) (hf : isFn K (.ref f) = true)
    (h : wpAny (model prog w) A.in1 (call (.ref f) [.ref x, b]) (fun v s' => ∃ c, v = .bool c ∧ Q (.bool (!c)) s') E s) : wpAny (model prog w) A (call (.builtin "object.__ne__") [.ref x, b]) Q E s := by
  refine wpAny_call (codeAny_call_builtin (by decide +kernel) PySem.F.cmpEntry_ne (check_slot (i := "object.__ne__") (owner := "object") (n := "__ne__") PySem.F.cmpKind_ne PySem.F.cmpSplit_ne (I.type.andThen (looks_mroIn X hm)) (PySem.F.cmpArgs_ne _ _) ?_))
  unfold Builtin.«object.__ne__»
  repeat (first
    | with_reducible refine wpAny_cRoomFor hu ?_
    | (refine wpAny_bind (m := callSpecialIfBound? (.ref x) (Str.ofString "__eq__") [b])
        (ifBound_K X I he hf (wpAny_mono h (fun r s' hr => by
          obtain ⟨c, rfl, hq⟩ := hr
          repeat (first | exact hq | exact wpAny_pure hq | exact wpAny_truthy_bool hq | (refine wpAny_bind (m := truthy (.bool _)) (wpAny_truthy_bool ?_)) | wp_step)) fun _ _ e => e)))
    | wp_step)
theorem ne_own (hu : A.units < cLine) (hu1 : A.in1.units < cLine) {Q : Value → Shared → Prop} (X : K.In s.heap) (I : InstAt s.heap x ox C od) (hb : Looks (model prog w) s.heap (typeOf b) tb) (hn : notFirst K C tb = true)
    (hne : findIn K (.ref C) "__ne__" = some (some (.builtin "object.__ne__"))) (hm : mroIn K C (.type "object") = some true) (he : findIn K (.ref C) "__eq__" = some (some (.ref f))) (hf : isFn K (.ref f) = true)
    (h : wpAny (model prog w) A.in1 (call (.ref f) [.ref x, b]) (fun v s' => ∃ c, v = .bool c ∧ Q (.bool (!c)) s') E s) : wpAny (model prog w) A (richCompare .NotEq (.ref x) b) Q E s := by
  have one : wpAny (model prog w) A (tryCompare (.ref x) "__ne__" b) (fun r s' => ∃ v, r = some v ∧ Q v s') E s := by
    unfold tryCompare
    refine wpAny_bind (ifBoundB X I hne one_bind (one_call hu1 X I hm he hf (wpAny_mono h (fun v s' hv => ?_) fun _ _ e => e)))
    obtain ⟨c, rfl, hq⟩ := hv
    exact ⟨c, rfl, wpAny_pure ⟨_, rfl, hq⟩⟩
  unfold richCompare
  simp only [oneThing_ref]
  rw [cmpInfo_NotEq]
  refine wpAny_holding (wpAny_bind (wpAny_cRoomFor hu ?_))
  refine wpAny_bind (I.type.here (wpAny_bind (hb.here ?_)))
  split
  · rename_i q
    have e : subIn K tb (.ref C) = some false := by
      rcases Bool.or_eq_true_iff.mp hn with e | e
      · rw [beq_iff_eq.mp e] at q; simp at q
      · exact beq_iff_eq.mp e
    refine wpAny_bind ((looks_subIn X e).here ?_)
    simp only [Bool.false_eq_true, if_false]
    refine wpAny_bind (wpAny_mono one (fun r s' z => ?_) fun _ _ e => e)
    obtain ⟨v, rfl, hq⟩ := z
    exact wpAny_pure hq
  · refine wpAny_bind (wpAny_pure ?_)
    simp only [Bool.false_eq_true, if_false]
    refine wpAny_bind (wpAny_mono one (fun r s' z => ?_) fun _ _ e => e)
    obtain ⟨v, rfl, hq⟩ := z
    exact wpAny_pure hq
end
end PySem.W
namespace Mi
open PySem PySem.Spec PyProof.Rows L2
section
variable {X : Cx} {pins : List (Addr × Obj)} {σ : L2.St} {H : Hp} {s : Shared} {Q : VK} {k n : Nat} {f C : Addr} {fd : FuncData} {ps : List Str} {sp : Sp} {A : Around}
/-- the right side: the same class, or a built-in kind -/
def RightOk (K : PySem.W.Frag) (C : Addr) (H : Hp) (y : V) : Prop := (∃ a dx fs, y = .ref a ∧ H a = some (.ins C dx fs)) ∨ ∃ T, TyX K H y (.type T) ∧ PySem.W.notFirst K C (.type T) = true
def rOwnEq (neg : Bool) (K : PySem.W.Frag) (C : Addr) (sp : Sp) : R2 := fun x y H Q => ∃ a dx fs, x = .ref a ∧ H a = some (.ins C dx fs) ∧ RightOk K C H y ∧ sp [x, y] H (fun v H' => ∃ b, v = .bl b ∧ Q (.bl (neg != b)) H') (fun _ _ _ => False)
theorem right_looks {y : V} {u : Value} (I : Inv X pins σ H s) (h : RightOk X.K C H y) (ry : RelV y u) : ∃ tb, PySem.W.Looks (model X.prog X.w) s.heap (typeOf u) tb ∧ PySem.W.notFirst X.K C tb = true := by
  rcases h with ⟨a, dx, fs, rfl, ha⟩ | ⟨T, ty, hn⟩
  · cases ry
    obtain ⟨mA, J, _⟩ := ins_get I.hok ha
    obtain ⟨od, J, _⟩ := J.look
    exact ⟨_, J.type, by simp [PySem.W.notFirst]⟩
  · obtain ⟨P, Z, p, _⟩ := kit_of I ry ty
    exact ⟨_, Z.ty _ _ I.kIn p, hn⟩
theorem opOwnEq (M : Meth X.K C "__eq__" f) (F : FnOk X.prog X.w X.K X.mg X.base (L2.CX X.prog X.w) k f fd ps sp) (hb : Binds X.K fd ps []) (hr : Room k X.A) : OpR X (compareOp .Eq) (rOwnEq false X.K C sp) := by
  intro pins s σ H x y v u Q I rx ry hq
  obtain ⟨a, dx, fs, rfl, ha, hR, hs⟩ := hq
  cases rx
  obtain ⟨mA, J, _⟩ := ins_get I.hok ha
  obtain ⟨od, J, _⟩ := J.look
  obtain ⟨m, hF⟩ := I.fr
  obtain ⟨tb, ht, hn⟩ := right_looks I hR ry
  have run := own_run F hb ⟨hr, rfl⟩ I (us := [.ref a, u]) (vs := [.ref a, y]) (.cons rfl (.cons ry .nil)) hs
  show wpAny (model X.prog X.w) X.A (richCompare .Eq (.ref a) u) (EP X pins σ Q) X.xe s
  refine PySem.W.cmp_K (op := .Eq) hr.units0 hF I.ok.mod.kin J ht hn M.at_ M.fn (wpAny_mono run (fun r s' q => ?_) fun _ _ z => z)
  obtain ⟨z, H', I', rz, b, ez, q⟩ := q
  subst ez
  cases rz
  exact ⟨.bl b, H', I', rfl, by simpa using q⟩
theorem opOwnNe (M : Meth X.K C "__eq__" f) (hne : PySem.W.findIn X.K (.ref C) "__ne__" = some (some (.builtin "object.__ne__"))) (hm : PySem.W.mroIn X.K C (.type "object") = some true) (F : FnOk X.prog X.w X.K X.mg X.base (L2.CX X.prog X.w) k f fd ps sp) (hb : Binds X.K fd ps [])
    (hr : Room (k + 1) X.A) : OpR X (compareOp .NotEq) (rOwnEq true X.K C sp) := by
  intro pins s σ H x y v u Q I rx ry hq
  obtain ⟨a, dx, fs, rfl, ha, hR, hs⟩ := hq
  cases rx
  obtain ⟨mA, J, _⟩ := ins_get I.hok ha
  obtain ⟨od, J, _⟩ := J.look
  obtain ⟨tb, ht, hn⟩ := right_looks I hR ry
  have sb : Sub X (k + 1) X.A := ⟨hr, rfl⟩
  have run := own_run F hb sb.in1 I (us := [.ref a, u]) (vs := [.ref a, y]) (.cons rfl (.cons ry .nil)) hs
  show wpAny (model X.prog X.w) X.A (richCompare .NotEq (.ref a) u) (EP X pins σ Q) X.xe s
  refine PySem.W.ne_own hr.units0 hr.in1.units0 I.kIn J ht hn hne hm M.at_ M.fn (wpAny_mono run (fun r s' q => ?_) fun _ _ z => z)
  obtain ⟨z, H', I', rz, b, ez, q⟩ := q
  subst ez
  cases rz
  exact ⟨b, rfl, .bl (!b), H', I', rfl, by simpa using q⟩
/-- what == and != of own objects ask of the class -/
def EqM (P : Program) (w : World) (K : PySem.W.Frag) (mg : Str → Option Value) (base : Heap) (c : Str) (k : Nat) (F : Fn) : Prop :=
  MethM P w K mg base c "__eq__" k 2 F ∧ ∀ C, mg c = some (.ref C) → PySem.W.findIn K (.ref C) "__ne__" = some (some (.builtin "object.__ne__")) ∧ PySem.W.mroIn K C (.type "object") = some true ∧ ∀ T ∈ basicT, PySem.W.notFirst K C (.type T) = true
def gOwnEq (neg : Bool) (c : Str) (F : Fn) : IV → IV → Sto → R IV := fun x y st => match insAt st [c] x with
  | some _ => if (insAt st [c] y).isSome = true ∨ (tyName st y).isSome = true then (quiet (F [x, y] st)).bind (bl1 neg) else .bad
  | none => .bad
theorem right_of {m bs : List Addr} {st : Sto} {c : Str} {y : IV} {y' : V} (R : Rel (gd X) m bs st H) (hm : X.mg c = some (.ref C)) (hn : ∀ T ∈ basicT, PySem.W.notFirst X.K C (.type T) = true) (ry : RV (gd X) m bs st H y y') (h : (insAt st [c] y).isSome = true ∨ (tyName st y).isSome = true) : RightOk X.K C H y' := by
  rcases h with h | h
  · obtain ⟨p, e⟩ := Option.isSome_iff_exists.mp h
    obtain ⟨a, C', dx, gs, ev, h1, h2⟩ := ins_of R e ry
    have : C' = C := by
        have h1' : X.mg c = some (.ref C') := h1
        rw [hm] at h1'; cases h1'; rfl
    subst this
    exact .inl ⟨a, dx, gs, ev, h2⟩
  · obtain ⟨t, e⟩ := Option.isSome_iff_exists.mp h
    obtain ⟨tx, ht⟩ := tyName_x R e ry
    exact .inr ⟨t, tx, hn t ht⟩
theorem ownEq_weak {c : Str} {F : Fn} {neg : Bool} {op : CmpOp} (hm : X.mg c = some (.ref C)) (hn : ∀ T ∈ basicT, PySem.W.notFirst X.K C (.type T) = true) (ho : OpR X (compareOp op) (rOwnEq neg X.K C (spOf ⟨X.K, X.mg, X.prog, X.w⟩ 2 F))) : OpM X (compareOp op) (gOwnEq neg c F) := by
  refine ⟨_, ho, fun m bs st H x y x' y' Q W R rx ry h => ?_⟩
  unfold gOwnEq at h
  split at h
  · rename_i p e
    split at h
    · rename_i hR
      obtain ⟨a, C', dx, gs, ev, h1, h2⟩ := ins_of R e rx
      have : C' = C := by
        have h1' : X.mg c = some (.ref C') := h1
        rw [hm] at h1'; cases h1'; rfl
      subst this
      refine ⟨a, dx, gs, ev, h2, right_of R hm hn ry hR, rfl, m, bs, st, [x, y], R, ?_, ?_⟩
      · simp only [RVs]
        exact ⟨x', [y'], rfl, rx, y', [], rfl, ry, rfl⟩
      · refine quiet_post (W := W) (h.bind.mono fun v m1 st1 H1 g1 R1 h1 u ru => ?_)
        cases v with
        | bl b =>
          simp only [RV] at ru
          exact ⟨b, ru, h1.v R1 (by simp only [RV])⟩
        | _ => exact h1.elim
    · exact h.elim
  · exact h.elim
theorem opm_ownEq {c : Str} {F : Fn} (h : EqM X.prog X.w X.K X.mg X.base c k F) (hr : Room k X.A) : OpM X (compareOp .Eq) (gOwnEq false c F) := by
  obtain ⟨⟨C, f, fd, ps, hm, hC, hM, hb, hf⟩, h2⟩ := h
  exact ownEq_weak hm (h2 C hm).2.2 (opOwnEq hM hf hb hr)
theorem opm_ownNe {c : Str} {F : Fn} (h : EqM X.prog X.w X.K X.mg X.base c k F) (hr : Room (k + 1) X.A) : OpM X (compareOp .NotEq) (gOwnEq true c F) := by
  obtain ⟨⟨C, f, fd, ps, hm, hC, hM, hb, hf⟩, h2⟩ := h
  exact ownEq_weak hm (h2 C hm).2.2 (opOwnNe hM (h2 C hm).1 (h2 C hm).2.1 hf hb hr)
end
end Mi
set_option Elab.async false
set_option linter.all false
set_option maxRecDepth 100000
set_option maxHeartbeats 4000000
namespace Mi
open PySem PySem.Spec PyProof.Rows L2
section
variable {X : Cx} {W : WX} {xa : Xa} {a b c e o : Expr} {A B C : IE} {pos p apos : Pos} {es : List Expr} {As : IA}
/-! ### f-strings -/
def iFmt (A : IE) : IE := fun ρ st => (A ρ st).bind fun x st => match x with
  | .str y => if y.length ≤ 100000 then .ok (.str y) st else .bad
  | .int i => if i.natAbs ≤ 10000000000000000000000000000000000000000000000000000000000000000 then .ok (.str (toString i : String)) st else .bad
  | _ => .bad
theorem log_dig {i : Int} (h : i.natAbs ≤ 10000000000000000000000000000000000000000000000000000000000000000) : i.natAbs.log2 < 1920 := by
  have h2 : (10000000000000000000000000000000000000000000000000000000000000000 : Nat) < 2 ^ 1920 := by decide +kernel
  by_cases h0 : i.natAbs = 0
  · rw [h0]; decide
  · exact (Nat.log2_lt h0).mpr (Nat.lt_of_le_of_lt h h2)
theorem me_fmt (ha : ME X W xa a A) : ME X W xa (.FormattedValue a (-1) none pos) (iFmt A) := by
  refine PE.weak (pe_fmt ha) fun σ H Q h => ?_
  obtain ⟨m, os, rs, ρ, st, P, h⟩ := h
  refine ⟨m, os, rs, ρ, st, P, h.bind.mono fun x m1 st1 H1 g1 R1 h1 u ru => ?_⟩
  cases x with
  | str y =>
    simp only at h1
    split at h1
    · rename_i hc
      simp only [RV] at ru
      exact .inl ⟨y, ru, szl hc, h1.v R1 (by simp only [RV])⟩
    · exact h1.elim
  | int i =>
    simp only at h1
    split at h1
    · rename_i hc
      simp only [RV] at ru
      exact .inr ⟨i, ru, log_dig hc, h1.v R1 (by simp only [RV])⟩
    · exact h1.elim
  | _ => exact h1.elim
def iJs : List IE → Str → IE
  | [], acc, _, st => .ok (.str acc) st
  | A :: As, acc, ρ, st => (A ρ st).bind fun x st => match x with
    | .str y => if (acc ++ y).length ≤ 100000 then iJs As (acc ++ y) ρ st else .bad
    | _ => .bad
theorem js_weak {σ : L2.St} {Q : VK} : ∀ (As : List IE) (acc : Str) {H : Hp} {m os rs : List Addr} {ρ : Slots} {st : Sto}, Pre (gd X) xa σ H m os rs ρ st →
    Pst (gd X) m (os ++ rs) st H (fun cls d H' => W cls d σ H') (iJs As acc ρ st) (fun v m' st' H' => ∀ u, RV (gd X) m' (os ++ rs) st' H' v u → Q u H') → tJs (As.map fun A => teOf (gd X) W xa A) acc σ H fun out H1 => Q (.str out) H1
  | [], acc, H, m, os, rs, ρ, st, P, h => Pst.ok P.rel h (.str acc) (by simp only [RV])
  | A :: As, acc, H, m, os, rs, ρ, st, P, h => by
    rw [iJs] at h
    show teOf (gd X) W xa A σ H _
    refine ⟨m, os, rs, ρ, st, P, h.bind.mono fun x m1 st1 H1 g1 R1 h1 u ru => ?_⟩
    cases x with
    | str y =>
      simp only at h1
      split at h1
      · rename_i hc
        simp only [RV] at ru
        exact ⟨y, ru, szl hc, js_weak As (acc ++ y) (P.grow g1 R1) h1⟩
      · exact h1.elim
    | _ => exact h1.elim
theorem me_joined {v1 v2 : Expr} {rest : List Expr} {Bs : List IE} (h : PJ X (v1 :: v2 :: rest) (Bs.map fun A => teOf (gd X) W xa A)) : ME X W xa (.JoinedStr (v1 :: v2 :: rest) pos) (iJs Bs Str.empty) := by
  refine PE.weak (pe_joined h) fun σ H Q h => ?_
  obtain ⟨m, os, rs, ρ, st, P, h⟩ := h
  exact js_weak Bs Str.empty P h
theorem me_joined1 (h : ME X W xa a A) : ME X W xa (.JoinedStr [a] pos) A := pe_joined1 h
/-! ### methods of texts -/
def iSm (g : IV → List IV → Sto → R IV) (A : IE) (As : IA) : IE := fun ρ st => (A ρ st).bind fun x st => match x with
  | .str y => (As ρ st).bind fun xs st => g (.str y) xs st
  | _ => .bad
theorem me_sm1 {name : Str} {id : String} {g : IV → List IV → Sto → R IV} (hg : MtdM X id g) (slot : Slot "str" name id) (ty : typeOf (.builtin id) = pure (.type "method_descriptor")) (ho : ME X W xa o A) (he : ME X W xa e B)
    (hs : starEach [e] X.env = [(false, eval e X.env)] := by rfl) (hbase : attributeBase o name X.env (eval o X.env) = eval o X.env := by rfl) (hline : (apos.endLine == pos.line) = true := by rfl) :
    ME X W xa (.Call (.Attribute o name apos) [e] [] pos) (iSm g A (iCons B iNil)) := by
  obtain ⟨r, hr, k⟩ := hg
  refine PE.weak (pe_m1 slot ty hr ho he hs hbase hline) fun σ H Q h => ?_
  obtain ⟨m, os, rs, ρ, st, P, h⟩ := h
  refine ⟨m, os, rs, ρ, st, P, h.bind.mono fun x m1 st1 H1 g1 R1 h1 u ru => ?_⟩
  cases x with
  | str y =>
    refine ⟨⟨y, by simpa only [RV] using ru⟩, m1, os, rs, ρ, st1, P.grow g1 R1, ?_⟩
    have h2 := h1.bind
    unfold iCons at h2
    refine h2.bind.mono fun x2 m2 st2 H2 g2 R2 h3 v rv => ?_
    have h4 : Pst (gd X) m2 (os ++ rs) st2 H2 (fun cls d H' => W cls d σ H') (g (.str y) [x2] st2) (fun v m' st' H' => ∀ u, RV (gd X) m' (os ++ rs) st' H' v u → Q u H') := Pst.ok R2 (Pst.ok R2 h3.bind)
    refine k m2 _ st2 H2 (.str y) [x2] u [v] Q _ R2 (RV.fits g2.fitsE _ _ ru) ?_ h4
    simp only [RVs]
    exact ⟨v, [], rfl, rv, rfl⟩
  | _ => exact h1.elim
def strsOf : List IV → Option (List Str)
  | [] => some []
  | .str x :: r => (strsOf r).map fun t => x :: t
  | _ => none
theorem strsOf_rv {G : Gd} {m bs : List Addr} {st : Sto} {H : Hp} : ∀ {xs : List IV} {vs : List V} {ys : List Str}, strsOf xs = some ys → RVs G m bs st H xs vs → vs = ys.map V.str
  | [], vs, ys, e, r => by simp only [RVs] at r; simp only [strsOf] at e; cases e; exact r
  | x :: xs, vs, ys, e, r => by
    simp only [RVs] at r
    obtain ⟨v, t, ev, r1, r2⟩ := r
    cases x with
    | str z =>
      simp only [strsOf, Option.map_eq_some_iff] at e
      obtain ⟨zs, e1, e2⟩ := e
      subst e2
      simp only [RV] at r1
      rw [ev, r1, strsOf_rv e1 r2]
      rfl
    | _ => cases e
def gJoin : IV → List IV → Sto → R IV
  | .str a, [x], st => match (asS st x).bind strsOf with
    | some ys => if (ys.map (·.length)).sum + ys.length * a.length ≤ 100000 then .ok (.str (Txt.join a ys)) st else .bad
    | none => .bad
  | _, _, _ => .bad
theorem mtd_join : MtdM X "str.join" gJoin := by
  refine ⟨_, mt_join, fun m bs st H x xs x' xs' Q W R rx rs h => ?_⟩
  unfold gJoin at h
  split at h
  · rename_i a y
    split at h
    · rename_i ys e
      split at h
      · rename_i hc
        rw [Option.bind_eq_some_iff] at e
        obtain ⟨zs, e1, e2⟩ := e
        simp only [RV] at rx
        simp only [RVs] at rs
        obtain ⟨v, t, ev, r1, et⟩ := rs
        subst et
        obtain ⟨p, vs, ep, hs, rv⟩ := asS_sq R e1 r1
        have := strsOf_rv e2 rv
        subst this
        subst ep
        exact ⟨a, p, ys, rx, ev, hs, by omega, h.v R (by simp only [RV])⟩
      · exact h.elim
    · exact h.elim
  · exact h.elim
/-! ### a, b, c = x, y, z -/
theorem rvs3 {G : Gd} {m bs : List Addr} {st : Sto} {H : Hp} {x y z : IV} {vs : List V} (r : RVs G m bs st H [x, y, z] vs) : ∃ u v w, vs = [u, v, w] ∧ RV G m bs st H x u ∧ RV G m bs st H y v ∧ RV G m bs st H z w := by
  simp only [RVs] at r
  obtain ⟨u, t, e, r1, v, t2, e2, r2, w, t3, e3, r3, e4⟩ := r
  exact ⟨u, v, w, by rw [e, e2, e3, e4], r1, r2, r3⟩
theorem ms_par3 {i j l : Nat} {x y z : Str} {px py pz pt : Pos} {kt k2 : Nat} {pt2 : Pos} (hc : X.calm = true) (hN : X.N.Nodup) (hi : X.N[i]? = some x) (hj : X.N[j]? = some y) (hl : X.N[l]? = some z) (hij : i ≠ j) (hil : i ≠ l) (hjl : j ≠ l)
    (hx : X.env.scope.names.lookup x = some .local) (hy : X.env.scope.names.lookup y = some .local) (hz : X.env.scope.names.lookup z = some .local) (ha : MA X W xa [a, b, c] As)
    (hw : swappedStores [.Tuple [.Name x px, .Name y py, .Name z pz] kt pt] (.Tuple [a, b, c] k2 pt2) X.env = pure (some [x, y, z]))
    (hs : swapsWithSole [.Tuple [.Name x px, .Name y py, .Name z pz] kt pt] (.Tuple [a, b, c] k2 pt2) pos.line X.env = pure false := by rfl) :
    MS X W xa (.Assign [.Tuple [.Name x px, .Name y py, .Name z pz] kt pt] (.Tuple [a, b, c] k2 pt2) pos) (iPar3 i j l As) := by
  refine PS.weak (ps_par3 hc hN hi hj hl hij hil hjl hx hy hz ha hw hs) fun D σ H h => ?_
  obtain ⟨m, os, rs, ρ, st, P, h⟩ := h
  refine ⟨m, os, rs, ρ, st, P, (h.ofR P).mono fun xs m1 st1 H1 g1 R1 h1 vs rv => ?_⟩
  split at h1
  · obtain ⟨u, v, w, e, r1, r2, r3⟩ := rvs3 rv
    exact ⟨u, v, w, e, h1.here ((((P.grow g1 R1).set r1).set r2).set r3)⟩
  · exact h1.elim
/-! ### isinstance(x, C), C an own class -/
/-- C's answers for the own classes of the list, and no for the built-in kinds -/
def IsM (K : PySem.W.Frag) (mg : Str → Option Value) (c : Str) (L : List (Str × Bool)) : Prop :=
  ∃ C, mg c = some (.ref C) ∧ (∀ T ∈ basicT, PySem.W.kitOne K (.type T) (.ref C) = some false) ∧
    ∀ c' b, L.lookup c' = some b → ∀ C', mg c' = some (.ref C') → (∀ (H : Hp) (a dx : Addr) (fs : List (Str × V)), H a = some (.ins C' dx fs) → TyX K H (.ref a) (.ref C')) ∧ PySem.W.kitOne K (.ref C') (.ref C) = some b
def clsOf (st : Sto) : IV → Option Str
  | .ref l => match st[l]? with | some (.ins c _) => some c | _ => none
  | _ => none
def iIsC (L : List (Str × Bool)) (A : IE) : IE := fun ρ st => (A ρ st).bind fun x st => match tyName st x with
  | some _ => .ok (.bl false) st
  | none => match (clsOf st x).bind fun c => L.lookup c with
    | some b => .ok (.bl b) st
    | none => .bad
theorem me_isC {c : Str} {L : List (Str × Bool)} {p2 : Pos} (h : IsM X.K X.mg c L) (hg : Gl X "isinstance") (hm : X.mg "isinstance" = none) (hgc : Gl X c) (ha : ME X W xa a A)
    (hdc : (c == ("__debug__" : Str)) = false := by decide) (he : starEach [a, .Name c p2] X.env = (false, eval a X.env) :: starEach [.Name c p2] X.env := by rfl) (he2 : starEach [.Name c p2] X.env = (false, eval (.Name c p2) X.env) :: starEach [] X.env := by rfl) (hpl : (backTo pos (starEach [.Name c p2] X.env)).any (·.1) = false := by rfl) :
    ME X W xa (.Call (.Name "isinstance" p) [a, .Name c p2] [] pos) (iIsC L A) := by
  obtain ⟨C, hC, hT, hL⟩ := h
  refine PE.weak (pe_callB call_isi hg hm (by rfl) (pa_cons ha (pa_cons (pe_glob hgc hC (v := .ref C) rfl hdc) pa_nil he2) he) (by decide) (by decide) he hpl) fun σ H Q h => ?_
  obtain ⟨m, os, rs, ρ, st, P, h⟩ := h
  refine ⟨m, os, rs, ρ, st, P, h.bind.mono fun x m1 st1 H1 g1 R1 h1 u ru => ?_⟩
  split at h1
  · rename_i t e
    obtain ⟨tx, ht⟩ := tyName_x R1 e ru
    exact ⟨u, .ref C, _, _, false, rfl, .own C, tx, hT t ht, h1.v R1 (by simp only [RV])⟩
  · split at h1
    · rename_i b e
      rw [Option.bind_eq_some_iff] at e
      obtain ⟨c', e1, e2⟩ := e
      cases x with
      | ref l =>
        simp only [clsOf] at e1
        split at e1
        · rename_i cc fs e3
          cases e1
          simp only [RV] at ru
          obtain ⟨aa, ea, hl⟩ := ru
          obtain ⟨C', dx, gs, h2, h3, _⟩ := R1.obj l _ aa e3 hl
          obtain ⟨q1, q2⟩ := hL _ _ e2 C' h2
          subst ea
          exact ⟨_, .ref C, _, _, b, rfl, .own C, q1 H1 aa dx gs h3, q2, h1.v R1 (by simp only [RV])⟩
        · cases e1
      | _ => cases e1
    · exact h1.elim
end
end Mi
set_option Elab.async false
set_option linter.all false
set_option maxRecDepth 100000
set_option maxHeartbeats 4000000
namespace Mi
open PySem PySem.Spec PyProof.Rows L2
theorem basic_all {P : String → Prop} (h1 : P "NoneType") (h2 : P "bool") (h3 : P "int") (h4 : P "str") (h5 : P "tuple") (h6 : P "list") (h7 : P "dict") : ∀ T ∈ basicT, P T := by
  intro T hT
  simp only [basicT, List.mem_cons, List.not_mem_nil, or_false] at hT
  rcases hT with rfl | rfl | rfl | rfl | rfl | rfl | rfl <;> assumption
section
variable {K : PySem.W.Frag} {mg : Str → Option Value} {C : Addr} {T : String}
theorem notFirst_of (h : PySem.W.subIn K (.type T) (.ref C) = some false) : PySem.W.notFirst K C (.type T) = true := by
  unfold PySem.W.notFirst
  rw [h]; simp
theorem kit_no (h1 : PySem.W.isClsIn K C = true) (h2 : PySem.W.typeIn K (.ref C) = some (.type "type")) (h : PySem.W.subIn K (.type T) (.ref C) = some false) : PySem.W.kitOne K (.type T) (.ref C) = some false := by
  have e2 : ((PySem.W.clsIn K C).isSome && PySem.W.typeIn K (.ref C) == some (.type "type")) = true := by
    have h1' : (PySem.W.clsIn K C).isSome = true := h1
    rw [h1', h2] <;> rfl
  unfold PySem.W.kitOne
  rw [if_neg (by simp)]
  show (if ((PySem.W.clsIn K C).isSome && PySem.W.typeIn K (.ref C) == some (.type "type")) = true then PySem.W.subIn K (.type T) (.ref C) else none) = some false
  rw [if_pos e2]; exact h
theorem isM_one {c : Str} (hm : mg c = some (.ref C)) (cl : Cls K C) (ha : PySem.W.findIn K (.ref C) "__class__" = some (some (.builtin "object.__class__")))
    (hn : PySem.W.specialIn K (.builtin "object.__class__") "__get__" = some (some (.builtin "getset_descriptor.__get__"))) (htk : PySem.W.takesIn K (.builtin "object.__class__") = some true)
    (ho : PySem.W.mroIn K C (.type "object") = some true) (hT : ∀ T ∈ basicT, PySem.W.kitOne K (.type T) (.ref C) = some false) : IsM K mg c [(c, true)] := by
  refine ⟨C, hm, hT, fun c' b e C' hC => ?_⟩
  have hc : c' = c ∧ b = true := by
    simp only [List.lookup] at e
    split at e
    · rename_i z
      exact ⟨by simpa using z, by cases e; rfl⟩
    · cases e
  obtain ⟨rfl, rfl⟩ := hc
  rw [hm] at hC
  cases hC
  exact ⟨fun H a dx fs h => .base (.ins h cl ha hn htk ho), by unfold PySem.W.kitOne; rw [if_pos (by simp)]⟩
end
end Mi
set_option Elab.async false
set_option linter.all false
set_option maxRecDepth 100000
set_option maxHeartbeats 4000000
namespace Mi
open PySem PySem.Spec PyProof.Rows L2

/-! ### what must hold for a good end -/
def R.wp {α : Type} (r : R α) (P : α → Sto → Prop) (E : Str → List (Str × IV) → Sto → Prop) : Prop := match r with
  | .ok a st => P a st
  | .exc c fs st => E c fs st
  | .bad => False
abbrev nE : Str → List (Str × IV) → Sto → Prop := fun _ _ _ => False
structure Post where
  nx : Slots → Sto → Prop
  rt : IV → Sto → Prop
  bk : Slots → Sto → Prop
  ct : Slots → Sto → Prop
  ex : Str → List (Str × IV) → Slots → Sto → Prop
def RS.wp (r : RS) (D : Post) : Prop := match r with
  | .nx ρ st => D.nx ρ st
  | .rt v st => D.rt v st
  | .bk ρ st => D.bk ρ st
  | .ct ρ st => D.ct ρ st
  | .exc c fs ρ st => D.ex c fs ρ st
  | .bad => False
/-- no step by unfolding -/
theorem nr {α : Sort _} {a b : α} (h : a = b) : a = b := h
/-- a place that is not looked into -/
inductive Tg {α : Type} (a : α) : Type where
  | mk
def R.wq {α : Type} (r : R α) (P : α → Sto → Prop) (E : Str → List (Str × IV) → Sto → Prop) (t : Tg (P, E)) : Prop := r.wp P E
def RS.wq (r : RS) (D : Post) (t : Tg D) : Prop := r.wp D
section
variable {α β : Type} {P : α → Sto → Prop} {E : Str → List (Str × IV) → Sto → Prop} {D : Post} {st : Sto} {ρ : Slots}
theorem wpo {a : α} : (R.ok a st).wp P E = P a st := rfl
theorem wpb {r : R α} {k : α → Sto → R β} {P : β → Sto → Prop} : (r.bind k).wp P E = r.wp (fun a st => (k a st).wp P E) E := by cases r <;> rfl
@[simp ↓] theorem wp_q {r : R α} : r.wp P E = r.wq P E .mk := nr rfl
@[simp ↓] theorem wps_q {r : RS} : r.wp D = r.wq D .mk := nr rfl
@[simp] theorem wp_ok {a : α} : (R.ok a st).wq P E .mk = P a st := nr rfl
@[simp] theorem wp_exc {c : Str} {fs : List (Str × IV)} : (R.exc c fs st : R α).wq P E .mk = E c fs st := nr rfl
@[simp] theorem wp_bad : (R.bad : R α).wq P E .mk = False := nr rfl
@[simp] theorem wp_bind {r : R α} {k : α → Sto → R β} {P : β → Sto → Prop} : (r.bind k).wq P E .mk = r.wp (fun a st => (k a st).wp P E) E := by cases r <;> rfl
theorem wp_mono {r : R α} {P P' : α → Sto → Prop} (h : r.wp P E) (k : ∀ a st, P a st → P' a st) : r.wp P' E := by cases r <;> first | exact k _ _ h | exact h
@[simp] theorem wps_nx : (RS.nx ρ st).wq D .mk = D.nx ρ st := nr rfl
@[simp] theorem wps_rt {v : IV} : (RS.rt v st).wq D .mk = D.rt v st := nr rfl
@[simp] theorem wps_bk : (RS.bk ρ st).wq D .mk = D.bk ρ st := nr rfl
@[simp] theorem wps_ct : (RS.ct ρ st).wq D .mk = D.ct ρ st := nr rfl
@[simp] theorem wps_exc {c : Str} {fs : List (Str × IV)} : (RS.exc c fs ρ st).wq D .mk = D.ex c fs ρ st := nr rfl
@[simp] theorem wps_bad : RS.bad.wq D .mk = False := nr rfl
@[simp] theorem wps_seq {r : RS} {J : IS} : (r.seq J).wq D .mk = r.wp { D with nx := fun ρ st => (J ρ st).wp D } := by cases r <;> rfl
@[simp] theorem wps_ofR {r : R α} {k : α → Sto → RS} : (RS.ofR r ρ k).wq D .mk = r.wp (fun a st => (k a st).wp D) (fun c fs st => D.ex c fs ρ st) := by cases r <;> rfl
theorem wps_mono {r : RS} {D D' : Post} (h : r.wp D) (h1 : ∀ ρ st, D.nx ρ st → D'.nx ρ st) (h2 : ∀ v st, D.rt v st → D'.rt v st) (h3 : ∀ ρ st, D.bk ρ st → D'.bk ρ st) (h4 : ∀ ρ st, D.ct ρ st → D'.ct ρ st) (h5 : ∀ c fs ρ st, D.ex c fs ρ st → D'.ex c fs ρ st) : r.wp D' := by
  cases r <;> first | exact h1 _ _ h | exact h2 _ _ h | exact h3 _ _ h | exact h4 _ _ h | exact h5 _ _ _ _ h | exact h
@[simp] theorem wps_iSeq {I J : IS} : (iSeq I J ρ st).wq D .mk = (I ρ st).wp { D with nx := fun ρ st => (J ρ st).wp D } := by unfold iSeq; exact wps_seq
@[simp] theorem wps_iSkip : (iSkip ρ st).wq D .mk = D.nx ρ st := nr rfl
@[simp] theorem wps_iBreak : (iBreak ρ st).wq D .mk = D.bk ρ st := nr rfl
@[simp] theorem wps_iCont : (iCont ρ st).wq D .mk = D.ct ρ st := nr rfl
@[simp] theorem wps_iRetN : (iRetN ρ st).wq D .mk = D.rt .non st := nr rfl
@[simp] theorem wps_iRet {A : IE} : (iRet A ρ st).wq D .mk = (A ρ st).wp D.rt (fun c fs st => D.ex c fs ρ st) := by unfold iRet; exact wps_ofR
@[simp] theorem wps_iDrop {A : IE} : (iDrop A ρ st).wq D .mk = (A ρ st).wp (fun _ st => D.nx ρ st) (fun c fs st => D.ex c fs ρ st) := by unfold iDrop; exact wps_ofR
@[simp] theorem wps_iSet {i : Nat} {A : IE} : (iSet i A ρ st).wq D .mk = (A ρ st).wp (fun v st => D.nx (ρ.set i (some (.v v))) st) (fun c fs st => D.ex c fs ρ st) := by unfold iSet; exact wps_ofR
@[simp] theorem wps_iIfS {S : IT} {I J : IS} : (iIfS S I J ρ st).wq D .mk = (S ρ st).wp (fun b st => if b = true then (I ρ st).wp D else (J ρ st).wp D) (fun c fs st => D.ex c fs ρ st) := by
  unfold iIfS; rw [wps_ofR]; congr 1; funext b st; cases b <;> rfl
@[simp] theorem wps_iAsg {A : IE} {T : ITg} : (iAsg A T ρ st).wq D .mk = (A ρ st).wp (fun v st => (T v ρ st).wp D) (fun c fs st => D.ex c fs ρ st) := by unfold iAsg; exact wps_ofR
@[simp] theorem wps_tgName {i : Nat} {x : IV} : (tgName i x ρ st).wq D .mk = D.nx (ρ.set i (some (.v x))) st := nr rfl
@[simp] theorem wps_tgNil : (tgNil [] ρ st).wq D .mk = D.nx ρ st := nr rfl
@[simp] theorem wps_tgCons {T : ITg} {Ts : ITgs} {x : IV} {r : List IV} : (tgCons T Ts (x :: r) ρ st).wq D .mk = (T x ρ st).wp { D with nx := fun ρ st => (Ts r ρ st).wp D } := by
  show ((T x ρ st).seq (Ts r)).wp D = _; exact wps_seq
@[simp] theorem wps_tgTup {n : Nat} {Ts : ITgs} {xs : List IV} : (tgTup n Ts (.tup xs) ρ st).wq D .mk = if xs.length = n then (Ts xs ρ st).wp D else False := by
  show (if xs.length = n then Ts xs ρ st else .bad).wp D = _; split <;> rfl
@[simp] theorem wps_iPar2 {i j : Nat} {As : IA} : (iPar2 i j As ρ st).wq D .mk = (As ρ st).wp (fun xs st => match xs with | [x, y] => D.nx ((ρ.set i (some (.v x))).set j (some (.v y))) st | _ => False) (fun c fs st => D.ex c fs ρ st) := by
  unfold iPar2; rw [wps_ofR]; congr 1; funext xs st
  match xs with
  | [] => rfl
  | [_] => rfl
  | [_, _] => rfl
  | _ :: _ :: _ :: _ => rfl
/-! defs -/
@[simp] theorem wp_fnOf {k : Nat} {B : IS} {args : List IV} {P : IV → Sto → Prop} : (fnOf k B args st).wq P E .mk = (B (args.map (fun x => some (.v x)) ++ List.replicate k none) st).wp ⟨fun _ st => P .non st, P, fun _ _ => False, fun _ _ => False, fun c fs _ st => E c fs st⟩ := by
  unfold fnOf
  cases B (args.map (fun x => some (.v x)) ++ List.replicate k none) st <;> rfl
theorem of_wp {r : R IV} {Q : IV → Prop} (h : r.wp (fun v _ => Q v) nE) : ∃ v st', r = .ok v st' ∧ Q v := by
  cases r with
  | ok a st => exact ⟨a, st, rfl, h⟩
  | exc c fs st => exact h.elim
  | bad => exact h.elim
/-! expressions -/
@[simp] theorem ev_C {x : IV} : iC x ρ st = .ok x st := nr rfl
@[simp] theorem ev_nil : iNil ρ st = .ok [] st := nr rfl
@[simp] theorem wp_iVar {i : Nat} {P : IV → Sto → Prop} : (iVar i ρ st).wq P E .mk = match ρ[i]? with | some (some (.v x)) => P x st | _ => False := by
  unfold iVar
  cases ρ[i]? with
  | none => rfl
  | some o => cases o with
    | none => rfl
    | some s => cases s <;> rfl
@[simp] theorem wp_iBin {g : IV → IV → Sto → R IV} {A B : IE} {P : IV → Sto → Prop} : (iBin g A B ρ st).wq P E .mk = (A ρ st).wp (fun x st => (B ρ st).wp (fun y st => (g x y st).wp P E) E) E := by unfold iBin; simp only [R.wq, wpb, wpo]
@[simp] theorem wp_iIx {A B : IE} {P : IV → Sto → Prop} : (iIx A B ρ st).wq P E .mk = (A ρ st).wp (fun x st => (B ρ st).wp (fun y st => (gIx x y st).wp P E) E) E := by unfold iIx; simp only [R.wq, wpb, wpo]
@[simp] theorem wp_iTest {A : IE} {P : Bool → Sto → Prop} : (iTest A ρ st).wq P E .mk = (A ρ st).wp (fun x st => (asB x st).wp P E) E := by unfold iTest; simp only [R.wq, wpb, wpo]
@[simp] theorem wp_iNeg {A : IE} {P : IV → Sto → Prop} : (iNeg A ρ st).wq P E .mk = (A ρ st).wp (fun x st => match x with | .int i => P (.int (-i)) st | _ => False) E := by
  unfold iNeg; simp only [R.wq, wpb, wpo]; congr 1; funext x st; cases x <;> rfl
@[simp] theorem wp_asB {b : Bool} {P : Bool → Sto → Prop} : (asB (.bl b) st).wq P E .mk = P b st := nr rfl
@[simp] theorem wp_iCons {A : IE} {As : IA} {P : List IV → Sto → Prop} : (iCons A As ρ st).wq P E .mk = (A ρ st).wp (fun x st => (As ρ st).wp (fun xs st => P (x :: xs) st) E) E := by unfold iCons; simp only [R.wq, wpb, wpo]
@[simp] theorem wp_iCallB {g : List IV → Sto → R IV} {As : IA} {P : IV → Sto → Prop} : (iCallB g As ρ st).wq P E .mk = (As ρ st).wp (fun xs st => (g xs st).wp P E) E := by unfold iCallB; simp only [R.wq, wpb, wpo]
@[simp] theorem wp_iCall {F : Fn} {As : IA} {P : IV → Sto → Prop} : (iCall F As ρ st).wq P E .mk = (As ρ st).wp (fun xs st => (F xs st).wp P E) E := by unfold iCall; simp only [R.wq, wpb, wpo]
@[simp] theorem wp_iIf {S : IT} {A B : IE} {P : IV → Sto → Prop} : (iIf S A B ρ st).wq P E .mk = (S ρ st).wp (fun b st => if b = true then (A ρ st).wp P E else (B ρ st).wp P E) E := by
  unfold iIf; simp only [R.wq, wpb, wpo]; congr 1; funext b st; cases b <;> rfl
@[simp] theorem wp_iTup {As : IA} {P : IV → Sto → Prop} : (iTup As ρ st).wq P E .mk = (As ρ st).wp (fun xs st => xs.length ≤ 100000 ∧ P (.tup xs) st) E := by
  unfold iTup; simp only [R.wq, wpb, wpo]; congr 1; funext xs st; split <;> simp [*]
@[simp] theorem wp_iLst {As : IA} {P : IV → Sto → Prop} : (iLst As ρ st).wq P E .mk = (As ρ st).wp (fun xs st => xs.length ≤ 100000 ∧ P (.lst xs) st) E := by
  unfold iLst; simp only [R.wq, wpb, wpo]; congr 1; funext xs st; split <;> simp [*]
@[simp] theorem wp_iLstS {As : IA} {P : IV → Sto → Prop} : (iLstS As ρ st).wq P E .mk = (As ρ st).wp (fun xs st => xs.length ≤ 100000 ∧ P (.ref st.length) (st ++ [.lst xs])) E := by
  unfold iLstS; simp only [R.wq, wpb, wpo]; congr 1; funext xs st; split <;> simp [*]
@[simp] theorem wp_iFew {As : IA} {P : List IV → Sto → Prop} : (iFew As ρ st).wq P E .mk = (As ρ st).wp (fun xs st => xs.length ≤ 100000 ∧ P xs st) E := by
  unfold iFew; simp only [R.wq, wpb, wpo]; congr 1; funext xs st; split <;> simp [*]
@[simp] theorem wp_iF {As : IA} {P : IV → Sto → Prop} : (iF As ρ st).wq P E .mk = (As ρ st).wp (fun xs st => P (.lst xs) st) E := by unfold iF; simp only [R.wq, wpb, wpo]
@[simp] theorem wp_iFS {As : IA} {P : IV → Sto → Prop} : (iFS As ρ st).wq P E .mk = (As ρ st).wp (fun xs st => P (.ref st.length) (st ++ [.lst xs])) E := by unfold iFS; simp only [R.wq, wpb, wpo]
@[simp] theorem wp_iAnd {S T : IT} {P : Bool → Sto → Prop} : (iAnd S T ρ st).wq P E .mk = (S ρ st).wp (fun b st => if b = true then (T ρ st).wp P E else P false st) E := by
  unfold iAnd; simp only [R.wq, wpb, wpo]; congr 1; funext b st; cases b <;> rfl
@[simp] theorem wp_iOr {S T : IT} {P : Bool → Sto → Prop} : (iOr S T ρ st).wq P E .mk = (S ρ st).wp (fun b st => if b = true then P true st else (T ρ st).wp P E) E := by
  unfold iOr; simp only [R.wq, wpb, wpo]; congr 1; funext b st; cases b <;> rfl
@[simp] theorem wp_iNot {S : IT} {P : Bool → Sto → Prop} : (iNot S ρ st).wq P E .mk = (S ρ st).wp (fun b st => P (!b) st) E := by unfold iNot; simp only [R.wq, wpb, wpo]
@[simp] theorem wp_iAndV {A B : IE} {P : IV → Sto → Prop} : (iAndV A B ρ st).wq P E .mk = (A ρ st).wp (fun x st => (asB x st).wp (fun b st => if b = true then (B ρ st).wp P E else P (.bl false) st) E) E := by
  unfold iAndV; simp only [R.wq, wpb, wpo]; congr 1; funext x st; congr 1; funext b st; cases b <;> rfl
@[simp] theorem wp_iOrV {A B : IE} {P : IV → Sto → Prop} : (iOrV A B ρ st).wq P E .mk = (A ρ st).wp (fun x st => (asB x st).wp (fun b st => if b = true then P (.bl true) st else (B ρ st).wp P E) E) E := by
  unfold iOrV; simp only [R.wq, wpb, wpo]; congr 1; funext x st; congr 1; funext b st; cases b <;> rfl
@[simp] theorem wp_iNotV {A : IE} {P : IV → Sto → Prop} : (iNotV A ρ st).wq P E .mk = (A ρ st).wp (fun x st => (asB x st).wp (fun b st => P (.bl (!b)) st) E) E := by unfold iNotV; simp only [R.wq, wpb, wpo]
@[simp] theorem wp_iChain {g g' : IV → IV → Sto → R IV} {A B C : IE} {P : IV → Sto → Prop} : (iChain g g' A B C ρ st).wq P E .mk = (A ρ st).wp (fun x st => (B ρ st).wp (fun y st => (g x y st).wp (fun z st => (asB z st).wp (fun k st => if k = true then (C ρ st).wp (fun c st => (g' y c st).wp P E) E else P (.bl false) st) E) E) E) E := by
  unfold iChain; simp only [R.wq, wpb, wpo]; congr 1; funext x st; congr 1; funext y st; congr 1; funext z st; congr 1; funext k st; cases k <;> simp only [Bool.false_eq_true, if_false, if_true, wpb, wpo]
@[simp] theorem wp_iCut {A : IE} {L U : IO'} {P : IV → Sto → Prop} : (iCut A L U ρ st).wq P E .mk = (A ρ st).wp (fun x st => (L ρ st).wp (fun lo st => (U ρ st).wp (fun hi st => (gCut x lo hi st).wp P E) E) E) E := by unfold iCut; simp only [R.wq, wpb, wpo]
@[simp] theorem wp_iNoPart {P : Option Int → Sto → Prop} : (iNoPart ρ st).wq P E .mk = P none st := nr rfl
@[simp] theorem wp_iPart {A : IE} {P : Option Int → Sto → Prop} : (iPart A ρ st).wq P E .mk = (A ρ st).wp (fun x st => match x with | .int i => P (some i) st | _ => False) E := by
  unfold iPart; simp only [R.wq, wpb, wpo]; congr 1; funext x st; cases x <;> rfl
@[simp] theorem wp_iMtd {g : IV → List IV → Sto → R IV} {A : IE} {As : IA} {P : IV → Sto → Prop} : (iMtd g A As ρ st).wq P E .mk = (A ρ st).wp (fun x st => if isLst st x = true then (As ρ st).wp (fun xs st => (g x xs st).wp P E) E else False) E := by
  unfold iMtd; simp only [R.wq, wpb, wpo]; congr 1; funext x st; split <;> simp
@[simp] theorem wp_iOver {A : IE} {P : List IV × GI → Sto → Prop} : (iOver A ρ st).wq P E .mk = (A ρ st).wp (fun x st => match itemsI st x with | some p => P p st | none => False) E := by
  unfold iOver; simp only [R.wq, wpb, wpo]; congr 1; funext x st; cases itemsI st x <;> rfl
@[simp] theorem wp_iRng {g : List IV → Sto → R (List IV × GI)} {As : IA} {P : List IV × GI → Sto → Prop} : (iRng g As ρ st).wq P E .mk = (As ρ st).wp (fun xs st => (g xs st).wp P E) E := by unfold iRng; simp only [R.wq, wpb, wpo]
@[simp] theorem wps_iFor {I : IIt} {T : ITg} {B : IS} : (iFor I T B ρ st).wq D .mk = (I ρ st).wp (fun p st => (forL p.2 p.1 T B p.1 ρ st).wp D) (fun c fs st => D.ex c fs ρ st) := by unfold iFor; exact wps_ofR
@[simp] theorem wp_arity {n : Nat} {F : Fn} {args : List IV} {P : IV → Sto → Prop} : (arity n F args st).wq P E .mk = if args.length = n then (F args st).wp P E else False := by unfold arity; split <;> rfl
/-! operators at known kinds -/
@[simp] theorem op_add_i {i j : Int} : gAdd (.int i) (.int j) st = .ok (.int (i + j)) st := nr rfl
@[simp] theorem op_sub_i {i j : Int} : gSub (.int i) (.int j) st = .ok (.int (i - j)) st := nr rfl
@[simp] theorem op_mul_i {i j : Int} {P : IV → Sto → Prop} : (gMul (.int i) (.int j) st).wq P E .mk = ((i.natAbs < 18446744073709551616 ∨ j.natAbs < 18446744073709551616) ∧ P (.int (i * j)) st) := by
  show (if _ then R.ok _ _ else .bad : R IV).wp P E = _
  split <;> simp [*]
@[simp] theorem op_div_i {i j : Int} {P : IV → Sto → Prop} : (gDiv (.int i) (.int j) st).wq P E .mk = ((0 < j ∧ j ≤ 10000000000000000000000000000000000000000) ∧ P (.int (i / j)) st) := by
  show (if _ then R.ok _ _ else .bad : R IV).wp P E = _
  split <;> simp [*]
@[simp] theorem op_mod_i {i j : Int} {P : IV → Sto → Prop} : (gMod (.int i) (.int j) st).wq P E .mk = (0 < j ∧ P (.int (i % j)) st) := by
  show (if _ then R.ok _ _ else .bad : R IV).wp P E = _
  split <;> simp [*]
@[simp] theorem op_pow_i {i j : Int} {P : IV → Sto → Prop} : (gPow (.int i) (.int j) st).wq P E .mk = ((0 ≤ j ∧ j ≤ 1000000 ∧ i.natAbs < 18446744073709551616) ∧ P (.int (i ^ j.toNat)) st) := by
  show (if _ then R.ok _ _ else .bad : R IV).wp P E = _
  split <;> simp [*]
@[simp] theorem op_rel_i {p : Int → Int → Bool} {i j : Int} : gRel p (.int i) (.int j) st = .ok (.bl (p i j)) st := nr rfl
@[simp] theorem op_add_s {x y : Str} {P : IV → Sto → Prop} : (gAdd (.str x) (.str y) st).wq P E .mk = (x.length + y.length ≤ 100000 ∧ P (.str (x ++ y)) st) := by
  show (if _ then R.ok _ _ else .bad : R IV).wp P E = _
  split <;> simp [*]
@[simp] theorem op_add_t {x y : List IV} {P : IV → Sto → Prop} : (gAdd (.tup x) (.tup y) st).wq P E .mk = (x.length + y.length ≤ 100000 ∧ P (.tup (x ++ y)) st) := by
  show (if _ then R.ok _ _ else .bad : R IV).wp P E = _
  split <;> simp [*]
@[simp] theorem op_eq_i {i j : Int} : gEq (.int i) (.int j) st = .ok (.bl (decide (i = j))) st := nr rfl
@[simp] theorem op_ne_i {i j : Int} : gNe (.int i) (.int j) st = .ok (.bl (!decide (i = j))) st := nr rfl
@[simp] theorem op_eq_s {i j : Str} : gEq (.str i) (.str j) st = .ok (.bl (decide (i = j))) st := nr rfl
@[simp] theorem op_ne_s {i j : Str} : gNe (.str i) (.str j) st = .ok (.bl (!decide (i = j))) st := nr rfl
@[simp] theorem op_isN {b : Bool} {x : IV} : gIsN b x .non st = .ok (.bl (b != isNon x)) st := nr rfl
@[simp] theorem cl_abs {i : Int} : gAbs [.int i] st = .ok (.int i.natAbs) st := nr rfl
@[simp] theorem cl_max {i j : Int} : gMax [.int i, .int j] st = .ok (.int (max i j)) st := nr rfl
@[simp] theorem cl_min {i j : Int} : gMin [.int i, .int j] st = .ok (.int (min i j)) st := nr rfl
@[simp] theorem cl_int {i : Int} : gInt [.int i] st = .ok (.int i) st := nr rfl
@[simp] theorem cl_len_t {xs : List IV} : gLen [.tup xs] st = .ok (.int xs.length) st := nr rfl
@[simp] theorem cl_len_l {xs : List IV} : gLen [.lst xs] st = .ok (.int xs.length) st := nr rfl
@[simp] theorem cl_len_s {x : Str} {P : IV → Sto → Prop} : (gLen [.str x] st).wq P E .mk = (x.length ≤ 100000 ∧ P (.int x.length) st) := by
  show (if _ then R.ok _ _ else .bad : R IV).wp P E = _
  split <;> simp [*]
@[simp] theorem cl_tuple_l {xs : List IV} : gTuple [.lst xs] st = .ok (.tup xs) st := nr rfl
@[simp] theorem cl_tuple_t {xs : List IV} : gTuple [.tup xs] st = .ok (.tup xs) st := nr rfl
@[simp] theorem cl_list_l {xs : List IV} : gList [.lst xs] st = .ok (.lst xs) st := nr rfl
@[simp] theorem cl_list_t {xs : List IV} : gList [.tup xs] st = .ok (.lst xs) st := nr rfl
@[simp] theorem rng1 {j : Int} {P : List IV × GI → Sto → Prop} : (gRng1 [.int j] st).wq P E .mk = ((j ≤ 1000000000000000000 ∧ -1000000000000000000 ≤ j) ∧ P (rngI 0 j.toNat, none) st) := by
  show (if _ then R.ok _ _ else .bad : R (List IV × GI)).wp P E = _
  split <;> simp [*]
@[simp] theorem rng2 {i j : Int} {P : List IV × GI → Sto → Prop} : (gRng2 [.int i, .int j] st).wq P E .mk = ((j ≤ 1000000000000000000 ∧ -1000000000000000000 ≤ j ∧ i ≤ 1000000000000000000 ∧ -1000000000000000000 ≤ i) ∧ P (rngI i (j - i).toNat, none) st) := by
  show (if _ then R.ok _ _ else .bad : R (List IV × GI)).wp P E = _
  split <;> simp [*]
@[simp] theorem en_enum {xs : List IV} : gEnum [.lst xs] st = .ok (enumI 0 xs, none) st := nr rfl
theorem enum_ref {l : Nat} {xs : List IV} (h : st[l]? = some (.lst xs)) : gEnum [.ref l] st = .ok (enumI 0 xs, some (l, xs)) st := by simp [gEnum, h]
@[simp] theorem gok_none {xs : List IV} : gokB none st xs = true := nr rfl
/-- any list, by the place -/
theorem wp_ix {x : IV} {xs : List IV} {i : Int} {P : IV → Sto → Prop} (h : asS st x = some xs) (hx : ∀ z, x ≠ .str z) : (gIx x (.int i) st).wp P E = match atI xs i with | some v => P v st | none => False := by
  cases x with
  | str z => exact absurd rfl (hx z)
  | ref l => simp only [gIx, h]; cases atI xs i <;> rfl
  | tup ys => simp only [gIx, h]; cases atI xs i <;> rfl
  | lst ys => simp only [gIx, h]; cases atI xs i <;> rfl
  | _ => cases h
@[simp] theorem ix_l {xs : List IV} {i : Int} {P : IV → Sto → Prop} : (gIx (.lst xs) (.int i) st).wq P E .mk = match atI xs i with | some v => P v st | none => False := wp_ix rfl (fun _ => by simp)
@[simp] theorem ix_t {xs : List IV} {i : Int} {P : IV → Sto → Prop} : (gIx (.tup xs) (.int i) st).wq P E .mk = match atI xs i with | some v => P v st | none => False := wp_ix rfl (fun _ => by simp)
@[simp] theorem ix_s {x : Str} {i : Int} {P : IV → Sto → Prop} : (gIx (.str x) (.int i) st).wq P E .mk = (x.length ≤ 100000 ∧ match atI x.cps.toList i with | some c => P (.str ⟨#[c]⟩) st | none => False) := by
  show R.wp (if _ then (match atI x.cps.toList i with | some c => .ok (.str ⟨#[c]⟩) st | none => .bad) else .bad : R IV) P E = _
  split
  · rename_i h
    cases atI x.cps.toList i <;> simp [h]
  · rename_i h
    simp [h]
@[simp] theorem asS_lst {xs : List IV} : asS st (.lst xs) = some xs := nr rfl
@[simp] theorem asS_tup {xs : List IV} : asS st (.tup xs) = some xs := nr rfl
theorem asS_ref {l : Nat} {xs : List IV} (h : st[l]? = some (.lst xs)) : asS st (.ref l) = some xs := by simp [asS, asL, h]
theorem ix_ref {l : Nat} {xs : List IV} {i : Int} {P : IV → Sto → Prop} (h : st[l]? = some (.lst xs)) : (gIx (.ref l) (.int i) st).wq P E .mk = match atI xs i with | some v => P v st | none => False := wp_ix (asS_ref h) (fun _ => by simp)
theorem len_ref {l : Nat} {xs : List IV} (h : st[l]? = some (.lst xs)) : gLen [.ref l] st = .ok (.int xs.length) st := by
  show (match asS st (.ref l) with | some xs => R.ok (IV.int xs.length) st | none => .bad) = _
  rw [asS_ref h]
theorem list_ref {l : Nat} {xs : List IV} (h : st[l]? = some (.lst xs)) : gList [.ref l] st = .ok (.lst xs) st := by
  show (match asS st (.ref l) with | some xs => R.ok (IV.lst xs) st | none => .bad) = _
  rw [asS_ref h]
theorem app_ref {l : Nat} {xs : List IV} {y : IV} (h : st[l]? = some (.lst xs)) (hl : xs.length < 100000) : gApp (.ref l) [y] st = .ok .non (st.set l (.lst (xs ++ [y]))) := by
  simp [gApp, h, hl]
theorem isLst_ref {l : Nat} {xs : List IV} (h : st[l]? = some (.lst xs)) : isLst st (.ref l) = true := by simp [isLst, h]
theorem items_ref {l : Nat} {xs : List IV} (h : st[l]? = some (.lst xs)) : itemsI st (.ref l) = some (xs, some (l, xs)) := by simp [itemsI, h]
@[simp] theorem items_l {xs : List IV} : itemsI st (.lst xs) = some (xs, none) := nr rfl
@[simp] theorem items_t {xs : List IV} : itemsI st (.tup xs) = some (xs, none) := nr rfl
@[simp] theorem items_s {x : Str} : itemsI st (.str x) = some (x.cps.toList.map fun c => .str ⟨#[c]⟩, none) := nr rfl
theorem wps_tgSub {A B : IE} {x : IV} {D : Post} {o i : IV} {st1 st2 : Sto} (h1 : A ρ st = .ok o st1) (h2 : B ρ st1 = .ok i st2) : (tgSub A B x ρ st).wp D = match gSetL o i x st2 with | some st3 => D.nx ρ st3 | none => False := by
  unfold tgSub
  rw [h1]
  simp only [h2]
  cases gSetL o i x st2 <;> rfl
@[simp] theorem wps_tgSub' {A B : IE} {x : IV} {D : Post} : (tgSub A B x ρ st).wq D .mk = (A ρ st).wp (fun o st1 => (B ρ st1).wp (fun i st2 => match gSetL o i x st2 with | some st3 => D.nx ρ st3 | none => False) nE) nE := by
  unfold tgSub RS.wq
  cases A ρ st with
  | ok o st1 =>
    simp only [wpo]
    cases B ρ st1 with
    | ok i st2 => simp only [wpo]; cases gSetL o i x st2 <;> rfl
    | _ => rfl
  | _ => rfl
theorem setL_ref {l : Nat} {xs : List IV} {i : Int} {j : Nat} {x : IV} (h : st[l]? = some (.lst xs)) (hj : ixN xs.length i = some j) : gSetL (.ref l) (.int i) x st = some (st.set l (.lst (xs.set j x))) := by
  simp [gSetL, h, hj]
end
/-! ### loops -/
theorem wp_forL {g : GI} {all : List IV} {T : ITg} {B : IS} {D : Post} (Inv : Nat → Slots → Sto → Prop) : ∀ {xs : List IV} {n : Nat} {ρ : Slots} {st : Sto}, Inv n ρ st →
    (∀ i x ρ st, xs[i]? = some x → Inv (n + i) ρ st → gokB g st all = true ∧ (T x ρ st).wp ⟨fun ρ1 st1 => (B ρ1 st1).wp ⟨Inv (n + i + 1), D.rt, D.nx, Inv (n + i + 1), D.ex⟩, fun _ _ => False, fun _ _ => False, fun _ _ => False, fun _ _ _ _ => False⟩) →
    (∀ ρ st, Inv (n + xs.length) ρ st → gokB g st all = true ∧ D.nx ρ st) → (forL g all T B xs ρ st).wp D
  | [], n, ρ, st, h0, _, done => by
    obtain ⟨e, h⟩ := done ρ st h0
    simp only [forL, e, if_true]
    exact h
  | x :: r, n, ρ, st, h0, step, done => by
    obtain ⟨e, h⟩ := step 0 x ρ st rfl h0
    simp only [forL, e, if_true]
    cases q : T x ρ st with
    | nx ρ1 st1 =>
      rw [q] at h
      have h : (B ρ1 st1).wp ⟨Inv (n + 1), D.rt, D.nx, Inv (n + 1), D.ex⟩ := h
      have next : ∀ ρ2 st2, Inv (n + 1) ρ2 st2 → (forL g all T B r ρ2 st2).wp D := fun ρ2 st2 hi =>
        wp_forL Inv (n := n + 1) hi (fun i x ρ st e hi => by
          have := step (i + 1) x ρ st (by simpa using e) (by rw [show n + (i + 1) = n + 1 + i by omega]; exact hi)
          rw [show n + (i + 1) = n + 1 + i by omega] at this
          exact this) (fun ρ st hi => done ρ st (by rw [List.length_cons, show n + (r.length + 1) = n + 1 + r.length by omega]; exact hi))
      simp only
      cases q2 : B ρ1 st1 with
      | nx ρ2 st2 => rw [q2] at h; exact next _ _ h
      | ct ρ2 st2 => rw [q2] at h; exact next _ _ h
      | bk ρ2 st2 => rw [q2] at h; exact h
      | rt v st2 => rw [q2] at h; exact h
      | exc c fs ρ2 st2 => rw [q2] at h; exact h
      | bad => rw [q2] at h; exact h.elim
    | _ => rw [q] at h; exact h.elim
/-- the same from 0 -/
theorem wp_for {g : GI} {all : List IV} {T : ITg} {B : IS} {D : Post} {xs : List IV} {ρ : Slots} {st : Sto} (Inv : Nat → Slots → Sto → Prop) (h0 : Inv 0 ρ st)
    (step : ∀ i x ρ st, xs[i]? = some x → Inv i ρ st → gokB g st all = true ∧ (T x ρ st).wp ⟨fun ρ1 st1 => (B ρ1 st1).wp ⟨Inv (i + 1), D.rt, D.nx, Inv (i + 1), D.ex⟩, fun _ _ => False, fun _ _ => False, fun _ _ => False, fun _ _ _ _ => False⟩)
    (done : ∀ ρ st, Inv xs.length ρ st → gokB g st all = true ∧ D.nx ρ st) : (forL g all T B xs ρ st).wp D :=
  wp_forL Inv (n := 0) h0 (fun i x ρ st e h => by rw [Nat.zero_add] at h ⊢; exact step i x ρ st e h) (fun ρ st h => done ρ st (by rw [Nat.zero_add] at h; exact h))
theorem rngI_get {lo : Int} {n i : Nat} {x : IV} (h : (rngI lo n)[i]? = some x) : i < n ∧ x = .int (lo + i) := by
  unfold rngI at h
  rw [List.getElem?_map] at h
  cases q : (List.range n)[i]? with
  | none => rw [q] at h; cases h
  | some j =>
    rw [q] at h
    have : i < n := by have := (List.getElem?_eq_some_iff.mp q).1; simpa using this
    rw [List.getElem?_range this] at q
    cases q
    cases h
    exact ⟨this, rfl⟩
theorem rngI_len {lo : Int} {n : Nat} : (rngI lo n).length = n := by simp [rngI]
/-- a comprehension that changes nothing -/
theorem lcL_pure {g : GI} {all : List IV} {vs : List Nat} {T : ITg} {S : IT} {E : IE} {ρ : Slots} {st : Sto} (f : IV → Option IV) (hg : gokB g st all = true) : ∀ {xs : List IV} {n : Nat} {acc : List IV},
    (∀ x ∈ xs, ∃ ρ1, T x (wipeI ρ vs) st = .nx ρ1 st ∧ ((f x = none ∧ S ρ1 st = .ok false st) ∨ ∃ y, f x = some y ∧ S ρ1 st = .ok true st ∧ E ρ1 st = .ok y st)) →
    acc.length + xs.length ≤ 100000 → lcL g all vs T S E ρ xs n acc st = .ok (acc ++ xs.filterMap f) st
  | [], n, acc, _, _ => by simp [lcL, hg]
  | x :: r, n, acc, h, hl => by
    rw [List.length_cons] at hl
    have c : acc.length < 100000 := by omega
    obtain ⟨ρ1, e, k⟩ := h x List.mem_cons_self
    have ih : ∀ n acc, acc.length + r.length ≤ 100000 → lcL g all vs T S E ρ r n acc st = .ok (acc ++ r.filterMap f) st := fun n acc hl => lcL_pure f hg (fun y hy => h y (List.mem_cons_of_mem _ hy)) hl
    rcases k with ⟨k1, k2⟩ | ⟨y, k1, k2, k3⟩
    · simp only [lcL, hg, c, and_self, if_true, e, k2, R.noE, R.bind, List.filterMap_cons, k1, Bool.false_eq_true, if_false]
      exact ih _ _ (by omega)
    · simp only [lcL, hg, c, and_self, if_true, e, k2, k3, R.noE, R.bind, List.filterMap_cons, k1]
      rw [ih _ _ (by rw [List.length_append]; simp only [List.length_cons, List.length_nil]; omega), List.append_assoc]
      rfl

@[simp] theorem wp_iLc {I : IIt} {vs : List Nat} {T : ITg} {S : IT} {A : IE} {ρ : Slots} {st : Sto} {P : List IV → Sto → Prop} {E : Str → List (Str × IV) → Sto → Prop} : (iLc I vs T S A ρ st).wq P E .mk = (I ρ st).wp (fun p st => (lcL p.2 p.1 vs T S A ρ p.1 0 [] st).wp P E) E := by
  unfold iLc; simp only [R.wq, wpb, wpo]
@[simp] theorem wp_iLc2 {I I1 : IIt} {vs vs1 : List Nat} {T T1 : ITg} {S S1 : IT} {A : IE} {ρ : Slots} {st : Sto} {P : List IV → Sto → Prop} {E : Str → List (Str × IV) → Sto → Prop} : (iLc2 I vs T S I1 vs1 T1 S1 A ρ st).wq P E .mk = (I ρ st).wp (fun p st => (lcO p.2 p.1 vs T S I1 vs1 T1 S1 A ρ p.1 [] st).wp P E) E := by
  unfold iLc2; simp only [R.wq, wpb, wpo]
@[simp] theorem wp_iYes {ρ : Slots} {st : Sto} {P : Bool → Sto → Prop} {E : Str → List (Str × IV) → Sto → Prop} : (iYes ρ st).wq P E .mk = P true st := nr rfl
theorem eq_of_wp {α : Type} {r : R α} {Q : α → Sto → Prop} (h : r.wp Q nE) : ∃ a st, r = .ok a st ∧ Q a st := by
  cases r with
  | ok a st => exact ⟨a, st, rfl, h⟩
  | exc c fs st => exact h.elim
  | bad => exact h.elim
/-- a comprehension that changes nothing -/
theorem wp_lcL {g : GI} {all xs acc : List IV} {vs : List Nat} {n : Nat} {T : ITg} {S : IT} {A : IE} {ρ : Slots} {st : Sto} {P : List IV → Sto → Prop} {E : Str → List (Str × IV) → Sto → Prop} (f : IV → Option IV) (hg : gokB g st all = true)
    (h : ∀ x ∈ xs, (T x (wipeI ρ vs) st).wp ⟨fun ρ1 st1 => st1 = st ∧ (S ρ1 st).wp (fun b st2 => st2 = st ∧ (b = false ∧ f x = none ∨ b = true ∧ (A ρ1 st).wp (fun y st3 => st3 = st ∧ f x = some y) nE)) nE, fun _ _ => False, fun _ _ => False, fun _ _ => False, fun _ _ _ _ => False⟩)
    (hl : acc.length + xs.length ≤ 100000) (k : P (acc ++ xs.filterMap f) st) : (lcL g all vs T S A ρ xs n acc st).wp P E := by
  rw [lcL_pure f hg (fun x hx => ?_) hl]
  · exact k
  · have z := h x hx
    cases q : T x (wipeI ρ vs) st with
    | nx ρ1 st1 =>
      rw [q] at z
      obtain ⟨z1, z2⟩ : st1 = st ∧ _ := z
      subst z1
      obtain ⟨b, st2, e, e2, z3⟩ := eq_of_wp z2
      subst e2
      refine ⟨ρ1, rfl, ?_⟩
      rcases z3 with ⟨rfl, z3⟩ | ⟨rfl, z3⟩
      · exact .inl ⟨z3, e⟩
      · obtain ⟨y, st3, e3, e4, z4⟩ := eq_of_wp z3
        subst e4
        exact .inr ⟨y, z4, e, e3⟩
    | _ => rw [q] at z; exact z.elim
theorem in_str_S {st : Sto} {neg : Bool} {x : Str} {tk : IV} {ys : List IV} (e : asS st tk = some ys) (h : ys.all flatI = true) : gIn neg (.str x) tk st = .ok (.bl (if neg then !inI (.str x) ys else inI (.str x) ys)) st := by
  have : inB st (.str x) tk = some (inI (.str x) ys) := by
    cases tk <;> first | (cases e; done) | (simp only [inB, e, show flatI (.str x) = true from rfl, h, and_self, if_true])
  simp only [gIn, this]
end Mi
set_option Elab.async false
set_option linter.all false
set_option maxRecDepth 100000
set_option maxHeartbeats 4000000
namespace Mi
open PySem PySem.Spec PyProof.Rows L2

/-! ### lists -/
theorem atI_some {α : Type} {xs : List α} {i : Int} (h0 : 0 ≤ i) (h1 : i < xs.length) : ∃ v, atI xs i = some v ∧ xs[i.toNat]? = some v ∧ v ∈ xs := by
  have hl : i.toNat < xs.length := by omega
  refine ⟨xs[i.toNat], ?_, List.getElem?_eq_getElem hl, List.getElem_mem hl⟩
  unfold atI ixN
  rw [if_pos h0, if_pos h1]
  show xs[i.toNat]? = _
  exact List.getElem?_eq_getElem hl
theorem atI_at {α : Type} {xs : List α} {i : Nat} {v : α} (h : xs[i]? = some v) : atI xs (i : Int) = some v := by
  have hl := (List.getElem?_eq_some_iff.mp h).1
  unfold atI ixN
  rw [if_pos (by omega), if_pos (by omega)]
  show xs[(i : Int).toNat]? = _
  rw [Int.toNat_natCast]; exact h
theorem atI_last {α : Type} {xs : List α} {v : α} : atI (xs ++ [v]) (-1) = some v := by
  unfold atI ixN
  rw [if_neg (by omega), if_pos (by rw [List.length_append]; simp only [List.length_cons, List.length_nil]; omega)]
  show (xs ++ [v])[((-1 : Int) + ((xs ++ [v]).length : Nat)).toNat]? = _
  have : ((-1 : Int) + ((xs ++ [v]).length : Nat)).toNat = xs.length := by rw [List.length_append]; simp only [List.length_cons, List.length_nil]; omega
  rw [this]
  simp
theorem few_of_sub {α : Type} [DecidableEq α] : ∀ {xs ys : List α}, xs.Nodup → (∀ x ∈ xs, x ∈ ys) → xs.length ≤ ys.length
  | [], ys, _, _ => Nat.zero_le _
  | x :: xs, ys, hn, hs => by
    have hx := hs x List.mem_cons_self
    have ih := few_of_sub (xs := xs) (ys := ys.erase x) (List.nodup_cons.mp hn).2 fun y hy => by
      have ne : y ≠ x := fun z => (List.nodup_cons.mp hn).1 (z ▸ hy)
      exact (List.mem_erase_of_ne ne).mpr (hs y (List.mem_cons_of_mem _ hy))
    rw [List.length_erase_of_mem hx] at ih
    have : 0 < ys.length := List.length_pos_of_mem hx
    rw [List.length_cons]; omega

/-! ### texts -/
def okS (x : Str) : Bool := decide (x.length ≤ 100) && x.cps.toList.all fun c => decide (c < 128)
theorem okS_len {x : Str} (h : okS x = true) : x.length ≤ 100 := of_decide_eq_true (Bool.and_eq_true_iff.mp h).1
theorem okS_app {x y : Str} (hx : okS x = true) (hy : okS y = true) (hl : x.length + y.length ≤ 100) : okS (x ++ y) = true := by
  unfold okS at hx hy ⊢
  rw [Bool.and_eq_true] at hx hy ⊢
  have e : (x ++ y).cps = x.cps ++ y.cps := rfl
  refine ⟨by rw [Str.length_append]; exact decide_eq_true hl, ?_⟩
  rw [e, Array.toList_append, List.all_append, hx.2, hy.2]; rfl
theorem cut_sub {z : Str} {lo hi : Option Int} {c : Nat} (h : c ∈ (cutS z lo hi).cps.toList) : c ∈ z.cps.toList := by
  unfold cutS at h
  simp only at h
  exact List.mem_of_mem_drop (List.mem_of_mem_take h)
theorem cut_len {z : Str} {lo hi : Option Int} : (cutS z lo hi).length ≤ z.length := by
  unfold cutS Str.length
  simp only [List.size_toArray, List.length_take, List.length_drop, Array.length_toList]
  omega
theorem cut_len2 {z : Str} {k : Int} (hk : 0 ≤ k) : (cutS z none (some k)).length ≤ k.toNat := by
  unfold cutS Str.length
  simp only [List.size_toArray, List.length_take, List.length_drop, Array.length_toList, HT.sIx]
  rw [if_neg (by omega)]
  omega
theorem okS_cut {z : Str} {lo hi : Option Int} (h : okS z = true) : okS (cutS z lo hi) = true := by
  unfold okS at h ⊢
  rw [Bool.and_eq_true] at h ⊢
  refine ⟨decide_eq_true (Nat.le_trans cut_len (of_decide_eq_true h.1)), List.all_eq_true.mpr fun c hc => List.all_eq_true.mp h.2 c (cut_sub hc)⟩
theorem okS_one {c : Nat} (h : c < 128) : okS ⟨#[c]⟩ = true := by
  unfold okS
  simp [Str.length, h]
theorem strOk_of {x : Str} (h : okS x = true) : PyData.strOk x = true := by
  unfold okS at h
  rw [Bool.and_eq_true] at h
  unfold PyData.strOk
  rw [← Array.all_toList]
  refine List.all_eq_true.mpr fun c hc => ?_
  have := of_decide_eq_true (List.all_eq_true.mp h.2 c hc)
  exact decide_eq_true (by omega)

/-! ### plain data, at most n deep -/
def okV : Nat → IV → Bool
  | _, .non => true
  | _, .bl _ => true
  | _, .int _ => true
  | _, .str x => okS x
  | n + 1, .tup xs => xs.all (okV n)
  | n + 1, .lst xs => xs.all (okV n)
  | _, _ => false
theorem okV_up : ∀ {n m : Nat} {x : IV}, n ≤ m → okV n x = true → okV m x = true := by
  intro n
  induction n with
  | zero =>
    intro m x _ h
    cases x <;> first | rfl | (simp only [okV] at h ⊢; exact h) | (cases m <;> simp_all [okV])
  | succ n ih =>
    intro m x hm h
    cases m with
    | zero => omega
    | succ m =>
      cases x with
      | tup xs => simp only [okV] at h ⊢; exact List.all_eq_true.mpr fun y hy => ih (by omega) (List.all_eq_true.mp h y hy)
      | lst xs => simp only [okV] at h ⊢; exact List.all_eq_true.mpr fun y hy => ih (by omega) (List.all_eq_true.mp h y hy)
      | _ => simp only [okV] at h ⊢ <;> exact h
structure Dat (n : Nat) (d : PyData) : Prop where
  lay : d.canLay0 = true
  dep : d.depth ≤ n
  self : PyData.eqv d d = true
structure Dats (n : Nat) (ds : List PyData) : Prop where
  lay : PyData.canLayAll0 ds = true
  dep : PyData.depthAll ds ≤ n
  self : PyData.eqvAll ds ds = true
theorem dats_list {n : Nat} {ds : List PyData} (h : Dats n ds) : Dat (n + 1) (.list ds) :=
  ⟨by rw [PyData.canLay0]; exact h.lay, by rw [PyData.depth]; exact Nat.succ_le_succ h.dep, by rw [PyData.eqv]; exact h.self⟩
theorem dats_tuple {n : Nat} {ds : List PyData} (h : Dats n ds) : Dat (n + 1) (.tuple ds) :=
  ⟨by rw [PyData.canLay0]; exact h.lay, by rw [PyData.depth]; exact Nat.succ_le_succ h.dep, by rw [PyData.eqv]; exact h.self⟩
theorem okVs_dat {n : Nat} (ih : ∀ x, okV n x = true → ∃ d, toD0 x = some d ∧ Dat n d) : ∀ {xs : List IV}, xs.all (okV n) = true → ∃ ds, toD0s xs = some ds ∧ Dats n ds ∧ ds.length = xs.length
  | [], _ => ⟨[], by simp only [toD0s], ⟨by rw [PyData.canLayAll0], by rw [PyData.depthAll]; exact Nat.zero_le _, by rw [PyData.eqvAll]⟩, rfl⟩
  | x :: xs, h => by
    rw [List.all_cons, Bool.and_eq_true] at h
    obtain ⟨d, e, D⟩ := ih x h.1
    obtain ⟨ds, e2, D2, l⟩ := okVs_dat ih h.2
    refine ⟨d :: ds, by simp only [toD0s, e, e2, Option.bind_some, Option.map_some], ⟨by rw [PyData.canLayAll0, D.lay, D2.lay]; rfl, by rw [PyData.depthAll]; exact Nat.max_le.mpr ⟨D.dep, D2.dep⟩, by rw [PyData.eqvAll, D.self, D2.self]; rfl⟩, by rw [List.length_cons, List.length_cons, l]⟩
theorem okV_dat : ∀ (n : Nat) (x : IV), okV n x = true → ∃ d, toD0 x = some d ∧ Dat n d := by
  intro n
  induction n with
  | zero =>
    intro x h
    cases x with
    | non => exact ⟨.none, by simp only [toD0], by rw [PyData.canLay0], by rw [PyData.depth]; exact Nat.le_refl _, by rw [PyData.eqv]⟩
    | bl b => exact ⟨.bool b, by simp only [toD0], by rw [PyData.canLay0], by rw [PyData.depth]; exact Nat.le_refl _, by rw [PyData.eqv]; simp⟩
    | int b => exact ⟨.int b, by simp only [toD0], by rw [PyData.canLay0], by rw [PyData.depth]; exact Nat.le_refl _, by rw [PyData.eqv]; simp⟩
    | str b => exact ⟨.str b, by simp only [toD0], by rw [PyData.canLay0]; exact strOk_of (by simpa only [okV] using h), by rw [PyData.depth]; exact Nat.le_refl _, by rw [PyData.eqv]; simp⟩
    | _ => cases h
  | succ n ih =>
    intro x h
    cases x with
    | non => exact ⟨.none, by simp only [toD0], by rw [PyData.canLay0], by rw [PyData.depth]; exact Nat.zero_le _, by rw [PyData.eqv]⟩
    | bl b => exact ⟨.bool b, by simp only [toD0], by rw [PyData.canLay0], by rw [PyData.depth]; exact Nat.zero_le _, by rw [PyData.eqv]; simp⟩
    | int b => exact ⟨.int b, by simp only [toD0], by rw [PyData.canLay0], by rw [PyData.depth]; exact Nat.zero_le _, by rw [PyData.eqv]; simp⟩
    | str b => exact ⟨.str b, by simp only [toD0], by rw [PyData.canLay0]; exact strOk_of (by simpa only [okV] using h), by rw [PyData.depth]; exact Nat.zero_le _, by rw [PyData.eqv]; simp⟩
    | tup xs =>
      obtain ⟨ds, e, D, _⟩ := okVs_dat ih (by simpa only [okV] using h)
      exact ⟨.tuple ds, by simp only [toD0, e, Option.map_some], dats_tuple D⟩
    | lst xs =>
      obtain ⟨ds, e, D, _⟩ := okVs_dat ih (by simpa only [okV] using h)
      exact ⟨.list ds, by simp only [toD0, e, Option.map_some], dats_list D⟩
    | _ => cases h
theorem toD_eq {n : Nat} {st : Sto} {x : IV} (h : okV n x = true) : toD st x = toD0 x := by cases x <;> first | rfl | (cases n <;> cases h)
theorem shaped_of {n : Nat} {d : PyData} (D : Dat n d) (hn : n ≤ 60) : SeqAt.shaped d = true := by
  unfold SeqAt.shaped
  rw [D.lay, Bool.true_and]
  exact decide_eq_true (Nat.le_trans D.dep (by omega))
theorem eqB_self {n : Nat} {st : Sto} {x : IV} (h : okV n x = true) (hn : n ≤ 60) : eqB st x x = some true := by
  obtain ⟨d, e, D⟩ := okV_dat n x h
  unfold eqB
  split
  · simp
  · simp
  · rw [toD_eq h, e]
    simp [shaped_of D hn, D.self]
theorem ne_self {n : Nat} {st : Sto} {x : IV} (h : okV n x = true) (hn : n ≤ 60) : gNe x x st = .ok (.bl false) st := by
  unfold gNe
  rw [eqB_self h hn]; rfl
theorem eq_self {n : Nat} {st : Sto} {x : IV} (h : okV n x = true) (hn : n ≤ 60) : gEq x x st = .ok (.bl true) st := by
  unfold gEq
  rw [eqB_self h hn]
/-- xs != [] -/
theorem ne_nil_ref {n : Nat} {st : Sto} {l : Nat} {xs : List IV} (e : st[l]? = some (.lst xs)) (h : xs.all (okV n) = true) (hn : n < 60) : gNe (.ref l) (.lst []) st = .ok (.bl (!xs.isEmpty)) st := by
  obtain ⟨ds, e2, D, hl⟩ := okVs_dat (okV_dat n) h
  unfold gNe eqB
  have e1 : toD st (.ref l) = some (.list ds) := by simp only [toD, e, e2, Option.map_some]
  have e3 : toD st (.lst []) = some (.list []) := by simp only [toD, toD0, toD0s, Option.map_some]
  simp only [e1, e3, shaped_of (dats_list D) (show n + 1 ≤ 60 by omega), show SeqAt.shaped (.list []) = true by decide]
  cases xs with
  | nil =>
    have : ds = [] := List.eq_nil_of_length_eq_zero hl
    subst this
    rfl
  | cons x xs =>
    cases ds with
    | nil => simp at hl
    | cons d ds => simp [PyData.eqv, PyData.eqvAll]
theorem ne_nil_lst {n : Nat} {st : Sto} {xs : List IV} (h : xs.all (okV n) = true) (hn : n < 60) : gNe (.lst xs) (.lst []) st = .ok (.bl (!xs.isEmpty)) st := by
  obtain ⟨ds, e2, D, hl⟩ := okVs_dat (okV_dat n) h
  unfold gNe eqB
  have e1 : toD st (.lst xs) = some (.list ds) := by simp only [toD, toD0, e2, Option.map_some]
  have e3 : toD st (.lst []) = some (.list []) := by simp only [toD, toD0, toD0s, Option.map_some]
  simp only [e1, e3, shaped_of (dats_list D) (show n + 1 ≤ 60 by omega), show SeqAt.shaped (.list []) = true by decide]
  cases xs with
  | nil =>
    have : ds = [] := List.eq_nil_of_length_eq_zero hl
    subst this
    rfl
  | cons x xs =>
    cases ds with
    | nil => simp at hl
    | cons d ds => simp [PyData.eqv, PyData.eqvAll]
/-! isinstance -/
def tyOf : IV → String
  | .non => "NoneType"
  | .bl _ => "bool"
  | .int _ => "int"
  | .str _ => "str"
  | .tup _ => "tuple"
  | .lst _ => "list"
  | _ => "?"
theorem tyName_ok {n : Nat} {st : Sto} {x : IV} (h : okV n x = true) : tyName st x = some (tyOf x) := by cases x <;> first | rfl | (cases n <;> cases h)
theorem isi_ok {n : Nat} {st : Sto} {x : IV} {b : String} (h : okV n x = true) (hb : b ∈ askT) : gIsi [x, .ty b] st = .ok (.bl (isSubB (tyOf x) b)) st := by
  simp only [gIsi, tyName_ok h, hb, if_true]
@[simp] theorem isi_str {st : Sto} {x : Str} {b : String} {P : IV → Sto → Prop} {E : Str → List (Str × IV) → Sto → Prop} : (gIsi [.str x, .ty b] st).wq P E .mk = (b ∈ askT ∧ P (.bl (isSubB "str" b)) st) := by
  simp only [gIsi, tyName]; split <;> simp [*]
@[simp] theorem isi_int {st : Sto} {x : Int} {b : String} {P : IV → Sto → Prop} {E : Str → List (Str × IV) → Sto → Prop} : (gIsi [.int x, .ty b] st).wq P E .mk = (b ∈ askT ∧ P (.bl (isSubB "int" b)) st) := by
  simp only [gIsi, tyName]; split <;> simp [*]
@[simp] theorem isi_bl {st : Sto} {x : Bool} {b : String} {P : IV → Sto → Prop} {E : Str → List (Str × IV) → Sto → Prop} : (gIsi [.bl x, .ty b] st).wq P E .mk = (b ∈ askT ∧ P (.bl (isSubB "bool" b)) st) := by
  simp only [gIsi, tyName]; split <;> simp [*]
@[simp] theorem isi_non {st : Sto} {b : String} {P : IV → Sto → Prop} {E : Str → List (Str × IV) → Sto → Prop} : (gIsi [.non, .ty b] st).wq P E .mk = (b ∈ askT ∧ P (.bl (isSubB "NoneType" b)) st) := by
  simp only [gIsi, tyName]; split <;> simp [*]
@[simp] theorem isi_tup {st : Sto} {x : List IV} {b : String} {P : IV → Sto → Prop} {E : Str → List (Str × IV) → Sto → Prop} : (gIsi [.tup x, .ty b] st).wq P E .mk = (b ∈ askT ∧ P (.bl (isSubB "tuple" b)) st) := by
  simp only [gIsi, tyName]; split <;> simp [*]
@[simp] theorem isi_lst {st : Sto} {x : List IV} {b : String} {P : IV → Sto → Prop} {E : Str → List (Str × IV) → Sto → Prop} : (gIsi [.lst x, .ty b] st).wq P E .mk = (b ∈ askT ∧ P (.bl (isSubB "list" b)) st) := by
  simp only [gIsi, tyName]; split <;> simp [*]
/-! in -/
theorem in_str_lst {st : Sto} {neg : Bool} {x : Str} {ys : List IV} (h : ys.all flatI = true) : gIn neg (.str x) (.lst ys) st = .ok (.bl (if neg then !inI (.str x) ys else inI (.str x) ys)) st := by
  simp only [gIn, inB, asS_lst, show flatI (.str x) = true from rfl, h, and_self, if_true]
theorem in_str_tup {st : Sto} {neg : Bool} {x : Str} {ys : List IV} (h : ys.all flatI = true) : gIn neg (.str x) (.tup ys) st = .ok (.bl (if neg then !inI (.str x) ys else inI (.str x) ys)) st := by
  simp only [gIn, inB, asS_tup, show flatI (.str x) = true from rfl, h, and_self, if_true]
theorem in_str_ref {st : Sto} {neg : Bool} {x : Str} {l : Nat} {ys : List IV} (e : st[l]? = some (.lst ys)) (h : ys.all flatI = true) : gIn neg (.str x) (.ref l) st = .ok (.bl (if neg then !inI (.str x) ys else inI (.str x) ys)) st := by
  simp only [gIn, inB, asS_ref e, show flatI (.str x) = true from rfl, h, and_self, if_true]
theorem in_sign {st : Sto} {neg : Bool} {c : Nat} {z : Str} : gIn neg (.str ⟨#[c]⟩) (.str z) st = .ok (.bl (if neg then !decide (c ∈ z.cps.toList) else decide (c ∈ z.cps.toList))) st := rfl
theorem inI_str {x : Str} {ys : List IV} : inI (.str x) ys = true ↔ IV.str x ∈ ys := by
  unfold inI
  rw [List.any_eq_true]
  constructor
  · rintro ⟨y, hy, e⟩
    cases y <;> simp only [eqI, Bool.false_eq_true] at e
    rename_i z
    have : z = x := by simpa using e
    rw [← this]; exact hy
  · intro h
    exact ⟨_, h, by simp [eqI]⟩
end Mi
set_option Elab.async false
set_option linter.all false
set_option maxRecDepth 100000
set_option maxHeartbeats 4000000
namespace Mi
open PySem PySem.Spec PyProof.Rows L2
section
variable {α β : Type} {P : IV → Sto → Prop} {E : Str → List (Str × IV) → Sto → Prop} {D : Post} {st : Sto} {ρ : Slots}
theorem wpsb {r : R α} {k : α → Sto → RS} : (RS.ofR r ρ k).wp D = r.wp (fun a st => (k a st).wp D) (fun c fs st => D.ex c fs ρ st) := by cases r <;> rfl
@[simp] theorem wps_iRaise {c f : Str} {A : IE} : (iRaise c f A ρ st).wq D .mk = (A ρ st).wp (fun v st => D.ex c [(f, v)] ρ st) (fun c fs st => D.ex c fs ρ st) := by unfold iRaise; exact wps_ofR
@[simp] theorem wps_iSetOwn {i : Nat} {As : IA} : (iSetOwn i As ρ st).wq D .mk = (As ρ st).wp (fun xs st => i < ρ.length ∧ D.nx (ρ.set i (some (.own xs))) st) (fun c fs st => D.ex c fs ρ st) := by
  unfold iSetOwn; simp only [RS.wq, wpsb]; congr 1; funext xs st; split <;> simp [*, RS.wp]
@[simp] theorem wps_iOwnApp {i : Nat} {A : IE} : (iOwnApp i A ρ st).wq D .mk = match ownAt ρ i with | some xs => (A ρ st).wp (fun y st => xs.length < 100000 ∧ D.nx (ρ.set i (some (.own (xs ++ [y])))) st) (fun c fs st => D.ex c fs ρ st) | none => False := by
  unfold iOwnApp
  cases ownAt ρ i with
  | none => rfl
  | some xs => simp only [RS.wq, wpsb]; congr 1; funext y st; split <;> simp [*, RS.wp]
@[simp] theorem wps_iRetOwn {i : Nat} : (iRetOwn i ρ st).wq D .mk = match ownAt ρ i with | some xs => D.rt (.lst xs) st | none => False := by
  unfold iRetOwn; cases ownAt ρ i <;> rfl
@[simp] theorem wp_iOwnTup {i : Nat} : (iOwnTup i ρ st).wq P E .mk = match ownAt ρ i with | some xs => P (.tup xs) st | none => False := by
  unfold iOwnTup; cases ownAt ρ i <;> rfl
@[simp] theorem wp_iOwnLen {i : Nat} : (iOwnLen i ρ st).wq P E .mk = match ownAt ρ i with | some xs => P (.int xs.length) st | none => False := by
  unfold iOwnLen; cases ownAt ρ i <;> rfl
@[simp] theorem wp_iOwnIn {i : Nat} {neg : Bool} {A : IE} : (iOwnIn neg A i ρ st).wq P E .mk = match ownAt ρ i with | some xs => (A ρ st).wp (fun y st => (flatI y = true ∧ xs.all flatI = true) ∧ P (.bl (if neg then !inI y xs else inI y xs)) st) E | none => False := by
  unfold iOwnIn
  cases ownAt ρ i with
  | none => rfl
  | some xs =>
    simp only [R.wq, wpb]; congr 1; funext y st
    by_cases h : flatI y = true ∧ xs.all flatI = true
    · rw [if_pos h]; exact (propext ⟨fun z => ⟨h, z⟩, fun z => z.2⟩)
    · rw [if_neg h]; exact (propext ⟨fun z => z.elim, fun z => (h z.1).elim⟩)
@[simp] theorem wp_iOwnIx {i : Nat} {B : IE} : (iOwnIx i B ρ st).wq P E .mk = match ownAt ρ i with | some xs => (B ρ st).wp (fun y st => match y with | .int k => (match atI xs k with | some v => P v st | none => False) | _ => False) E | none => False := by
  unfold iOwnIx
  cases ownAt ρ i with
  | none => rfl
  | some xs =>
    simp only [R.wq, wpb]; congr 1; funext y st
    cases y with
    | int k => simp only; cases atI xs k <;> rfl
    | _ => rfl
@[simp] theorem wp_iMake {c : Str} {F : Fn} {As : IA} : (iMake c F As ρ st).wq P E .mk = (As ρ st).wp (fun args st => (F (.ref st.length :: args) (st ++ [.ins c []])).wp (fun v st' => v = .non ∧ P (.ref st.length) st') E) E := by
  unfold iMake
  simp only [R.wq, wpb]; congr 1; funext args s1; congr 1; funext v s2
  cases v <;> simp [R.wp]
@[simp] theorem wp_iMeth {c m : Str} {F : Fn} {A : IE} {As : IA} : (iMeth c m F A As ρ st).wq P E .mk = (A ρ st).wp (fun x st => match insAt st [c] x with
  | some (_, _, fs) => (fs.lookup m).isNone = true ∧ (As ρ st).wp (fun args st => (F (x :: args) st).wp P E) E
  | none => False) E := by
  unfold iMeth
  simp only [R.wq, wpb]; congr 1; funext x s1
  cases insAt s1 [c] x with
  | none => rfl
  | some p => simp only; split <;> simp [*, wpb, R.wp]
@[simp] theorem wp_iFld {cs : List Str} {f : Str} {A : IE} : (iFld cs f A ρ st).wq P E .mk = (A ρ st).wp (fun x st => match insAt st cs x with
  | some (_, _, fs) => (match fs.lookup f with | some v => P v st | none => False)
  | none => False) E := by
  unfold iFld
  simp only [R.wq, wpb]; congr 1; funext x s1
  cases insAt s1 cs x with
  | none => rfl
  | some p => simp only; cases p.2.2.lookup f <;> rfl
@[simp] theorem wps_iStFld {cs : List Str} {f : Str} {A B : IE} : (iStFld cs f A B ρ st).wq D .mk = (B ρ st).wp (fun y st => (A ρ st).wp (fun x st => match insAt st cs x with
  | some (l, c, fs) => fs.length < 1000 ∧ D.nx ρ (st.set l (.ins c (putI f y fs)))
  | none => False) (fun c fs st => D.ex c fs ρ st)) (fun c fs st => D.ex c fs ρ st) := by
  unfold iStFld
  simp only [RS.wq, wpsb, wpb]; congr 1; funext y s1; congr 1; funext x s2
  cases insAt s2 cs x with
  | none => rfl
  | some p => simp only; split <;> simp [*, R.wp, RS.wp]
theorem insAt_ref {l : Nat} {c : Str} {fs : List (Str × IV)} {cs : List Str} (h : st[l]? = some (.ins c fs)) (hc : c ∈ cs) : insAt st cs (.ref l) = some (l, c, fs) := by
  simp only [insAt, h, hc, if_true]
theorem hEnd_wp {i l : Nat} {r : RS} : (hEnd i l r).wp D = r.wp ⟨fun ρ st => D.nx (noExn (ρ.set i none)) (st.set l .dead), fun v st => D.rt v (st.set l .dead), fun ρ st => D.bk (noExn (ρ.set i none)) (st.set l .dead), fun ρ st => D.ct (noExn (ρ.set i none)) (st.set l .dead), fun _ _ _ _ => False⟩ := by
  cases r <;> rfl
@[simp] theorem wps_iTryAs {i : Nat} {M : Str → Option Bool} {B J : IS} : (iTryAs i M B J ρ st).wq D .mk = (B ρ st).wp { D with ex := fun c fs ρ1 st1 => match M c with
  | some true => (fs.isEmpty = false ∧ i < ρ1.length) ∧ (J ((noExn ρ1).set i (some (.exn st1.length))) (st1 ++ [.xd fs])).wp ⟨fun ρ st => D.nx (noExn (ρ.set i none)) (st.set st1.length .dead), fun v st => D.rt v (st.set st1.length .dead), fun ρ st => D.bk (noExn (ρ.set i none)) (st.set st1.length .dead), fun ρ st => D.ct (noExn (ρ.set i none)) (st.set st1.length .dead), fun _ _ _ _ => False⟩
  | some false => D.ex c fs ρ1 st1
  | none => False } := by
  unfold iTryAs RS.wq
  cases B ρ st with
  | exc c fs ρ1 st1 =>
    simp only
    show RS.wp _ _ = (match M c with | some true => _ | some false => _ | none => _ : Prop)
    cases M c with
    | none => rfl
    | some b =>
      cases b with
      | false => rfl
      | true =>
        simp only
        by_cases h : fs.isEmpty = true ∨ ¬ i < ρ1.length
        · rw [if_pos h]
          rcases h with h | h
          · simp [h, RS.wp]
          · simp [h, RS.wp]
        · rw [if_neg h, hEnd_wp]
          have h1 : fs.isEmpty = false := by cases q : fs.isEmpty with | false => rfl | true => exact absurd (.inl q) h
          have h2 : i < ρ1.length := Classical.byContradiction fun z => h (.inr z)
          simp [h1, h2]
  | _ => rfl
@[simp] theorem wp_iExf {i : Nat} {f : Str} : (iExf i f ρ st).wq P E .mk = match ρ[i]? with
  | some (some (.exn l)) => (match st[l]? with
    | some (.xd fs) => (match fs.lookup f with | some v => P v st | none => False)
    | _ => False)
  | _ => False := by
  unfold iExf
  cases ρ[i]? with
  | none => rfl
  | some o => cases o with
    | none => rfl
    | some s => cases s with
      | exn l =>
        simp only
        cases st[l]? with
        | none => rfl
        | some o => cases o with
          | xd fs => simp only; cases fs.lookup f <;> rfl
          | _ => rfl
      | _ => rfl
@[simp] theorem at0 {α : Type} {a : α} {r : List α} : atI (a :: r) 0 = some a := by
  unfold atI ixN
  rw [if_pos (by omega), if_pos (by rw [List.length_cons]; omega)]; rfl
@[simp] theorem at1 {α : Type} {a b : α} {r : List α} : atI (a :: b :: r) 1 = some b := by
  unfold atI ixN
  rw [if_pos (by omega), if_pos (by rw [List.length_cons, List.length_cons]; omega)]; rfl
theorem cut_ref {l : Nat} {xs : List IV} {lo hi : Option Int} (h : st[l]? = some (.lst xs)) : gCut (.ref l) lo hi st = .ok (.lst (cutI xs lo hi)) st := by
  simp [gCut, asL, h]
@[simp] theorem cut_l {xs : List IV} {lo hi : Option Int} : gCut (.lst xs) lo hi st = .ok (.lst (cutI xs lo hi)) st := nr rfl
@[simp] theorem cut_t {xs : List IV} {lo hi : Option Int} : gCut (.tup xs) lo hi st = .ok (.tup (cutI xs lo hi)) st := nr rfl
@[simp] theorem cut_s {x : Str} {lo hi : Option Int} : (gCut (.str x) lo hi st).wq P E .mk = (x.length ≤ 100000 ∧ P (.str (cutS x lo hi)) st) := by
  show R.wp (if _ then .ok _ _ else .bad) P E = _
  split <;> simp [*, R.wp]
theorem cutI_take {α : Type} {xs : List α} {k : Nat} (h : k ≤ xs.length) : cutI xs none (some (k : Int)) = xs.take k := by
  unfold cutI
  have e : HT.sIx xs.length 0 none = 0 := rfl
  have e2 : HT.sIx xs.length xs.length (some (k : Int)) = k := by
    simp only [HT.sIx]
    rw [if_neg (by omega)]; omega
  rw [e, e2, List.drop_zero, Nat.sub_zero]
end
/-- two clauses that change nothing -/
theorem lcO_pure {g : GI} {all : List IV} {vs vs1 : List Nat} {T T1 : ITg} {S S1 : IT} {I1 : IIt} {E : IE} {ρ : Slots} {st : Sto} (F : IV → List IV) (hg : gokB g st all = true) : ∀ {xs acc : List IV},
    (∀ x ∈ xs, ∃ ρ1 p, T x (wipeI ρ vs) st = .nx ρ1 st ∧ S ρ1 st = .ok true st ∧ I1 ρ1 st = .ok p st ∧ ∀ acc : List IV, acc.length + (F x).length ≤ 100000 → lcL p.2 p.1 vs1 T1 S1 E ρ1 p.1 0 acc st = .ok (acc ++ F x) st) →
    acc.length + (xs.flatMap F).length ≤ 100000 → lcO g all vs T S I1 vs1 T1 S1 E ρ xs acc st = .ok (acc ++ xs.flatMap F) st
  | [], acc, _, _ => by simp [lcO, hg]
  | x :: r, acc, h, hl => by
    rw [List.flatMap_cons, List.length_append] at hl
    obtain ⟨ρ1, p, e1, e2, e3, e4⟩ := h x List.mem_cons_self
    have ih := lcO_pure (g := g) (all := all) (vs := vs) (T := T) (S := S) (I1 := I1) (vs1 := vs1) (T1 := T1) (S1 := S1) (E := E) (ρ := ρ) F hg (xs := r) (acc := acc ++ F x) (fun y hy => h y (List.mem_cons_of_mem _ hy)) (by rw [List.length_append]; omega)
    rw [List.flatMap_cons, ← List.append_assoc, ← ih]
    simp only [lcO, hg, if_true, e1, e2, e3, R.noE, R.bind]
    rw [e4 acc (by omega)]
theorem wp_lcO {g : GI} {all xs acc : List IV} {vs vs1 : List Nat} {T T1 : ITg} {S S1 : IT} {I1 : IIt} {A : IE} {ρ : Slots} {st : Sto} {P : List IV → Sto → Prop} {E : Str → List (Str × IV) → Sto → Prop} (F : IV → List IV) (hg : gokB g st all = true)
    (h : ∀ x ∈ xs, ∃ ρ1 p, T x (wipeI ρ vs) st = .nx ρ1 st ∧ S ρ1 st = .ok true st ∧ I1 ρ1 st = .ok p st ∧ ∀ acc : List IV, acc.length + (F x).length ≤ 100000 → lcL p.2 p.1 vs1 T1 S1 A ρ1 p.1 0 acc st = .ok (acc ++ F x) st)
    (hl : acc.length + (xs.flatMap F).length ≤ 100000) (k : P (acc ++ xs.flatMap F) st) : (lcO g all vs T S I1 vs1 T1 S1 A ρ xs acc st).wp P E := by
  rw [lcO_pure F hg h hl]; exact k
theorem wp_lcO' {g : GI} {all xs acc : List IV} {vs vs1 : List Nat} {T T1 : ITg} {S S1 : IT} {I1 : IIt} {A : IE} {ρ : Slots} {st : Sto} {P : List IV → Sto → Prop} {E : Str → List (Str × IV) → Sto → Prop} (F : IV → List IV) (hg : gokB g st all = true)
    (h : ∀ x ∈ xs, (T x (wipeI ρ vs) st).wp ⟨fun ρ1 st1 => st1 = st ∧ (S ρ1 st).wp (fun b st2 => b = true ∧ st2 = st ∧ (I1 ρ1 st).wp (fun p st3 => st3 = st ∧ ∀ acc : List IV, acc.length + (F x).length ≤ 100000 → (lcL p.2 p.1 vs1 T1 S1 A ρ1 p.1 0 acc st).wp (fun ys st4 => st4 = st ∧ ys = acc ++ F x) nE) nE) nE,
      fun _ _ => False, fun _ _ => False, fun _ _ => False, fun _ _ _ _ => False⟩)
    (hl : acc.length + (xs.flatMap F).length ≤ 100000) (k : P (acc ++ xs.flatMap F) st) : (lcO g all vs T S I1 vs1 T1 S1 A ρ xs acc st).wp P E := by
  refine wp_lcO F hg (fun x hx => ?_) hl k
  have z := h x hx
  cases q : T x (wipeI ρ vs) st with
  | nx ρ1 st1 =>
    rw [q] at z
    obtain ⟨z1, z2⟩ : st1 = st ∧ _ := z
    subst z1
    obtain ⟨b, st2, e, e1, e2, z3⟩ := eq_of_wp z2
    subst e1 e2
    obtain ⟨p, st3, e3, e4, z4⟩ := eq_of_wp z3
    subst e4
    refine ⟨ρ1, p, rfl, e, e3, fun acc ha => ?_⟩
    obtain ⟨ys, st4, e5, e6, e7⟩ := eq_of_wp (z4 acc ha)
    subst e6 e7
    exact e5
  | _ => rw [q] at z; exact z.elim
end Mi
set_option Elab.async false
set_option linter.all false
set_option maxRecDepth 100000
set_option maxHeartbeats 4000000
namespace Mi
open PySem PySem.Spec PyProof.Rows L2
section
variable {P : IV → Sto → Prop} {E : Str → List (Str × IV) → Sto → Prop} {D : Post} {st : Sto} {ρ : Slots}
@[simp] theorem wps_iPar3 {i j l : Nat} {As : IA} : (iPar3 i j l As ρ st).wq D .mk = (As ρ st).wp (fun xs st => match xs with | [x, y, z] => D.nx (((ρ.set i (some (.v x))).set j (some (.v y))).set l (some (.v z))) st | _ => False) (fun c fs st => D.ex c fs ρ st) := by
  unfold iPar3; simp only [RS.wq, wpsb]; congr 1; funext xs st
  match xs with
  | [] => rfl
  | [_] => rfl
  | [_, _] => rfl
  | [_, _, _] => rfl
  | _ :: _ :: _ :: _ :: _ => rfl
@[simp] theorem wp_iFmt {A : IE} : (iFmt A ρ st).wq P E .mk = (A ρ st).wp (fun x st => match x with
  | .str y => y.length ≤ 100000 ∧ P (.str y) st
  | .int i => i.natAbs ≤ 10000000000000000000000000000000000000000000000000000000000000000 ∧ P (.str (toString i : String)) st
  | _ => False) E := by
  unfold iFmt; simp only [R.wq, wpb]; congr 1; funext x s1
  cases x with
  | str y => simp only; split <;> simp [*, R.wp]
  | int y => simp only; split <;> simp [*, R.wp]
  | _ => rfl
@[simp] theorem wp_iJs0 {acc : Str} : (iJs [] acc ρ st).wq P E .mk = P (.str acc) st := nr rfl
@[simp] theorem wp_iJs1 {A : IE} {As : List IE} {acc : Str} : (iJs (A :: As) acc ρ st).wq P E .mk = (A ρ st).wp (fun x st => match x with
  | .str y => (acc ++ y).length ≤ 100000 ∧ (iJs As (acc ++ y) ρ st).wp P E
  | _ => False) E := by
  rw [iJs]; simp only [R.wq, wpb]; congr 1; funext x s1
  cases x with
  | str y => simp only; split <;> simp [*, R.wp]
  | _ => rfl
@[simp] theorem wp_iSm {g : IV → List IV → Sto → R IV} {A : IE} {As : IA} : (iSm g A As ρ st).wq P E .mk = (A ρ st).wp (fun x st => match x with
  | .str y => (As ρ st).wp (fun xs st => (g (.str y) xs st).wp P E) E
  | _ => False) E := by
  unfold iSm; simp only [R.wq, wpb]; congr 1; funext x s1
  cases x with
  | str y => simp only [wpb]
  | _ => rfl
theorem strsOf_map : ∀ (ys : List Str), strsOf (ys.map IV.str) = some ys
  | [] => rfl
  | y :: ys => by rw [List.map_cons, strsOf, strsOf_map ys]; rfl
theorem join_l {a : Str} {ys : List Str} (h : (ys.map (·.length)).sum + ys.length * a.length ≤ 100000) : gJoin (.str a) [.lst (ys.map IV.str)] st = .ok (.str (Txt.join a ys)) st := by
  simp only [gJoin, asS_lst, Option.bind_some, strsOf_map, h, if_true]
@[simp] theorem en_zip_l {xs ys : List IV} : gZip [.lst xs, .lst ys] st = .ok (zipI xs ys, none) st := nr rfl
@[simp] theorem en_zip_t {xs ys : List IV} : gZip [.tup xs, .tup ys] st = .ok (zipI xs ys, none) st := nr rfl
@[simp] theorem wp_iIsC {L : List (Str × Bool)} {A : IE} : (iIsC L A ρ st).wq P E .mk = (A ρ st).wp (fun x st => match tyName st x with
  | some _ => P (.bl false) st
  | none => match (clsOf st x).bind fun c => L.lookup c with
    | some b => P (.bl b) st
    | none => False) E := by
  unfold iIsC; simp only [R.wq, wpb]; congr 1; funext x s1
  cases tyName s1 x with
  | some t => rfl
  | none =>
    simp only
    cases (clsOf s1 x).bind fun c => L.lookup c <;> rfl
theorem quiet_wp {r : R IV} {Q : IV → Sto → Prop} (h : r.wp Q nE) : (quiet r).wp Q E := by
  cases r with
  | ok a st => exact h
  | exc c fs st => exact h.elim
  | bad => exact h.elim
/-- own protocols, by what the method gives -/
theorem wp_has {neg : Bool} {c : Str} {F : Fn} {x y : IV} {p : Nat × Str × List (Str × IV)} (e : insAt st [c] y = some p) (h : (F [y, x] st).wp (fun v st' => ∃ b, v = .bl b ∧ P (.bl (neg != b)) st') nE) : (gOwnHas neg c F x y st).wp P E := by
  unfold gOwnHas
  rw [e]
  simp only [wpb]
  refine quiet_wp (wp_mono h fun v s1 z => ?_)
  obtain ⟨b, rfl, z⟩ := z
  exact z
theorem wp_own_eq {neg : Bool} {c : Str} {F : Fn} {x y : IV} {p : Nat × Str × List (Str × IV)} (e : insAt st [c] x = some p) (hy : (insAt st [c] y).isSome = true ∨ (tyName st y).isSome = true) (h : (F [x, y] st).wp (fun v st' => ∃ b, v = .bl b ∧ P (.bl (neg != b)) st') nE) : (gOwnEq neg c F x y st).wp P E := by
  unfold gOwnEq
  rw [e]
  simp only [if_pos hy, wpb]
  refine quiet_wp (wp_mono h fun v s1 z => ?_)
  obtain ⟨b, rfl, z⟩ := z
  exact z
theorem wp_own_len {c : Str} {F : Fn} {x : IV} {p : Nat × Str × List (Str × IV)} (e : insAt st [c] x = some p) (h : (F [x] st).wp (fun v st' => ∃ n : Int, v = .int n ∧ (0 ≤ n ∧ n < 9223372036854775808) ∧ P (.int n) st') nE) : (gOwnLenO c F [x] st).wp P E := by
  unfold gOwnLenO
  simp only [e, wpb]
  refine quiet_wp (wp_mono h fun v s1 z => ?_)
  obtain ⟨n, rfl, hn, z⟩ := z
  simp only [if_pos hn]
  exact z
theorem wp_own_str {c : Str} {F : Fn} {x : IV} {p : Nat × Str × List (Str × IV)} (e : insAt st [c] x = some p) (h : (F [x] st).wp (fun v st' => ∃ z : Str, v = .str z ∧ P (.str z) st') nE) : (gOwnStr c F [x] st).wp P E := by
  unfold gOwnStr
  simp only [e, wpb]
  refine quiet_wp (wp_mono h fun v s1 z => ?_)
  obtain ⟨n, rfl, z⟩ := z
  exact z
end
end Mi
set_option Elab.async false
set_option linter.all false
set_option maxRecDepth 100000
set_option maxHeartbeats 4000000
namespace Mi
open PySem PySem.Spec PyProof.Rows L2
/-! ### == of plain data -/
mutual
def pE : IV → IV → Bool
  | .non, .non => true
  | .bl a, .bl b => a == b
  | .bl a, .int j => (if a then 1 else 0) == j
  | .int i, .bl b => i == (if b then 1 else 0)
  | .int i, .int j => i == j
  | .str x, .str y => x == y
  | .lst xs, .lst ys => pEs xs ys
  | .tup xs, .tup ys => pEs xs ys
  | _, _ => false
def pEs : List IV → List IV → Bool
  | [], [] => true
  | x :: xs, y :: ys => pE x y && pEs xs ys
  | _, _ => false
end
mutual
theorem eqv_pE : ∀ (x y : IV) (d e : PyData), toD0 x = some d → toD0 y = some e → PyData.eqv d e = pE x y
  | .non, y, d, e, h1, h2 => by
    simp only [toD0] at h1; cases h1
    cases y <;> simp only [toD0, Option.map_eq_some_iff] at h2 <;> first | (cases h2; done) | (cases h2; simp only [PyData.eqv, pE]; done) | (obtain ⟨_, _, rfl⟩ := h2; simp only [PyData.eqv, pE])
  | .bl b, y, d, e, h1, h2 => by
    simp only [toD0] at h1; cases h1
    cases y <;> simp only [toD0, Option.map_eq_some_iff] at h2 <;> first | (cases h2; done) | (cases h2; simp only [PyData.eqv, pE]; done) | (obtain ⟨_, _, rfl⟩ := h2; simp only [PyData.eqv, pE])
  | .int b, y, d, e, h1, h2 => by
    simp only [toD0] at h1; cases h1
    cases y <;> simp only [toD0, Option.map_eq_some_iff] at h2 <;> first | (cases h2; done) | (cases h2; simp only [PyData.eqv, pE]; done) | (obtain ⟨_, _, rfl⟩ := h2; simp only [PyData.eqv, pE])
  | .str b, y, d, e, h1, h2 => by
    simp only [toD0] at h1; cases h1
    cases y <;> simp only [toD0, Option.map_eq_some_iff] at h2 <;> first | (cases h2; done) | (cases h2; simp only [PyData.eqv, pE]; done) | (obtain ⟨_, _, rfl⟩ := h2; simp only [PyData.eqv, pE])
  | .ty n, y, d, e, h1, h2 => by simp [toD0] at h1
  | .ref n, y, d, e, h1, h2 => by simp [toD0] at h1
  | .ptp n, y, d, e, h1, h2 => by simp [toD0] at h1
  | .tup xs, y, d, e, h1, h2 => by
    simp only [toD0, Option.map_eq_some_iff] at h1
    obtain ⟨ds, h1, rfl⟩ := h1
    cases y with
    | tup ys =>
      simp only [toD0, Option.map_eq_some_iff] at h2
      obtain ⟨es, h2, rfl⟩ := h2
      simp only [PyData.eqv, pE]
      exact eqvs_pE xs ys ds es h1 h2
    | _ => simp only [toD0, Option.map_eq_some_iff] at h2 <;> first | (cases h2; done) | (cases h2; simp only [PyData.eqv, pE]; done) | (obtain ⟨_, _, rfl⟩ := h2; simp only [PyData.eqv, pE])
  | .lst xs, y, d, e, h1, h2 => by
    simp only [toD0, Option.map_eq_some_iff] at h1
    obtain ⟨ds, h1, rfl⟩ := h1
    cases y with
    | lst ys =>
      simp only [toD0, Option.map_eq_some_iff] at h2
      obtain ⟨es, h2, rfl⟩ := h2
      simp only [PyData.eqv, pE]
      exact eqvs_pE xs ys ds es h1 h2
    | _ => simp only [toD0, Option.map_eq_some_iff] at h2 <;> first | (cases h2; done) | (cases h2; simp only [PyData.eqv, pE]; done) | (obtain ⟨_, _, rfl⟩ := h2; simp only [PyData.eqv, pE])
theorem eqvs_pE : ∀ (xs ys : List IV) (ds es : List PyData), toD0s xs = some ds → toD0s ys = some es → PyData.eqvAll ds es = pEs xs ys
  | [], ys, ds, es, h1, h2 => by
    simp only [toD0s] at h1; cases h1
    cases ys with
    | nil => simp only [toD0s] at h2; cases h2; simp only [PyData.eqvAll, pEs]
    | cons y ys =>
      simp only [toD0s, Option.bind_eq_some_iff, Option.map_eq_some_iff] at h2
      obtain ⟨_, _, _, _, rfl⟩ := h2
      simp only [PyData.eqvAll, pEs]
  | x :: xs, ys, ds, es, h1, h2 => by
    simp only [toD0s, Option.bind_eq_some_iff, Option.map_eq_some_iff] at h1
    obtain ⟨d, h3, ds', h4, rfl⟩ := h1
    cases ys with
    | nil => simp only [toD0s] at h2; cases h2; simp only [PyData.eqvAll, pEs]
    | cons y ys =>
      simp only [toD0s, Option.bind_eq_some_iff, Option.map_eq_some_iff] at h2
      obtain ⟨e, h5, es', h6, rfl⟩ := h2
      simp only [PyData.eqvAll, pEs]
      rw [eqv_pE x y d e h3 h5, eqvs_pE xs ys ds' es' h4 h6]
end
/-- what a value reads as -/
def rsv (st : Sto) : IV → IV
  | .ref l => match st[l]? with
    | some (.lst xs) => .lst xs
    | _ => .ref l
  | x => x
theorem toD_rsv {st : Sto} {x : IV} : toD st x = toD0 (rsv st x) := by
  cases x with
  | ref l =>
    unfold toD rsv
    cases h : st[l]? with
    | none => simp [h, toD0]
    | some o => cases o <;> simp [h, toD0]
  | _ => rfl
@[simp] theorem rsv_int {st : Sto} {i : Int} : rsv st (.int i) = .int i := nr rfl
@[simp] theorem rsv_str {st : Sto} {i : Str} : rsv st (.str i) = .str i := nr rfl
@[simp] theorem rsv_bl {st : Sto} {i : Bool} : rsv st (.bl i) = .bl i := nr rfl
@[simp] theorem rsv_non {st : Sto} : rsv st .non = .non := nr rfl
@[simp] theorem rsv_tup {st : Sto} {i : List IV} : rsv st (.tup i) = .tup i := nr rfl
@[simp] theorem rsv_lst {st : Sto} {i : List IV} : rsv st (.lst i) = .lst i := nr rfl
theorem rsv_ref {st : Sto} {l : Nat} {xs : List IV} (h : st[l]? = some (.lst xs)) : rsv st (.ref l) = .lst xs := by simp [rsv, h]
theorem eqB_pE {st : Sto} {n : Nat} {x y : IV} (hx : okV n (rsv st x) = true) (hy : okV n (rsv st y) = true) (hn : n ≤ 60) : eqB st x y = some (pE (rsv st x) (rsv st y)) := by
  obtain ⟨d, e1, D⟩ := okV_dat n _ hx
  obtain ⟨e, e2, D2⟩ := okV_dat n _ hy
  have key := eqv_pE _ _ _ _ e1 e2
  unfold eqB
  split
  · rename_i i j; simp only [rsv_int, pE]; first | done | rfl | (congr 1; by_cases h : i = j <;> simp [h])
  · rename_i i j; simp only [rsv_str, pE]; first | done | rfl | (congr 1; by_cases h : i = j <;> simp [h])
  · rw [toD_rsv, toD_rsv, e1, e2]
    simp [shaped_of D hn, shaped_of D2 hn, key]
theorem eq_pE {st : Sto} {n : Nat} {x y : IV} (hx : okV n (rsv st x) = true) (hy : okV n (rsv st y) = true) (hn : n ≤ 60) : gEq x y st = .ok (.bl (pE (rsv st x) (rsv st y))) st := by
  unfold gEq; rw [eqB_pE hx hy hn]
theorem ne_pE {st : Sto} {n : Nat} {x y : IV} (hx : okV n (rsv st x) = true) (hy : okV n (rsv st y) = true) (hn : n ≤ 60) : gNe x y st = .ok (.bl (!pE (rsv st x) (rsv st y))) st := by
  unfold gNe; rw [eqB_pE hx hy hn]
/-! data without truth values: == is = -/
mutual
def nb : IV → Bool
  | .non => true
  | .int _ => true
  | .str _ => true
  | .tup xs => nbs xs
  | .lst xs => nbs xs
  | _ => false
def nbs : List IV → Bool
  | [] => true
  | x :: xs => nb x && nbs xs
end
mutual
theorem pE_iff : ∀ (x y : IV), nb x = true → nb y = true → (pE x y = true ↔ x = y)
  | .non, y, h1, h2 => by cases y <;> simp_all [pE, nb]
  | .int i, y, h1, h2 => by cases y <;> simp_all [pE, nb]
  | .str i, y, h1, h2 => by cases y <;> simp_all [pE, nb]
  | .bl i, y, h1, h2 => by simp [nb] at h1
  | .ty i, y, h1, h2 => by simp [nb] at h1
  | .ref i, y, h1, h2 => by simp [nb] at h1
  | .ptp i, y, h1, h2 => by simp [nb] at h1
  | .tup xs, y, h1, h2 => by
    cases y with
    | tup ys =>
      simp only [pE, IV.tup.injEq]
      simp only [nb] at h1 h2
      exact pEs_iff xs ys h1 h2
    | _ => simp [pE]
  | .lst xs, y, h1, h2 => by
    cases y with
    | lst ys =>
      simp only [pE, IV.lst.injEq]
      simp only [nb] at h1 h2
      exact pEs_iff xs ys h1 h2
    | _ => simp [pE]
theorem pEs_iff : ∀ (xs ys : List IV), nbs xs = true → nbs ys = true → (pEs xs ys = true ↔ xs = ys)
  | [], ys, h1, h2 => by cases ys <;> simp [pEs]
  | x :: xs, [], h1, h2 => by simp [pEs]
  | x :: xs, y :: ys, h1, h2 => by
    simp only [nbs, Bool.and_eq_true] at h1 h2
    simp only [pEs, Bool.and_eq_true, List.cons.injEq]
    rw [pE_iff x y h1.1 h2.1, pEs_iff xs ys h1.2 h2.2]
end
theorem nbs_all : ∀ {xs : List IV}, nbs xs = xs.all nb
  | [] => by simp [nbs]
  | x :: xs => by simp only [nbs, List.all_cons]; rw [nbs_all]
theorem pE_self {n : Nat} {x : IV} (h : okV n x = true) : pE x x = true := by
  obtain ⟨d, e, D⟩ := okV_dat n x h
  rw [← eqv_pE _ _ _ _ e e]; exact D.self
theorem pE_false {x y : IV} (h1 : nb x = true) (h2 : nb y = true) (h : x ≠ y) : pE x y = false := by
  cases q : pE x y with
  | false => rfl
  | true => exact absurd ((pE_iff x y h1 h2).mp q) h
/-! more steps -/
section
variable {P : IV → Sto → Prop} {E : Str → List (Str × IV) → Sto → Prop} {D : Post} {st : Sto} {ρ : Slots}
@[simp] theorem op_add_l {x y : List IV} : (gAdd (.lst x) (.lst y) st).wq P E .mk = (x.length + y.length ≤ 100000 ∧ P (.lst (x ++ y)) st) := by
  show (if _ then R.ok _ _ else .bad : R IV).wp P E = _
  split <;> simp [*]
theorem add_ref_l {l : Nat} {xs ys : List IV} (h : st[l]? = some (.lst xs)) : (gAdd (.ref l) (.lst ys) st).wq P E .mk = (xs.length + ys.length ≤ 100000 ∧ P (.lst (xs ++ ys)) st) := by
  simp only [gAdd, asL, h, R.wq]
  split <;> simp [*, R.wp]
theorem add_l_ref {l : Nat} {xs ys : List IV} (h : st[l]? = some (.lst xs)) : (gAdd (.lst ys) (.ref l) st).wq P E .mk = (ys.length + xs.length ≤ 100000 ∧ P (.lst (ys ++ xs)) st) := by
  simp only [gAdd, asL, h, R.wq]
  split <;> simp [*, R.wp]
@[simp] theorem cl_listS_l {xs : List IV} : gListS [.lst xs] st = .ok (.ref st.length) (st ++ [.lst xs]) := nr rfl
@[simp] theorem cl_listS_t {xs : List IV} : gListS [.tup xs] st = .ok (.ref st.length) (st ++ [.lst xs]) := nr rfl
theorem listS_ref {l : Nat} {xs : List IV} (h : st[l]? = some (.lst xs)) : gListS [.ref l] st = .ok (.ref st.length) (st ++ [.lst xs]) := by
  simp [gListS, asS, asL, h]
theorem isi_ref {l : Nat} {xs : List IV} {b : String} (h : st[l]? = some (.lst xs)) (hb : b ∈ askT) : gIsi [.ref l, .ty b] st = .ok (.bl (isSubB "list" b)) st := by
  simp [gIsi, tyName, h, hb]
theorem popAt_ref {l : Nat} {xs : List IV} {i : Int} {v : IV} (h : st[l]? = some (.lst xs)) (h0 : 0 ≤ i) (h1 : i ≤ 1000000) (hv : xs[i.toNat]? = some v) : gPopAt (.ref l) [.int i] st = .ok v (st.set l (.lst (xs.eraseIdx i.toNat))) := by
  simp [gPopAt, h, h0, h1, hv]
end
end Mi
set_option Elab.async false
set_option linter.all false
set_option maxRecDepth 100000
set_option maxHeartbeats 4000000
namespace Mi
open PySem PySem.Spec PyProof.Rows L2
section
variable {X : Cx} {W : WX} {xa : Xa} {a b c e o : Expr} {A B C : IE} {pos p apos : Pos} {es : List Expr} {As : IA}
/-! ### tuples whose methods may be called -/
def rTupP (K : PySem.W.Frag) : List V → Hp → VK → Prop := fun xs H Q => ∃ p ys, xs = [.ref p] ∧ SqL K H p ys ∧ ∀ l o, H l = none → o.dict = none → Q (.ref l) (upd H l (.frz o (.tup ys)))
theorem call_tupP : CallR X (.type "tuple") (rTupP X.K) := by
  intro pins s σ H xs us Q I r h
  obtain ⟨p, ys, rfl, hq, q⟩ := h
  obtain ⟨u, rfl, rx⟩ := vals1 r
  cases rx
  obtain ⟨its, r', pl, hz⟩ := I.list hq
  have hlen := r'.length
  refine call_tuple_list pl.isList (fun h' kp => ?_) (by simp only [List.size_toArray] <;> omega)
  have I1 : Inv X pins σ H { s with heap := h' } := I.kept (t' := s.toks) kp
  have I2 : Inv X pins σ (upd H h'.objs.size (.frz { cls := .type "tuple", data := .seq its.toArray } (.tup ys))) { s with heap := h'.push { cls := .type "tuple", data := .seq its.toArray } } :=
    I1.laid (t' := s.toks) (fun b o e => Heap.get?_push_of_some _ e) (Nat.le_refl _) (show ObjOk X.prog X.w _ _ _ (.frz _ (.tup ys)) from ⟨Heap.get?_push_size _ rfl, hz, its, r', IsTup.new _ _⟩)
  exact ⟨.ref h'.objs.size, _, I2, rfl, q _ _ (I1.hok.fresh (Nat.le_refl _)) rfl⟩
def iOwnTupP (i : Nat) : IE := fun ρ st => match ownAt ρ i with | some xs => .ok (.ptp xs) st | none => .bad
theorem me_ownTupP {i : Nat} {y : Str} {p2 : Pos} (hv : PE X (.Name y p2) (tVar i)) (hg : Gl X "tuple") (hm : X.mg "tuple" = none) (hb : bootBuiltins "tuple" = some (.type "tuple")) : ME X W xa (.Call (.Name "tuple" p) [.Name y p2] [] pos) (iOwnTupP i) := by
  refine PE.weak (pe_callTy call_tupP hg hm hb (pa_cons hv pa_nil)) fun σ H Q h => ?_
  obtain ⟨m, os, rs, ρ, st, P, h⟩ := h
  unfold iOwnTupP at h
  split at h
  · rename_i xs e
    obtain ⟨d, vs, e1, hd, r, _⟩ := ownAt_re P e
    refine ⟨.ref d, e1, d, vs, rfl, .of hd, fun l o hl ho => ?_⟩
    refine h m _ (grow_new hl) (P.rel.new hl) (.ref l) ?_
    simp only [RV]
    exact ⟨l, vs, rfl, ⟨o, upd_same, ho, P.rel.fz hl⟩, RVs.fits (grow_new hl).fitsE _ _ r⟩
  · exact h.elim
def unP : IV → IV
  | .ptp xs => .tup xs
  | x => x
theorem unP_rv {G : Gd} {m bs : List Addr} {st : Sto} {H : Hp} {x : IV} {v : V} (r : RV G m bs st H x v) : RV G m bs st H (unP x) v := by
  cases x with
  | ptp xs =>
    simp only [RV, unP] at r ⊢
    obtain ⟨a, vs, e, ⟨o, h, d, f⟩, r⟩ := r
    exact ⟨a, vs, e, .inl ⟨.inr ⟨o, h⟩, f⟩, r⟩
  | _ => exact r
def iUn (A : IE) : IE := fun ρ st => (A ρ st).bind fun x st => .ok (unP x) st
theorem me_un (h : ME X W xa e A) : ME X W xa e (iUn A) := by
  refine PE.weak h fun σ H Q h => ?_
  obtain ⟨m, os, rs, ρ, st, P, h⟩ := h
  exact ⟨m, os, rs, ρ, st, P, h.bind.mono fun x m1 st1 H1 g1 R1 h1 u ru => h1.v R1 (unP_rv ru)⟩
/-- t.index(x): the first place -/
def gTix : IV → List IV → Sto → R IV
  | .ptp xs, [.str z], st => match (strsOf xs).bind fun ys => ys.findIdx? (fun y => decide (y = z)) with
    | some j => .ok (.int (j : Nat)) st
    | none => .bad
  | _, _, _ => .bad
def iTix (A B : IE) : IE := fun ρ st => (A ρ st).bind fun x st => match x with
  | .ptp xs => (B ρ st).bind fun y st => gTix (.ptp xs) [y] st
  | _ => .bad
def tBMP (r : V → List V → Hp → VK → Prop) (to : TE) (t : TA) : TE := fun σ H Q => to σ H fun x H1 => (∃ a o vs, x = .ref a ∧ H1 a = some (.frz o (.tup vs)) ∧ o.dict = none) ∧ t σ H1 fun xs H2 => r x xs H2 Q
theorem pe_bmP {to : TE} {t : TA} {name : Str} {cpos : Pos} {id : String} {r : V → List V → Hp → VK → Prop} (slot : Slot "tuple" name id) (hty : typeOf (.builtin id) = pure (.type "method_descriptor")) (hm : MtR X id r) (ho : PE X o to) (ha : PA X (e :: es) t)
    (hbase : attributeBase o name X.env (eval o X.env) = eval o X.env := by rfl)
    (hfew : ((backTo cpos (starEach (e :: es) X.env)).all (fun x => !x.1) && (backToKw cpos (keywordEach [] X.env)).all (fun x => x.1.isSome)
      && decide ((e :: es).length + ([] : List Keyword).length + (if ([] : List Keyword).isEmpty then 0 else 1) < 30)) = true := by rfl)
    (hline : (apos.endLine == cpos.line) = true := by rfl) (hs : starEach (e :: es) X.env = (false, eval e X.env) :: starEach es X.env := by rfl) (hplain : (backTo cpos (starEach es X.env)).any (·.1) = false := by rfl) :
    PE X (.Call (.Attribute o name apos) (e :: es) [] cpos) (tBMP r to t) := by
  refine ⟨fun pins s σ H Q I h => ?_⟩
  refine wpAny_Call_method_late hbase hfew hline rfl (thn (ho.run pins s σ H _ I h) fun v s1 ⟨x, H1, I1, r1, ⟨a, ob, vs, ex, hH, hd⟩, q1⟩ => ?_)
  subst ex
  obtain rfl : v = Value.ref a := r1
  obtain ⟨hg, _, its, _, o2, ho2, hc2, n, hdt⟩ := I1.hok a _ hH
  have hty' : s1.TypeIs (.ref a) "tuple" := ⟨o2, ho2, hc2⟩
  refine ⟨"tuple", id, PySem.F.plainAttrs_tuple, slot, hty, hty', fun b e => ?_, ?_⟩
  · cases e
    exact ⟨ob, hg, hd⟩
  · have hA := ha.run cpos pins s1 σ H1 _ I1 q1
    rw [hs] at hA ⊢
    refine Calls.callWith_builtin (by show (false || (backTo cpos (starEach es X.env)).any (·.1)) = false; rw [hplain] <;> rfl) (Calls.evalArgs_plain ?_)
    exact thn hA fun us s2 ⟨vs, H2, I2, r2, q2⟩ => hm pins s2 σ H2 (.ref a) vs (.ref a) us Q I2 rfl r2 q2
theorem me_tix (ho : ME X W xa o A) (he : ME X W xa e B)
    (hbase : attributeBase o "index" X.env (eval o X.env) = eval o X.env := by rfl)
    (hfew : ((backTo pos (starEach [e] X.env)).all (fun x => !x.1) && (backToKw pos (keywordEach [] X.env)).all (fun x => x.1.isSome)
      && decide ([e].length + ([] : List Keyword).length + (if ([] : List Keyword).isEmpty then 0 else 1) < 30)) = true := by rfl)
    (hline : (apos.endLine == pos.line) = true := by rfl) (hs : starEach [e] X.env = (false, eval e X.env) :: starEach [] X.env := by rfl) (hplain : (backTo pos (starEach [] X.env)).any (·.1) = false := by rfl) :
    ME X W xa (.Call (.Attribute o "index" apos) [e] [] pos) (iTix A B) := by
  refine PE.weak (pe_bmP PySem.F.slot_tuple_index PySem.F.type_tuple_index mt_tup_index ho (pa_cons he pa_nil hs) hbase hfew hline hs hplain) fun σ H Q h => ?_
  obtain ⟨m, os, rs, ρ, st, P, h⟩ := h
  refine ⟨m, os, rs, ρ, st, P, h.bind.mono fun x m1 st1 H1 g1 R1 h1 u ru => ?_⟩
  cases x with
  | ptp xs =>
    simp only [RV] at ru
    obtain ⟨a, vs, rfl, ⟨ob, hH, hd, fz⟩, rv⟩ := ru
    refine ⟨⟨a, ob, vs, rfl, hH, hd⟩, m1, os, rs, ρ, st1, P.grow g1 R1, ?_⟩
    refine h1.bind.mono fun y m2 st2 H2 g2 R2 h2 w rw' => ?_
    unfold gTix at h2
    split at h2
    · rename_i xs' z e1 e2
      cases e1
      cases e2
      simp only [RV] at rw'
      subst rw'
      split at h2
      · rename_i j hj
        rw [Option.bind_eq_some_iff] at hj
        obtain ⟨ys, e3, e4⟩ := hj
        have rv2 := RVs.fits g2.fitsE _ _ rv
        have ev := strsOf_rv e3 rv2
        have hH2 : H2 a = some (.frz ob (.tup vs)) := (g2.keep a _ hH fz.1 (by simp) nxf).1
        rw [List.findIdx?_eq_some_iff_getElem] at e4
        obtain ⟨hj1, hj2, hj3⟩ := e4
        refine ⟨a, ys, z, j, rfl, rfl, .inl (.inr ⟨ob, by rw [← ev]; exact hH2⟩), ?_, fun k hk => ?_, h2.v R2 (by simp only [RV])⟩
        · rw [List.getElem?_eq_getElem hj1]
          have := of_decide_eq_true hj2
          rw [this]
        · have hk2 : k < ys.length := by omega
          rw [List.getElem?_eq_getElem hk2]
          have := hj3 k hk
          intro z2
          have z3 := Option.some.inj z2
          exact this (decide_eq_true z3)
      · exact h2.elim
    · exact h2.elim
  | _ => exact h1.elim
/-! ### a text many times -/
def repS (x : Str) (n : Int) : Str := if n < 1 then Str.empty else if (n == 1 || x.length == 0) = true then x else ⟨(List.replicate n.toNat x.cps).foldl (· ++ ·) #[]⟩
theorem rep_size {a : Array Nat} : ∀ {m : Nat} {acc : Array Nat}, ((List.replicate m a).foldl (fun x1 x2 => x1 ++ x2) acc).size = acc.size + m * a.size
  | 0, acc => by simp
  | m + 1, acc => by
    rw [List.replicate_succ, List.foldl_cons, rep_size, Array.size_append, Nat.succ_mul]
    omega
def rMulS : R2 := fun x y H Q => ∃ z n, x = .str z ∧ y = .int n ∧ z.length ≤ 1000 ∧ 0 ≤ n ∧ n ≤ 1000 ∧ Q (.str (repS z n)) H
theorem op_mulS : OpR X (binaryOp .Mult) rMulS := by
  intro pins s σ H x y v u Q I rx ry h
  obtain ⟨z, n, rfl, rfl, hz, h0, h1, q⟩ := h
  obtain ⟨t, rfl⟩ := rx
  obtain ⟨t', rfl⟩ := ry
  have long : ¬ n < 1 → z.length * n.toNat ≤ 1000000 := fun _ => by
    have : z.length * n.toNat ≤ 1000 * 1000 := Nat.mul_le_mul hz (by omega)
    omega
  refine P.mul_str (by rw [decide_eq_false (by omega), decide_eq_false (by omega)]; rfl) (fun hn _ => ?_) (fun hn _ => ?_) ?_
  · have : (z.length : Int) ≤ 1000 := by omega
    have h2 : (9223372036854775807 : Int) / n ≥ 9223372036854775 := by
      have : (9223372036854775 : Int) * n ≤ 9223372036854775807 := by omega
      exact (Int.le_ediv_iff_mul_le (by omega)).mpr this
    have e : ((2 : Int) ^ 63 - 1) = 9223372036854775807 := by decide
    rw [e]; omega
  · have h3 : z.length * n.toNat ≤ sizeLine := Nat.le_trans (long hn) (by decide)
    exact decide_eq_false (by omega)
  · have fin : ∀ t2 tk, EP X pins σ Q (.str (repS z n) t2) { s with toks := tk } := fun t2 tk => ⟨.str (repS z n), H, I.tok _, ⟨_, rfl⟩, q⟩
    unfold repS at fin
    split
    · rename_i c
      rw [if_pos c] at fin
      exact ⟨by decide, fin _ _⟩
    · rename_i c
      rw [if_neg c] at fin
      split
      · rename_i c2
        rw [if_pos c2] at fin
        exact fin _ s.toks
      · rename_i c2
        rw [if_neg c2] at fin
        refine ⟨?_, fin _ _⟩
        show (List.foldl (fun x1 x2 => x1 ++ x2) #[] (List.replicate n.toNat z.cps)).size ≤ sizeLine
        rw [rep_size]
        have : (#[] : Array Nat).size = 0 := rfl
        have h3 : z.cps.size * n.toNat ≤ 1000000 := long (by omega)
        have h4 : (1000000 : Nat) ≤ sizeLine := by decide
        rw [Nat.mul_comm] at h3
        omega
def gMulS : IV → IV → Sto → R IV
  | .str z, .int n, st => if z.length ≤ 1000 ∧ 0 ≤ n ∧ n ≤ 1000 then .ok (.str (repS z n)) st else .bad
  | _, _, _ => .bad
theorem opm_mulS : OpM X (binaryOp .Mult) gMulS := by
  refine ⟨_, op_mulS, fun m bs st H x y x' y' Q W R rx ry h => ?_⟩
  unfold gMulS at h
  split at h
  · simp only [RV] at rx ry
    split at h
    · rename_i c
      exact ⟨_, _, rx, ry, c.1, c.2.1, c.2.2, h.v R (by simp only [RV])⟩
    · exact h.elim
  · exact h.elim
end
/-! ### C.m(e, ..), m a staticmethod -/
def SMethM (P : Program) (w : World) (K : PySem.W.Frag) (mg : Str → Option Value) (base : Heap) (c m : Str) (k n : Nat) (F : Fn) : Prop :=
  ∃ C f fd ps mc p, mg c = some (.ref C) ∧ ClX.CRead K C mc ∧ PySem.W.findCls K (.ref C) mc m = some (.get (.builtin "staticmethod.__get__") (.ref p) .none (.ref C)) ∧ (∃ rest, PySem.W.recIn K p "staticmethod" = some (.ref f :: rest)) ∧
    PySem.W.keepIn K (.ref f) = true ∧ Binds K fd ps [] ∧ FnOk P w K mg base (L2.CX P w) k f fd ps (spOf ⟨K, mg, P, w⟩ n F)
section
variable {X : Cx} {CX : CXT} {W : WX} {xa : Xa} {a b c e o : Expr} {A B : IE} {pos p np apos : Pos} {es : List Expr} {As : IA} {k n : Nat} {F : Fn} {x m : Str} {t : TA} {sp : Sp} {E : L2.St → XK}
theorem pe_smethS {C f q : Addr} {fd : FuncData} {ps : List Str} {mc : Value} {pl : Sem Bool} {rest : List Value} (hm : X.mg x = some (.ref C)) (hg : Gl X x) (r : ClX.CRead X.K C mc) (hfc : PySem.W.findCls X.K (.ref C) mc m = some (.get (.builtin "staticmethod.__get__") (.ref q) .none (.ref C)))
    (hrc : PySem.W.recIn X.K q "staticmethod" = some (.ref f :: rest)) (hk : PySem.W.keepIn X.K (.ref f) = true) (hb : Binds X.K fd ps []) (F : FnOk X.prog X.w X.K X.mg X.base CX k f fd ps sp) (hr : Room k X.A) (hx : ∀ σ, PassesAt CX X σ (E σ)) (ha : PA X (e :: es) t)
    (hd : (x == ("__debug__" : Str)) = false := by decide)
    (hst : starEach (e :: es) X.env = (false, eval e X.env) :: starEach es X.env := by rfl) (hpl : (backTo pos (starEach es X.env)).any (·.1) = false := by rfl)
    (ht : eval (.Call (.Attribute (.Name x np) m apos) (e :: es) [] pos) X.env = (do
      let ov ← eval (.Name x np) X.env
      standAt apos.atName
      let (f, first) ← holding [ov] (getMethod ov m pl)
      callWith pos f first (backTo pos (starEach (e :: es) X.env)) (backToKw pos (keywordEach [] X.env))) := by rfl) :
    PE X (.Call (.Attribute (.Name x np) m apos) (e :: es) [] pos) (tCallS sp E t) := by
  refine ⟨fun pins s σ H Q I h => ?_⟩
  refine PySem.W.methodCall_KW (pl := pl) (thn ((pe_glob (v := .ref C) hg hm rfl hd).run pins s σ H (fun v H' => v = .ref C ∧ H' = H) I ⟨rfl, rfl⟩) fun u s1 ⟨x1, H1, I1, rx, ex, eh⟩ => ?_) ht
  subst ex eh
  obtain rfl : u = Value.ref C := rx
  refine PySem.W.method_cls I1.kIn r.ga (PySem.W.cls_bind I1.kIn r.rd hfc (wpAny_call (PySem.W.sm_get (s := { s1 with toks := s1.toks + 1 }) I1.kIn hrc (PySem.W.handed_on rfl ?_))))
  refine PySem.W.callWith_K (h₀ := X.base) I.ok.mod.kin hk (thn (ha.run pos pins _ σ _ _ (I1.tok _) h) fun us s2 ⟨vs, H2, I2, rv, q2⟩ => ⟨I2.kIn, ?_⟩) hst hpl
  exact run_fnS F hr hb (hx σ) I2 rv q2
theorem me_smeth {pl : Sem Bool} (h : SMethM X.prog X.w X.K X.mg X.base x m k n F) (hr : Room k X.A) (tk : Takes X W) (hg : Gl X x) (ha : MA X W xa (e :: es) As)
    (hd : (x == ("__debug__" : Str)) = false := by decide)
    (hst : starEach (e :: es) X.env = (false, eval e X.env) :: starEach es X.env := by rfl) (hpl : (backTo pos (starEach es X.env)).any (·.1) = false := by rfl)
    (ht : eval (.Call (.Attribute (.Name x np) m apos) (e :: es) [] pos) X.env = (do
      let ov ← eval (.Name x np) X.env
      standAt apos.atName
      let (f, first) ← holding [ov] (getMethod ov m pl)
      callWith pos f first (backTo pos (starEach (e :: es) X.env)) (backToKw pos (keywordEach [] X.env))) := by rfl) :
    ME X W xa (.Call (.Attribute (.Name x np) m apos) (e :: es) [] pos) (iCall (arity n F) As) := by
  obtain ⟨C, f, fd, ps, mc, q, hm, r, hfc, ⟨rest, hrc⟩, hk, hb, hf⟩ := h
  refine PE.weak (pe_smethS hm hg r hfc hrc hk hb hf hr (E := fun σ cls d H => W cls d σ H) (fun σ => wish_of tk σ) ha hd hst hpl ht) fun σ H Q h => ?_
  obtain ⟨m, os, rs, ρ, st, P, h⟩ := h
  refine ⟨m, os, rs, ρ, st, P, h.bind.mono fun args m1 st1 H1 g1 R1 h1 vs rv => ?_⟩
  unfold arity at h1
  split at h1
  · rename_i hl
    exact ⟨by rw [← rv.length]; exact hl, m1, _, st1, args, R1, rv, h1⟩
  · exact h1.elim
end
end Mi
set_option Elab.async false
set_option linter.all false
set_option maxRecDepth 100000
set_option maxHeartbeats 4000000
namespace Mi
open PySem PySem.Spec PyProof.Rows L2
section
variable {P : IV → Sto → Prop} {E : Str → List (Str × IV) → Sto → Prop} {D : Post} {st : Sto} {ρ : Slots}
@[simp] theorem wp_iOwnTupP {i : Nat} : (iOwnTupP i ρ st).wq P E .mk = match ownAt ρ i with | some xs => P (.ptp xs) st | none => False := by
  unfold iOwnTupP; cases ownAt ρ i <;> rfl
@[simp] theorem wp_iUn {A : IE} : (iUn A ρ st).wq P E .mk = (A ρ st).wp (fun x st => P (unP x) st) E := by
  unfold iUn; simp only [R.wq, wpb, wpo]
@[simp] theorem unP_ptp {xs : List IV} : unP (.ptp xs) = .tup xs := nr rfl
@[simp] theorem unP_tup {xs : List IV} : unP (.tup xs) = .tup xs := nr rfl
@[simp] theorem wp_iTix {A B : IE} : (iTix A B ρ st).wq P E .mk = (A ρ st).wp (fun x st => match x with
  | .ptp xs => (B ρ st).wp (fun y st => (gTix (.ptp xs) [y] st).wp P E) E
  | _ => False) E := by
  unfold iTix; simp only [R.wq, wpb]; congr 1; funext x s1
  cases x with
  | ptp xs => simp only [wpb]
  | _ => rfl
theorem tix_ok {xs : List IV} {ys : List Str} {z : Str} {j : Nat} (h : xs = ys.map .str) (hj : ys.findIdx? (fun y => decide (y = z)) = some j) : gTix (.ptp xs) [.str z] st = .ok (.int (j : Nat)) st := by
  subst h
  simp only [gTix, strsOf_map, Option.bind_some, hj]
@[simp] theorem op_mulS_i {z : Str} {n : Int} : (gMulS (.str z) (.int n) st).wq P E .mk = ((z.length ≤ 1000 ∧ 0 ≤ n ∧ n ≤ 1000) ∧ P (.str (repS z n)) st) := by
  show R.wp (if _ then .ok _ _ else .bad) P E = _
  split <;> simp [*, R.wp]
@[simp] theorem cl_int_bl {b : Bool} : gInt [.bl b] st = .ok (.int (if b then 1 else 0)) st := nr rfl
theorem wp_forL_cons {all : List IV} {T : ITg} {B : IS} {x : IV} {r : List IV} (h : (T x ρ st).wp ⟨fun ρ1 st1 => (B ρ1 st1).wp ⟨fun ρ2 st2 => (forL none all T B r ρ2 st2).wp D, D.rt, D.nx, fun ρ2 st2 => (forL none all T B r ρ2 st2).wp D, D.ex⟩, fun _ _ => False, fun _ _ => False, fun _ _ => False, fun _ _ _ _ => False⟩) : (forL none all T B (x :: r) ρ st).wp D := by
  simp only [forL, gok_none, if_true]
  cases q : T x ρ st with
  | nx ρ1 st1 =>
    rw [q] at h
    have h : (B ρ1 st1).wp _ := h
    simp only
    cases q2 : B ρ1 st1 with
    | nx ρ2 st2 => rw [q2] at h; exact h
    | ct ρ2 st2 => rw [q2] at h; exact h
    | bk ρ2 st2 => rw [q2] at h; exact h
    | rt v st2 => rw [q2] at h; exact h
    | exc c fs ρ2 st2 => rw [q2] at h; exact h
    | bad => rw [q2] at h; exact h.elim
  | _ => rw [q] at h; exact h.elim
theorem wp_forL_nil {all : List IV} {T : ITg} {B : IS} (h : D.nx ρ st) : (forL none all T B [] ρ st).wp D := by
  simp only [forL, gok_none, if_true]; exact h
theorem wp_while {S : IT} {B : IS} (Inv : Nat → Slots → Sto → Prop) (step : ∀ k ρ st, Inv k ρ st → (S ρ st).wp (fun b st' => if b = true then ∃ k', k = k' + 1 ∧ (B ρ st').wp ⟨Inv k', D.rt, D.nx, Inv k', D.ex⟩ else D.nx ρ st') (fun c fs st => D.ex c fs ρ st)) :
    ∀ {n k : Nat} {ρ : Slots} {st : Sto}, k < n → Inv k ρ st → (iWhile n S B ρ st).wp D
  | 0, k, ρ, st, hk, _ => by omega
  | n + 1, k, ρ, st, hk, hi => by
    have h := step k ρ st hi
    unfold iWhile
    rw [whileN, wpsb]
    refine wp_mono h fun b s1 h1 => ?_
    cases b with
    | false => exact h1
    | true =>
      simp only [if_true] at h1 ⊢
      obtain ⟨k', rfl, h2⟩ := h1
      have next : ∀ ρ2 st2, Inv k' ρ2 st2 → (whileN S B n ρ2 st2).wp D := fun ρ2 st2 i2 => wp_while Inv step (n := n) (k := k') (by omega) i2
      cases q : B ρ s1 with
      | nx ρ2 st2 => rw [q] at h2; exact next _ _ h2
      | ct ρ2 st2 => rw [q] at h2; exact next _ _ h2
      | bk ρ2 st2 => rw [q] at h2; exact h2
      | rt v st2 => rw [q] at h2; exact h2
      | exc c fs ρ2 st2 => rw [q] at h2; exact h2
      | bad => rw [q] at h2; exact h2.elim
end
end Mi
set_option Elab.async false
set_option linter.all false
set_option maxRecDepth 100000
set_option maxHeartbeats 4000000
namespace Mi
open PySem PySem.Spec PyProof.Rows L2
/-! ### tokens, as lists of signs -/
def abcN : List Nat := ("abcdefghijklmnopqrstuvwxyz" : Str).cps.toList
def digN : List Nat := ("0123456789" : Str).cps.toList
def isL (c : Nat) : Bool := decide (c ∈ abcN)
def isD (c : Nat) : Bool := decide (c ∈ digN)
def pairsN : List (List Nat) := [[33, 61], [60, 61], [62, 61], [43, 61], [45, 61], [46, 46]]
def tokLen (l : List Nat) : Nat := match l with
  | [] => 1
  | c :: r => if isL c then ((c :: r).takeWhile isL).length else if isD c then ((c :: r).takeWhile isD).length else if ((c :: r).take 2) ∈ pairsN then 2 else 1
def lexN : Nat → List Nat → Nat → List (List Nat × Nat)
  | 0, _, _ => []
  | _ + 1, [], _ => []
  | n + 1, c :: r, off => (if c = 32 then [] else [((c :: r).take (tokLen (c :: r)), off)]) ++ lexN n ((c :: r).drop (tokLen (c :: r))) (off + tokLen (c :: r))
theorem isL_of {c : Nat} {r : List Nat} (h : isL c = true) : tokLen (c :: r) = ((c :: r).takeWhile isL).length := by simp only [tokLen, h, if_true]
theorem tokLen_pos {l : List Nat} : 1 ≤ tokLen l := by
  unfold tokLen
  split
  · exact Nat.le_refl _
  · rename_i c r
    split
    · rename_i h; simp [List.takeWhile_cons, h]
    · split
      · rename_i h; simp [List.takeWhile_cons, h]
      · split <;> omega
theorem tokLen_le {c : Nat} {r : List Nat} : tokLen (c :: r) ≤ (c :: r).length := by
  have tw : ∀ p : Nat → Bool, ((c :: r).takeWhile p).length ≤ (c :: r).length := fun p => (List.takeWhile_sublist p).length_le
  simp only [tokLen]
  split
  · exact tw _
  · split
    · exact tw _
    · split
      · rename_i h
        cases r with
        | nil =>
          simp only [List.take_succ_cons, List.take_nil, pairsN] at h
          simp at h
        | cons d r => simp only [List.length_cons]; omega
      · simp only [List.length_cons]; omega
theorem lexN_more : ∀ {n m : Nat} {l : List Nat} {off : Nat}, l.length ≤ n → l.length ≤ m → lexN n l off = lexN m l off
  | 0, 0, _, _, _, _ => rfl
  | 0, m + 1, [], _, _, _ => rfl
  | n + 1, 0, [], _, _, _ => rfl
  | n + 1, m + 1, [], _, _, _ => rfl
  | n + 1, m + 1, c :: r, off, h1, h2 => by
    have hp := tokLen_pos (l := c :: r)
    have hl := tokLen_le (c := c) (r := r)
    simp only [lexN]
    rw [lexN_more (n := n) (m := m)]
    · rw [List.length_drop]; simp only [List.length_cons] at h1 ⊢; omega
    · rw [List.length_drop]; simp only [List.length_cons] at h2 ⊢; omega
  | 0, m, c :: r, _, h, _ => by simp at h
  | n, 0, c :: r, _, _, h => by simp at h
/-! a text of tokens with blanks between -/
/-- the sign c may follow the token t at once -/
def mayFollow (t : List Nat) (c : Nat) : Bool := match t with
  | [] => false
  | d :: r => if isL d then !isL c else if isD d then !isD c else if r = [] then decide ([d, c] ∉ pairsN) else true
/-- a token -/
def tokOk (t : List Nat) : Bool := match t with
  | [] => false
  | d :: r => decide (d ≠ 32) && (if isL d then r.all isL else if isD d then r.all isD else (r.isEmpty || decide ((d :: r) ∈ pairsN)))
theorem takeWhile_app {p : Nat → Bool} {a b : List Nat} (ha : a.all p = true) (hb : ∀ c r, b = c :: r → p c = false) : (a ++ b).takeWhile p = a := by
  induction a with
  | nil =>
    cases b with
    | nil => rfl
    | cons c r => simp [List.takeWhile_cons, hb c r rfl]
  | cons x a ih =>
    rw [List.all_cons, Bool.and_eq_true] at ha
    rw [List.cons_append, List.takeWhile_cons, if_pos ha.1, ih ha.2]
theorem tokLen_app {t rest : List Nat} (ht : tokOk t = true) (hr : ∀ c r, rest = c :: r → mayFollow t c = true) : tokLen (t ++ rest) = t.length := by
  cases t with
  | nil => cases ht
  | cons d r =>
    simp only [tokOk, Bool.and_eq_true] at ht
    obtain ⟨_, ht⟩ := ht
    rw [List.cons_append]
    unfold tokLen
    simp only
    by_cases hL : isL d = true
    · rw [if_pos hL] at ht ⊢
      have e := takeWhile_app (p := isL) (a := d :: r) (b := rest) (by rw [List.all_cons, hL, ht]; rfl) fun c q e => by
        have := hr c q e
        simpa [mayFollow, hL] using this
      rw [List.cons_append] at e
      rw [e]
    · rw [if_neg hL] at ht ⊢
      by_cases hD : isD d = true
      · rw [if_pos hD] at ht ⊢
        have e := takeWhile_app (p := isD) (a := d :: r) (b := rest) (by rw [List.all_cons, hD, ht]; rfl) fun c q e => by
          have := hr c q e
          simpa [mayFollow, hL, hD] using this
        rw [List.cons_append] at e
        rw [e]
      · rw [if_neg hD] at ht ⊢
        cases r with
        | nil =>
          rw [List.nil_append]
          cases rest with
          | nil =>
            rw [if_neg (by simp [pairsN])]; rfl
          | cons c q =>
            have := hr c q rfl
            simp only [mayFollow, hL, hD, if_true] at this
            rw [if_neg (by
              have h2 := of_decide_eq_true (by simpa using this)
              simpa using h2)]
            rfl
        | cons c q =>
          have h2 : (d :: c :: q) ∈ pairsN := by simpa using ht
          have hq : q = [] := by
            simp only [pairsN, List.mem_cons, List.not_mem_nil, or_false] at h2
            rcases h2 with h2 | h2 | h2 | h2 | h2 | h2 <;> (injection h2 with _ h2; injection h2)
          subst hq
          rw [if_pos (by simpa using h2)]
          rfl
theorem tokLen_blank {rest : List Nat} : tokLen (32 :: rest) = 1 := by
  unfold tokLen
  simp only
  rw [if_neg (by decide +kernel), if_neg (by decide +kernel), if_neg]
  intro h
  cases rest with
  | nil => simp [pairsN] at h
  | cons c r => simp [pairsN] at h
def build : List (Nat × List Nat) → Nat → List Nat
  | [], ge => List.replicate ge 32
  | (g, t) :: r, ge => List.replicate g 32 ++ (t ++ build r ge)
def places : List (Nat × List Nat) → Nat → List (List Nat × Nat)
  | [], _ => []
  | (g, t) :: r, off => (t, off + g) :: places r (off + g + t.length)
/-- each is a token, and what stands next may follow -/
def fits : List (Nat × List Nat) → Bool
  | [] => true
  | [(_, t)] => tokOk t
  | (_, t) :: (g, u) :: r => tokOk t && (decide (1 ≤ g) || (match u with | [] => false | c :: _ => mayFollow t c)) && fits ((g, u) :: r)
theorem follow_blank {t : List Nat} (h : tokOk t = true) : mayFollow t 32 = true := by
  cases t with
  | nil => cases h
  | cons d r =>
    simp only [mayFollow]
    have h1 : isL 32 = false := by decide +kernel
    have h2 : isD 32 = false := by decide +kernel
    rw [h1, h2]
    split
    · rfl
    · split
      · rfl
      · split
        · simp [pairsN]
        · rfl
theorem lex_blanks : ∀ {g n : Nat} {rest : List Nat} {off : Nat}, lexN (n + g) (List.replicate g 32 ++ rest) off = lexN n rest (off + g)
  | 0, n, rest, off => by simp
  | g + 1, n, rest, off => by
    rw [List.replicate_succ, List.cons_append, ← Nat.add_assoc, lexN, tokLen_blank]
    simp only [if_true, List.nil_append, List.drop_succ_cons, List.drop_zero]
    rw [lex_blanks]
    congr 1
    omega
theorem lexN_ge : ∀ {n ge off : Nat}, lexN n (List.replicate ge 32) off = []
  | 0, _, _ => rfl
  | n + 1, 0, _ => rfl
  | n + 1, ge + 1, off => by
    rw [List.replicate_succ, lexN, tokLen_blank]
    simp only [if_true, List.nil_append, List.drop_succ_cons, List.drop_zero]
    exact lexN_ge
theorem lex_build : ∀ {its : List (Nat × List Nat)} {ge n off : Nat}, fits its = true → (build its ge).length ≤ n → lexN n (build its ge) off = places its off
  | [], ge, n, off, _, _ => lexN_ge
  | (g, t) :: r, ge, n, off, hf, hn => by
    have ht : tokOk t = true := by
      cases r with
      | nil => exact hf
      | cons p r => obtain ⟨g', u⟩ := p; simp only [fits, Bool.and_eq_true] at hf; exact hf.1.1
    have hr : fits r = true := by
      cases r with
      | nil => rfl
      | cons p r => obtain ⟨g', u⟩ := p; simp only [fits, Bool.and_eq_true] at hf; exact hf.2
    have hfo : ∀ c q, build r ge = c :: q → mayFollow t c = true := by
      intro c q e
      cases r with
      | nil =>
        simp only [build] at e
        cases ge with
        | zero => cases e
        | succ k => rw [List.replicate_succ] at e; injection e with e1 _; rw [← e1]; exact follow_blank ht
      | cons p r =>
        obtain ⟨g', u⟩ := p
        simp only [fits, Bool.and_eq_true] at hf
        have h2 := hf.1.2
        simp only [build] at e
        cases g' with
        | succ k => rw [List.replicate_succ, List.cons_append] at e; injection e with e1 _; rw [← e1]; exact follow_blank ht
        | zero =>
          cases u with
          | nil => simp at h2
          | cons d u =>
            simp only [List.replicate_zero, List.nil_append, List.cons_append] at e
            injection e with e1 _
            rw [← e1]
            simpa using h2
    have tl := tokLen_app ht hfo
    have lb : (build ((g, t) :: r) ge).length = g + (t.length + (build r ge).length) := by simp [build]
    rw [lb] at hn
    have tp : 1 ≤ t.length := by cases t with
      | nil => cases ht
      | cons d t => simp
    rw [show build ((g, t) :: r) ge = List.replicate g 32 ++ (t ++ build r ge) from rfl, show n = (n - g) + g by omega, lex_blanks]
    obtain ⟨k, hk⟩ : ∃ k, n - g = k + 1 := ⟨n - g - 1, by omega⟩
    rw [hk]
    cases t with
    | nil => cases ht
    | cons d t =>
      have hd : d ≠ 32 := by simp only [tokOk, Bool.and_eq_true, decide_eq_true_eq] at ht; exact ht.1
      rw [List.cons_append] at tl ⊢
      rw [lexN, tl, if_neg hd]
      have e1 : (d :: (t ++ build r ge)).take (d :: t).length = d :: t := by
        rw [← List.cons_append]; exact List.take_left
      have e2 : (d :: (t ++ build r ge)).drop (d :: t).length = build r ge := by
        rw [← List.cons_append]; exact List.drop_left
      rw [e1, e2, lex_build hr (by simp only [List.length_cons] at hn ⊢; omega)]
      rfl
end Mi
set_option Elab.async false
set_option linter.all false
set_option maxRecDepth 100000
set_option maxHeartbeats 4000000
namespace Mi
open PySem PySem.Spec PyProof.Rows L2
/-! ### targets of comprehensions: tuples in tuples -/
def TgPl (T : ITg) : Prop := ∀ x ρ st, match T x ρ st with | .nx _ st' => st' = st | _ => True
def TgsPl (T : ITgs) : Prop := ∀ x ρ st, match T x ρ st with | .nx _ st' => st' = st | _ => True
theorem tgspl_nil : TgsPl tgNil := fun x ρ st => by
  cases x with
  | nil => exact rfl
  | cons _ _ => exact trivial
theorem tgspl_cons {T : ITg} {Ts : ITgs} (h1 : TgPl T) (h2 : TgsPl Ts) : TgsPl (tgCons T Ts) := fun x ρ st => by
  cases x with
  | nil => exact trivial
  | cons x xs =>
    have h1' := h1 x ρ st
    simp only [tgCons]
    cases q : T x ρ st with
    | nx ρ1 st1 =>
      rw [q] at h1'
      have e : st1 = st := h1'
      rw [e]
      exact h2 xs ρ1 st
    | _ => exact trivial
theorem tgpl_tup {n : Nat} {Ts : ITgs} (h : TgsPl Ts) : TgPl (tgTup n Ts) := fun x ρ st => by
  cases x with
  | tup xs =>
    simp only [tgTup]
    by_cases c : xs.length = n
    · simp only [c, if_true]; exact h xs ρ st
    · simp only [c, if_false]
  | _ => exact trivial
def CTgs (G : Gd) (xa : Xa) (vs : List Nat) (g : TGs) (T : ITgs) : Prop :=
  ∀ (v : List V) (σ : L2.St) (H : Hp) (Q : L2.St → Hp → Prop) m os rs ρ st x, Pre G xa σ H m os rs ρ st → RVs G m (os ++ rs) st H x v →
    (∃ ρ' , T x ρ st = .nx ρ' st ∧ ∀ σ2, Pre G xa σ2 H m os rs ρ' st → wipe σ2 vs = wipe σ vs → Q σ2 H) → g v σ H Q
section
variable {G : Gd} {xa : Xa} {vs : List Nat} {g : TG} {gs : TGs} {T : ITg} {Ts : ITgs}
theorem ctgs_nil : CTgs G xa vs gNil tgNil := by
  intro v σ H Q m os rs ρ st xs P r h'
  obtain ⟨ρ', e, k⟩ := h'
  cases xs with
  | nil =>
    simp only [RVs] at r
    cases e
    exact ⟨r, k σ P rfl⟩
  | cons _ _ => cases e
theorem ctgs_cons (hp : TgPl T) (h1 : CTg G xa vs g T) (h2 : CTgs G xa vs gs Ts) : CTgs G xa vs (gCons g gs) (tgCons T Ts) := by
  intro v σ H Q m os rs ρ st xs P r h'
  obtain ⟨ρ', e, k⟩ := h'
  cases xs with
  | nil => cases e
  | cons x xs =>
    simp only [RVs] at r
    obtain ⟨u, t, ev, r1, r2⟩ := r
    simp only [tgCons] at e
    have hp1 := hp x ρ st
    cases q : T x ρ st with
    | nx ρ1 st1 =>
      rw [q] at e hp1
      have e1 : st1 = st := hp1
      rw [e1] at q
      rw [e1] at e
      exact ⟨u, t, ev, h1 u σ H _ m os rs ρ st x P r1 ⟨ρ1, q, fun σ2 P2 w2 => h2 t σ2 H Q m os rs ρ1 st xs P2 r2 ⟨ρ', e, fun σ3 P3 w3 => k σ3 P3 (w3.trans w2)⟩⟩⟩
    | _ => rw [q] at e; cases e
theorem ctg_tup {n : Nat} (h : CTgs G xa vs gs Ts) : CTg G xa vs (gTup G.K n gs) (tgTup n Ts) := by
  intro v σ H Q m os rs ρ st x P r h'
  obtain ⟨ρ', e, k⟩ := h'
  cases x with
  | tup xs =>
    simp only [tgTup] at e
    split at e
    · rename_i hl
      obtain ⟨p, ws, ep, hs, r2⟩ := asT_sq (x := .tup xs) rfl r
      exact ⟨p, ws, ep, hs, by rw [← r2.length]; exact hl, h ws σ H Q m os rs ρ st xs P r2 ⟨ρ', e, k⟩⟩
    · cases e
  | _ => cases e
end
/-! ### < , > , <= , >= of data -/
def nnD : PyData → Bool
  | .none => false
  | _ => true
theorem nnD_ne {d : PyData} (h : nnD d = true) : d ≠ .none := fun e => by rw [e] at h; cases h
def cmpB (f : PyData → PyData → Bool) (st : Sto) (x y : IV) : Option Bool := match toD st x, toD st y with
  | some d, some e => if PySem.W.alike d e = true ∧ d.depth ≤ 60 ∧ nnD d = true then some (f d e) else none
  | _, _ => none
def gCmpD (f : PyData → PyData → Bool) : IV → IV → Sto → R IV := fun x y st => match cmpB f st x y with
  | some b => .ok (.bl b) st
  | none => .bad
abbrev gLtD := gCmpD fun d e => PySem.W.dataLt d e
abbrev gGtD := gCmpD fun d e => PySem.W.dataLt e d
abbrev gLeD := gCmpD fun d e => !PySem.W.dataLt e d
abbrev gGeD := gCmpD fun d e => !PySem.W.dataLt d e
section
variable {X : Cx}
def rCmpD (K : PySem.W.Frag) (f : PyData → PyData → Bool) : R2 := fun x y H Q => ∃ d e, Dp K H x d ∧ Dp K H y e ∧ PySem.W.alike d e = true ∧ d.depth ≤ 60 ∧ d ≠ .none ∧ Q (.bl (f d e)) H
theorem opm_cmpD {op : CmpOp} {f : PyData → PyData → Bool} (h : OpR X (compareOp op) (rCmpD X.K f)) : OpM X (compareOp op) (gCmpD f) := by
  refine ⟨_, h, fun m bs st H x y x' y' Q W R rx ry h => ?_⟩
  unfold gCmpD at h
  split at h
  · rename_i b e
    unfold cmpB at e
    split at e
    · rename_i d e' h1 h2
      split at e
      · rename_i c
        cases e
        exact ⟨d, e', toD_dp R h1 rx, toD_dp R h2 ry, c.1, c.2.1, nnD_ne c.2.2, h.v R (by simp only [RV])⟩
      · cases e
    · cases e
  · exact h.elim
theorem opm_ltD (hu : X.A.units + 64 < cLine) : OpM X (compareOp .Lt) gLtD := opm_cmpD fun pins s σ H x y v u Q I rx ry h => by
  obtain ⟨d, e, hd, he, al, dd, nn, q⟩ := h
  obtain ⟨as, r1⟩ := Dp.reads I d x v hd rx
  obtain ⟨bs, r2⟩ := Dp.reads I e y u he ry
  exact PySem.W.lt_data r1 r2 al nn (by have := Nat.min_le_left d.depth e.depth; omega) ⟨.bl _, H, I, rfl, q⟩
theorem opm_gtD (hu : X.A.units + 64 < cLine) : OpM X (compareOp .Gt) gGtD := opm_cmpD fun pins s σ H x y v u Q I rx ry h => by
  obtain ⟨d, e, hd, he, al, dd, nn, q⟩ := h
  obtain ⟨as, r1⟩ := Dp.reads I d x v hd rx
  obtain ⟨bs, r2⟩ := Dp.reads I e y u he ry
  exact PySem.W.gt_data r1 r2 al nn (by have := Nat.min_le_left d.depth e.depth; omega) ⟨.bl _, H, I, rfl, q⟩
theorem opm_leD (hu : X.A.units + 64 < cLine) : OpM X (compareOp .LtE) gLeD := opm_cmpD fun pins s σ H x y v u Q I rx ry h => by
  obtain ⟨d, e, hd, he, al, dd, nn, q⟩ := h
  obtain ⟨as, r1⟩ := Dp.reads I d x v hd rx
  obtain ⟨bs, r2⟩ := Dp.reads I e y u he ry
  exact PySem.W.le_data r1 r2 al nn (by have := Nat.min_le_left d.depth e.depth; omega) ⟨.bl _, H, I, rfl, q⟩
theorem opm_geD (hu : X.A.units + 64 < cLine) : OpM X (compareOp .GtE) gGeD := opm_cmpD fun pins s σ H x y v u Q I rx ry h => by
  obtain ⟨d, e, hd, he, al, dd, nn, q⟩ := h
  obtain ⟨as, r1⟩ := Dp.reads I d x v hd rx
  obtain ⟨bs, r2⟩ := Dp.reads I e y u he ry
  exact PySem.W.ge_data r1 r2 al nn (by have := Nat.min_le_left d.depth e.depth; omega) ⟨.bl _, H, I, rfl, q⟩
/-! ### < , > , <= , >= of own objects of one class -/
def rOwnCmp (C : Addr) (sp : Sp) : R2 := fun x y H Q => ∃ a dx fs b dy gs, x = .ref a ∧ H a = some (.ins C dx fs) ∧ y = .ref b ∧ H b = some (.ins C dy gs) ∧ sp [x, y] H (fun v H' => ∃ b, v = .bl b ∧ Q (.bl b) H') (fun _ _ _ => False)
theorem opOwnCmp {op : CmpOp} {k : Nat} {f C : Addr} {fd : FuncData} {ps : List Str} {sp : Sp} (M : Meth X.K C (PySem.cmpInfo op).2.1 f) (F : FnOk X.prog X.w X.K X.mg X.base (L2.CX X.prog X.w) k f fd ps sp) (hb : Binds X.K fd ps []) (hr : Room k X.A) (hop : ∀ a b, compareOp op a b = richCompare op a b) : OpR X (compareOp op) (rOwnCmp C sp) := by
  intro pins s σ H x y v u Q I rx ry hq
  obtain ⟨a, dx, fs, b, dy, gs, rfl, ha, rfl, hb2, hs⟩ := hq
  cases rx
  cases ry
  obtain ⟨mA, J, _⟩ := ins_get I.hok ha
  obtain ⟨od, J, _⟩ := J.look
  obtain ⟨mB, J2, _⟩ := ins_get I.hok hb2
  obtain ⟨od2, J2, _⟩ := J2.look
  obtain ⟨m, hF⟩ := I.fr
  have run := own_run F hb ⟨hr, rfl⟩ I (us := [.ref a, .ref b]) (vs := [.ref a, .ref b]) (.cons rfl (.cons rfl .nil)) hs
  rw [hop]
  refine PySem.W.cmp_K (tb := .ref C) hr.units0 hF I.ok.mod.kin J J2.type (by simp [PySem.W.notFirst]) M.at_ M.fn (wpAny_mono run (fun r s' q => ?_) fun _ _ z => z)
  obtain ⟨z, H', I', rz, b, ez, q⟩ := q
  subst ez
  cases rz
  exact ⟨.bl b, H', I', rfl, q⟩
def gOwnCmp (c : Str) (F : Fn) : IV → IV → Sto → R IV := fun x y st => match insAt st [c] x, insAt st [c] y with
  | some _, some _ => (quiet (F [x, y] st)).bind (bl1 false)
  | _, _ => .bad
theorem opm_ownCmp {op : CmpOp} {c : Str} {k : Nat} {F : Fn} (h : MethM X.prog X.w X.K X.mg X.base c (PySem.cmpInfo op).2.1 k 2 F) (hr : Room k X.A) (hop : ∀ a b, compareOp op a b = richCompare op a b) : OpM X (compareOp op) (gOwnCmp c F) := by
  obtain ⟨C, f, fd, ps, hm, hC, hM, hb, hf⟩ := h
  refine ⟨_, opOwnCmp hM hf hb hr hop, fun m bs st H x y x' y' Q W R rx ry h => ?_⟩
  unfold gOwnCmp at h
  split at h
  · rename_i p q e1 e2
    obtain ⟨a, C', dx, gs, ev, h1, h2⟩ := ins_of R e1 rx
    obtain ⟨b, C2, dy, gy, ev2, h3, h4⟩ := ins_of R e2 ry
    have c1 : C' = C := by
      have h1' : X.mg c = some (.ref C') := h1
      rw [hm] at h1'; cases h1'; rfl
    have c2 : C2 = C := by
      have h1' : X.mg c = some (.ref C2) := h3
      rw [hm] at h1'; cases h1'; rfl
    rw [c1] at h2
    rw [c2] at h4
    refine ⟨a, dx, gs, b, dy, gy, ev, h2, ev2, h4, rfl, m, bs, st, [x, y], R, ?_, ?_⟩
    · simp only [RVs]
      exact ⟨x', [y'], rfl, rx, y', [], rfl, ry, rfl⟩
    · refine quiet_post (W := W) (h.bind.mono fun v m1 st1 H1 g1 R1 h1 u ru => ?_)
      cases v with
      | bl b =>
        simp only [RV] at ru
        exact ⟨b, ru, by have := h1.v R1 (v := .bl b) (by simp only [RV]; simp); simpa using this⟩
      | _ => exact h1.elim
  · exact h.elim
end
/-! ### a line that is never reached -/
def iBadS : IS := fun _ _ => .bad
theorem ms_bad {X : Cx} {W : WX} {xa : Xa} {s : Stmt} : MS X W xa s iBadS := ⟨by
  intros
  rename_i h
  obtain ⟨m, os, rs, ρ, st, P, h⟩ := h
  exact h.elim⟩
end Mi
set_option Elab.async false
set_option linter.all false
set_option maxRecDepth 100000
set_option maxHeartbeats 4000000
namespace Mi
open PySem PySem.Spec PyProof.Rows L2
/-! ### C(e, .., k = v, ..) with defaults -/
/-- constants that stand as defaults -/
inductive DC | non | bl (b : Bool) | int (i : Int) | str (s : Str)
def DC.v : DC → V
  | .non => .non
  | .bl b => .bl b
  | .int i => .int i
  | .str s => .str s
def DC.iv : DC → IV
  | .non => .non
  | .bl b => .bl b
  | .int i => .int i
  | .str s => .str s
theorem DC.rv {G : Gd} {m bs : List Addr} {st : Sto} {H : Hp} (d : DC) : RV G m bs st H d.iv d.v := by cases d <;> simp only [DC.iv, DC.v, RV]
def dcB : DC → Value → Bool
  | .non, .none => true
  | .bl b, .bool c => b == c
  | .int i, .int j _ => i == j
  | .str i, .str j _ => decide (i = j)
  | _, _ => false
theorem dcB_ok {d : DC} {u : Value} (h : dcB d u = true) : RelV d.v u := by
  unfold dcB at h
  split at h
  · rfl
  · have := beq_iff_eq.mp h; subst this; rfl
  · have := beq_iff_eq.mp h; subst this; exact ⟨_, rfl⟩
  · have := of_decide_eq_true h; subst this; exact ⟨_, rfl⟩
  · cases h
def dcsB : List DC → List Value → Bool
  | [], [] => true
  | d :: ds, u :: us => dcB d u && dcsB ds us
  | _, _ => false
theorem dcsB_ok : ∀ {ds : List DC} {us : List Value}, dcsB ds us = true → Vals (ds.map DC.v) us
  | [], [], _ => .nil
  | [], _ :: _, h => by cases h
  | _ :: _, [], h => by cases h
  | d :: ds, u :: us, h => by
    have h2 := Bool.and_eq_true_iff.mp (show (dcB d u && dcsB ds us) = true from h)
    exact .cons (dcB_ok h2.1) (dcsB_ok h2.2)
/-- where a parameter's value comes from -/
inductive DSrc | p (i : Nat) | k (i : Nat) | d (j : Nat)
def dpick {α : Type} (pl : List DSrc) (vs ds zs : List α) : List α := pl.filterMap fun | .p i => vs[i]? | .k i => zs[i]? | .d j => ds[j]?
theorem vals_at {vs : List V} {us : List Value} (r : Vals vs us) (i : Nat) : (vs[i]? = none ∧ us[i]? = none) ∨ ∃ v u, vs[i]? = some v ∧ us[i]? = some u ∧ RelV v u := by
  induction r generalizing i with
  | nil => exact .inl ⟨rfl, rfl⟩
  | cons h _ ih =>
    cases i with
    | zero => exact .inr ⟨_, _, rfl, rfl, h⟩
    | succ i => simpa using ih i
theorem dpick_vals {vs ds zs : List V} {us its ws : List Value} (r1 : Vals vs us) (r2 : Vals ds its) (r3 : Vals zs ws) : ∀ {pl : List DSrc}, Vals (dpick pl vs ds zs) (dpick pl us its ws)
  | [] => .nil
  | s :: pl => by
    have ih := dpick_vals r1 r2 r3 (pl := pl)
    unfold dpick at ih ⊢
    have key : ∀ {a : List V} {b : List Value} {i : Nat} {f : DSrc → Option V} {g : DSrc → Option Value}, Vals a b → f s = a[i]? → g s = b[i]? → Vals (pl.filterMap f) (pl.filterMap g) → Vals ((s :: pl).filterMap f) ((s :: pl).filterMap g) := fun {a b i f g} r ef eg h => by
      rcases vals_at r i with ⟨e1, e2⟩ | ⟨v, u, e1, e2, e3⟩
      · rw [List.filterMap_cons_none (ef.trans e1), List.filterMap_cons_none (eg.trans e2)]; exact h
      · rw [List.filterMap_cons_some (ef.trans e1), List.filterMap_cons_some (eg.trans e2)]; exact .cons e3 h
    cases s with
    | p i => exact key r1 rfl rfl ih
    | k i => exact key r3 rfl rfl ih
    | d i => exact key r2 rfl rfl ih
section
variable {G : Gd} {m bs : List Addr} {st : Sto} {H : Hp}
theorem rvs_at : ∀ {xs : List IV} {vs : List V}, RVs G m bs st H xs vs → ∀ i : Nat, (xs[i]? = none ∧ vs[i]? = none) ∨ ∃ x v, xs[i]? = some x ∧ vs[i]? = some v ∧ RV G m bs st H x v := by
  intro xs vs r i
  cases e : xs[i]? with
  | none =>
    refine .inl ⟨rfl, ?_⟩
    have := r.length
    rw [List.getElem?_eq_none_iff] at e ⊢
    omega
  | some x =>
    obtain ⟨v, e2, r2⟩ := r.get e
    exact .inr ⟨x, v, rfl, e2, r2⟩
theorem dcs_rvs : ∀ {ds : List DC}, RVs G m bs st H (ds.map DC.iv) (ds.map DC.v)
  | [] => by simp only [List.map_nil, RVs]
  | d :: ds => by
    simp only [List.map_cons, RVs]
    exact ⟨_, _, rfl, d.rv, dcs_rvs⟩
theorem dpick_rvs {xs ds zs : List IV} {vs dv ws : List V} (r1 : RVs G m bs st H xs vs) (r2 : RVs G m bs st H ds dv) (r3 : RVs G m bs st H zs ws) : ∀ {pl : List DSrc}, RVs G m bs st H (dpick pl xs ds zs) (dpick pl vs dv ws)
  | [] => by simp only [dpick, List.filterMap_nil, RVs]
  | s :: pl => by
    have ih := dpick_rvs r1 r2 r3 (pl := pl)
    unfold dpick at ih ⊢
    have key : ∀ {a : List IV} {b : List V} {i : Nat} {f : DSrc → Option IV} {g : DSrc → Option V}, RVs G m bs st H a b → f s = a[i]? → g s = b[i]? → RVs G m bs st H (pl.filterMap f) (pl.filterMap g) → RVs G m bs st H ((s :: pl).filterMap f) ((s :: pl).filterMap g) := fun {a b i f g} r ef eg h => by
      rcases rvs_at r i with ⟨e1, e2⟩ | ⟨v, u, e1, e2, e3⟩
      · rw [List.filterMap_cons_none (ef.trans e1), List.filterMap_cons_none (eg.trans e2)]; exact h
      · rw [List.filterMap_cons_some (ef.trans e1), List.filterMap_cons_some (eg.trans e2)]
        simp only [RVs]
        exact ⟨_, _, rfl, e3, h⟩
    cases s with
    | p i => exact key r1 rfl rfl ih
    | k i => exact key r3 rfl rfl ih
    | d i => exact key r2 rfl rfl ih
end
section
variable {X : Cx} {CX : CXT} {k n : Nat} {f C : Addr} {fd : FuncData} {ps ks : List Str} {sp : Sp} {E : L2.St → XK} {x : Str} {p pos : Pos} {e : Expr} {es : List Expr} {kws : List Keyword} {t tk : TA} {g : List Value → List Value → List Value} {gV : List V → List V → List V}
def tMakeNS (C : Addr) (n m : Nat) (sp : Sp) (gV : List V → List V → List V) (E : L2.St → XK) (t tk : TA) : TE := fun σ H Q => t σ H fun vs H1 => tk σ H1 fun zs H2 => vs.length = n ∧ zs.length = m ∧
  ∀ x dx, H2 x = none → H2 dx = none → dx ≠ x → sp (gV (.ref x :: vs) zs) (upd (upd H2 dx (.own x)) x (.ins C dx [])) (fun v H3 => v = .non ∧ Q (.ref x) H3) (E σ)
theorem run_makeNS {pins : List (Addr × Obj)} {σ : L2.St} {H : Hp} {s : Shared} {Q : VK} {us ws : List Value} {vs zs : List V} (M : Mk X.K C f) (F : FnOk X.prog X.w X.K X.mg X.base CX k f fd ps sp) (hr : Room (k + 1) X.A) (hb : KBn X.K fd ps (n + 1) ks g gV)
    (hx : PassesAt CX X σ (E σ)) (I : L2.Inv X pins σ H s) (r : Vals vs us) (rz : Vals zs ws) (l1 : vs.length = n) (l2 : zs.length = ks.length)
    (h : ∀ x dx, H x = none → H dx = none → dx ≠ x → sp (gV (.ref x :: vs) zs) (upd (upd H dx (.own x)) x (.ins C dx [])) (fun v H2 => v = .non ∧ Q (.ref x) H2) (E σ)) :
    wpAny (model X.prog X.w) X.A (call (.ref C) us (ks.zip ws)) (EP X pins σ Q) X.xe s := by
  have hq := h (s.heap.objs.size + 1) s.heap.objs.size (I.hok.fresh (Nat.le_succ _)) (I.hok.fresh (Nat.le_refl _)) (Nat.ne_of_lt (Nat.lt_succ_self _))
  have I2 := L2.Inv.made (C := C) I
  have r1 : Vals (V.ref (s.heap.objs.size + 1) :: vs) (Value.ref (s.heap.objs.size + 1) :: us) := .cons rfl r
  have r2 := hb.rel r1 rz
  have e1 : (Value.ref (s.heap.objs.size + 1) :: us).length = n + 1 := r1.length.symm.trans (congrArg Nat.succ l1)
  have e2 : ws.length = ks.length := rz.length.symm.trans l2
  refine wpAny_call (make_map (f := f) I.kIn M.makes M.init (beq_iff_eq.mp M.fn) (codeAny_mono (F.run _ X.stack _ _ ⟨Value.ref (s.heap.objs.size + 1) :: us, ks.zip ws⟩ (g (Value.ref (s.heap.objs.size + 1) :: us) ws) _ _ (E σ) (hr.make C us (ks.zip ws))
    (I2.env0.make C us (ks.zip ws)) (hb.to _ (Value.ref (s.heap.objs.size + 1) :: us) ws I2.kIn e1 e2) r2 hq) fun r s' hq' => ?_))
  cases r with
  | error e => exact hx pins _ _ e s' I2 hq'
  | ok fl =>
    cases fl with
    | ret u =>
      obtain ⟨v, H', I3, rv, ev, q3⟩ := I2.after hq'
      subst ev
      exact ⟨rv, ⟨V.ref (s.heap.objs.size + 1), H', I3, rfl, q3⟩⟩
    | next => exact False.elim hq'
    | brk => exact False.elim hq'
    | cont => exact False.elim hq'
theorem pe_makeNS (M : Mk X.K C f) (F : FnOk X.prog X.w X.K X.mg X.base CX k f fd ps sp) (hr : Room (k + 1) X.A) (hg : Gl X x) (hm : X.mg x = some (.ref C)) (hb : KBn X.K fd ps (n + 1) ks g gV) (hx : ∀ σ, PassesAt CX X σ (E σ)) (ha : PA X (e :: es) t) (hkw : PK X kws tk)
    (hall : (backToKw pos (keywordEach kws X.env)).all (·.1.isSome) = true := by rfl) (hks : (backToKw pos (keywordEach kws X.env)).filterMap (·.1) = ks := by rfl) (hdb : (x == ("__debug__" : Str)) = false := by decide)
    (he : starEach (e :: es) X.env = (false, eval e X.env) :: starEach es X.env := by rfl) (hpl : ((backTo pos (starEach (e :: es) X.env)).any (·.1) || (backToKw pos (keywordEach kws X.env)).any (·.1.isNone)) = false := by rfl) :
    PE X (.Call (.Name x p) (e :: es) kws pos) (tMakeNS C n ks.length sp gV E t tk) := by
  refine ⟨fun pins s σ H Q I h => ?_⟩
  refine wpAny_Call_Name_kw (ld_glob I hg hm ?_ hdb)
  refine PySem.W.callWith_KW (h₀ := X.base) I.ok.mod.kin M.kp hall (thn (ha.run pos pins s σ H _ I h) fun us s1 ⟨vs, H1, I1, r, q⟩ => ?_) hpl he
  refine thn (hkw.run pos pins s1 σ H1 _ I1 q) fun ws s2 ⟨zs, H2, I2, rz, l1, l2, q2⟩ => ⟨I2.kIn, ?_⟩
  rw [hks]
  exact run_makeNS M F hr hb (hx σ) I2 r rz l1 l2 q2
theorem pe_makeNS0 (M : Mk X.K C f) (F : FnOk X.prog X.w X.K X.mg X.base CX k f fd ps sp) (hr : Room (k + 1) X.A) (hg : Gl X x) (hm : X.mg x = some (.ref C)) (hb : KBn X.K fd ps 1 ks g gV) (hx : ∀ σ, PassesAt CX X σ (E σ)) (hkw : PK X kws tk)
    (hall : (backToKw pos (keywordEach kws X.env)).all (·.1.isSome) = true := by rfl) (hks : (backToKw pos (keywordEach kws X.env)).filterMap (·.1) = ks := by rfl) (hdb : (x == ("__debug__" : Str)) = false := by decide)
    (hpl : ((backTo pos (starEach [] X.env)).any (·.1) || (backToKw pos (keywordEach kws X.env)).any (·.1.isNone)) = false := by rfl) :
    PE X (.Call (.Name x p) [] kws pos) (tMakeNS C 0 ks.length sp gV E tNil tk) := by
  refine ⟨fun pins s σ H Q I h => ?_⟩
  refine wpAny_Call_Name_kw (ld_glob I hg hm ?_ hdb)
  refine PySem.W.callWith_KW0 (h₀ := X.base) I.ok.mod.kin M.kp hall ?_ hpl
  refine thn (hkw.run pos pins s σ H _ I h) fun ws s2 ⟨zs, H2, I2, rz, l1, l2, q2⟩ => ⟨I2.kIn, ?_⟩
  rw [hks]
  exact run_makeNS (us := []) (vs := []) M F hr hb (hx σ) I2 .nil rz rfl l2 q2
end
/-! keywords of the mirror -/
theorem PK.weak {X : Cx} {kws : List Keyword} {t t' : TA} (h : PK X kws t) (k : ∀ σ H Q, t' σ H Q → t σ H Q) : PK X kws t' := ⟨fun pos pins s σ H Q I q => h.run pos pins s σ H Q I (k σ H Q q)⟩
abbrev MK (X : Cx) (W : WX) (xa : Xa) (kws : List Keyword) (A : IA) : Prop := PK X kws (taOf (gd X) W xa A)
/-- a class whose __init__ has defaults -/
def MkDM (P : Program) (w : World) (K : PySem.W.Frag) (mg : Str → Option Value) (base : Heap) (c qual : Str) (st : Stmt) (k : Nat) (ps : List Str) (ds : List DC) (F : Fn) : Prop :=
  ∃ C f fd, mg c = some (.ref C) ∧ Mk K C f ∧ FunD K "__init__" qual (defArgs st) (defBody st) (defScope st) (ds.map DC.v) [] f fd ∧ FnOk P w K mg base (L2.CX P w) k f fd ps (spOf ⟨K, mg, P, w⟩ ps.length F)
/-- a def with defaults keeps its promise -/
theorem fn_okD {P : Program} {w : World} {K : PySem.W.Frag} {mg : Str → Option Value} {base : Heap} {x qual : Str} {st : Stmt} {f : Addr} {fd : FuncData} {N ps : List Str} {k j : Nat} {B : IS} {dvs : List V} (F : FunD K x qual (defArgs st) (defBody st) (defScope st) dvs [] f fd) (S : FnScope N ps (defScope st)) (hj : N.length - ps.length = j)
    (hb : ∀ (cdv : Value) (A : Around) (outer : List Env) (s : Shared) (H : Hp) (E : XK), Room k (A.deeper (envOfC qual (defScope st) s.heap.objs.size f cdv)) →
      MSs (cxOf (L2.CX P w) P w K mg base N qual (defScope st) f cdv A outer s H E) (fun cls d _ H => E cls d H) none (defBody st) B) : FnOk P w K mg base (L2.CX P w) (k + 1) f fd ps (spOf ⟨K, mg, P, w⟩ ps.length (fnOf j B)) := by
  refine F.ok S (fun vs H Q E h => h.1) (fun cdv A outer s H vs Q E hr h => ⟨_, hb cdv A outer s H E hr, ?_⟩)
  obtain ⟨hl, m, bs, st, args, R, r, h⟩ := h
  have P0 := re_start (k := j) (N := N) R r (by rw [hl, hj])
  show tsOf ⟨K, mg, P, w⟩ (fun cls d _ H => E cls d H) none B _ _ _
  refine ⟨m, [], bs, _, st, P0, ?_⟩
  unfold fnOf at h
  cases q : B (args.map (fun x => some (.v x)) ++ List.replicate j none) st with
  | nx ρ' st' =>
    rw [q] at h
    exact fun m' os' H' σ' g P' => h m' H' g.toE P'.rel.less .non (by simp only [RV])
  | rt v st' =>
    rw [q] at h
    exact fun m' os' H' u g R' ru => h m' H' g.toE R'.less u (RV.fits fits_less _ _ ru)
  | exc c fs ρ' st' =>
    rw [q] at h
    exact fun m' os' H' σ' cls d g P' x => h m' H' cls d g.toE P'.rel.less x.less
  | bk ρ' st' => rw [q] at h; exact h.elim
  | ct ρ' st' => rw [q] at h; exact h.elim
  | bad => rw [q] at h; exact h.elim
def iMakeD (c : Str) (F : Fn) (np n m : Nat) (pl : List DSrc) (ds : List DC) (As Ks : IA) : IE := fun ρ st => (As ρ st).bind fun args st1 => (Ks ρ st1).bind fun zs st2 => if args.length = n ∧ zs.length = m then
    (arity np F (dpick pl (.ref st2.length :: args) (ds.map DC.iv) zs) (st2 ++ [.ins c []])).bind fun v st' => match v with
      | .non => .ok (.ref st2.length) st'
      | _ => .bad
  else .bad
section
variable {X : Cx} {W : WX} {xa : Xa} {a b e o : Expr} {A B : IE} {pos p apos kpos : Pos} {es : List Expr} {kws : List Keyword} {As Ks : IA} {k n : Nat} {F : Fn} {c qual : Str} {st0 : Stmt} {ps ks : List Str} {ds : List DC} {pl : List DSrc}
theorem mk_nil : MK X W xa [] iNil := PK.weak pk_nil fun σ H Q h => by
  obtain ⟨m, os, rs, ρ, st, P, h⟩ := h
  exact h m H .refl P.rel [] (by simp only [RVs])
theorem md_weak {C : Addr} (hm : X.mg c = some (.ref C)) {σ : L2.St} {H : Hp} {Q : VK} (h : teOf (gd X) W xa (iMakeD c F ps.length n ks.length pl ds As Ks) σ H Q) :
    tMakeNS C n ks.length (spOf ⟨X.K, X.mg, X.prog, X.w⟩ ps.length F) (fun vs zs => dpick pl vs (ds.map DC.v) zs) (fun σ cls d H => W cls d σ H) (taOf (gd X) W xa As) (taOf (gd X) W xa Ks) σ H Q := by
  obtain ⟨m, os, rs, ρ, st, P, h⟩ := h
  refine ⟨m, os, rs, ρ, st, P, h.bind.mono fun args m1 st1 H1 g1 R1 h1 vs rv => ?_⟩
  refine ⟨m1, os, rs, ρ, st1, P.grow g1 R1, h1.bind.mono fun zs m2 st2 H2 g2 R2 h2 ws rz => ?_⟩
  split at h2
  · rename_i hl
    have rv2 := RVs.fits g2.fitsE _ _ rv
    refine ⟨by rw [← rv.length]; exact hl.1, by rw [← rz.length]; exact hl.2, fun x dx hx hdx ne => ?_⟩
    have hx2 : upd H2 dx (.own x) x = none := by rw [upd_ne (Ne.symm ne)]; exact hx
    have R3 : Rel (gd X) m2 (os ++ rs) st2 (upd H2 dx (.own x)) := R2.new hdx
    have g3 : GrowE m2 st2 H2 m2 st2 (upd H2 dx (.own x)) := grow_new hdx
    have g4 : GrowE m2 st2 (upd H2 dx (.own x)) (m2 ++ [x]) (st2 ++ [.ins c []]) (upd (upd H2 dx (.own x)) x (.ins C dx [])) := grow_live R3 hx2
    have R4 : Rel (gd X) (m2 ++ [x]) (os ++ rs) (st2 ++ [.ins c []]) (upd (upd H2 dx (.own x)) x (.ins C dx [])) := R3.live hx2 ⟨C, dx, [], hm, upd_same, rfl⟩
    have el : (m2 ++ [x])[st2.length]? = some x := by rw [← R2.len, List.getElem?_append_right (Nat.le_refl _)]; simp
    have h3 := h2.shift (g3.trans g4)
    unfold arity at h3
    split at h3
    · rename_i hl2
      have rA : RVs (gd X) (m2 ++ [x]) (os ++ rs) (st2 ++ [.ins c []]) (upd (upd H2 dx (.own x)) x (.ins C dx [])) (.ref st2.length :: args) (.ref x :: vs) := by
        simp only [RVs]
        exact ⟨.ref x, vs, rfl, by simp only [RV]; exact ⟨x, rfl, el⟩, RVs.fits (g3.trans g4).fitsE _ _ rv2⟩
      have rP := dpick_rvs (pl := pl) rA (dcs_rvs (ds := ds)) (RVs.fits (g3.trans g4).fitsE _ _ rz)
      refine ⟨by rw [← rP.length]; exact hl2, m2 ++ [x], _, st2 ++ [.ins c []], _, R4, rP, h3.bind.mono fun v m5 st5 H5 g5 R5 h5 u ru => ?_⟩
      cases v with
      | non =>
        simp only [RV] at ru
        refine ⟨ru, h5.v R5 ?_⟩
        simp only [RV]
        exact ⟨x, rfl, g5.at el⟩
      | _ => exact h5.elim
    · exact h3.elim
  · exact h2.elim
theorem mk_cons {nm : Option Str} (ha : ME X W xa a A) (hr : MK X W xa kws Ks) : MK X W xa (⟨nm, a, kpos⟩ :: kws) (iCons A Ks) := by
  refine PK.weak (pk_cons ha hr) fun σ H Q h => ?_
  obtain ⟨m, os, rs, ρ, st, P, h⟩ := h
  refine ⟨m, os, rs, ρ, st, P, h.bind.mono fun x m1 st1 H1 g1 R1 h1 x' rx => ⟨m1, os, rs, ρ, st1, P.grow g1 R1, h1.bind.mono fun xs m2 st2 H2 g2 R2 h2 xs' rxs => ?_⟩⟩
  refine h2.ok R2 _ ?_
  simp only [RVs]
  exact ⟨x', xs', rfl, RV.fits g2.fitsE _ _ rx, rxs⟩
abbrev BindD (qual : Str) (st0 : Stmt) (n : Nat) (ps ks : List Str) (ds : List DC) (pl : List DSrc) : Prop := ∀ (T : Addr) (kV doc pm : Value) (an : Option Addr) (cdv ct : Value) (us its ws : List Value), us.length = n + 1 → its.length = ds.length → ws.length = ks.length →
  ∃ kk, bindArgs (PySem.W.fnOf "__init__" qual (defArgs st0) (defBody st0) (defScope st0) (.ref T) kV doc pm an cdv ct) ⟨us, ks.zip ws⟩ = seqItems? (.ref T) >>= kk ∧ kk (some its.toArray) = pure (ps.zip (dpick pl us its ws))
theorem me_makeD (h : MkDM X.prog X.w X.K X.mg X.base c qual st0 k ps ds F) (hr : Room (k + 1) X.A) (tk : Takes X W) (hg : Gl X c) (ha : MA X W xa (e :: es) As) (hk : MK X W xa kws Ks) (hd : ds ≠ []) (hbd : BindD qual st0 n ps ks ds pl)
    (hall : (backToKw pos (keywordEach kws X.env)).all (·.1.isSome) = true := by rfl) (hks : (backToKw pos (keywordEach kws X.env)).filterMap (·.1) = ks := by rfl) (hdb : (c == ("__debug__" : Str)) = false := by decide)
    (he : starEach (e :: es) X.env = (false, eval e X.env) :: starEach es X.env := by rfl) (hpl : ((backTo pos (starEach (e :: es) X.env)).any (·.1) || (backToKw pos (keywordEach kws X.env)).any (·.1.isNone)) = false := by rfl) :
    ME X W xa (.Call (.Name c p) (e :: es) kws pos) (iMakeD c F ps.length n ks.length pl ds As Ks) := by
  obtain ⟨C, f, fd, hm, hM, FD, hf⟩ := h
  obtain ⟨its, hb⟩ := FD.kbindsD (n + 1) ks (fun us its ws => dpick pl us its ws) (fun z => hd (List.map_eq_nil_iff.mp z)) (fun r1 r2 r3 => dpick_vals r1 r2 r3) fun T kV doc pm an cdv ct us its ws l1 l2 l3 => hbd T kV doc pm an cdv ct us its ws l1 (by rw [l2, List.length_map]) l3
  exact PE.weak (pe_makeNS hM hf hr hg hm hb (E := fun σ cls d H => W cls d σ H) (fun σ => wish_of tk σ) ha hk hall hks hdb he hpl) fun σ H Q h => md_weak hm h
theorem me_makeD0 (h : MkDM X.prog X.w X.K X.mg X.base c qual st0 k ps ds F) (hr : Room (k + 1) X.A) (tk : Takes X W) (hg : Gl X c) (hk : MK X W xa kws Ks) (hd : ds ≠ []) (hbd : BindD qual st0 0 ps ks ds pl)
    (hall : (backToKw pos (keywordEach kws X.env)).all (·.1.isSome) = true := by rfl) (hks : (backToKw pos (keywordEach kws X.env)).filterMap (·.1) = ks := by rfl) (hdb : (c == ("__debug__" : Str)) = false := by decide)
    (hpl : ((backTo pos (starEach [] X.env)).any (·.1) || (backToKw pos (keywordEach kws X.env)).any (·.1.isNone)) = false := by rfl) :
    ME X W xa (.Call (.Name c p) [] kws pos) (iMakeD c F ps.length 0 ks.length pl ds iNil Ks) := by
  obtain ⟨C, f, fd, hm, hM, FD, hf⟩ := h
  obtain ⟨its, hb⟩ := FD.kbindsD 1 ks (fun us its ws => dpick pl us its ws) (fun z => hd (List.map_eq_nil_iff.mp z)) (fun r1 r2 r3 => dpick_vals r1 r2 r3) fun T kV doc pm an cdv ct us its ws l1 l2 l3 => hbd T kV doc pm an cdv ct us its ws l1 (by rw [l2, List.length_map]) l3
  refine PE.weak (pe_makeNS0 hM hf hr hg hm hb (E := fun σ cls d H => W cls d σ H) (fun σ => wish_of tk σ) hk hall hks hdb hpl) fun σ H Q h => ?_
  obtain ⟨m, os, rs, ρ, st, P, h⟩ := md_weak (As := iNil) hm h
  exact h m H .refl P.rel [] (by simp only [RVs])
theorem me_mkD {np mm : Nat} (hnp : ps.length = np) (hmm : ks.length = mm) (h : MkDM X.prog X.w X.K X.mg X.base c qual st0 k ps ds F) (hr : Room (k + 1) X.A) (tk : Takes X W) (hg : Gl X c) (ha : MA X W xa (e :: es) As) (hk : MK X W xa kws Ks) (hd : ds ≠ []) (hbd : BindD qual st0 n ps ks ds pl)
    (hall : (backToKw pos (keywordEach kws X.env)).all (·.1.isSome) = true := by rfl) (hks : (backToKw pos (keywordEach kws X.env)).filterMap (·.1) = ks := by rfl) (hdb : (c == ("__debug__" : Str)) = false := by decide)
    (he : starEach (e :: es) X.env = (false, eval e X.env) :: starEach es X.env := by rfl) (hpl : ((backTo pos (starEach (e :: es) X.env)).any (·.1) || (backToKw pos (keywordEach kws X.env)).any (·.1.isNone)) = false := by rfl) :
    ME X W xa (.Call (.Name c p) (e :: es) kws pos) (iMakeD c F np n mm pl ds As Ks) := by
  subst hnp hmm
  exact me_makeD h hr tk hg ha hk hd hbd hall hks hdb he hpl
theorem me_mkD0 {np mm : Nat} (hnp : ps.length = np) (hmm : ks.length = mm) (h : MkDM X.prog X.w X.K X.mg X.base c qual st0 k ps ds F) (hr : Room (k + 1) X.A) (tk : Takes X W) (hg : Gl X c) (hk : MK X W xa kws Ks) (hd : ds ≠ []) (hbd : BindD qual st0 0 ps ks ds pl)
    (hall : (backToKw pos (keywordEach kws X.env)).all (·.1.isSome) = true := by rfl) (hks : (backToKw pos (keywordEach kws X.env)).filterMap (·.1) = ks := by rfl) (hdb : (c == ("__debug__" : Str)) = false := by decide)
    (hpl : ((backTo pos (starEach [] X.env)).any (·.1) || (backToKw pos (keywordEach kws X.env)).any (·.1.isNone)) = false := by rfl) :
    ME X W xa (.Call (.Name c p) [] kws pos) (iMakeD c F np 0 mm pl ds iNil Ks) := by
  subst hnp hmm
  exact me_makeD0 h hr tk hg hk hd hbd hall hks hdb hpl
end

theorem fund_mk {K : PySem.W.Frag} {x qual : Str} {st : Stmt} {f T : Addr} {oc : Value} {od an : Option Addr} {osl : Array (Option Value)} {kV doc pm cdv ct : Value} {o : Obj} {ds : List DC} (l : K.lookup f = some ⟨oc, od, .func (PySem.W.fnOf x qual (defArgs st) (defBody st) (defScope st) (.ref T) kV doc pm an cdv ct), osl⟩)
    (c : PySem.W.codeIn K cdv qual = true) (k : PySem.W.keepIn K (.ref f) = true) (lT : K.lookup T = some o) (d : ∃ its n, o.data = .seq its n ∧ dcsB ds its.toList = true) (hd : ds ≠ []) : FunD K x qual (defArgs st) (defBody st) (defScope st) (ds.map DC.v) [] f (PySem.W.fnOf x qual (defArgs st) (defBody st) (defScope st) (.ref T) kV doc pm an cdv ct) := by
  obtain ⟨its, n, e, b⟩ := d
  exact ⟨⟨oc, od, _, kV, doc, pm, an, cdv, ct, osl, rfl, l, c, .inr ⟨fun z => hd (List.map_eq_nil_iff.mp z), T, o, its.toList, n, rfl, lT, by rw [e, Array.toArray_toList], dcsB_ok b⟩, .inl rfl⟩, k⟩
/-! ### a & b of own objects of one class -/
section
variable {X : Cx}
def rOwnBin (C : Addr) (sp : Sp) : R2 := fun x y H Q => ∃ a dx fs b dy gs, x = .ref a ∧ H a = some (.ins C dx fs) ∧ y = .ref b ∧ H b = some (.ins C dy gs) ∧ sp [x, y] H Q (fun _ _ _ => False)
theorem no_ni {v : V} {u : Value} (r : RelV v u) : u ≠ .notImplemented := by
  rintro rfl
  cases v <;> first | (cases r; done) | (obtain ⟨_, h⟩ := r; cases h; done) | (simp [RelV] at r; done)
theorem opOwnBin {op : Operator} {m : Str} {k : Nat} {f C : Addr} {fd : FuncData} {ps : List Str} {sp : Sp} (hm : PySem.dunder op.info.2 = m) (M : Meth X.K C m f) (sf : PySem.W.selfFirst X.K C = true) (F : FnOk X.prog X.w X.K X.mg X.base (L2.CX X.prog X.w) k f fd ps sp) (hb : Binds X.K fd ps []) (hr : Room k X.A) : OpR X (binaryOp op) (rOwnBin C sp) := by
  intro pins s σ H x y v u Q I rx ry hq
  obtain ⟨a, dx, fs, b, dy, gs, rfl, ha, rfl, hb2, hs⟩ := hq
  cases rx
  cases ry
  obtain ⟨mA, J, _⟩ := ins_get I.hok ha
  obtain ⟨od, J, _⟩ := J.look
  obtain ⟨mB, J2, _⟩ := ins_get I.hok hb2
  obtain ⟨od2, J2, _⟩ := J2.look
  obtain ⟨m', hF⟩ := I.fr
  have run := own_run F hb ⟨hr, rfl⟩ I (us := [.ref a, .ref b]) (vs := [.ref a, .ref b]) (.cons rfl (.cons rfl .nil)) hs
  refine PySem.W.binop_K hF I.ok.mod.kin J J2.type sf (by rw [hm]; exact M.at_) M.fn (wpAny_mono run (fun r s' q => ?_) fun _ _ z => z)
  have q0 := q
  obtain ⟨z, H', I', rz, q⟩ := q
  have nn := no_ni rz
  unfold PySem.W.CmpBack
  split
  · exact nn rfl
  · exact q0
def BinM (P : Program) (w : World) (K : PySem.W.Frag) (mg : Str → Option Value) (base : Heap) (c m : Str) (k : Nat) (F : Fn) : Prop := MethM P w K mg base c m k 2 F ∧ ∀ C, mg c = some (.ref C) → PySem.W.selfFirst K C = true
def gOwnBin (c : Str) (F : Fn) : IV → IV → Sto → R IV := fun x y st => match insAt st [c] x, insAt st [c] y with
  | some _, some _ => quiet (F [x, y] st)
  | _, _ => .bad
theorem opm_ownBin {op : Operator} {c m : Str} {k : Nat} {F : Fn} (hd : PySem.dunder op.info.2 = m) (h : BinM X.prog X.w X.K X.mg X.base c m k F) (hr : Room k X.A) : OpM X (binaryOp op) (gOwnBin c F) := by
  obtain ⟨⟨C, f, fd, ps, hm, hC, hM, hb, hf⟩, sf⟩ := h
  refine ⟨_, opOwnBin hd hM (sf C hm) hf hb hr, fun m bs st H x y x' y' Q W R rx ry h => ?_⟩
  unfold gOwnBin at h
  split at h
  · rename_i p q e1 e2
    obtain ⟨a, C', dx, gs, ev, h1, h2⟩ := ins_of R e1 rx
    obtain ⟨b, C2, dy, gy, ev2, h3, h4⟩ := ins_of R e2 ry
    have c1 : C' = C := by
      have h1' : X.mg c = some (.ref C') := h1
      rw [hm] at h1'; cases h1'; rfl
    have c2 : C2 = C := by
      have h1' : X.mg c = some (.ref C2) := h3
      rw [hm] at h1'; cases h1'; rfl
    rw [c1] at h2
    rw [c2] at h4
    refine ⟨a, dx, gs, b, dy, gy, ev, h2, ev2, h4, rfl, m, bs, st, [x, y], R, ?_, quiet_post (W := W) h⟩
    simp only [RVs]
    exact ⟨x', [y'], rfl, rx, y', [], rfl, ry, rfl⟩
  · exact h.elim
theorem dunder_and : PySem.dunder Operator.BitAnd.info.2 = "__and__" := by decide +kernel
end
end Mi
set_option Elab.async false
set_option linter.all false
set_option maxRecDepth 100000
set_option maxHeartbeats 4000000
/-! except C as n: a suite that raises out of the try -/
namespace Mi
open PySem PySem.Spec PyProof.Rows L2
section
variable {X : Cx} {pins : List (Addr × Obj)} {a0 : Addr} {oe0 : Obj} {i : Nat} {n : Str} {pos : Pos} {Wout : L2.WX} {R : Value → Shared → Prop} {E1 E2 : Value → Shared → Prop}
/-- the suite's context, with a wish of exceptions -/
abbrev suiteE (X : Cx) (a : Addr) (pn : List (Addr × Obj)) (xe : Value → Shared → Prop) : Cx := { X with A := X.A.mark (some (.ref a)), calm := false, pn := pn, xe := xe }
/-- what is raised in the suite: the clause's name goes, then the exception flies on -/
theorem suite_exc {xe : Value → Shared → Prop} {u : Value} {s' : Shared} (hs : X.stack = X.env :: X.outer) (hf : X.env.frame = some X.env.locals) (hex : X.ex = []) (hN : X.N.Nodup) (hi : X.N[i]? = some n) (hln : X.env.kindOf n = some .local) (ok : X.Ok)
    (k : ∀ u s8, L2.XE X Wout u s8 → R u s8) (xx : L2.XE (suiteE X a0 ((a0, oe0) :: (X.pn ++ pins)) xe) (fun cls d σ H => Wout cls d (σ.set i none) H) u s') :
    wpAny (model X.prog X.w) (X.A.mark (some (.ref a0))) (noteFrame u X.env) (fun _ s3 => wpAny (model X.prog X.w) (X.A.mark (some (.ref a0))) (do bindName X.env n .none; unbindBehindTheSuite X.env n pos)
      (fun _ s4 => wpAny (model X.prog X.w) (X.A.mark (some (.ref a0))) (passOn "try.except-as" u X.env : Sem Flow) (fun _ _ => False) R s4) E2 s3) E1 s' := by
  have hfr : (X.A.mark (some (.ref a0))).frames = some (X.env :: X.outer) := by show X.A.frames = _; rw [ok.frames, hs]
  obtain ⟨a, B, sI, pins', σ', H', cls, d, rfl, J', nb, up, sky, na, os, ag, w⟩ := xx
  have sky' : Sky B (X.env :: X.outer) a (Zc cls d) X.env.locals s'.heap := by rw [← hs]; exact sky
  have fin : ∀ h1, HandSPX.HeldZ B (X.env :: X.outer) a (Zc cls d) X.env.locals h1 → s'.heap.UpToSlots h1 → wpAny (model X.prog X.w) (X.A.mark (some (.ref a0))) (do bindName X.env n .none; unbindBehindTheSuite X.env n pos)
      (fun _ s4 => wpAny (model X.prog X.w) (X.A.mark (some (.ref a0))) (passOn "try.except-as" (.ref a) X.env : Sem Flow) (fun _ _ => False) R s4) E2 { s' with heap := h1 } := fun h1 hh1 up1 => by
    have J1 : L2.Inv (suiteE X a0 ((a0, oe0) :: (X.pn ++ pins)) xe) pins' σ' H' { s' with heap := h1 } := J'.landed nb hh1.1 (up.trans up1) os ag
    obtain ⟨_, hBa, ff, oe, vs, T, oT, ts, he, hz, hd, hv1, hBT, hTa, hT, hdT, ht3⟩ := id hh1
    have nT : H' T = none := (J'.inGround nb).gone hBT
    have offF : ∀ (b : Addr) (o : Obj) (fv : Array Value), h1.get? b = some o → o.data = .fields fv → b ∉ frs (X.env :: X.outer) := fun b o fv e dd hm => by
      obtain ⟨_, o', e', hnf⟩ := ff.mem hm
      cases Option.some.inj (e.symm.trans e')
      exact hnf _ dd
    have locF : X.env.locals ∈ frs (X.env :: X.outer) := List.mem_filterMap.mpr ⟨X.env, List.mem_cons_self, hf⟩
    have fsF : ∀ b, b ∈ X.fs → b ∈ frs (X.env :: X.outer) := fun b hm => by
      obtain ⟨e, he, q⟩ := List.mem_filterMap.mp hm
      exact List.mem_filterMap.mpr ⟨e, List.mem_cons_of_mem _ he, q⟩
    have fa := offF a oe vs he hd
    have fT := offF T oT ts hT hdT
    have pinO : ∀ (b : Addr) (o : Obj) (fv : Array Value), h1.get? b = some o → o.data = .fields fv → H' b = none → b ∉ frs (X.env :: X.outer) → h1.get? b = some o ∧ H' b = none ∧ b ≠ X.env.locals ∧ b ∉ X.fs ∧ ∀ v, o.data ≠ .cell v := fun b o fv e dd nb fb =>
      ⟨e, nb, fun z => fb (by rw [z]; exact locF), fun z => fb (fsF _ z), fun v z => by rw [dd] at z; cases z⟩
    have S1 : L2.Inv (X.suite a0 ((a, oe) :: (T, oT) :: (a0, oe0) :: (X.pn ++ pins))) [] σ' H' { s' with heap := h1 } :=
      ⟨ok.suite _ _, J1.os, J1.bare, J1.base, J1.loc, J1.cell, J1.free, J1.freeC, fun p hp => by
        rw [List.append_nil] at hp
        rcases List.mem_cons.mp hp with z | hp
        · rw [z]; exact pinO a oe vs he hd na fa
        · rcases List.mem_cons.mp hp with z | hp
          · rw [z]; exact pinO T oT ts hT hdT nT fT
          · exact J1.pin p (List.mem_append_left _ hp), J1.hok, J1.len⟩
    refine gone_ok (X := X.suite a0 ((a, oe) :: (T, oT) :: (a0, oe0) :: (X.pn ++ pins))) S1 hN hi hln fun s7 S7 => ?_
    have J7 : L2.Inv X pins (σ'.set i none) H' s7 := ⟨ok, S7.os, S7.bare, S7.base, S7.loc, S7.cell, S7.free, S7.freeC, fun p hp => S7.pin p (List.mem_append_left _ (List.mem_cons_of_mem _ (List.mem_cons_of_mem _ (List.mem_cons_of_mem _ hp)))), S7.hok, S7.len⟩
    have pa := S7.pin (a, oe) (List.mem_append_left _ List.mem_cons_self)
    have pT := S7.pin (T, oT) (List.mem_append_left _ (List.mem_cons_of_mem _ List.mem_cons_self))
    have ga : s7.heap.get? a = some oe := pa.1
    have gT : s7.heap.get? T = some oT := pT.1
    have far : ∀ b o, sI.heap.get? b = some o → b ≠ a ∧ b ≠ T := fun b o e => by
      by_cases hb : b ∈ frs X.stack
      · rw [hs] at hb
        exact ⟨fun z => fa (z ▸ hb), fun z => fT (z ▸ hb)⟩
      · have q := nb b o e hb
        have qa : b = a → False := fun z => by
          rw [z, hBa] at q
          cases q
        have qT : b = T → False := fun z => by
          rw [z, hBT] at q
          cases q
        exact ⟨qa, qT⟩
    have far0 : ∀ b o, X.s_0.heap.get? b = some o → b ≠ a ∧ b ≠ T := fun b o e => by
      obtain ⟨o', q⟩ := J'.base.there b o e (by show b ∉ X.ex; rw [hex]; simp)
      exact far b o' q
    have farP : ∀ p ∈ X.pn ++ pins, p.1 ≠ a ∧ p.1 ≠ T := fun p hp => far p.1 p.2 (J'.pin p (List.mem_append_left _ (List.mem_cons_of_mem _ hp))).1
    obtain ⟨G, g1, g2⟩ := restrict s7.heap fun b => !(decide (b = a) || decide (b = T))
    have gIn : ∀ b o, G.get? b = some o → s7.heap.get? b = some o ∧ b ≠ a ∧ b ≠ T := fun b o e => by
      cases q : (!(decide (b = a) || decide (b = T))) with
      | false => rw [g2 b q] at e; cases e
      | true =>
        rw [g1 b q] at e
        simp only [Bool.not_eq_true', Bool.or_eq_false_iff, decide_eq_false_iff_not] at q
        exact ⟨e, q.1, q.2⟩
    have gOf : ∀ b o, b ≠ a → b ≠ T → s7.heap.get? b = some o → G.get? b = some o := fun b o h1 h2 e => by rw [g1 b (by simp [h1, h2])]; exact e
    have I7 : L2.Inv X pins (σ'.set i none) H' { s7 with heap := G } := J7.less (fun b o e => (gIn b o e).1) gOf ⟨oe, vs, ga, hd⟩ ⟨oT, ts, gT, hdT⟩ na nT far0 farP
    have hid : ∀ b o, (PySem.W.hideAll G (frs X.stack)).get? b = some o → s7.heap.get? b = some o ∧ b ≠ a ∧ b ≠ T := fun b o e => gIn b o (PySem.W.of_hideAll _ e)
    have hno : ∀ b, (b = a ∨ b = T) → (PySem.W.hideAll G (frs X.stack)).get? b = none := fun b hb => by
      cases q : (PySem.W.hideAll G (frs X.stack)).get? b with
      | none => rfl
      | some o =>
        have z := hid b o q
        rcases hb with y | y
        · exact absurd y z.2.1
        · exact absurd y z.2.2
    have ff7 : s7.heap.FunFrames (PySem.W.hideAll G (frs X.stack)) (X.env :: X.outer) := by
      have q := funFrames_none (B := PySem.W.hideAll G (frs X.stack)) J7.stack fun b hb => PySem.W.hideAll_none _ hb
      rw [← hs]
      exact q
    unfold PySem.passOn
    refine wpAny_bind (wpAny_field ga hd hv1 ?_)
    rw [if_neg (show ¬ ((Value.ref T == Value.none) = true) from by simp)]
    have go : wpAny (model X.prog X.w) (X.A.mark (some (.ref a0))) (setFlight (.ref a) X.env.frame) (fun _ s8 => wpAny (model X.prog X.w) (X.A.mark (some (.ref a0))) (throw (.ref a) : Sem Flow) (fun _ _ => False) R s8) R s7 := by
      rw [hf]
      refine HandSPX.setFlight_anyZ (base := PySem.W.hideAll G (frs X.stack)) (l := X.env :: X.outer) (Z := Zc cls d) (fun b o e => (hid b o e).1) ff7 ⟨oe, vs, T, oT, ts, ga, hz, hd, hv1, hno T (.inr rfl), hTa, gT, hdT, ht3⟩ fun h8 k1 k2 k3 k4 => wpAny_throw (k _ _ ?_)
      refine ⟨a, PySem.W.hideAll G (frs X.stack), { s7 with heap := G }, pins, σ'.set i none, H', cls, d, rfl, I7, fun b o e hb => PySem.W.hideAll_get _ e hb, ?_, ?_, na, rfl, J7.bare, w⟩
      · exact Heap.UpToSlots.trans (Heap.UpToSlots.of_keeps fun b o e => (gIn b o e).1) k4
      · have held : HandSPX.HeldZ (PySem.W.hideAll G (frs X.stack)) (X.env :: X.outer) a (Zc cls d) X.env.locals h8 := ⟨k1, hno a (.inl rfl), k2, k3⟩
        rw [← hs] at held
        exact .inr (.inr held)
    first
      | exact wpAny_bind (wpAny_pure (wpAny_bind go))
      | exact wpAny_bind go
  rcases sky' with ⟨hB, hn, hl, oe, vs, he0, hz, hd, hv1⟩ | fl | hh
  · exact HandSPX.look_newZ Zc.steady hfr hl hf he0 hB hn hd hv1 hz fin
  · exact HandSPX.looks_onZ Zc.steady hfr hf fl fin
  · exact HandSPX.againZ hf hh.2.2.2 (fin s'.heap hh (Heap.UpToSlots.refl _))
end
/-! the try -/
section
variable {X : Cx} {x n : Str} {c : Value} {i : Nat} {body suite : List Stmt} {b₀ : Stmt} {np pos pos' : Pos} {tb : L2.WX → TS} {ts : Addr → Value → Option Addr → TS} {Wout : L2.WX}
abbrev wGone (i : Nat) (W : L2.WX) : L2.WX := fun cls d σ H => W cls d (σ.set i none) H
theorem ps_try_asX (hs : X.stack = X.env :: X.outer) (hf : X.env.frame = some X.env.locals) (hex : X.ex = []) (hN : X.N.Nodup) (hi : X.N[i]? = some n) (hln : X.env.kindOf n = some .local) (hc : Names X x c) (tk : L2.Takes X Wout)
    (hpa : ∀ hd : Option Value, PassesOwnAt (model X.prog X.w) (X.A.mark hd) X.A X.env X.xe)
    (hb : ∀ (W : L2.WX) (pn : List (Addr × Obj)) (xe : Value → Shared → Prop), L2N.Takes (X.tr pn xe) W → PassesOwn (model X.prog X.w) X.A X.env xe → PSs (X.tr pn xe) body (tb W))
    (hsu : ∀ (a : Addr) (oe : Obj) (cls : Value) (d : Option Addr) (pn : List (Addr × Obj)) (xe : Value → Shared → Prop), L2N.Zn cls d oe → (∃ vs, oe.data = .fields vs) → L2.Takes (suiteE X a ((a, oe) :: pn) xe) (wGone i Wout) → PSs (suiteE X a ((a, oe) :: pn) xe) (b₀ :: suite) (ts a cls d)) :
    PS X (.Try body [.ExceptHandler (some (.Name x np)) (some n) (b₀ :: suite) pos'] [] [] pos) (fun D σ H => tb (wAs X.K c i ts Wout D) D σ H) := by
  refine ⟨fun pins s σ H D I h => ?_⟩
  have ok := I.ok
  have hfr : X.A.frames = some (X.env :: X.outer) := by rw [ok.frames, hs]
  have hloc : Loc X.env.scope n := .inl hln
  refine wpAny_Try_except (wpAny_mono ((hb (wAs X.K c i ts Wout D) (X.pn ++ pins) (fun e s₁ => wpAny (model X.prog X.w) X.A (noteFrame e X.env) (fun _ s₂ => wpAny (model X.prog X.w) X.A (setFlight e none) (fun _ s₃ =>
    wpAny (model X.prog X.w) X.A (handleBy e X.env [.ExceptHandler (some (.Name x np)) (some n) (b₀ :: suite) pos']) (SP X pins D) X.xe s₃) X.xe s₂) X.xe s₁) (fun u s' xx => ?_) PassesOwn.looking).run [] s σ H D (I.toTry _) h) (fun f s1 hsp => ?_) fun e s1 he => he)
  · obtain ⟨a, B, sI, pins', σ', H', cls, d, rfl, J', nb, up, sky, na, os, ag, b, hb1, hyes, hno⟩ := xx
    have J : L2.Inv X pins σ' H' sI := J'.ofTry ok
    have sky' : Sky B (X.env :: X.outer) a (L2N.Zn cls d) X.env.locals s'.heap := by rw [← hs]; exact sky
    refine L2N.Sky.land L2N.Zn.steady hfr hf sky' fun h3 fl3 up3 => ?_
    have J3 : L2.Inv X pins σ' H' { s' with heap := h3 } := J.landed nb fl3.1 (up.trans up3) os ag
    obtain ⟨oe3, vs3, he3, hz3, hd3⟩ := fl3.there
    have nfr : a ∉ frs (X.env :: X.outer) := fun hm => by
      obtain ⟨_, o', e', hnf⟩ := fl3.2.2.1.mem hm
      cases Option.some.inj (he3.symm.trans e')
      exact hnf _ hd3
    have nL : a ≠ X.env.locals := fun z => nfr (List.mem_filterMap.mpr ⟨X.env, List.mem_cons_self, by rw [hf, z]⟩)
    have nF : a ∉ X.fs := fun hm => by
      obtain ⟨e, he, q⟩ := List.mem_filterMap.mp hm
      exact nfr (List.mem_filterMap.mpr ⟨e, List.mem_cons_of_mem _ he, q⟩)
    have S3 := J3.suite he3 hd3 na nL nF
    refine wpAny_handleBy_cons (codeAny_handlers_test ?_) (by intro q; cases q)
    have LT : PySem.W.Looks (model X.prog X.w) h3 (typeOf (.ref a)) cls := fun A Q E s k q => wpAny_typeOf_ref (k _ _ he3) (by rw [hz3.1]; exact q)
    have LM := PySem.W.exm_one (M := model X.prog X.w) (J3.kIn) LT hb1
    have test : ∀ {Q : Value → Shared → Prop} {E : Value → Shared → Prop}, Q c { s' with heap := h3 } → wpAny (model X.prog X.w) (X.A.mark (some (.ref a))) (eval (.Name x np) X.env) Q E { s' with heap := h3 } := fun {Q E} q => by
      obtain ⟨hg, hdbg, hm | ⟨hm, hv, hnn⟩⟩ := hc
      · exact ld_glob (X := X.suite a ((a, oe3) :: (X.pn ++ pins))) S3 hg hm q hdbg
      · exact ld_blt (X := X.suite a ((a, oe3) :: (X.pn ++ pins))) S3 hg hm hv q hnn hdbg
    refine test (LM.here ?_)
    cases b with
    | true =>
      refine codeAny_handlers_suite_as ?_
      refine HandSPX.lands_againZ fl3 fun h4 fl4 up4 => ?_
      have J4 : L2.Inv X pins σ' H' { s' with heap := h4 } := J.landed nb fl4.1 ((up.trans up3).trans up4) os ag
      obtain ⟨oe4, vs4, he4, hz4, hd4⟩ := fl4.there
      have S4 := J4.suite he4 hd4 na nL nF
      refine store_ok (X := X.suite a ((a, oe4) :: (X.pn ++ pins))) (v := .ref a) S4 hN hi hloc rfl (fun s5 S5 => ?_) (.inr hln)
      refine (hsu a oe4 cls d (X.pn ++ pins) _ hz4 ⟨_, hd4⟩ (fun u s' xx => suite_exc hs hf hex hN hi hln ok (fun u s8 z => hpa (some (.ref a)) u s8 (tk u s8 z)) xx)).run [] s5 _ H' _ ?_ (hyes rfl a na) |> fun z => wpAny_mono z (fun f s6 hsp => ?_) fun _ _ z => z
      · have back : ∀ {σ6 : L2.St} {H6 : Hp} {xe : Value → Shared → Prop}, L2.Inv (suiteE X a ((a, oe4) :: (X.pn ++ pins)) xe) [] σ6 H6 s6 → L2.Inv X pins σ6 H6 s6 := fun {σ6 H6 xe} S6 =>
          ⟨ok, S6.os, S6.bare, S6.base, S6.loc, S6.cell, S6.free, S6.freeC, fun p hp => S6.pin p (List.mem_append_left _ (List.mem_cons_of_mem _ hp)), S6.hok, S6.len⟩
        cases f with
        | next =>
          obtain ⟨σ6, H6, S6, q6⟩ := hsp
          exact gone_ok (back S6) hN hi hln fun s7 J7 => ⟨_, _, J7, q6⟩
        | brk =>
          obtain ⟨σ6, H6, S6, q6⟩ := hsp
          exact gone_ok (back S6) hN hi hln fun s7 J7 => ⟨_, _, J7, q6⟩
        | cont =>
          obtain ⟨σ6, H6, S6, q6⟩ := hsp
          exact gone_ok (back S6) hN hi hln fun s7 J7 => ⟨_, _, J7, q6⟩
        | ret u =>
          obtain ⟨v6, σ6, H6, S6, r6, q6⟩ := hsp
          exact gone_ok (back S6) hN hi hln fun s7 J7 => ⟨_, _, _, J7, r6, q6⟩
      · exact ⟨S5.ok.wish _, S5.os, S5.bare, S5.base, S5.loc, S5.cell, S5.free, S5.freeC, S5.pin, S5.hok, S5.len⟩
    | false =>
      refine wpAny_handleBy_nil ?_
      have fl5 : HandSPX.FlyingZ B (X.env :: X.outer) a (Zc cls d) h3 := L2H.flyingZ_imp (fun o z => z.zc) fl3
      obtain ⟨k1, k2, k3, oe, vs, T, oT, ts', he, hz, hd, h1, hr⟩ := id fl5
      unfold PySem.passOn
      refine wpAny_bind (wpAny_field he hd h1 ?_)
      rw [if_neg (show ¬ ((Value.ref T == Value.none) = true) from by simp)]
      have fin : wpAny (model X.prog X.w) X.A (setFlight (.ref a) X.env.frame) (fun _ s4 => wpAny (model X.prog X.w) X.A (throw (.ref a) : Sem Flow) (SP X pins D) X.xe s4) X.xe { s' with heap := h3 } := by
        rw [hf]
        refine HandSPX.setFlight_upZ fl5 fun h4 hh4 up4 => wpAny_throw (tk _ _ ?_)
        exact ⟨a, B, sI, pins, σ', H', cls, d, rfl, J, nb, (up.trans up3).trans up4, .inr (.inr (by rw [hs]; exact hh4)), na, os, ag, hno rfl⟩
      first
        | exact wpAny_bind (wpAny_pure (wpAny_bind fin))
        | exact wpAny_bind fin
  · cases f with
    | next =>
      obtain ⟨σ', H', J', q⟩ := hsp
      exact wpAny_execs_nil ⟨σ', H', J'.ofTry ok, q⟩
    | brk =>
      obtain ⟨σ', H', J', q⟩ := hsp
      exact ⟨σ', H', J'.ofTry ok, q⟩
    | cont =>
      obtain ⟨σ', H', J', q⟩ := hsp
      exact ⟨σ', H', J'.ofTry ok, q⟩
    | ret u =>
      obtain ⟨v, σ', H', J', r, q⟩ := hsp
      exact ⟨v, σ', H', J'.ofTry ok, r, q⟩
end
end Mi
set_option Elab.async false
set_option linter.all false
set_option maxRecDepth 100000
set_option maxHeartbeats 4000000
/-! exceptions whose context is None (L2N), and suites that raise, in the mirror -/
namespace Mi
open PySem PySem.Spec PyProof.Rows L2
section
variable {P : Program} {w : World} {K : PySem.W.Frag} {mg : Str → Option Value} {base : Heap}
theorem cx_ofN {outer : List Env} {H : Hp} {s s' : Shared} {E : XK} {u : Value} (h : L2N.CX P w outer H s E u s') : L2.CX P w outer H s E u s' := by
  obtain ⟨a, B, H', cls, d, e, fl, r⟩ := h
  exact ⟨a, B, H', cls, d, e, L2H.flyingZ_imp (fun o z => z.zc) fl, r⟩
theorem fnok_ofN {k : Nat} {f : Addr} {fd : FuncData} {ps : List Str} {sp : Sp} (F : FnOk P w K mg base (L2N.CX P w) k f fd ps sp) : FnOk P w K mg base (L2.CX P w) k f fd ps sp :=
  ⟨F.len, fun A outer s H args us vs Q E hr he hb hv hs => codeAny_mono (F.run A outer s H args us vs Q E hr he hb hv hs) fun r s' hq => by
    cases r with
    | error e => exact cx_ofN hq
    | ok fl => cases fl <;> exact hq⟩
theorem okCX {CX : CXT} {x qual : Str} {st : Stmt} {f : Addr} {fd : FuncData} {N ps : List Str} {k : Nat} {sp : Sp} (F : L2.Fun K x qual st f fd) (S : FnScope N ps (defScope st)) (len : ∀ vs H Q E, sp vs H Q E → vs.length = ps.length)
    (hbody : ∀ (cdv : Value) (A : Around) (outer : List Env) (s : Shared) (H : Hp) (vs : List V) (Q : VK) (E : XK), Room k (A.deeper (envOfC qual (defScope st) s.heap.objs.size f cdv)) → sp vs H Q E →
      ∃ t, PSs (cxOf CX P w K mg base N qual (defScope st) f cdv A outer s H E) (defBody st) t ∧ t { nx := fun _ H' => Q .non H', rt := Q } (start N vs) H) : FnOk P w K mg base CX (k + 1) f fd ps sp := by
  obtain ⟨oc, od, kV, doc, pm, an, cdv, ct, osl, rfl, lk, hcd⟩ := F.ex
  exact fn_of lk hcd S len fun A outer s H vs Q E hr hsp => hbody cdv A outer s H vs Q E hr hsp
theorem fn_okN {x qual : Str} {st : Stmt} {f : Addr} {fd : FuncData} {N ps : List Str} {k j : Nat} {B : IS} (F : L2.Fun K x qual st f fd) (S : FnScope N ps (defScope st)) (hj : N.length - ps.length = j)
    (hb : ∀ (cdv : Value) (A : Around) (outer : List Env) (s : Shared) (H : Hp) (E : XK), Room k (A.deeper (envOfC qual (defScope st) s.heap.objs.size f cdv)) →
      MSs (cxOf (L2N.CX P w) P w K mg base N qual (defScope st) f cdv A outer s H E) (fun cls d _ H => E cls d H) none (defBody st) B) : FnOk P w K mg base (L2N.CX P w) (k + 1) f fd ps (spOf ⟨K, mg, P, w⟩ ps.length (fnOf j B)) := by
  refine okCX F S (fun vs H Q E h => h.1) (fun cdv A outer s H vs Q E hr h => ⟨_, hb cdv A outer s H E hr, ?_⟩)
  obtain ⟨hl, m, bs, st, args, R, r, h⟩ := h
  have P0 := re_start (k := j) (N := N) R r (by rw [hl, hj])
  show tsOf ⟨K, mg, P, w⟩ (fun cls d _ H => E cls d H) none B _ _ _
  refine ⟨m, [], bs, _, st, P0, ?_⟩
  unfold fnOf at h
  cases q : B (args.map (fun x => some (.v x)) ++ List.replicate j none) st with
  | nx ρ' st' =>
    rw [q] at h
    exact fun m' os' H' σ' g P' => h m' H' g.toE P'.rel.less .non (by simp only [RV])
  | rt v st' =>
    rw [q] at h
    exact fun m' os' H' u g R' ru => h m' H' g.toE R'.less u (RV.fits fits_less _ _ ru)
  | exc c fs ρ' st' =>
    rw [q] at h
    exact fun m' os' H' σ' cls d g P' x => h m' H' cls d g.toE P'.rel.less x.less
  | bk ρ' st' => rw [q] at h; exact h.elim
  | ct ρ' st' => rw [q] at h; exact h.elim
  | bad => rw [q] at h; exact h.elim

def FnMN (P : Program) (w : World) (K : PySem.W.Frag) (mg : Str → Option Value) (base : Heap) (x : Str) (k n : Nat) (F : Fn) : Prop :=
  ∃ f fd ps, mg x = some (.ref f) ∧ PySem.W.keepIn K (.ref f) = true ∧ Binds K fd ps [] ∧ FnOk P w K mg base (L2N.CX P w) k f fd ps (spOf ⟨K, mg, P, w⟩ n F)
theorem FnMN.fnM {x : Str} {k n : Nat} {F : Fn} (h : FnMN P w K mg base x k n F) : FnM P w K mg base x k n F := by
  obtain ⟨f, fd, ps, h1, h2, h3, h4⟩ := h
  exact ⟨f, fd, ps, h1, h2, h3, fnok_ofN h4⟩
end
section
variable {X : Cx} {W : WX} {xa : Xa} {e : Expr} {A : IE} {pos p apos cpos : Pos} {es : List Expr} {As : IA} {k n : Nat} {F : Fn} {x c : Str}
theorem me_callN (h : FnMN X.prog X.w X.K X.mg X.base x k n F) (hr : Room k X.A) (tk : L2N.Takes X W) (hg : Gl X x) (ha : MA X W xa (e :: es) As)
    (hdb : (x == ("__debug__" : Str)) = false := by decide) (he : starEach (e :: es) X.env = (false, eval e X.env) :: starEach es X.env := by rfl) (hpl : (backTo pos (starEach es X.env)).any (·.1) = false := by rfl) :
    ME X W xa (.Call (.Name x p) (e :: es) [] pos) (iCall (arity n F) As) := by
  obtain ⟨f, fd, ps, hm, hk, hb, hf⟩ := h
  refine PE.weak (pe_callSD hf hr hg hm hk hb .nil (E := fun σ cls d H => W cls d σ H) (fun σ => L2N.passAt tk σ) ha hdb he hpl) fun σ H Q h => ?_
  obtain ⟨m, os, rs, ρ, st, P, h⟩ := h
  refine ⟨m, os, rs, ρ, st, P, h.bind.mono fun args m1 st1 H1 g1 R1 h1 vs rv => ?_⟩
  unfold arity at h1
  split at h1
  · rename_i hl
    exact ⟨by rw [List.append_nil, ← rv.length]; exact hl, m1, _, st1, args, R1, by rw [List.append_nil]; exact rv, h1⟩
  · exact h1.elim
/-- what a raise asks -/
theorem raise_weak {C : Addr} {f : Str} (hC : X.mg c = some (.ref C)) {D : Ends} {σ : L2.St} {H : Hp} (h : tsOf (gd X) W xa (iRaise c f A) D σ H) : tMkO C (spI X.K C f) [] (tCons (teOf (gd X) W xa A) tNil) σ H (fun cls d H' => W cls d σ H') := by
  obtain ⟨m, os, rs, ρ, st, P, h⟩ := h
  refine ⟨m, os, rs, ρ, st, P, (h.ofR P).mono fun v m1 st1 H1 g1 R1 h1 u ru => ⟨by show 1 ≤ 1000; decide, fun a ha => ⟨a, u, rfl, upd_same, fun d hd ne => ?_⟩⟩⟩
  have hd1 : H1 d = none := by rw [upd_ne ne] at hd; exact hd
  refine ⟨rfl, d, [(f, u)], upd_same, by rw [upd_ne ne, upd_same], hd1, ?_⟩
  have e : upd (del (upd (upd (upd H1 a (exo a C none)) d (exd d [(f, u)])) a (exo a C (some d))) a) d (.xd [(f, u)]) = upd H1 d (.xd [(f, u)]) := by
    funext b
    by_cases hb : b = d
    · rw [hb, upd_same, upd_same]
    · rw [upd_ne hb, upd_ne hb]
      by_cases hba : b = a
      · rw [hba, del_same, ha]
      · rw [del_ne hba, upd_ne hba, upd_ne hb, upd_ne hba]
  rw [e]
  have g2 : GrowE m1 st1 H1 m1 st1 (upd H1 d (.xd [(f, u)])) := grow_new hd1
  have R2 : Rel (gd X) m1 (os ++ rs) st1 (upd H1 d (.xd [(f, u)])) := R1.new hd1
  exact h1 m1 os _ σ _ _ (.ofE g2) ((P.grow g1 R1).grow g2 R2) ⟨C, hC, rfl, .inr ⟨d, _, rfl, upd_same, (R1.fresh hd1).1, (R1.fresh hd1).2, u, [], rfl, RV.fits g2.fitsE _ _ ru, rfl⟩⟩


/-- C(e, ..) where nothing is handled: the context is None -/
theorem pmk_oexN {CX : CXT} {C fI : Addr} {fd : FuncData} {ps : List Str} {sp : Sp} {ta : TA} (T : OexC X.K C) (iC : PySem.W.findIn X.K (.ref C) "__init__" = some (some (.ref fI))) (tI : PySem.W.typeIn X.K (.ref fI) = some (.type "function"))
    (F1 : FnOk X.prog X.w X.K X.mg X.base CX k fI fd ps sp) (hr : Room (k + 1) X.A) (hb : Binds X.K fd ps []) (hx : Passes CX X (fun _ _ _ => False)) (hg : Gl X x) (hm : X.mg x = some (.ref C)) (ha : PA X (e :: es) ta)
    (hdb : (x == ("__debug__" : Str)) = false := by decide) (he : starEach (e :: es) X.env = (false, eval e X.env) :: starEach es X.env := by rfl) (hpl : (backTo pos (starEach es X.env)).any (·.1) = false := by rfl) :
    L2N.PMk X (.Call (.Name x p) (e :: es) [] pos) (tMkO C sp [] ta) := by
  intro pins s σ H Q I h
  obtain ⟨nm, q, N, bs, bm, sn, sub, ab, col, dd, k0, k1, k2, k3, k5, hC, hbm⟩ := T.cls
  refine wpAny_Call_Name_kw (ld_glob I hg hm ?_ hdb)
  refine PySem.W.callWith_K (h₀ := X.base) I.ok.mod.kin T.kC (thn (ha.run pos pins s σ H _ I h) fun us s1 ⟨vs, H1, I1, r1, hz, q1⟩ => ⟨I1.kIn, ?_⟩) he hpl
  show wpAny _ _ (call (.ref C) us) _ _ _
  obtain ⟨hp, g, dr, tk, os⟩ := s1
  have hsz : hp.objs.size ≤ hp.objs.size + 1 := Nat.le_succ _
  have hq := q1 (hp.objs.size + 1) (I1.hok.fresh hsz)
  rw [List.append_nil] at hq
  have kk : ∀ b o, hp.get? b = some o → ((hp.push (PySem.W.kdv_tup us)).push (PySem.HandSPX.excO C hp.objs.size)).get? b = some o := fun b o e => Heap.get?_push_of_some _ (Heap.get?_push_of_some _ e)
  have hget : ((hp.push (PySem.W.kdv_tup us)).push (PySem.HandSPX.excO C hp.objs.size)).get? (hp.objs.size + 1) = some (PySem.HandSPX.excO C hp.objs.size) := by heap_get
  have I2 : L2.Inv X pins σ (upd H1 (hp.objs.size + 1) (exo (hp.objs.size + 1) C none)) ⟨(hp.push (PySem.W.kdv_tup us)).push (PySem.HandSPX.excO C hp.objs.size), g, dr, tk, os⟩ :=
    I1.laid (t' := tk) (a := hp.objs.size + 1) (o := exo (hp.objs.size + 1) C none) (h' := (hp.push (PySem.W.kdv_tup us)).push (PySem.HandSPX.excO C hp.objs.size)) kk hsz (exo_ok hget)
  have r2 : Vals (V.ref (hp.objs.size + 1) :: vs) (Value.ref (hp.objs.size + 1) :: us) := .cons rfl r1
  have hl : (Value.ref (hp.objs.size + 1) :: us ++ []).length = ps.length := by
    have e := r2.length
    rw [F1.len _ _ _ _ hq] at e
    rw [List.append_nil]
    exact e.symm
  have hus : us.length ≤ sizeLine := by
    rw [← Paired.length r1, sizeLine_eq]
    omega
  have b2 := hb _ (Value.ref (hp.objs.size + 1) :: us) I2.kIn hl
  rw [List.append_nil] at b2
  refine wpAny_call (PySem.HandSPX.call_own F.excBase_ValueError (fun Y => PySem.HandSPX.refsVE_contains Y bm hbm) (I1.kIn _ _ hC) (PySem.W.looks_findIn I1.kIn iC) (fun self => PySem.W.bind_fn I1.kIn self tI) hus
    (codeAny_mono (F1.run _ X.stack _ _ ⟨Value.ref (hp.objs.size + 1) :: us, []⟩ (Value.ref (hp.objs.size + 1) :: us) _ _ (fun _ _ _ => False) (hr.make C us []) (I2.env0.make C us []) b2 r2 hq) fun r s' hq' => ?_))
  cases r with
  | error er => exact hx pins σ _ _ er s' I2 hq'
  | ok fl =>
    cases fl with
    | ret u =>
      obtain ⟨v, H2, os2, bare2, un2, hok2, rv, ev, d, fs, ea, ed, hd1, q2⟩ := hq'
      subst ev
      obtain ⟨h2, g2, d2, t2, os'⟩ := s'
      obtain ⟨t0, G, J, kG, ge, hoe, na⟩ := mk_end0 (d2 := d2) (t2 := t2) I1 hsz kk un2 hok2 os2 bare2 ea ed hd1
      refine ⟨rv, ⟨hp.objs.size + 1, _, _, ⟨G, g2, d2, t2, os'⟩, _, .ref C, some d, rfl, J, kG, ge, hoe, ⟨rfl, rfl, fun vs hv => ?_⟩, rfl, rfl, na, rfl, bare2, raises_own T.exC T.tyC, q2⟩⟩
      cases hv
      rfl
    | next => exact False.elim hq'
    | brk => exact False.elim hq'
    | cont => exact False.elim hq'
theorem ms_raiseN {f : Str} (hc : X.calm = true) (h : ExcM X.prog X.w X.K X.mg X.base c f k) (hr : Room (k + 1) X.A) (tk : L2N.Takes X W) (hg : Gl X c) (ha : ME X W xa e A)
    (hs : starEach (e :: []) X.env = (false, eval e X.env) :: starEach [] X.env := by rfl) (hdb : (c == ("__debug__" : Str)) = false := by decide) (hpl : (backTo pos (starEach [] X.env)).any (·.1) = false := by rfl) :
    MS X W xa (.Raise (some (.Call (.Name c p) [e] [] pos)) none apos) (iRaise c f A) := by
  obtain ⟨C, fI, fd, ps, hC, hO, hX, hn, hI, hT, hb, hf⟩ := h
  exact PS.weak (L2N.ps_raise hc tk (pmk_oexN hO hI hT hf hr hb (fun _ _ _ _ _ _ _ z => by obtain ⟨_, _, _, _, _, _, _, _, _, _, _, _, z⟩ := z; exact z.elim) hg hC (pa_cons ha pa_nil hs) hdb hs hpl)) fun D σ H h => raise_weak hC h
/-- an exception's class, made while another is handled -/
def ExcHM (P : Program) (w : World) (K : PySem.W.Frag) (mg : Str → Option Value) (base : Heap) (c f : Str) (k : Nat) : Prop :=
  ∃ C fI fd ps, mg c = some (.ref C) ∧ OexC K C ∧ PySem.W.findIn K (.ref C) "__init__" = some (some (.ref fI)) ∧ PySem.W.typeIn K (.ref fI) = some (.type "function") ∧ Binds K fd ps [] ∧ L2H.FnH P w K mg base (L2.CX P w) k fI fd ps (spI K C f)
theorem ms_raiseHX {f : Str} {j : Nat} (hc : L2H.HotC X) (h : ExcHM X.prog X.w X.K X.mg X.base c f k) (hr : L2H.RoomH (k + 1) X.A) (tk : L2.Takes X W) (hg : Gl X c) (ha : ME X W xa e A)
    (hs : starEach (e :: []) X.env = (false, eval e X.env) :: starEach [] X.env := by rfl) (hdb : (c == ("__debug__" : Str)) = false := by decide) (hpl : (backTo pos (starEach [] X.env)).any (·.1) = false := by rfl) :
    MS X W xa (.Raise (some (.Call (.Name c p) [e] [] pos)) (some (.Constant .none j cpos)) apos) (iRaise c f A) := by
  obtain ⟨C, fI, fd, ps, hC, hO, hI, hT, hb, hf⟩ := h
  exact PS.weak (L2H.ps_raiseHN hc tk (L2H.pmk5_oexH hO hI hT hf hr hc hb (fun _ _ _ _ _ _ _ z => by obtain ⟨_, _, _, _, _, _, _, _, _, _, _, _, z⟩ := z; exact z.elim) hg hC (pa_cons ha pa_nil hs) hdb hs hpl)) fun D σ H h => raise_weak hC h
theorem hot_suite {a : Addr} {oe : Obj} {cls : Value} {d : Option Addr} {pn : List (Addr × Obj)} {xe : Value → Shared → Prop} (hz : L2N.Zn cls d oe) (hf : ∃ vs, oe.data = .fields vs) : L2H.HotC (suiteE X a ((a, oe) :: pn) xe) := by
  obtain ⟨vs, e⟩ := hf
  exact ⟨(a, oe), ⟨rfl, vs, e, hz.2.2 vs e⟩, List.mem_cons_self⟩
end
/-! ### the try -/
theorem XR.fitsS {G : Gd} {m bs : List Addr} {st st' : Sto} {H : Hp} {c : Str} {fs : List (Str × IV)} {cls : Value} {d : Option Addr} (f : Fits G m bs st H m bs st' H) (x : XR G m bs st H c fs cls d) : XR G m bs st' H c fs cls d := by
  obtain ⟨C, h1, h2, h3⟩ := x
  refine ⟨C, h1, h2, ?_⟩
  rcases h3 with h3 | ⟨dd, gs, e1, e2, e3, e4, e5⟩
  · exact .inl h3
  · exact .inr ⟨dd, gs, e1, e2, e3, e4, RFs.fits f _ _ e5⟩
def hEndX (i l : Nat) (r : RS) : RS := match r with
  | .nx ρ st => .nx (noExn (ρ.set i none)) (st.set l .dead)
  | .bk ρ st => .bk (noExn (ρ.set i none)) (st.set l .dead)
  | .ct ρ st => .ct (noExn (ρ.set i none)) (st.set l .dead)
  | .rt v st => .rt v (st.set l .dead)
  | .exc c fs ρ st => .exc c fs (noExn (ρ.set i none)) (st.set l .dead)
  | _ => .bad
theorem hEndX_post {G : Gd} {xa xa' : Xa} {m os rs : List Addr} {st : Sto} {H : Hp} {W : WX} {D : Ends} {i l : Nat} {r : RS} (h : PstS G xa m os rs st H W D (hEndX i l r)) :
    PstS G xa' m os rs st H (wGone i W) { nx := fun σ' H' => D.nx (σ'.set i none) H', rt := D.rt, bk := fun σ' H' => D.bk (σ'.set i none) H', ct := fun σ' H' => D.ct (σ'.set i none) H' } r := by
  cases r with
  | nx ρ' st' => exact fun m' os' H' σ' g P => h m' os' H' _ (g.trans (.ofE grow_kill)) (P.setN.noExn.grow grow_kill P.rel.kill)
  | bk ρ' st' => exact fun m' os' H' σ' g P => h m' os' H' _ (g.trans (.ofE grow_kill)) (P.setN.noExn.grow grow_kill P.rel.kill)
  | ct ρ' st' => exact fun m' os' H' σ' g P => h m' os' H' _ (g.trans (.ofE grow_kill)) (P.setN.noExn.grow grow_kill P.rel.kill)
  | rt v st' => exact fun m' os' H' u g R r => h m' os' H' u (g.trans (.ofE grow_kill)) R.kill (RV.fits (grow_kill (m := m') (H := H')).fitsE _ _ r)
  | exc c fs ρ' st' => exact fun m' os' H' σ' cls d g P x => h m' os' H' _ cls d (g.trans (.ofE grow_kill)) (P.setN.noExn.grow grow_kill P.rel.kill) (x.fitsS (grow_kill (m := m') (H := H')).fitsE)
  | bad => exact h
def iTryAsX (i : Nat) (M : Str → Option Bool) (B J : IS) : IS := fun ρ st => match B ρ st with
  | .exc c fs ρ1 st1 => (match M c with
    | some true => if fs.isEmpty = true ∨ ¬ i < ρ1.length then .bad else hEndX i st1.length (J ((noExn ρ1).set i (some (.exn st1.length))) (st1 ++ [.xd fs]))
    | some false => .exc c fs ρ1 st1
    | none => .bad)
  | r => r
section
variable {X : Cx} {W : WX} {xa : Xa} {pos : Pos}
theorem ms_tryAsX {x n : Str} {cv : Value} {i : Nat} {body suite : List Stmt} {b₀ : Stmt} {np pos' : Pos} {M : Str → Option Bool} {B J : IS} {q : Value → Prop} (hs : X.stack = X.env :: X.outer) (hex : X.ex = []) (hpa : ∀ hd : Option Value, PassesOwnAt (model X.prog X.w) (X.A.mark hd) X.A X.env X.xe) (hf : X.env.frame = some X.env.locals) (hN : X.N.Nodup) (hi : X.N[i]? = some n) (hln : X.env.kindOf n = some .local) (hc : Names X x cv) (tk : L2.Takes X W)
    (hM : ∀ c k C, M c = some k → X.mg c = some (.ref C) → PySem.W.exmOne X.K (.ref C) cv = some k ∧ (k = true → q (.ref C)))
    (hb : ∀ (W : WX) (pn : List (Addr × Obj)) (xe : Value → Shared → Prop), L2N.Takes (X.tr pn xe) W → PassesOwn (model X.prog X.w) X.A X.env xe → MSs (X.tr pn xe) W xa body B)
    (hsu : ∀ (a : Addr) (oe : Obj) (cls : Value) (dd : Addr) (pn : List (Addr × Obj)) (xe : Value → Shared → Prop), q cls → L2N.Zn cls (some dd) oe → (∃ vs, oe.data = .fields vs) → L2.Takes (suiteE X a ((a, oe) :: pn) xe) (wGone i W) → MSs (suiteE X a ((a, oe) :: pn) xe) (wGone i W) (some (a, dd)) (b₀ :: suite) J) :
    MS X W xa (.Try body [.ExceptHandler (some (.Name x np)) (some n) (b₀ :: suite) pos'] [] [] pos) (iTryAsX i M B J) := by
  refine PS.weak (ps_try_asX (tb := fun W => tsOf (gd X) W xa B) (ts := fun a cls d D σ H => (∃ dd, d = some dd ∧ q cls) ∧ tsOf (gd X) (wGone i W) (d.map fun dd => (a, dd)) J D σ H) hs hf hex hN hi hln hc tk hpa hb (fun a oe cls d pn xe hz hd tkS => PSs.under fun ⟨dd, ed, hq⟩ => by
    subst ed
    exact hsu a oe cls dd pn xe hq hz hd tkS)) fun D σ H h => ?_
  obtain ⟨m, os, rs, ρ, st, P, h⟩ := h
  refine ⟨m, os, rs, ρ, st, P, ?_⟩
  unfold iTryAsX at h
  cases r : B ρ st with
  | exc c fs ρ1 st1 =>
    simp only [r] at h
    intro m1 os1 H1 σ1 cls d g1 P1 hx
    obtain ⟨C, hC, ecls, hxs⟩ := hx
    subst ecls
    cases k : M c with
    | none => rw [k] at h; exact h.elim
    | some kk =>
      rw [k] at h
      obtain ⟨e1, e2⟩ := hM c kk C k hC
      refine ⟨kk, e1, fun hk a ha => ?_, fun hk => ?_⟩
      · subst hk
        simp only at h
        split at h
        · exact h.elim
        · rename_i hne
          simp only [not_or, Decidable.not_not] at hne
          rcases hxs with hxs | ⟨dd, gs, ed, hH, hdm, hdb, rf⟩
          · rw [hxs] at hne; exact absurd rfl hne.1
          · subst ed
            refine ⟨⟨dd, rfl, e2 rfl⟩, ?_⟩
            have hlen := P1.rel.len
            -- the exception's own dict comes under the mirror
            have f : Fits (gd X) m1 (os1 ++ rs) st1 H1 (m1 ++ [dd]) (os1 ++ rs) (st1 ++ [.xd fs]) H1 := by
              have nt : ∀ {a : Addr} {vs : List V}, Rd H1 a (.tup vs) → a ≠ dd := fun {a vs} h z => by
                rcases h with h | ⟨o, h⟩ <;> (rw [z, hH] at h; cases h)
              have nl : ∀ {a : Addr} {vs : List V}, Rd H1 a (.lst vs) → a ≠ dd := fun {a vs} h z => by
                rcases h with h | ⟨o, h⟩ <;> (rw [z, hH] at h; cases h)
              refine ⟨fun l a h => ?_, fun a vs h => ?_, fun a vs h => ?_, fun a vs h => ?_⟩
              · rw [List.getElem?_append_left (List.getElem?_eq_some_iff.mp h).1]; exact h
              · rcases h with ⟨h, n, z⟩ | h
                · exact .inl ⟨h, fun y => (lv_snoc hlen y).elim n (nt h), z⟩
                · exact .inr h
              · rcases h with ⟨h, n, z⟩ | h
                · exact .inl ⟨h, fun y => (lv_snoc hlen y).elim n (nl h), z⟩
                · exact .inr h
              · obtain ⟨o, h, d, n, z⟩ := h
                exact ⟨o, h, d, fun y => (lv_snoc hlen y).elim n (nt (.inr ⟨o, h⟩)), z⟩
            have el : (m1 ++ [dd])[st1.length]? = some dd := by rw [← hlen, List.getElem?_append_right (Nat.le_refl _)]; simp
            have R2 : Rel (gd X) (m1 ++ [dd]) (os1 ++ rs) (st1 ++ [.xd fs]) H1 := by
              refine ⟨by simp [hlen], fun i j x e1 e2 => ?_, fun l w x e1 e2 => ?_, fun x z => ⟨fun y => ?_, (P1.rel.bsd x z).2⟩⟩
              · rcases getElem?_snoc e1 with e1 | ⟨i1, e1⟩
                · rcases getElem?_snoc e2 with e2 | ⟨i2, e2⟩
                  · exact P1.rel.nd i j x e1 e2
                  · exact absurd (List.mem_of_getElem? e1) (by rw [e2]; exact hdm)
                · rcases getElem?_snoc e2 with e2 | ⟨i2, e2⟩
                  · exact absurd (List.mem_of_getElem? e2) (by rw [e1]; exact hdm)
                  · omega
              · rcases getElem?_snoc e2 with e2 | ⟨i2, e2⟩
                · have hlt : l < st1.length := by rw [← hlen]; exact (List.getElem?_eq_some_iff.mp e2).1
                  rw [List.getElem?_append_left hlt] at e1
                  exact (P1.rel.obj l w x e1 e2).fits f fun _ e => e
                · subst e2
                  rw [hlen] at i2; subst i2
                  rw [List.getElem?_append_right (Nat.le_refl _)] at e1
                  have ew : IO.xd fs = w := by simpa using e1
                  rw [← ew]; exact ⟨gs, hH, RFs.fits f _ _ rf⟩
              · rcases List.mem_append.mp y with y | y
                · exact (P1.rel.bsd x z).1 y
                · have : x = dd := by simpa using y
                  exact hdb (this ▸ z)
            have hi1 : i < σ1.length := by rw [← P1.re.len]; exact hne.2
            have Q1 : Pre (gd X) (some (a, dd)) σ1 H1 m1 os1 rs (noExn ρ1) st1 := P1.noExn
            have hi2 : i < (noExn ρ1).length := by simpa [noExn] using hne.2
            have P2 : Pre (gd X) (some (a, dd)) (σ1.set i (some (.ref a))) H1 (m1 ++ [dd]) os1 rs ((noExn ρ1).set i (some (.exn st1.length))) (st1 ++ [.xd fs]) := by
              refine ⟨R2, by simp [Q1.re.len], fun j y e => ?_, fun j xs e => ?_, fun j k xs ys w q1 q2 q3 q4 => ?_⟩
              · by_cases hj : i = j
                · subst hj
                  rw [List.getElem?_set_self hi2] at e
                  cases e
                  exact ⟨.ref a, by rw [List.getElem?_set_self hi1], a, dd, rfl, rfl, el⟩
                · rw [List.getElem?_set_ne hj] at e
                  obtain ⟨v, e1, r⟩ := Q1.re.at_ j y e
                  refine ⟨v, by rw [List.getElem?_set_ne hj]; exact e1, ?_⟩
                  cases y with
                  | v x => exact RV.fits f _ _ r
                  | own xs => obtain ⟨b, vs, eb, hb, rb, hbb⟩ := r; exact ⟨b, vs, eb, hb, RVs.fits f _ _ rb, hbb⟩
                  | exn l => exact absurd rfl ((noExn_at e).2 l)
              · have hj : i ≠ j := fun z => by
                  subst z
                  rw [List.getElem?_set_self hi2] at e
                  cases e
                rw [List.getElem?_set_ne hj] at e
                obtain ⟨b, e1, r⟩ := Q1.re.own j xs e
                exact ⟨b, by rw [List.getElem?_set_ne hj]; exact e1, r⟩
              · have key : ∀ {j : Nat} {xs : List IV}, ((noExn ρ1).set i (some (.exn st1.length)))[j]? = some (some (.own xs)) → i ≠ j := fun {j xs} e z => by
                  subst z
                  rw [List.getElem?_set_self hi2] at e
                  cases e
                have n1 := key q1
                have n2 := key q2
                rw [List.getElem?_set_ne n1] at q1 q3
                rw [List.getElem?_set_ne n2] at q2 q4
                exact Q1.re.uniq j k xs ys w q1 q2 q3 q4
            have g2 : Grow m1 st1 os1 H1 (m1 ++ [dd]) (st1 ++ [.xd fs]) os1 H1 := ⟨List.prefix_append _ _, fun b o hb nb qb nx => ⟨hb, fun z => (lv_snoc hlen z).elim nb (fun z => by rw [z, hH] at hb; cases hb; exact nx _ rfl), qb⟩, fun _ h => h⟩
            show tsOf (gd X) (wGone i W) (some (a, dd)) J _ _ _
            refine ⟨m1 ++ [dd], os1, rs, _, _, P2, ?_⟩
            exact hEndX_post ((PstS.shift g1 h).shift g2)
      · subst hk
        exact h m1 os1 H1 σ1 _ _ g1 P1 ⟨C, hC, rfl, hxs⟩
  | nx ρ1 st1 => simp only [r] at h; exact h
  | bk ρ1 st1 => simp only [r] at h; exact h
  | ct ρ1 st1 => simp only [r] at h; exact h
  | rt v st1 => simp only [r] at h; exact h
  | bad => simp only [r] at h; exact h

end
section
variable {P : Program} {w : World} {K : PySem.W.Frag} {mg : Str → Option Value} {base : Heap} {C : Addr}
theorem exc_initH {qual x y : Str} {st : Stmt} {f : Addr} {fd : FuncData} {fl : Str} {p1 p2 p3 p4 : Pos} (F : L2.Fun K "__init__" qual st f fd) (S : FnScope [x, y] [x, y] (defScope st)) (T : OexC K C) (hno : PySem.W.findIn K (.ref C) fl = some none)
    (hb : defBody st = [.Assign [.Attribute (.Name x p1) fl p2] (.Name y p3) p4]) (hx : Vis (defScope st) x) (hy : Vis (defScope st) y) (dx : (x == ("__debug__" : Str)) = false) (dy : (y == ("__debug__" : Str)) = false)
    (ex : (x == ("__classdict__" : Str)) = false) (ey : (y == ("__classdict__" : Str)) = false) : L2H.FnH P w K mg base (L2.CX P w) 1 f fd [x, y] (spI K C fl) := by
  obtain ⟨oc, od, kV, doc, pm, an, cdv, ct, osl, rfl, lk, hcd⟩ := F.ex
  refine L2H.fn_ofH lk hcd S (fun vs H Q E h => ?_) (fun A outer s H vs Q E p hot hr h => ?_)
  · obtain ⟨a, v, rfl, _⟩ := h
    rfl
  · obtain ⟨a, v, rfl, ha, k⟩ := h
    rw [hb]
    refine ⟨_, pss_one (ps_ost (pe_var (i := 0) rfl hx dx ex) (pe_var (i := 1) rfl hy dy ey) rfl), ?_⟩
    exact ⟨_, rfl, _, rfl, a, C, rfl, T, hno, .inl ⟨ha, fun d hd hne => k d hd hne⟩⟩
end
end Mi
set_option Elab.async false
set_option linter.all false
set_option maxRecDepth 100000
set_option maxHeartbeats 4000000
/-! str.split(a), str.strip() -/
namespace Mi
open PySem PySem.Spec PyProof.Rows L2
theorem rvs_strs {G : Gd} {m bs : List Addr} {st : Sto} {H : Hp} : ∀ {ys : List Str}, RVs G m bs st H (ys.map IV.str) (ys.map V.str)
  | [] => by simp only [List.map_nil, RVs]
  | y :: ys => by
    simp only [List.map_cons, RVs]
    exact ⟨_, _, rfl, by simp only [RV], rvs_strs⟩
def gSplit : IV → List IV → Sto → R IV
  | .str a, [.str b], st => if b.length ≠ 0 ∧ a.length ≤ 100000 then .ok (.lst ((Txt.split a b).map .str)) st else .bad
  | _, _, _ => .bad
def gStrip : IV → List IV → Sto → R IV
  | .str a, [], st => if a.length ≤ 100000 then .ok (.str (Txt.strip a)) st else .bad
  | _, _, _ => .bad
section
variable {X : Cx} {W : WX} {xa : Xa} {o : Expr} {A : IE} {pos apos : Pos}
theorem mtd_split : MtdM X "str.split" gSplit := by
  refine ⟨_, mt_split, fun m bs st H x xs x' xs' Q W R rx rs h => ?_⟩
  unfold gSplit at h
  split at h
  · rename_i a b
    split at h
    · rename_i hc
      simp only [RV] at rx
      simp only [RVs] at rs
      obtain ⟨v, t, ev, r1, et⟩ := rs
      subst et
      simp only [RV] at r1
      subst r1
      have big : (100002 : Nat) ≤ sizeLine := by decide
      exact ⟨a, b, rx, ev, by simpa using hc.1, by have := hc.2; omega, fun p hp => h.newL R rvs_strs hp⟩
    · exact h.elim
  · exact h.elim
theorem mtd_strip : MtdM X "str.strip" gStrip := by
  refine ⟨_, mt_strip, fun m bs st H x xs x' xs' Q W R rx rs h => ?_⟩
  unfold gStrip at h
  split at h
  · rename_i a
    split at h
    · rename_i hc
      simp only [RV] at rx
      simp only [RVs] at rs
      have big : (100002 : Nat) ≤ sizeLine := by decide
      exact ⟨a, rx, rs, by omega, h.v R (by simp only [RV])⟩
    · exact h.elim
  · exact h.elim
theorem me_sm0 {name : Str} {id : String} {g : IV → List IV → Sto → R IV} (hg : MtdM X id g) (slot : Slot "str" name id) (ty : typeOf (.builtin id) = pure (.type "method_descriptor")) (ho : ME X W xa o A)
    (hbase : attributeBase o name X.env (eval o X.env) = eval o X.env := by rfl) (hline : (apos.endLine == pos.line) = true := by rfl) :
    ME X W xa (.Call (.Attribute o name apos) [] [] pos) (iSm g A iNil) := by
  obtain ⟨r, hr, k⟩ := hg
  refine PE.weak (pe_m0 slot ty hr ho hbase hline) fun σ H Q h => ?_
  obtain ⟨m, os, rs, ρ, st, P, h⟩ := h
  refine ⟨m, os, rs, ρ, st, P, h.bind.mono fun x m1 st1 H1 g1 R1 h1 u ru => ?_⟩
  cases x with
  | str y =>
    refine ⟨⟨y, by simpa only [RV] using ru⟩, ?_⟩
    have h4 : Pst (gd X) m1 (os ++ rs) st1 H1 (fun cls d H' => W cls d σ H') (g (.str y) [] st1) (fun v m' st' H' => ∀ u, RV (gd X) m' (os ++ rs) st' H' v u → Q u H') := Pst.ok R1 h1.bind
    exact k m1 _ st1 H1 (.str y) [] u [] Q _ R1 ru (by simp only [RVs]) h4
  | _ => exact h1.elim
end
end Mi
set_option Elab.async false
set_option linter.all false
set_option maxRecDepth 100000
set_option maxHeartbeats 4000000
/-! dicts whose keys are tuples of ints and texts: made by a comprehension -/
namespace Mi
open PySem PySem.Spec PyProof.Rows L2
abbrev KT' (X : Cx) := tupleKind (mixKind X.prog X.w)
/-- a tuple of ints and texts stands at b -/
def KAt (K : PySem.W.Frag) (H : Hp) (b : Addr) (k : List Key) : Prop := SqT K H b (k.map kV)
theorem dho_new {P : Program} {w : World} {H : Hp} {h : Heap} {a : Addr} {xs : List (List Key × Addr × Value)} (d : h.DictOfH (tupleKind (mixKind P w)) a xs) : ObjOk P w H h a (DHo P w a xs) := by
  obtain ⟨o, es, ep, ho, hc, hd, he, _, hn⟩ := d
  exact ⟨⟨o, es, ep, ho, hc, hd, he, hn⟩, ⟨o, ho⟩, fun h1 h2 ⟨o1, e1, p1, q1, r⟩ k => ⟨o1, e1, p1, k o1 q1, r⟩⟩
section
variable {X : Cx} {pins : List (Addr × Obj)} {σ : L2.St} {H : Hp} {s : Shared}
theorem kat_is {b : Addr} {k : List Key} (I : Inv X pins σ H s) (h : KAt X.K H b k) : (KT' X).is s.heap k b := by
  obtain ⟨its, r, ⟨o, h1, h2, n, h3⟩, _⟩ := I.tuple h
  exact ⟨o, its.toArray, n, h1, h2, h3, by simpa using items_are r⟩
theorem dho_of {a : Addr} {xs : List (List Key × Addr × Value)} (I : Inv X pins σ H s) (e : H a = some (DHo X.prog X.w a xs)) (hk : ∀ x ∈ xs, KAt X.K H x.2.1 x.1) : s.heap.DictOfH (KT' X) a xs := by
  obtain ⟨⟨o, es, ep, ho, hc, hd, he, hn⟩, _⟩ := (show ObjOk X.prog X.w H s.heap a (DHo X.prog X.w a xs) from I.hok a _ e)
  exact ⟨o, es, ep, ho, hc, hd, he, fun x hx => kat_is I (hk x hx), hn⟩
theorem dho_set {A : Around} {E : Value → Shared → Prop} {a b : Addr} {xs : List (List Key × Addr × Value)} {k : List Key} {u : Value} {Q : Unit → Shared → Prop} (hu : A.units < cLine) (I : Inv X pins σ H s) (e : H a = some (DHo X.prog X.w a xs)) (hk : ∀ x ∈ xs, KAt X.K H x.2.1 x.1)
    (hb : KAt X.K H b k) (hz : xs.length ≤ sizeLine) (h : ∀ s', Inv X pins σ (upd H a (DHo X.prog X.w a (storedH xs k b u))) s' → Q () s') : wpAny (model X.prog X.w) A (dictSet a (.ref b) u) Q E s := by
  refine wpAny_dictSet_heap (knd := KT' X) (hsz := hz) hu (kat_is I hb) (dho_of I e hk) fun h' dd' hs => h _ ?_
  have he : ∃ q, h'.get? a = some q := let ⟨q, _, _, hq, _⟩ := dd'; ⟨q, hq⟩
  exact d_write I (by rw [e]; exact True.intro) hs he (dho_new dd')
end
section
variable {X : Cx}
/-- {k: v for tg in iter if ..}, the keys tuples of ints and texts -/
def tDcx (X : Cx) (wi : TI) (g : TG) (tt : TT) (tk tv : TE) (vs : List Nat) : TE := fun σ H Q => wi σ H fun J H1 => ∀ D, H1 D = none → (D == sysModules) = false → ∃ W : Nat → Nat → Hp → Prop, (∃ m, W 0 m (upd H1 D (DHo X.prog X.w D []))) ∧ ∀ i m H, W i m H →
  (J.stop i H ∧ Q (.ref D) H) ∨ (J.go i H ∧ ∃ Nx : Hp → Prop, (∀ H', Nx H' → ∃ m', m' < m ∧ W (i + 1) m' H') ∧ ∀ x H', J.yld i H x H' → g x (L2.wipe σ vs) H' fun σ2 H2 => L2.wipe σ2 vs = L2.wipe σ vs ∧ tt σ2 H2 fun c H3 =>
    if c = true then tk σ2 H3 fun y H4 => tv σ2 H4 fun z H5 => ∃ xs k b, y = .ref b ∧ KAt X.K H5 b k ∧ H5 D = some (DHo X.prog X.w D xs) ∧ xs.length < sizeLine ∧ (∀ x ∈ xs, KAt X.K H5 x.2.1 x.1) ∧ ∀ u, RelV z u → Nx (upd H5 D (DHo X.prog X.w D (storedH xs k b u))) else Nx H3)
theorem pe_dcx {kx vx tg iter : Expr} {ifs : List Expr} {scope : Scope} {own : List (Str × Nat)} {pos : Pos} {wi : TI} {g : TG} {tt : TT} {tk tv : TE} (hu : X.A.units < cLine) (hc : X.calm = true) (hN : X.N.Nodup) (hi : PI X tg iter wi) (ok : BlkOk X.N X.env.scope scope own)
    (hg : ∀ (s : Shared) (H : Hp) (C : Addr) (cl : List (Str × Addr)) (fp : List Addr), PG (X.blk s H scope (compEnvC scope cl C X.env) fp) tg g)
    (ht : ∀ (s : Shared) (H : Hp) (C : Addr) (cl : List (Str × Addr)) (fp : List Addr), PTs (X.blk s H scope (compEnvC scope cl C X.env) fp) ifs tt)
    (hk : ∀ (s : Shared) (H : Hp) (C : Addr) (cl : List (Str × Addr)) (fp : List Addr), PE (X.blk s H scope (compEnvC scope cl C X.env) fp) kx tk)
    (hv : ∀ (s : Shared) (H : Hp) (C : Addr) (cl : List (Str × Addr)) (fp : List Addr), PE (X.blk s H scope (compEnvC scope cl C X.env) fp) vx tv) (hs : ∀ x, foldedSetIterable iter X.env x = pure x := by intro _; rfl) :
    PE X (.DictComp kx vx [⟨tg, iter, ifs, 0⟩] scope pos) (tDcx X wi g tt tk tv (own.map (·.2))) := by
  refine ⟨fun pins s σ H Q I h => ?_⟩
  rw [arm_eval_DictComp]
  have free : ∀ y ∈ scope.names, y.2 = .free → ∃ c, X.env.cells.lookup y.1 = some c := fun y hy e => (ok.free y hy e).elim (fun k => I.ok.has _ (.inl k)) (fun k => I.ok.has _ (.inr k))
  refine wpAny_comprehension_free rfl hs (closure_ok free) ok.kind (fun y hy e => by rw [ok.uniq y hy, e]) (thn (hi.run pins s σ H _ I h) fun _ t1 hx => thn hx fun _ t2 h2 => ?_)
  obtain ⟨it, fp, tn, J, G2, rfl, I2, T, st2, f2, q⟩ := h2
  refine wpAny_newObj_type (newEnv_comp ?_)
  generalize eD : t2.heap.objs.size = D
  have nD : G2 D = none := I2.hok.fresh (Nat.le_of_eq eD)
  have sysD : (D == sysModules) = false := beq_eq_false_iff_ne.mpr (Ne.symm (Nat.ne_of_lt (eD ▸ I2.big)))
  obtain ⟨W, ⟨m0, w0⟩, turn⟩ := q D nD sysD
  generalize et3 : ({ t2 with heap := t2.heap.push { cls := .type "dict", data := .dict #[] } } : Shared) = t3
  have hp3 : t3.heap = t2.heap.push { cls := .type "dict", data := .dict #[] } := by rw [← et3]
  have I3 : Inv X pins σ (upd G2 D (DHo X.prog X.w D [])) t3 := by
    rw [← et3]
    refine I2.laid (t' := t2.toks) (fun b o e => Heap.get?_push_of_some _ e) (Nat.le_of_eq eD) ?_
    rw [← eD]
    exact dho_new (Heap.DictOfH.new t2.heap)
  have lt2 : ∀ b ∈ fp, b < t2.heap.objs.size := fun b hb => by
    obtain ⟨o, e, _⟩ := T.obj _ _ st2 b hb
    exact Heap.lt_size e
  have f3 : ∀ b ∈ fp, FpOk X pins (upd G2 D (DHo X.prog X.w D [])) b ∧ b < t3.heap.objs.size := fun b hb =>
    have lb := lt2 b hb
    ⟨⟨by rw [upd_ne (by rw [← eD]; exact Nat.ne_of_lt lb)]; exact (f2 b hb).1, (f2 b hb).2⟩, by rw [hp3, Heap.size_push]; exact Nat.lt_succ_of_lt lb⟩
  have st3 : tn 0 t3.heap := T.keep _ _ _ st2 fun b _ o e => by rw [hp3]; exact Heap.get?_push_of_some _ e
  have I4 := block_start I3 ok hN f3
  generalize ecl : cellsFrom (t3.heap.objs.size + 1) scope.names (cloFrom X.env.cells scope.names []) = cl at I4 ⊢
  have pg := hg t3 (upd G2 D (DHo X.prog X.w D [])) t3.heap.objs.size cl fp
  have pt := ht t3 (upd G2 D (DHo X.prog X.w D [])) t3.heap.objs.size cl fp
  have pk := hk t3 (upd G2 D (DHo X.prog X.w D [])) t3.heap.objs.size cl fp
  have pv := hv t3 (upd G2 D (DHo X.prog X.w D [])) t3.heap.objs.size cl fp
  have nfp : ∀ b ∈ fp, (upd G2 D (DHo X.prog X.w D [])) b = none := fun b hb => (f3 b hb).1.1
  show codeAny _ _ (.compStart (.DictComp kx vx [⟨tg, iter, ifs, 0⟩] scope pos) 0 (.ref it) (.ref D) (compEnvC scope cl t3.heap.objs.size X.env)) (compPost (model X.prog X.w) X.A X.xe none (EP X pins σ Q) (.ref D) t3.heap.objs.size) { t3 with heap := pushCells (t3.heap.push { cls := .type "dict", data := .dict #[] }) scope.names }
  generalize ece : compEnvC scope cl t3.heap.objs.size X.env = ce at I4 pg pt pk pv ⊢
  have cL : ce.locals = t3.heap.objs.size := by subst ece; rfl
  generalize eG3 : upd G2 D (DHo X.prog X.w D []) = G3 at I3 I4 pg pt pk pv w0 nfp f3
  generalize et4 : ({ t3 with heap := pushCells (t3.heap.push { cls := .type "dict", data := .dict #[] }) scope.names } : Shared) = t4 at I4 ⊢
  have st4 : tn 0 t4.heap := T.keep _ _ _ st3 fun b _ o e => by rw [← et4]; exact pushCells_keeps _ _ _ _ (Heap.get?_push_of_some _ e)
  -- the iterator's addresses are free in the block
  have out : ∀ {τ : L2.St} {G : Hp} {t : Shared}, Inv (X.blk t3 G3 scope ce fp) [] τ G t → (∀ b ∈ fp, G b = none) → ∀ b ∈ fp, FpOk (X.blk t3 G3 scope ce fp) [] G b := fun {τ G t} J hn b hb =>
    ⟨hn b hb, (J.ok.exf b hb).1, J.ok.exfs b hb, .inl hb, fun x c e => (J.ok.exf b hb).2 x c e, fun p hp => absurd (show p ∈ ([] : List (Addr × Obj)) ++ [] from hp) (by simp)⟩
  have loop : codeAny (model X.prog X.w) X.A (.compLoop (.DictComp kx vx [⟨tg, iter, ifs, 0⟩] scope pos) 0 (.ref it) (.ref D) ce) (compPost (model X.prog X.w) X.A X.xe none (EP X pins σ Q) (.ref D) t3.heap.objs.size) t4 := by
    refine compLoop_anyD (fun n t => ∃ i G, Inv (X.blk t3 G3 scope ce fp) [] (L2.wipe σ (own.map (·.2))) G t ∧ tn i t.heap ∧ (∀ b ∈ fp, G b = none) ∧ W i n G) ?_ m0 ⟨0, G3, I4, st4, nfp, w0⟩
    rintro n t5 ⟨i, G5, I5, st5, n5, w5⟩
    rcases turn i n G5 w5 with ⟨stop, qq⟩ | ⟨go, Nx, hNx, step⟩
    · refine thnF (T.done (X.blk t3 G3 scope ce fp) rfl rfl rfl hc i [] t5 _ G5 (fun _ _ => False) I5 (out I5 n5) st5 stop) fun r t6 ⟨er, I6⟩ => ?_
      subst er
      have I7 : Inv X pins σ G5 t6 := I3.call' (ch := fp) I6.os I6.base I6.hok I6.bare fun b hb => let z := (f3 b hb).1.2; ⟨z.2.2.1, z.1, z.2.2.2.1, z.2.2.2.2⟩
      have nC : G5 t3.heap.objs.size = none := by
        rw [← cL]; exact I6.free
      obtain ⟨m, hn, _⟩ := I6.loc
      have hn : t6.heap.Ns t3.heap.objs.size m := by rw [← cL]; exact hn
      obtain ⟨a0, a1, a2, a3, a4, a5⟩ := I3.fpOk (Nat.le_refl _) nC
      exact ⟨m, hn, fun h'' sb => ⟨.ref D, G5, I7.turned (t' := t6.toks) (fun b o hb e => (sb.2 b hb).trans e) a0 a1 a3 a4 a5, rfl, qq⟩⟩
    · refine thnF (T.item (X.blk t3 G3 scope ce fp) rfl rfl rfl hc i [] t5 _ G5 (fun _ _ => False) I5 (out I5 n5) st5 go) fun r t6 ⟨u, er, h6⟩ => ?_
      subst er
      refine thnF h6 fun _ t7 ⟨x, G7, I7, r7, y7, st7, n7⟩ => ?_
      refine thnF (pg.run _ t7 _ G7 x u _ (I7.pinned (out I7 n7) (T.obj _ _ st7)) r7 (step x G7 y7)) fun _ t8 ⟨τ, G8, I8, hw8, q8⟩ => ?_
      refine thnF (pt.run _ t8 τ G8 _ I8 q8) fun c t9 ⟨G9, I9, q9⟩ => ?_
      have fin : ∀ {t : Shared} {G : Hp}, Inv (X.blk t3 G3 scope ce fp) ([] ++ pinsAt fp t7.heap) τ G t → Nx G → ∃ m, m < n ∧ ∃ i G, Inv (X.blk t3 G3 scope ce fp) [] (L2.wipe σ (own.map (·.2))) G t ∧ tn i t.heap ∧ (∀ b ∈ fp, G b = none) ∧ W i m G := fun {t G} J nx => by
        obtain ⟨m', hm, w'⟩ := hNx G nx
        have held : ∀ b ∈ fp, ∀ o, t7.heap.get? b = some o → t.heap.get? b = some o ∧ G b = none := fun b hb o e =>
          have z := J.pin (b, o) (List.mem_append_right _ (List.mem_append_right _ (mem_pinsAt hb e)))
          ⟨z.1, z.2.1⟩
        refine ⟨m', hm, i + 1, G, (J.unpinned (pins := [])).weak (by rw [← hw8, wipe_length]) (fun j v e => by rw [← hw8] at e; exact (wipe_some e).1), T.keep _ _ _ st7 fun b hb o e => (held b hb o e).1, fun b hb => ?_, w'⟩
        obtain ⟨o, e, _⟩ := T.obj _ _ st7 b hb
        exact (held b hb o e).2
      cases c with
      | false =>
        simp only [Bool.false_eq_true, if_false] at q9 ⊢
        exact fin I9 q9
      | true =>
        simp only [if_true] at q9 ⊢
        refine thnF (pk.run _ t9 τ G9 _ I9 q9) fun z t10 ⟨yk, G10, I10, r10, q10⟩ => ?_
        refine thnF (pv.run _ t10 τ G10 _ I10 q10) fun z2 t11 ⟨yv, G11, I11, r11, xs, k, b, ek, hb, hD, hz, hk, nx⟩ => ?_
        subst ek
        cases (show z = Value.ref b from r10)
        exact dho_set (X := X.blk t3 G3 scope ce fp) hu I11 hD hk hb (Nat.le_of_lt hz) fun t12 I12 => fin I12 (nx z2 r11)
  exact codeAny_compStart_dict loop (T.self X.A 0 _ _ _ st4 loop)
end
end Mi
set_option Elab.async false
set_option linter.all false
set_option maxRecDepth 100000
set_option maxHeartbeats 4000000
/-! a dict comprehension in the mirror -/
namespace Mi
open PySem PySem.Spec PyProof.Rows L2
def keyI : IV → Option (List Key)
  | .tup xs => xs.mapM fun x => match x with
    | .int i => some (.inl i)
    | .str z => some (.inr z)
    | _ => none
  | _ => none
theorem keyI_eq {x : IV} {k : List Key} (h : keyI x = some k) : x = .tup (k.map kI) := by
  cases x with
  | tup xs =>
    simp only [keyI] at h
    congr 1
    induction xs generalizing k with
    | nil => cases h; rfl
    | cons y r ih =>
      rw [List.mapM_cons] at h
      cases y with
      | int i =>
        simp only [Option.pure_def, Option.bind_eq_bind, Option.bind_some, Option.bind_eq_some_iff] at h
        obtain ⟨t, h1, h2⟩ := h
        cases h2
        rw [ih h1]; rfl
      | str i =>
        simp only [Option.pure_def, Option.bind_eq_bind, Option.bind_some, Option.bind_eq_some_iff] at h
        obtain ⟨t, h1, h2⟩ := h
        cases h2
        rw [ih h1]; rfl
      | _ => cases h
  | _ => cases h
theorem keyI_ints {ns : List Int} : keyI (.tup (ns.map .int)) = some (ns.map .inl) := by
  simp only [keyI]
  induction ns with
  | nil => rfl
  | cons n r ih => rw [List.map_cons, List.mapM_cons, ih]; rfl
theorem rvs_keys {G : Gd} {m bs : List Addr} {st : Sto} {H : Hp} : ∀ {k : List Key} {vs : List V}, RVs G m bs st H (k.map kI) vs → vs = k.map kV
  | [], vs, h => by simpa only [List.map_nil, RVs] using h
  | x :: r, vs, h => by
    simp only [List.map_cons, RVs] at h
    obtain ⟨v, t, rfl, h1, h2⟩ := h
    rw [rvs_keys h2, List.map_cons]
    cases x with
    | inl i => simp only [kI, RV] at h1; rw [h1]; rfl
    | inr i => simp only [kI, RV] at h1; rw [h1]; rfl
theorem rv_key {G : Gd} {m bs : List Addr} {st : Sto} {H : Hp} {k : List Key} {v : V} (h : RV G m bs st H (.tup (k.map kI)) v) : ∃ b, v = .ref b ∧ KAt G.K H b k := by
  simp only [RV] at h
  obtain ⟨a, vs, e, t, r⟩ := h
  rw [rvs_keys r] at t
  exact ⟨a, e, t.sq⟩
/-- d[k] = v -/
def dputI (kvs : List (List Key × IV)) (k : List Key) (y : IV) : List (List Key × IV) := if (kvs.find? fun p => decide (p.1 = k)).isSome then kvs.map (fun p => if p.1 = k then (p.1, y) else p) else kvs ++ [(k, y)]
section
variable {G : Gd} {m bs : List Addr} {st : Sto} {H : Hp}
theorem RDs.find {k : List Key} : ∀ {kvs : List (List Key × IV)} {xs : List (List Key × Addr × Value)}, RDs G m bs st H kvs xs → (atKey xs k).isSome = (kvs.find? fun p => decide (p.1 = k)).isSome
  | [], xs, h => by
    have : xs = [] := h
    rw [this]; rfl
  | (j, x) :: r, xs, h => by
    obtain ⟨b, u, v, t, rfl, _, _, _, h3⟩ := h
    have ih := RDs.find (k := k) h3
    unfold atKey at ih ⊢
    rw [List.find?_cons, List.find?_cons]
    by_cases e : j = k
    · simp [e]
    · simp only [e, decide_false, Bool.false_eq_true, if_false]
      exact ih
theorem RDs.mapPut {k : List Key} {y : IV} {u : Value} {v : V} (ry : RelV v u) (r : RV G m bs st H y v) : ∀ {kvs : List (List Key × IV)} {xs : List (List Key × Addr × Value)}, RDs G m bs st H kvs xs → RDs G m bs st H (kvs.map (fun p => if p.1 = k then (p.1, y) else p)) (xs.map (putAt k u))
  | [], xs, h => by
    have : xs = [] := h
    rw [this]; rfl
  | (j, x) :: q, xs, h => by
    obtain ⟨b, u1, v1, t, rfl, h0, h1, h2, h3⟩ := h
    have ih := RDs.mapPut (k := k) ry r h3
    rw [List.map_cons, List.map_cons]
    by_cases e : j = k
    · rw [if_pos e]
      unfold putAt
      rw [if_pos e]
      exact ⟨b, u, v, _, rfl, h0, ry, r, ih⟩
    · rw [if_neg e]
      unfold putAt
      rw [if_neg e]
      exact ⟨b, u1, v1, _, rfl, h0, h1, h2, ih⟩
theorem RDs.snoc {k : List Key} {y : IV} {b : Addr} {u : Value} {v : V} (rk : RV G m bs st H (.tup (k.map kI)) (.ref b)) (ry : RelV v u) (r : RV G m bs st H y v) : ∀ {kvs : List (List Key × IV)} {xs : List (List Key × Addr × Value)}, RDs G m bs st H kvs xs → RDs G m bs st H (kvs ++ [(k, y)]) (xs ++ [(k, b, u)])
  | [], xs, h => by
    have : xs = [] := h
    rw [this]; exact ⟨b, u, v, [], rfl, rk, ry, r, rfl⟩
  | (j, x) :: q, xs, h => by
    obtain ⟨b1, u1, v1, t, rfl, h0, h1, h2, h3⟩ := h
    exact ⟨b1, u1, v1, _, rfl, h0, h1, h2, RDs.snoc rk ry r h3⟩
theorem RDs.put {k : List Key} {y : IV} {b : Addr} {u : Value} {v : V} (rk : RV G m bs st H (.tup (k.map kI)) (.ref b)) (ry : RelV v u) (r : RV G m bs st H y v) {kvs : List (List Key × IV)} {xs : List (List Key × Addr × Value)} (h : RDs G m bs st H kvs xs) : RDs G m bs st H (dputI kvs k y) (storedH xs k b u) := by
  unfold dputI storedH
  rw [h.find]
  split
  · exact h.mapPut ry r
  · exact h.snoc rk ry r
theorem RDs.keys : ∀ {kvs : List (List Key × IV)} {xs : List (List Key × Addr × Value)}, RDs G m bs st H kvs xs → ∀ x ∈ xs, KAt G.K H x.2.1 x.1
  | [], xs, h, x, hx => by
    have : xs = [] := h
    rw [this] at hx; cases hx
  | (j, y) :: q, xs, h, x, hx => by
    obtain ⟨b1, u1, v1, t, rfl, h0, h1, h2, h3⟩ := h
    rcases List.mem_cons.mp hx with rfl | hx
    · obtain ⟨b, e, hb⟩ := rv_key h0
      cases e; exact hb
    · exact RDs.keys h3 x hx
theorem RDs.len : ∀ {kvs : List (List Key × IV)} {xs : List (List Key × Addr × Value)}, RDs G m bs st H kvs xs → xs.length = kvs.length
  | [], xs, h => by
    have : xs = [] := h
    rw [this]; rfl
  | (j, y) :: q, xs, h => by
    obtain ⟨b1, u1, v1, t, rfl, h0, h1, h2, h3⟩ := h
    rw [List.length_cons, List.length_cons, RDs.len h3]
/-- a thing just made, blocked so far, comes into the store -/
theorem fresh_live {m' : List Addr} {st' : Sto} {H' : Hp} {D : Addr} {o : IO} (R0 : Rel G m bs st H) (hD : H D = none) (g : GrowE m st H m' st' H') (R : Rel G m' (D :: bs) st' H')
    (ho : Fits G m' (D :: bs) st' H' (m' ++ [D]) bs (st' ++ [o]) H' → OR G (m' ++ [D]) bs (st' ++ [o]) H' o D) : GrowE m st H (m' ++ [D]) (st' ++ [o]) H' ∧ Rel G (m' ++ [D]) bs (st' ++ [o]) H' ∧ RV G (m' ++ [D]) bs (st' ++ [o]) H' (.ref st'.length) (.ref D) := by
  have sub : ∀ a ∈ bs, a ∈ D :: bs := fun a z => List.mem_cons_of_mem _ z
  have hn := R.bsd D List.mem_cons_self
  have nb : D ∉ bs := fun z => by
    obtain ⟨_, u, e'⟩ := R0.bsd D z
    rw [hD] at e'; cases e'
  have f : Fits G m' (D :: bs) st' H' (m' ++ [D]) bs (st' ++ [o]) H' := by
    refine ⟨fun l a h => ?_, fun a vs h => ?_, fun a vs h => ?_, fun a vs h => ?_⟩
    · rw [List.getElem?_append_left (List.getElem?_eq_some_iff.mp h).1]; exact h
    · rcases h with ⟨h, n, z⟩ | h
      · exact .inl ⟨h, fun y => (lv_snoc R.len y).elim n fun y => z (y ▸ List.mem_cons_self), fun y => z (sub a y)⟩
      · exact .inr h
    · rcases h with ⟨h, n, z⟩ | h
      · exact .inl ⟨h, fun y => (lv_snoc R.len y).elim n fun y => z (y ▸ List.mem_cons_self), fun y => z (sub a y)⟩
      · exact .inr h
    · obtain ⟨u, h, d, n, z⟩ := h
      exact ⟨u, h, d, fun y => (lv_snoc R.len y).elim n fun y => z (y ▸ List.mem_cons_self), fun y => z (sub a y)⟩
  refine ⟨⟨g.pre.trans (List.prefix_append _ _), fun a u ha na qa nx => ?_, g.stay⟩, ⟨by simp [R.len], fun i j x e1 e2 => ?_, fun l w x e1 e2 => ?_, fun x z => ⟨fun y => ?_, (R.bsd x (sub x z)).2⟩⟩, ?_⟩
  · obtain ⟨h1, n1, _⟩ := g.keep a u ha na qa nx
    exact ⟨h1, fun y => (lv_snoc R.len y).elim n1 (fun y => by rw [y, hD] at ha; cases ha), qa⟩
  · rcases getElem?_snoc e1 with e1 | ⟨i1, e1⟩
    · rcases getElem?_snoc e2 with e2 | ⟨i2, e2⟩
      · exact R.nd i j x e1 e2
      · exact absurd (List.mem_of_getElem? e1) (by rw [e2]; exact hn.1)
    · rcases getElem?_snoc e2 with e2 | ⟨i2, e2⟩
      · exact absurd (List.mem_of_getElem? e2) (by rw [e1]; exact hn.1)
      · omega
  · rcases getElem?_snoc e2 with e2 | ⟨i2, e2⟩
    · have hlt : l < st'.length := by rw [← R.len]; exact (List.getElem?_eq_some_iff.mp e2).1
      rw [List.getElem?_append_left hlt] at e1
      exact (R.obj l w x e1 e2).fits f fun _ e => e
    · subst e2
      rw [R.len] at i2; subst i2
      rw [List.getElem?_append_right (Nat.le_refl _)] at e1
      have ew : o = w := by simpa using e1
      rw [← ew]; exact ho f
  · rcases List.mem_append.mp y with y | y
    · exact (R.bsd x (sub x z)).1 y
    · have : x = D := by simpa using y
      exact nb (this ▸ z)
  · simp only [RV]
    exact ⟨D, rfl, by rw [← R.len, List.getElem?_append_right (Nat.le_refl _)]; simp⟩
end
def dcL (g : GI) (all : List IV) (vs : List Nat) (T : ITg) (S : IT) (A B : IE) (ρ : Slots) : List IV → List (List Key × IV) → Sto → R (List (List Key × IV))
  | [], acc, st => if gokB g st all = true then .ok acc st else .bad
  | x :: r, acc, st => if gokB g st all = true ∧ acc.length < 100000 then
      match T x (wipeI ρ vs) st with
      | .nx ρ1 st1 => ((S ρ1 st1).noE).bind fun b st2 => if b = true then ((A ρ1 st2).noE).bind fun y st3 => ((B ρ1 st3).noE).bind fun z st4 => (match keyI y with
          | some k => dcL g all vs T S A B ρ r (dputI acc k z) st4
          | none => .bad) else dcL g all vs T S A B ρ r acc st2
      | _ => .bad
    else .bad
theorem dputI_len (kvs : List (List Key × IV)) (k : List Key) (y : IV) : (dputI kvs k y).length ≤ kvs.length + 1 := by
  unfold dputI
  split <;> simp
def iDc (I : IIt) (vs : List Nat) (T : ITg) (S : IT) (A B : IE) : IE := fun ρ st => (I ρ st).bind fun p st => (dcL p.2 p.1 vs T S A B ρ p.1 [] st).bind fun kvs st => .ok (.ref st.length) (st ++ [.dct kvs])
section
variable {X : Cx} {W : WX} {xa : Xa}
theorem bind_mono_rds {G : Gd} {m bs : List Addr} {st : Sto} {H : Hp} {m' : List Addr} {st' : Sto} {H' : Hp} {kvs : List (List Key × IV)} {xs : List (List Key × Addr × Value)} (g : GrowE m st H m' st' H') (h : RDs G m bs st H kvs xs) : RDs G m' bs st' H' kvs xs := RDs.fits g.fitsE _ _ h
theorem dc_weak {g : TG} {tt : TT} {I : IIt} {T : ITg} {S : IT} {A B : IE} {vs : List Nat} (hT : CTg (gd X) xa vs g T) (hS : TtOk (gd X) xa tt S) (hpl : ∀ x ρ st, match T x ρ st with | .nx _ st' => st' = st | _ => True)
    {σ : L2.St} {H : Hp} {Q : VK} (h : teOf (gd X) W xa (iDc I vs T S A B) σ H Q) : tDcx X (tiOf (gd X) W xa I) g tt (teOf (gd X) W0 xa A) (teOf (gd X) W0 xa B) vs σ H Q := by
  obtain ⟨m, os, rs, ρ, st, P, h⟩ := h
  refine ⟨m, os, rs, ρ, st, P, ?_⟩
  unfold iDc at h
  cases q : I ρ st with
  | exc c fs st1 => rw [q] at h; exact h
  | bad => rw [q] at h; exact h
  | ok p st1 =>
    rw [q] at h
    intro m1 H1 g1 R1 J hw D hD sysD
    obtain ⟨xs, gd0⟩ := p
    have h0 : Pst (gd X) m (os ++ rs) st H (fun cls d H' => W cls d σ H') ((dcL gd0 xs vs T S A B ρ xs [] st1).bind fun kvs st => .ok (.ref st.length) (st ++ [.dct kvs])) (fun x m' st' H' => ∀ v, RV (gd X) m' (os ++ rs) st' H' x v → Q v H') := h
    have blk : ∀ a ∈ os ++ (D :: rs), a = D ∨ a ∈ os ++ rs := fun a z => (List.mem_append.mp z).elim (fun z => .inr (List.mem_append_left _ z)) fun z => (List.mem_cons.mp z).elim .inl fun z => .inr (List.mem_append_right _ z)
    have perm : ∀ a ∈ D :: (os ++ rs), a ∈ os ++ (D :: rs) := fun a z => (List.mem_cons.mp z).elim (fun z => z ▸ List.mem_append_right _ List.mem_cons_self) fun z => (List.mem_append.mp z).elim (List.mem_append_left _) fun z => List.mem_append_right _ (List.mem_cons_of_mem _ z)
    have Dm : D ∈ os ++ (D :: rs) := List.mem_append_right _ List.mem_cons_self
    have hD0 : H D = none := back_fresh R1 g1 P.rel hD
    have P1 := P.grow g1 R1
    have f1 : Fits (gd X) m1 (os ++ rs) st1 H1 m1 (os ++ (D :: rs)) st1 (upd H1 D (DHo X.prog X.w D [])) := fits_block hD blk
    have Q1 : Pre (gd X) xa σ (upd H1 D (DHo X.prog X.w D [])) m1 os (D :: rs) ρ st1 := by
      refine ⟨P1.rel.block hD blk, P1.re.len, fun i x e => ?_, fun i xs e => let ⟨a, e1, e2, e3⟩ := P1.re.own i xs e; ⟨a, e1, e2, fun z => (List.mem_cons.mp z).elim (fun z => by obtain ⟨_, o, q⟩ := P1.rel.bsd a (List.mem_append_left _ e2); rw [z, hD] at q; cases q) e3⟩, P1.re.uniq⟩
      obtain ⟨v, e1, r⟩ := P1.re.at_ i x e
      refine ⟨v, e1, ?_⟩
      cases x with
      | v x => exact RV.fits f1 _ _ r
      | own xs =>
        obtain ⟨a, vs, ea, ha, ra, hb⟩ := r
        refine ⟨a, vs, ea, by rw [upd_ne (ne_of_none ha hD)]; exact ha, RVs.fits f1 _ _ ra, (List.mem_append.mp hb).elim (List.mem_append_left _) fun z => List.mem_append_right _ (List.mem_cons_of_mem _ z)⟩
      | exn l => exact r
    refine ⟨fun i n H2 => n = xs.length - i ∧ i ≤ xs.length ∧ ∃ m2 st2 acc ys, acc.length ≤ 100000 ∧ GrowE m st H m2 st2 H2 ∧ Fits (gd X) m1 (os ++ rs) st1 H1 m2 (os ++ (D :: rs)) st2 H2 ∧ Pre (gd X) xa σ H2 m2 os (D :: rs) ρ st2 ∧ H2 D = some (DHo X.prog X.w D ys) ∧ RDs (gd X) m2 (os ++ (D :: rs)) st2 H2 acc ys ∧
        Pst (gd X) m (os ++ rs) st H (fun cls d H' => W cls d σ H') ((dcL gd0 xs vs T S A B ρ (xs.drop i) acc st2).bind fun kvs st => .ok (.ref st.length) (st ++ [.dct kvs])) (fun x m' st' H' => ∀ v, RV (gd X) m' (os ++ rs) st' H' x v → Q v H'),
      ⟨xs.length, by simp, Nat.zero_le _, m1, st1, [], [], Nat.zero_le _, g1.trans (grow_new hD), f1, Q1, upd_same, rfl, by simpa using h0⟩, ?_⟩
    rintro i n H2 ⟨rfl, hi, m2, st2, acc, ys, ha, g2, f2, P2, eD, ra, h2⟩
    have w := hw i m2 _ st2 H2 f2 P2.rel
    by_cases hlt : i < xs.length
    · have ed : xs.drop i = xs[i] :: xs.drop (i + 1) := List.drop_eq_getElem_cons hlt
      rw [ed, dcL] at h2
      split at h2
      · rename_i gk
        obtain ⟨w1, _⟩ := w gk.1
        obtain ⟨go, yl⟩ := w1 xs[i] (List.getElem?_eq_getElem hlt)
        refine .inr ⟨go, fun H' => i + 1 ≤ xs.length ∧ ∃ m2 st2 acc ys, acc.length ≤ 100000 ∧ GrowE m st H m2 st2 H' ∧ Fits (gd X) m1 (os ++ rs) st1 H1 m2 (os ++ (D :: rs)) st2 H' ∧ Pre (gd X) xa σ H' m2 os (D :: rs) ρ st2 ∧ H' D = some (DHo X.prog X.w D ys) ∧ RDs (gd X) m2 (os ++ (D :: rs)) st2 H' acc ys ∧
          Pst (gd X) m (os ++ rs) st H (fun cls d H' => W cls d σ H') ((dcL gd0 xs vs T S A B ρ (xs.drop (i + 1)) acc st2).bind fun kvs st => .ok (.ref st.length) (st ++ [.dct kvs])) (fun x m' st' H' => ∀ v, RV (gd X) m' (os ++ rs) st' H' x v → Q v H'), fun H' q => ⟨xs.length - (i + 1), by omega, rfl, q⟩, fun v H3 y => ?_⟩
        obtain ⟨g3, R3, r3⟩ := yl v H3 y
        have P3 := (P2.grow g3 R3).wipe vs
        have hp := hpl xs[i] (wipeI ρ vs) st2
        cases q1 : T xs[i] (wipeI ρ vs) st2 with
        | nx ρ4 st4 =>
          rw [q1] at hp
          simp only at hp
          subst hp
          simp only [q1] at h2
          refine hT v (L2.wipe σ vs) H3 _ m2 os (D :: rs) (wipeI ρ vs) st4 xs[i] P3 r3 ⟨ρ4, q1, fun σ2 P4 ew => ⟨by rw [ew, wipe_wipe], ?_⟩⟩
          have keepD : ∀ {m' : List Addr} {st' : Sto} {H' : Hp}, GrowE m2 st4 H2 m' st' H' → H' D = some (DHo X.prog X.w D ys) := fun {m' st' H'} g => (g.keep D _ eD (fun z => (P2.rel.bsd D Dm).1 z.mem) (by simp) (fun _ z => by cases z)).1
          refine hS σ2 H3 _ ⟨m2, os, D :: rs, ρ4, st4, P4, ?_⟩
          cases q2 : S ρ4 st4 with
          | ok b st5 =>
            rw [q2] at h2
            intro m5 H5 g5 R5 b' eb
            subst eb
            have gg5 : GrowE m2 st4 H2 m5 st5 H5 := g3.trans g5
            cases b with
            | false =>
              simp only [R.noE, R.bind] at h2
              exact ⟨hlt, m5, st5, acc, ys, ha, g2.trans gg5, f2.trans gg5.fitsE, (P2.grow g3 R3).grow g5 R5, keepD gg5, bind_mono_rds gg5 ra, by simp only [Bool.false_eq_true, if_false] at h2; exact h2⟩
            | true =>
              simp only [R.noE, R.bind, if_true] at h2
              refine ⟨m5, os, D :: rs, ρ4, st5, P4.grow g5 R5, ?_⟩
              cases q3 : A ρ4 st5 with
              | ok y st6 =>
                rw [q3] at h2
                intro m6 H6 g6 R6 u ru
                refine ⟨m6, os, D :: rs, ρ4, st6, (P4.grow g5 R5).grow g6 R6, ?_⟩
                simp only at h2
                cases q4 : B ρ4 st6 with
                | ok z st7 =>
                  rw [q4] at h2
                  intro m7 H7 g7 R7 u2 ru2
                  have gg7 : GrowE m2 st4 H2 m7 st7 H7 := (gg5.trans g6).trans g7
                  simp only at h2
                  cases q5 : keyI y with
                  | some k =>
                    rw [q5] at h2
                    have ey := keyI_eq q5
                    subst ey
                    have rk := RV.fits g7.fitsE _ _ ru
                    obtain ⟨b, eb, hb⟩ := rv_key rk
                    subst eb
                    have ra7 := bind_mono_rds gg7 ra
                    have e7 := keepD gg7
                    refine ⟨ys, k, b, rfl, hb, e7, by rw [ra.len]; exact szlt gk.2, ra7.keys, fun uu ruu => ?_⟩
                    have fu : Fits (gd X) m7 (os ++ (D :: rs)) st7 H7 m7 (os ++ (D :: rs)) st7 (upd H7 D (DHo X.prog X.w D (storedH ys k b uu))) := fits_upd Dm
                    have P7 := ((P4.grow g5 R5).grow g6 R6).grow g7 R7
                    have P7' := (((P2.grow g3 R3).grow g5 R5).grow g6 R6).grow g7 R7
                    refine ⟨hlt, m7, st7, dputI acc k z, storedH ys k b uu, Nat.le_trans (dputI_len _ _ _) (by omega), ?_, (f2.trans gg7.fitsE).trans fu, ⟨P7'.rel.upd Dm, P7'.re.len, fun j x e => ?_, P7'.re.own, P7'.re.uniq⟩, upd_same, RDs.fits fu _ _ (ra7.put rk ruu ru2), h2⟩
                    · have gg := g2.trans gg7
                      exact ⟨gg.pre, fun a o ha na qa nx => by
                        obtain ⟨k1, k2, _⟩ := gg.keep a o ha na qa nx
                        exact ⟨by rw [upd_ne (ne_of_none ha hD0)]; exact k1, k2, qa⟩, fun a e => gg.stay a (upd_stay e)⟩
                    · obtain ⟨v, e1, r⟩ := P7'.re.at_ j x e
                      refine ⟨v, e1, ?_⟩
                      cases x with
                      | v x => exact RV.fits fu _ _ r
                      | own zs =>
                        obtain ⟨a, us, ea, ha, rz, hb⟩ := r
                        obtain ⟨a', e3, ho⟩ := P7'.re.own j zs e
                        have ne : a ≠ D := by
                          intro z
                          rw [e1, ea] at e3
                          have z2 : a = a' := by cases e3; rfl
                          obtain ⟨_, o, e4⟩ := P.rel.bsd a' (List.mem_append_left _ ho.1)
                          rw [← z2, z, hD0] at e4; cases e4
                        exact ⟨a, us, ea, by rw [upd_ne ne]; exact ha, RVs.fits fu _ _ rz, hb⟩
                      | exn l => exact r
                  | none => rw [q5] at h2; exact h2.elim
                | exc c fs st6 => rw [q4] at h2; exact h2.elim
                | bad => rw [q4] at h2; exact h2.elim
              | exc c fs st6 => rw [q3] at h2; exact h2.elim
              | bad => rw [q3] at h2; exact h2.elim
          | exc c fs st5 => rw [q2] at h2; exact h2.elim
          | bad => rw [q2] at h2; exact h2.elim
        | _ => simp only [q1] at h2; exact h2.elim
      · exact h2.elim
    · have ei : i = xs.length := by omega
      rw [List.drop_eq_nil_of_le (by omega), dcL] at h2
      split at h2
      · rename_i gk
        refine .inl ⟨(w gk).2 (by show xs.length ≤ i; omega), ?_⟩
        obtain ⟨gl, Rl, rv⟩ := fresh_live (o := .dct acc) P.rel hD0 g2 (P2.rel.sub perm) fun f => ⟨sysD, ha, ys, eD, RDs.fits f _ _ (RDs.fits (fits_sub perm) _ _ ra)⟩
        exact h2 _ _ gl Rl _ rv
      · exact h2.elim
theorem me_dc {kx vx tg iter : Expr} {ifs : List Expr} {scope : Scope} {own : List (Str × Nat)} {pos : Pos} {g : TG} {tt : TT} {I : IIt} {T : ITg} {S : IT} {A B : IE} (hu : X.A.units < cLine) (hc : X.calm = true) (hN : X.N.Nodup) (hi : MI X W xa tg iter I) (ok : BlkOk X.N X.env.scope scope own)
    (hg : ∀ (s : Shared) (H : Hp) (C : Addr) (cl : List (Str × Addr)) (fp : List Addr), PG (X.blk s H scope (compEnvC scope cl C X.env) fp) tg g) (hT : CTg (gd X) xa (own.map (·.2)) g T) (hpl : ∀ x ρ st, match T x ρ st with | .nx _ st' => st' = st | _ => True)
    (ht : ∀ (s : Shared) (H : Hp) (C : Addr) (cl : List (Str × Addr)) (fp : List Addr), PTs (X.blk s H scope (compEnvC scope cl C X.env) fp) ifs tt) (hS : TtOk (gd X) xa tt S)
    (hk : ∀ (s : Shared) (H : Hp) (C : Addr) (cl : List (Str × Addr)) (fp : List Addr), PE (X.blk s H scope (compEnvC scope cl C X.env) fp) kx (teOf (gd X) W0 xa A))
    (hv : ∀ (s : Shared) (H : Hp) (C : Addr) (cl : List (Str × Addr)) (fp : List Addr), PE (X.blk s H scope (compEnvC scope cl C X.env) fp) vx (teOf (gd X) W0 xa B)) (hs : ∀ x, foldedSetIterable iter X.env x = pure x := by intro _; rfl) :
    ME X W xa (.DictComp kx vx [⟨tg, iter, ifs, 0⟩] scope pos) (iDc I (own.map (·.2)) T S A B) :=
  PE.weak (pe_dcx hu hc hN hi ok hg ht hk hv hs) fun σ H Q h => dc_weak hT hS hpl h
end
end Mi
set_option Elab.async false
set_option linter.all false
set_option maxRecDepth 100000
set_option maxHeartbeats 4000000
/-! enumerate(t), t a tuple; int(text) -/
namespace Mi
open PySem PySem.Spec PyProof.Rows L2
/-- enumerate(v) by what iter(v) makes -/
theorem enum_newB {v : Value} {o : Obj} {Hq : Heap → Prop} (B : Begins v o Hq) :
    Meets (Builtin.«enumerate.__new__» ⟨[.type "enumerate", v], []⟩) (fun _ R s => Hq s.heap ∧
      R (.ok (.ret (.ref (s.heap.push o).objs.size))) { s with heap := (s.heap.push o).push { cls := .type "enumerate", data := .fields #[.none, .bool false, .ref s.heap.objs.size, rawInt 0, .none, .none] } }) :=
  .of_wp fun prog w A R s h => by
    obtain ⟨hp, g, d, tk, os⟩ := s
    obtain ⟨h1, h⟩ := h
    have hsub := sub_enumerate
    have it : ∀ {A' : Around} {E : Value → Shared → Prop} {Q : Value → Shared → Prop}, Q (.ref hp.objs.size) ⟨hp.push o, g, d, tk, os⟩ → wpAny (model prog w) A' (pyIter v) Q E ⟨hp, g, d, tk, os⟩ := fun q => B.iter prog w _ _ ⟨hp, g, d, tk, os⟩ _ h1 q
    wp_walk using it
    refine wpAny_stack_any fun st => wpAny_pure ?_
    split
    · rename_i c _ _ _ _ _
      cases (c == Value.type "enumerate") <;> (wp_walk using it; exact ⟨_, rfl, h⟩)
    · wp_walk using it; exact ⟨_, rfl, h⟩
theorem enum_begins1 {prog : Program} {w : World} {A : Around} {E : Value → Shared → Prop} {s : Shared} {v : Value} {o : Obj} {Hq : Heap → Prop} {Q : Value → Shared → Prop} (B : Begins v o Hq) (h1 : Hq s.heap)
    (h : ∀ h', IsEnum h' (s.heap.objs.size + 1) s.heap.objs.size 0 .none → h'.get? s.heap.objs.size = some o → h'.objs.size = s.heap.objs.size + 2 →
      (∀ b u, s.heap.get? b = some u → h'.get? b = some u) → Q (.ref (s.heap.objs.size + 1)) { s with heap := h' }) :
    wpAny (model prog w) A (call (.type "enumerate") [v]) Q E s := by
  refine callType_new F.called_enumerate (by decide) (F.typeCall_enumerate_1 _) (F.newCall_enumerate_1 _) (fun obj => F.args_object_init_2 obj _) F.entry_enumerate_new (enum_newB B) ⟨h1, ?_⟩
  have hz : (s.heap.push o).objs.size = s.heap.objs.size + 1 := Heap.size_push ..
  show _ ∧ _
  rw [hz]
  have he : IsEnum ((s.heap.push o).push { cls := .type "enumerate", data := .fields #[.none, .bool false, .ref s.heap.objs.size, rawInt 0, .none, .none] }) (s.heap.objs.size + 1) s.heap.objs.size 0 .none := by
    have := Heap.get?_push_size (s.heap.push o) (o := { cls := .type "enumerate", data := .fields #[.none, .bool false, .ref s.heap.objs.size, rawInt 0, .none, .none] }) rfl
    rw [hz] at this; exact this
  exact ⟨⟨_, he, rfl⟩, h _ he (Heap.get?_push_of_some _ (Heap.get?_push_size _ B.free)) (by rw [Heap.size_push, hz]) fun b u x => Heap.get?_push_of_some _ (Heap.get?_push_of_some _ x)⟩
theorem enum_endT {prog : Program} {w : World} {A : Around} {E : Value → Shared → Prop} {s : Shared} {e it a : Addr} {i : Nat} {c : Int} {items : Array Value} {old : Value} {Q : Option Value → Shared → Prop} (hh : A.handled = none)
    (he : IsEnum s.heap e it c old) (hit : s.heap.IsTupleIter it a i) (p : s.heap.IsTuple a items) (hx : items[i]? = none) (hQ : ∀ h', Heap.ExtBut it s.heap h' → Q none { s with heap := h' }) : wpAny (model prog w) A (pyNext (.ref e)) Q E s := by
  have ty : s.TypeIs (.ref e) "enumerate" := ⟨_, he, rfl⟩
  unfold pyNext
  refine wpAny_bind (wpAny_attempt (wpAny_callSpecial?_slot (name := Str.ofString "__next__") ty F.slot_enumerate_next (wpAny_call_entry F.slot_enumerate_next ty F.entry_enumerate_next ?_ (F.args_enumerate_next_1 _))))
  show wpAny _ _ (field (.ref e) 2 >>= _) _ _ _
  refine wpAny_bind (wpAny_field he rfl (x := .ref it) rfl (wpAny_bind (wpAny_nextOf_tuple_end hh hit p hx fun h' x he' hx' => ?_)))
  obtain ⟨o, ho, hc⟩ := hx'
  exact wpAny_bind (wpAny_isInstance (T := "StopIteration") (b := true) ⟨o, ho, hc⟩ isSubtype_stop (wpAny_pure (hQ _ he')))
def IteT (K : PySem.W.Frag) (a : Addr) : It :=
  ⟨fun i H => ∃ (xs : List V) (x : V), SqT K H a xs ∧ xs[i]? = some x, fun i H v H' => ∃ T x, v = .ref T ∧ H T = none ∧ H' = upd H T (.tup [.int (i : Nat), x]) ∧ ∀ xs, SqT K H a xs → xs[i]? = some x, fun i H => ∃ xs : List V, SqT K H a xs ∧ xs.length ≤ i⟩
theorem turn_enumT {P : Program} {w : World} {K : PySem.W.Frag} {elts : List Expr} {kk : Nat} {tpos : Pos} (a e it : Addr) (hai : a ≠ it) :
    Turn P w K (.Tuple elts kk tpos) (IteT K a) [e, it] e (fun i h => (∃ old, IsEnum h e it ((i : Nat) : Int) old) ∧ h.IsTupleIter it a i ∧ e ≠ it) where
  mem := by simp
  obj := fun i h st b hb => by
    obtain ⟨⟨old, he⟩, ⟨o, ho, hc, hd⟩, _⟩ := st
    rcases (show b = e ∨ b = it by simpa using hb) with z | z
    · rw [z]; exact ⟨_, he, fun v q => nomatch q⟩
    · rw [z]; exact ⟨o, ho, fun v q => by rw [hd] at q; cases q⟩
  keep := fun i h h' st k => let ⟨⟨old, he⟩, hi, hne⟩ := st; ⟨⟨old, k e (by simp) _ he⟩, hi.at fun o q => k it (by simp) o q, hne⟩
  item := by
    intro X hP hw hK hc i pins s σ H E I hf st hg
    subst hP hw hK
    obtain ⟨⟨old, he⟩, hit, hne⟩ := st
    obtain ⟨xs, x, hq, hx⟩ := hg
    obtain ⟨its, rv, p, hz⟩ := I.tuple hq
    obtain ⟨u, hu, ru⟩ := rv.get hx
    have hel : e < s.heap.objs.size := Heap.lt_size he
    have hil : it < s.heap.objs.size := by obtain ⟨_, q, _⟩ := hit; exact Heap.lt_size q
    have hea : e ≠ a := fun z => by
      subst z
      obtain ⟨o1, e1, c1, _⟩ := p
      have : s.heap.get? e = some _ := he
      rw [e1] at this
      have z := Option.some.inj this
      rw [z] at c1
      injection c1 with c1
      exact absurd c1 (by decide)
    refine wpAny_pyNext_enum_itemD (Draws.tuple (A := X.A.in1) (I.ok.hd hc) it a hai its.toArray) he ⟨hit, p⟩ (by have := (List.getElem?_eq_some_iff.mp hu).1; simpa using this) hne (by simp [hne, hea]) fun y h' tk hy ho st' hT hsz hk => ?_
    obtain ⟨hit', hp'⟩ := st'
    have eyu : y = u := by
      have h1 : its.toArray[i]? = some y := hy
      have h2 : its.toArray[i]? = some u := by simpa using hu
      rw [h2] at h1; exact (Option.some.inj h1).symm
    subst eyu
    refine ⟨_, rfl, wpAny_letOwnedTupleGo_enum (s := { s with heap := h', toks := tk + 1 }) ho fun h'' he' sb => ?_⟩
    have hT2 : h''.get? s.heap.objs.size = some { cls := .type "tuple", data := .seq #[.int i tk, y] } := (sb.2 _ (Nat.ne_of_gt hel)).trans hT
    have new : ObjOk X.prog X.w (upd H s.heap.objs.size (.tup [.int (i : Nat), x])) h'' s.heap.objs.size (.tup [.int (i : Nat), x]) :=
      ⟨by show 2 ≤ sizeLine; decide, [.int i tk, y], .cons ⟨_, rfl⟩ (.cons ru .nil), ⟨_, hT2, rfl, _, rfl⟩⟩
    have I1 : Inv X pins σ (upd H s.heap.objs.size (.tup [.int (i : Nat), x])) { s with heap := h'', toks := tk + 1 } :=
      I.turnedNew (ch := [e, it]) (fun b ob hb q => (sb.2 b (fun z => hb (by simp [z]))).trans (hk b ob (fun z => hb (by simp [z])) (fun z => hb (by simp [z])) q)) hf (Nat.le_refl _) new
    refine ⟨.ref s.heap.objs.size, _, I1, rfl, ⟨_, x, rfl, I.hok.fresh (Nat.le_refl _), rfl, fun ys hy => by rw [I.tuple_inj hy hq]; exact hx⟩, ⟨⟨y, ?_⟩, hit'.at fun o q => (sb.2 it (Ne.symm hne)).trans q, hne⟩, fun b hb => ?_⟩
    · rw [show ((i + 1 : Nat) : Int) = (i : Int) + 1 by omega]; exact he'
    · have hb' : b < s.heap.objs.size := by
        rcases (show b = e ∨ b = it by simpa using hb) with z | z
        · rw [z]; exact hel
        · rw [z]; exact hil
      rw [upd_ne (Nat.ne_of_lt hb')]
      exact (hf b hb).1
  done := by
    intro X hP hw hK hc i pins s σ H E I hf st hg
    subst hP hw hK
    obtain ⟨⟨old, he⟩, hit, hne⟩ := st
    obtain ⟨xs, hq, hx⟩ := hg
    obtain ⟨its, rv, p, hz⟩ := I.tuple hq
    obtain ⟨f0, f1, f2, f3, f4, f5⟩ := hf it (by simp)
    have hl := rv.length
    exact enum_endT (I.ok.hd hc) he hit p (by simp; omega) fun h' eb => ⟨rfl, I.turned (t' := s.toks) (fun b o hb q => eb b o hb q) f0 f1 f3 f4 f5⟩
  self := fun A i s Q E st h => let ⟨⟨_, he⟩, _⟩ := st; wpAny_pyIter_enum he h
section
variable {X : Cx} {W : WX} {xa : Xa}
def iEnumTT (K : PySem.W.Frag) (ta : TA) : TI := fun σ H R => ta σ H fun vs H1 => ∃ a xs, vs = [.ref a] ∧ SqT K H1 a xs ∧ R (IteT K a) H1
theorem pi_enumT {e : Expr} {ta : TA} {p pos tpos : Pos} {elts : List Expr} {kk : Nat} (hg : Gl X "enumerate") (hm : X.mg "enumerate" = none) (ha : PA X [e] ta) (hs : starEach [e] X.env = [(false, eval e X.env)] := by rfl) :
    PI X (.Tuple elts kk tpos) (.Call (.Name "enumerate" p) [e] [] pos) (iEnumTT X.K ta) := by
  refine ⟨fun pins s σ H R I h => ?_⟩
  refine Call_ (ld_blt I hg hm boot_enumerate (PyProof.Rows.callWith_type1 (thn (ha.run pos pins s σ H _ I h) fun us t ⟨vs, H1, I1, r1, a, xs, ex, hq, q⟩ => ?_) hs rfl))
  subst ex
  cases r1 with
  | cons r rr =>
    cases rr
    cases r
    obtain ⟨its, rv, tp, hz⟩ := I1.tuple hq
    have lt1 : a < t.heap.objs.size := by obtain ⟨_, o, _⟩ := tp; exact Heap.lt_size o
    refine enum_begins1 (begins_tuple a its.toArray) tp fun h' he hit hsz hk => wpAny_pyIter_enum he ?_
    have I2 : Inv X pins σ H1 { t with heap := h' } := I1.kept (t' := t.toks) hk
    refine ⟨t.heap.objs.size + 1, [t.heap.objs.size + 1, t.heap.objs.size], _, _, H1, rfl, I2, turn_enumT a (t.heap.objs.size + 1) t.heap.objs.size (Nat.ne_of_lt lt1), ⟨⟨.none, he⟩, ⟨_, hit, rfl, rfl⟩, Nat.succ_ne_self _⟩, fun b hb => ?_, q⟩
    have hle : t.heap.objs.size ≤ b := by
      rcases (show b = t.heap.objs.size + 1 ∨ b = t.heap.objs.size by simpa using hb) with z | z
      · rw [z]; exact Nat.le_add_right _ _
      · rw [z]; exact Nat.le_refl _
    exact I1.fpOk hle (I1.hok.fresh hle)
def gEnumT : List IV → Sto → R (List IV × GI)
  | [.tup xs], st => .ok (enumI 0 xs, none) st
  | _, _ => .bad
theorem mi_enumT {a : Expr} {As : IA} {p pos tpos : Pos} {elts : List Expr} {kk : Nat} (hg : Gl X "enumerate") (hm : X.mg "enumerate" = none) (ha : MA X W xa [a] As) (hs : starEach [a] X.env = [(false, eval a X.env)] := by rfl) :
    MI X W xa (.Tuple elts kk tpos) (.Call (.Name "enumerate" p) [a] [] pos) (iRng gEnumT As) := by
  refine PI.mi (pi_enumT hg hm ha hs) fun σ H R h => ?_
  obtain ⟨m, os, rs, ρ, st, P, h⟩ := h
  refine ⟨m, os, rs, ρ, st, P, h.bind.mono fun xs m1 st1 H1 g1 R1 h1 vs rv => ?_⟩
  unfold gEnumT at h1
  split at h1
  · rename_i ys
    obtain ⟨v, e, r⟩ := rvs1 rv
    simp only [RV] at r
    obtain ⟨a, ws, ea, hl, rs1⟩ := r
    subst ea
    refine ⟨a, ws, e, hl.sq, h1.ok R1 _ ?_⟩
    intro i m2 bs2 st2 H2 g R _
    have hl1 := (g.tup _ _ hl).sq
    have r1 := RVs.fits g _ _ rs1
    refine ⟨fun x hx => ?_, fun hl => ⟨ws, hl1, by rw [← rs1.length]; simpa [enumI_len] using hl⟩⟩
    obtain ⟨z, hz, ez⟩ := enumI_get _ _ _ _ hx
    subst ez
    obtain ⟨v, hv, rv⟩ := r1.get hz
    refine ⟨⟨ws, v, hl1, hv⟩, fun w H' y => ?_⟩
    obtain ⟨T, u, e1, hT, e2, hu⟩ := y
    subst e1 e2
    have e : u = v := Option.some.inj ((hu ws hl1).symm.trans hv)
    subst e
    have := rv_pair (x := .int ((i : Nat) : Int)) (v := .int ((i : Nat) : Int)) R hT (by simp only [RV]) rv
    simpa using this
  · exact h1.elim
/-- int(text) -/
def gIntS : List IV → Sto → R IV
  | [.str x], st => match PySem.intText? x with
    | some n => if x.length ≤ 640 then .ok (.int n) st else .bad
    | none => .bad
  | _, _ => .bad
theorem cm_intS : CallM X (.type "int") gIntS := by
  refine ⟨_, call_int_str, fun m bs st H xs xs' Q W R rx h => ?_⟩
  unfold gIntS at h
  split at h
  · split at h
    · rename_i n e2
      split at h
      · rename_i hl
        obtain ⟨v, e, r⟩ := rvs1 rx
        simp only [RV] at r
        subst r
        exact ⟨_, n, e, e2, hl, h.v R (by simp only [RV])⟩
      · exact h.elim
    · exact h.elim
  · exact h.elim
end
end Mi
set_option Elab.async false
set_option linter.all false
set_option maxRecDepth 100000
set_option maxHeartbeats 4000000
namespace Mi
open PySem PySem.Spec PyProof.Rows L2 PySem.W
/-! ### rows of numbers: order -/
def intD (r : List Int) : List PyData := r.map .int
def flatT (r : List Int) : List (Int ⊕ List Nat) := r.flatMap fun n => [.inl 1, .inl n]
theorem toks_ints : ∀ {r : List Int} {t : List PyData}, keyToksAll (intD r ++ t) = flatT r ++ keyToksAll t
  | [], _ => rfl
  | n :: r, t => by
    show keyToksAll (PyData.int n :: (intD r ++ t)) = _
    rw [toks_all_cons, toks_ints]
    rfl
theorem lex_flat : ∀ {r r' : List Int} {t t' : List (Int ⊕ List Nat)}, r.length = r'.length → lexLt itemOrd (flatT r ++ .inl 0 :: t) (flatT r' ++ .inl 0 :: t') = lexLt itemOrd (flatT r ++ t) (flatT r' ++ t')
  | [], [], t, t', _ => lex_pre [.inl 0] t t'
  | [], _ :: _, _, _, h => by simp at h
  | _ :: _, [], _, _, h => by simp at h
  | n :: r, n' :: r', t, t', h => by
    have h2 : r.length = r'.length := by simpa using h
    show lexLt itemOrd ([.inl 1] ++ (.inl n :: (flatT r ++ .inl 0 :: t))) ([.inl 1] ++ (.inl n' :: (flatT r' ++ .inl 0 :: t'))) = lexLt itemOrd ([.inl 1] ++ (.inl n :: (flatT r ++ t))) ([.inl 1] ++ (.inl n' :: (flatT r' ++ t')))
    rw [lex_pre, lex_pre]
    by_cases e : n = n'
    · subst e
      show lexLt itemOrd ([.inl n] ++ (flatT r ++ .inl 0 :: t)) ([.inl n] ++ (flatT r' ++ .inl 0 :: t')) = lexLt itemOrd ([.inl n] ++ (flatT r ++ t)) ([.inl n] ++ (flatT r' ++ t'))
      rw [lex_pre, lex_pre]
      exact lex_flat h2
    · have ne : (Sum.inl n : Int ⊕ List Nat) ≠ .inl n' := fun z => e (by cases z; rfl)
      rw [lex_atom ne, lex_atom ne (flatT r ++ t)]
/-- a place's rank, as the program and as a law keeps it -/
def rkD (r : List Int) (s w : Int) : PyData := .tuple [.tuple (intD r), .int s, .int w]
def rlD (r : List Int) : PyData := .list (intD r)
theorem lt_ranks {r r' : List Int} {s w s' w' : Int} (h : r.length = r'.length) : dataLt (rkD r s w) (rkD r' s' w') = dataLt (rlD (r ++ [s, w])) (rlD (r' ++ [s', w'])) := by
  unfold rkD rlD
  rw [dataLt_tuple, dataLt_list]
  have e : ∀ (r : List Int) (s w : Int), keyToksAll [.tuple (intD r), .int s, .int w] = [.inl 1] ++ (flatT r ++ .inl 0 :: keyToksAll [.int s, .int w]) := fun r s w => by
    rw [toks_all_cons]
    have : keyToks (.tuple (intD r)) = flatT r ++ [.inl 0] := by
      have := toks_ints (r := r) (t := [])
      rw [List.append_nil] at this
      exact this
    rw [this]; simp
  have e2 : ∀ (r : List Int) (s w : Int), keyToksAll (intD (r ++ [s, w])) = flatT r ++ keyToksAll [.int s, .int w] := fun r s w => by
    rw [← toks_ints]; simp [intD]
  rw [e, e, lex_pre, e2, e2, lex_flat h]
theorem alike_ints : ∀ {r r' : List Int}, alikeAll (intD r) (intD r') = true
  | [], r' => rfl
  | _ :: _, [] => rfl
  | n :: r, n' :: r' => by
    show (alike (.int n) (.int n') && alikeAll (intD r) (intD r')) = true
    rw [alike_ints]; rfl
theorem alike_rl {r r' : List Int} : alike (rlD r) (rlD r') = true := by unfold rlD; rw [alike]; exact alike_ints
theorem alike_rk {r r' : List Int} {s w s' w' : Int} : alike (rkD r s w) (rkD r' s' w') = true := by
  unfold rkD
  simp [alike, alikeAll, alike_ints]
theorem depth_ints : ∀ {r : List Int}, PyData.depthAll (intD r) ≤ 1
  | [] => by decide
  | n :: r => by
    have := depth_ints (r := r)
    show PyData.depthAll (PyData.int n :: intD r) ≤ 1
    simp only [PyData.depthAll, PyData.depth]
    omega
theorem depth_rl {r : List Int} : (rlD r).depth ≤ 60 := by
  have := depth_ints (r := r)
  simp only [rlD, PyData.depth]; omega
theorem depth_rk {r : List Int} {s w : Int} : (rkD r s w).depth ≤ 60 := by
  have := depth_ints (r := r)
  simp only [rkD, PyData.depth, PyData.depthAll]; omega
theorem toD0s_ints : ∀ {r : List Int}, toD0s (r.map IV.int) = some (intD r)
  | [] => rfl
  | n :: r => by
    rw [List.map_cons]
    simp only [toD0s, toD0, toD0s_ints, Option.bind_some, Option.map_some]
    rfl
def rkI (r : List Int) (s w : Int) : IV := .tup [.tup (r.map .int), .int s, .int w]
theorem toD_rk {r : List Int} {s w : Int} {st : Sto} : toD st (rkI r s w) = some (rkD r s w) := by
  simp [rkI, toD, toD0, toD0s, toD0s_ints, rkD]
theorem toD_rl {r : List Int} {st : Sto} : toD st (.lst (r.map .int)) = some (rlD r) := by
  simp [toD, toD0, toD0s_ints, rlD]
variable {f : PyData → PyData → Bool} {st : Sto}
theorem cmp_rk {r r' : List Int} {s w s' w' : Int} : gCmpD f (rkI r s w) (rkI r' s' w') st = .ok (.bl (f (rkD r s w) (rkD r' s' w'))) st := by
  unfold gCmpD cmpB
  rw [toD_rk, toD_rk]
  simp [alike_rk, depth_rk, rkD, nnD]
  simp [show alike (.tuple [.tuple (intD r), .int s, .int w]) (.tuple [.tuple (intD r'), .int s', .int w']) = true from alike_rk, show (PyData.tuple [.tuple (intD r), .int s, .int w]).depth ≤ 60 from depth_rk]
theorem cmp_rl {r r' : List Int} : gCmpD f (.lst (r.map .int)) (.lst (r'.map .int)) st = .ok (.bl (f (rlD r) (rlD r'))) st := by
  unfold gCmpD cmpB
  rw [toD_rl, toD_rl]
  simp only [alike_rl, depth_rl, rlD, nnD]
  simp [show alike (.list (intD r)) (.list (intD r')) = true from alike_rl, show (PyData.list (intD r)).depth ≤ 60 from depth_rl]
theorem okv_ints {r : List Int} : (r.map IV.int).all (okV 0) = true := List.all_eq_true.mpr fun x hx => by
  obtain ⟨n, _, rfl⟩ := List.mem_map.mp hx; rfl
theorem nb_ints {r : List Int} : (r.map IV.int).all nb = true := List.all_eq_true.mpr fun x hx => by
  obtain ⟨n, _, rfl⟩ := List.mem_map.mp hx; rfl
theorem ints_inj {r r' : List Int} : r.map IV.int = r'.map IV.int ↔ r = r' := by
  constructor
  · intro h
    induction r generalizing r' with
    | nil => cases r' with
      | nil => rfl
      | cons _ _ => simp at h
    | cons n r ih => cases r' with
      | nil => simp at h
      | cons n' r' =>
        rw [List.map_cons, List.map_cons] at h
        injection h with h1 h2
        injection h1 with h1
        rw [h1, ih h2]
  · rintro rfl; rfl
theorem app2_inj {r r' : List Int} {s w s' w' : Int} (h : r.length = r'.length) : r ++ [s, w] = r' ++ [s', w'] ↔ r = r' ∧ s = s' ∧ w = w' := by
  constructor
  · intro e
    have := List.append_inj e h
    exact ⟨this.1, by have := this.2; simp at this; exact this⟩
  · rintro ⟨rfl, rfl, rfl⟩; rfl
theorem eq_rk {r r' : List Int} {s w s' w' : Int} : gEq (rkI r s w) (rkI r' s' w') st = .ok (.bl (decide (r = r' ∧ s = s' ∧ w = w'))) st := by
  have ok : ∀ r s w, okV 2 (rsv st (rkI r s w)) = true := fun r s w => by
    simp only [rkI, rsv_tup, okV, List.all_cons, List.all_nil, Bool.and_true]
    exact okv_ints
  rw [eq_pE (ok _ _ _) (ok _ _ _) (by decide)]
  congr 1
  congr 1
  have n : ∀ r s w, nb (rkI r s w) = true := fun r s w => by simp only [rkI, nb, nbs, nbs_all, nb_ints, Bool.and_true]
  rw [show rsv st (rkI r s w) = rkI r s w from rfl, show rsv st (rkI r' s' w') = rkI r' s' w' from rfl, Bool.eq_iff_iff, pE_iff _ _ (n _ _ _) (n _ _ _), decide_eq_true_iff]
  simp [rkI, ints_inj]
theorem eq_rl {r r' : List Int} : gEq (.lst (r.map .int)) (.lst (r'.map .int)) st = .ok (.bl (decide (r = r'))) st := by
  have ok : ∀ r : List Int, okV 1 (rsv st (.lst (r.map .int))) = true := fun r => by
    simp only [rsv_lst, okV]; exact okv_ints
  rw [eq_pE (ok _) (ok _) (by decide)]
  congr 1
  congr 1
  have n : ∀ r : List Int, nb (.lst (r.map .int)) = true := fun r => by simp only [nb, nbs_all, nb_ints]
  rw [rsv_lst, rsv_lst, Bool.eq_iff_iff, pE_iff _ _ (n _) (n _), decide_eq_true_iff]
  simp [ints_inj]
theorem ne_rl {r r' : List Int} : gNe (.lst (r.map .int)) (.lst (r'.map .int)) st = .ok (.bl (!decide (r = r'))) st := by
  have h := eq_rl (st := st) (r := r) (r' := r')
  unfold gEq at h
  unfold gNe
  split at h
  · rename_i b e
    cases h
    rfl
  · cases h
theorem wp_own_cmp {c : Str} {F : Fn} {x y : IV} {p q : Nat × Str × List (Str × IV)} {P : IV → Sto → Prop} {E : Str → List (Str × IV) → Sto → Prop} (e : insAt st [c] x = some p) (e2 : insAt st [c] y = some q) (h : (F [x, y] st).wp (fun v st' => ∃ b, v = .bl b ∧ P (.bl b) st') nE) : (gOwnCmp c F x y st).wp P E := by
  unfold gOwnCmp
  rw [e, e2]
  simp only [wpb]
  refine quiet_wp (wp_mono h fun v s1 z => ?_)
  obtain ⟨b, rfl, z⟩ := z
  exact (by simpa using z : P (.bl (false != b)) s1)
theorem lt_near {r : List Int} {s s' w w' : Int} (h : s < s') : dataLt (rkD r s w) (rkD r s' w') = true := by
  unfold rkD
  rw [dataLt_tuple, dataLt_all_yes (by simp [alike, alike_ints]) (eqv_refl_alike _ (by simp [alike, alike_ints])), dataLt_all_no (by simp [alike]) (by simp [PyData.eqv]; omega), dataLt_int]
  simpa using h
end Mi
set_option Elab.async false
set_option linter.all false
set_option maxRecDepth 100000
set_option maxHeartbeats 4000000
namespace Mi
open PySem PySem.Spec PyProof.Rows L2
variable {ρ : Slots} {st : Sto} {E : Str → List (Str × IV) → Sto → Prop} {P : IV → Sto → Prop}
@[simp] theorem wp_iMakeD {c : Str} {F : Fn} {np n m : Nat} {pl : List DSrc} {ds : List DC} {As Ks : IA} : (iMakeD c F np n m pl ds As Ks ρ st).wq P E .mk = (As ρ st).wp (fun args st1 => (Ks ρ st1).wp (fun zs st2 => if args.length = n ∧ zs.length = m then (arity np F (dpick pl (.ref st2.length :: args) (ds.map DC.iv) zs) (st2 ++ [.ins c []])).wp (fun v st' => v = .non ∧ P (.ref st2.length) st') E else False) E) E := by
  unfold iMakeD
  simp only [R.wq, wpb]
  congr 1; funext args st1
  congr 1; funext zs st2
  split
  · rw [wpb]
    congr 1; funext v st'
    cases v <;> simp [R.wp]
  · rfl
@[simp] theorem dpick_p {α : Type} {i : Nat} {pl : List DSrc} {vs ds zs : List α} : dpick (.p i :: pl) vs ds zs = match vs[i]? with | some x => x :: dpick pl vs ds zs | none => dpick pl vs ds zs := by
  unfold dpick
  cases e : vs[i]? with
  | none => rw [List.filterMap_cons_none (by exact e)]
  | some x => rw [List.filterMap_cons_some (by exact e)]
@[simp] theorem dpick_k {α : Type} {i : Nat} {pl : List DSrc} {vs ds zs : List α} : dpick (.k i :: pl) vs ds zs = match zs[i]? with | some x => x :: dpick pl vs ds zs | none => dpick pl vs ds zs := by
  unfold dpick
  cases e : zs[i]? with
  | none => rw [List.filterMap_cons_none (by exact e)]
  | some x => rw [List.filterMap_cons_some (by exact e)]
@[simp] theorem dpick_d {α : Type} {i : Nat} {pl : List DSrc} {vs ds zs : List α} : dpick (.d i :: pl) vs ds zs = match ds[i]? with | some x => x :: dpick pl vs ds zs | none => dpick pl vs ds zs := by
  unfold dpick
  cases e : ds[i]? with
  | none => rw [List.filterMap_cons_none (by exact e)]
  | some x => rw [List.filterMap_cons_some (by exact e)]
@[simp] theorem dpick_nil {α : Type} {vs ds zs : List α} : dpick [] vs ds zs = [] := rfl
@[simp] theorem dc_non : DC.iv .non = .non := rfl
theorem wp_own_bin {c : Str} {F : Fn} {x y : IV} {p q : Nat × Str × List (Str × IV)} (e : insAt st [c] x = some p) (e2 : insAt st [c] y = some q) (h : (F [x, y] st).wp P nE) : (gOwnBin c F x y st).wp P E := by
  unfold gOwnBin
  rw [e, e2]
  exact quiet_wp h
end Mi
set_option Elab.async false
set_option linter.all false
set_option maxRecDepth 100000
set_option maxHeartbeats 4000000
/-! the laws of split and strip -/
namespace Mi
open PySem PySem.Spec PyProof.Rows L2
theorem cps_app {a b : Str} : (a ++ b).cps.toList = a.cps.toList ++ b.cps.toList := by
  show (a.cps ++ b.cps).toList = _
  rw [Array.toList_append]
theorem cps_ext {a b : Str} (h : a.cps.toList = b.cps.toList) : a = b := by
  cases a; cases b
  congr 1
  exact Array.toList_inj.mp h
/-- texts put together with a sign between -/
def glue (c : Nat) : List Str → List Nat
  | [] => []
  | [x] => x.cps.toList
  | x :: y :: r => x.cps.toList ++ c :: glue c (y :: r)
theorem join_glue {c : Nat} : ∀ {ps : List Str}, (Str.join ⟨#[c]⟩ ps).cps.toList = glue c ps
  | [] => rfl
  | [x] => rfl
  | x :: y :: r => by
    show (x ++ ⟨#[c]⟩ ++ Str.join ⟨#[c]⟩ (y :: r)).cps.toList = _
    rw [cps_app, cps_app, join_glue]
    simp [glue]
theorem cut_first {c : Nat} : ∀ {a b r t : List Nat}, c ∉ a → c ∉ b → a ++ c :: r = b ++ c :: t → a = b ∧ r = t
  | [], [], r, t, _, _, e => ⟨rfl, by simpa using e⟩
  | [], y :: b, r, t, _, hb, e => by
    have : c = y := by simp at e; exact e.1
    exact absurd List.mem_cons_self (this ▸ hb)
  | x :: a, [], r, t, ha, _, e => by
    have : x = c := by simp at e; exact e.1
    exact absurd List.mem_cons_self (this ▸ ha)
  | x :: a, y :: b, r, t, ha, hb, e => by
    simp only [List.cons_append, List.cons.injEq] at e
    obtain ⟨h1, h2⟩ := cut_first (fun z => ha (List.mem_cons_of_mem _ z)) (fun z => hb (List.mem_cons_of_mem _ z)) e.2
    exact ⟨by rw [e.1, h1], h2⟩
theorem glue_inj {c : Nat} : ∀ {ps qs : List Str}, ps ≠ [] → qs ≠ [] → (∀ p ∈ ps, c ∉ p.cps.toList) → (∀ p ∈ qs, c ∉ p.cps.toList) → glue c ps = glue c qs → ps = qs
  | [], _, h, _, _, _, _ => absurd rfl h
  | _ :: _, [], _, h, _, _, _ => absurd rfl h
  | [p], [q], _, _, _, _, e => by rw [cps_ext (show p.cps.toList = q.cps.toList from e)]
  | [p], q :: q2 :: r, _, _, hp, _, e => by
    have : c ∈ p.cps.toList := by rw [show p.cps.toList = _ from e]; simp [glue]
    exact absurd this (hp p List.mem_cons_self)
  | p :: p2 :: r, [q], _, _, _, hq, e => by
    have : c ∈ q.cps.toList := by rw [show q.cps.toList = _ from e.symm]; simp [glue]
    exact absurd this (hq q List.mem_cons_self)
  | p :: p2 :: r, q :: q2 :: t, _, _, hp, hq, e => by
    obtain ⟨e1, e2⟩ := cut_first (hp p List.mem_cons_self) (hq q List.mem_cons_self) (show p.cps.toList ++ c :: glue c (p2 :: r) = q.cps.toList ++ c :: glue c (q2 :: t) from e)
    have ih := glue_inj (by simp) (by simp) (fun x hx => hp x (List.mem_cons_of_mem _ hx)) (fun x hx => hq x (List.mem_cons_of_mem _ hx)) e2
    rw [cps_ext e1, ih]
/-- a text of pieces without the sign falls into them -/
theorem split_glue {c : Nat} {x : Str} {ps : List Str} (h0 : ps ≠ []) (hx : x.cps.toList ≠ []) (hf : ∀ p ∈ ps, c ∉ p.cps.toList) (e : x.cps.toList = glue c ps) : Txt.split x ⟨#[c]⟩ = ps := by
  have j := StrLaws.join_split x ⟨#[c]⟩
  have ne : Txt.split x ⟨#[c]⟩ ≠ [] := fun z => by
    rw [z] at j
    exact hx (by rw [← j]; rfl)
  refine glue_inj ne h0 (StrLaws.split_free x c) hf ?_
  rw [← join_glue, j, e]
theorem sp32 : Unicode.isSpace 32 = true := by decide +kernel
theorem takeWhile_stop {p : Nat → Bool} : ∀ {a : Nat} {l : List Nat}, p 32 = true → (∀ c r, l = c :: r → p c = false) → (List.replicate a 32 ++ l).takeWhile p = List.replicate a 32
  | 0, [], _, _ => rfl
  | 0, c :: r, _, h => by simp [h c r rfl]
  | a + 1, l, hp, h => by
    rw [List.replicate_succ, List.cons_append, List.takeWhile_cons, if_pos hp, takeWhile_stop hp h]
/-- blanks around a text that begins and ends with none -/
theorem strip_blanks {a b : Nat} {s p : Str} (hs : s.cps.toList = List.replicate a 32 ++ p.cps.toList ++ List.replicate b 32) (h0 : p.cps.toList ≠ []) (h1 : ∀ c r, p.cps.toList = c :: r → Unicode.isSpace c = false) (h2 : ∀ c r, p.cps.toList = r ++ [c] → Unicode.isSpace c = false) : Txt.strip s = p := by
  have lo : stripLo Unicode.isSpace true s = a := by
    unfold stripLo
    rw [if_pos rfl, hs, List.append_assoc, takeWhile_stop sp32, List.length_replicate]
    intro c r e
    cases q : p.cps.toList with
    | nil => exact absurd q h0
    | cons d t =>
      rw [q] at e
      injection e with e1 e2
      rw [← e1]; exact h1 d t q
  have hl : s.length = a + p.cps.toList.length + b := by
    have := congrArg List.length hs
    simp only [List.length_append, List.length_replicate, Array.length_toList] at this
    exact this
  have hi : stripHi Unicode.isSpace true s a = a + p.cps.toList.length := by
    unfold stripHi
    rw [if_pos rfl, hs, List.append_assoc, List.drop_left' (by simp), List.reverse_append, List.reverse_replicate, takeWhile_stop sp32, List.length_replicate, hl]
    · omega
    · intro c r e
      have : p.cps.toList = r.reverse ++ [c] := by
        have := congrArg List.reverse e
        simpa using this
      exact h2 c _ this
  have sub : Builtin.Str.strSub s a (a + p.cps.toList.length) = p := by
    apply cps_ext
    show (s.cps.extract a (a + p.cps.toList.length)).toList = _
    rw [Array.toList_extract, hs]
    simp [List.extract_eq_drop_take, List.append_assoc]
  unfold Txt.strip Txt.stripBy
  split
  · rename_i c
    unfold stripSame at c
    simp only [lo, hi, Bool.and_eq_true, beq_iff_eq] at c
    obtain ⟨c1, c2⟩ := c
    apply cps_ext
    have b0 : b = 0 := by omega
    rw [hs, c1, b0]; simp
  · unfold stripped
    rw [lo, hi, sub]
end Mi
set_option Elab.async false
set_option linter.all false
set_option maxRecDepth 100000
set_option maxHeartbeats 4000000
namespace Mi
open PySem PySem.Spec PyProof.Rows L2
section
variable {ρ : Slots} {st : Sto} {D : Post}
theorem hEndX_wp {i l : Nat} {r : RS} : (hEndX i l r).wp D = r.wp ⟨fun ρ st => D.nx (noExn (ρ.set i none)) (st.set l .dead), fun v st => D.rt v (st.set l .dead), fun ρ st => D.bk (noExn (ρ.set i none)) (st.set l .dead), fun ρ st => D.ct (noExn (ρ.set i none)) (st.set l .dead), fun c fs ρ st => D.ex c fs (noExn (ρ.set i none)) (st.set l .dead)⟩ := by
  cases r <;> rfl
@[simp] theorem wps_iTryAsX {i : Nat} {M : Str → Option Bool} {B J : IS} : (iTryAsX i M B J ρ st).wq D .mk = (B ρ st).wp { D with ex := fun c fs ρ1 st1 => match M c with
  | some true => (fs.isEmpty = false ∧ i < ρ1.length) ∧ (J ((noExn ρ1).set i (some (.exn st1.length))) (st1 ++ [.xd fs])).wp ⟨fun ρ st => D.nx (noExn (ρ.set i none)) (st.set st1.length .dead), fun v st => D.rt v (st.set st1.length .dead), fun ρ st => D.bk (noExn (ρ.set i none)) (st.set st1.length .dead), fun ρ st => D.ct (noExn (ρ.set i none)) (st.set st1.length .dead), fun c fs ρ st => D.ex c fs (noExn (ρ.set i none)) (st.set st1.length .dead)⟩
  | some false => D.ex c fs ρ1 st1
  | none => False } := by
  unfold iTryAsX RS.wq
  cases B ρ st with
  | exc c fs ρ1 st1 =>
    simp only
    show RS.wp _ _ = (match M c with | some true => _ | some false => _ | none => _ : Prop)
    cases M c with
    | none => rfl
    | some b =>
      cases b with
      | false => rfl
      | true =>
        simp only
        by_cases h : fs.isEmpty = true ∨ ¬ i < ρ1.length
        · rw [if_pos h]
          rcases h with h | h
          · simp [h, RS.wp]
          · simp [h, RS.wp]
        · rw [if_neg h, hEndX_wp]
          have h1 : fs.isEmpty = false := by cases q : fs.isEmpty with | false => rfl | true => exact absurd (.inl q) h
          have h2 : i < ρ1.length := Classical.byContradiction fun z => h (.inr z)
          simp [h1, h2]
  | _ => rfl
end
end Mi
set_option Elab.async false
set_option linter.all false
set_option maxRecDepth 100000
set_option maxHeartbeats 4000000
namespace Mi
open PySem PySem.Spec PyProof.Rows L2
@[simp] theorem wp_iDc {I : IIt} {vs : List Nat} {T : ITg} {S : IT} {A B : IE} {ρ : Slots} {st : Sto} {P : IV → Sto → Prop} {E : Str → List (Str × IV) → Sto → Prop} : (iDc I vs T S A B ρ st).wq P E .mk = (I ρ st).wp (fun p st => (dcL p.2 p.1 vs T S A B ρ p.1 [] st).wp (fun kvs st => P (.ref st.length) (st ++ [.dct kvs])) E) E := by
  unfold iDc; simp only [R.wq, wpb, wpo]
theorem wp_dcL' {g : GI} {all : List IV} {vs : List Nat} {T : ITg} {S : IT} {A B : IE} {ρ : Slots} {P : List (List Key × IV) → Sto → Prop} {E : Str → List (Str × IV) → Sto → Prop} (Inv : Nat → List (List Key × IV) → Sto → Prop) : ∀ {xs : List IV} {n : Nat} {acc : List (List Key × IV)} {st : Sto}, Inv n acc st →
    (∀ i x acc st, xs[i]? = some x → Inv (n + i) acc st → gokB g st all = true ∧ acc.length < 100000 ∧ (T x (wipeI ρ vs) st).wp ⟨fun ρ1 st1 => (S ρ1 st1).wp (fun b st2 => if b = true then (A ρ1 st2).wp (fun y st3 => (B ρ1 st3).wp (fun z st4 => ∃ k, keyI y = some k ∧ Inv (n + i + 1) (dputI acc k z) st4) nE) nE else Inv (n + i + 1) acc st2) nE, fun _ _ => False, fun _ _ => False, fun _ _ => False, fun _ _ _ _ => False⟩) →
    (∀ acc st, Inv (n + xs.length) acc st → gokB g st all = true ∧ P acc st) → (dcL g all vs T S A B ρ xs acc st).wp P E
  | [], n, acc, st, h0, _, done => by
    obtain ⟨e, h⟩ := done acc st h0
    simp only [dcL, e, if_true]
    exact h
  | x :: r, n, acc, st, h0, step, done => by
    obtain ⟨e, e2, h⟩ := step 0 x acc st rfl h0
    simp only [dcL, e, e2, and_self, if_true]
    have next : ∀ acc2 st2, Inv (n + 1) acc2 st2 → (dcL g all vs T S A B ρ r acc2 st2).wp P E := fun acc2 st2 hi =>
      wp_dcL' Inv (n := n + 1) hi (fun i x acc st e hi => by
        have := step (i + 1) x acc st (by simpa using e) (by rw [show n + (i + 1) = n + 1 + i by omega]; exact hi)
        rw [show n + (i + 1) = n + 1 + i by omega] at this
        exact this) (fun acc st hi => done acc st (by rw [List.length_cons, show n + (r.length + 1) = n + 1 + r.length by omega]; exact hi))
    cases q : T x (wipeI ρ vs) st with
    | nx ρ1 st1 =>
      rw [q] at h
      obtain ⟨b, st2, e3, h2⟩ := eq_of_wp h
      simp only [e3, R.noE, R.bind]
      cases b with
      | false => simp only [Bool.false_eq_true, if_false] at h2 ⊢; exact next _ _ h2
      | true =>
        simp only [if_true] at h2 ⊢
        obtain ⟨y, st3, e4, h3⟩ := eq_of_wp h2
        obtain ⟨z, st4, e5, k, hk, h4⟩ := eq_of_wp h3
        simp only [e4, e5, hk]
        exact next _ _ h4
    | _ => rw [q] at h; exact h.elim
theorem wp_dcL {g : GI} {all : List IV} {vs : List Nat} {T : ITg} {S : IT} {A B : IE} {ρ : Slots} {st : Sto} {xs : List IV} {P : List (List Key × IV) → Sto → Prop} {E : Str → List (Str × IV) → Sto → Prop} (Inv : Nat → List (List Key × IV) → Sto → Prop) (h0 : Inv 0 [] st)
    (step : ∀ i x acc st, xs[i]? = some x → Inv i acc st → gokB g st all = true ∧ acc.length < 100000 ∧ (T x (wipeI ρ vs) st).wp ⟨fun ρ1 st1 => (S ρ1 st1).wp (fun b st2 => if b = true then (A ρ1 st2).wp (fun y st3 => (B ρ1 st3).wp (fun z st4 => ∃ k, keyI y = some k ∧ Inv (i + 1) (dputI acc k z) st4) nE) nE else Inv (i + 1) acc st2) nE, fun _ _ => False, fun _ _ => False, fun _ _ => False, fun _ _ _ _ => False⟩)
    (done : ∀ acc st, Inv xs.length acc st → gokB g st all = true ∧ P acc st) : (dcL g all vs T S A B ρ xs [] st).wp P E :=
  wp_dcL' Inv (n := 0) h0 (fun i x acc st e h => by rw [Nat.zero_add] at h ⊢; exact step i x acc st e h) (fun acc st h => done acc st (by rw [Nat.zero_add] at h; exact h))
@[simp] theorem en_enumT {st : Sto} {xs : List IV} : gEnumT [.tup xs] st = .ok (enumI 0 xs, none) st := nr rfl
theorem int_str {st : Sto} {x : Str} {n : Int} (h : PySem.intText? x = some n) (hl : x.length ≤ 640) : gIntS [.str x] st = .ok (.int n) st := by
  simp only [gIntS, h, hl, if_true]
end Mi
set_option Elab.async false
set_option linter.all false
set_option maxRecDepth 100000
set_option maxHeartbeats 4000000
namespace K07
open PySem PySem.Spec PyProof.Rows L2 Mi
def top (i : Nat) : Stmt := PySem.Challenge.pw_heldcursors_k07_sets_refused.main.body.getD i (.Pass ⟨0, 0, 0, 0⟩)
def g_KEPT : List IV := [.str "add", .str "all", .str "and", .str "by", .str "change", .str "check", .str "copied", .str "cursor", .str "desc", .str "false", .str "hold", .str "in", .str "keep", .str "key", .str "kept", .str "live", .str "locked", .str "name", .str "none", .str "not", .str "or", .str "place", .str "reach", .str "remove", .str "shut", .str "true", .str "values", .str "version", .str "where", .str "when", .str "backward", .str "refused", .str "again", .str "skip"]
def g_PAIRS : List IV := [.str "!=", .str "<=", .str ">=", .str "+=", .str "-=", .str ".."]
structure Tx (K : PySem.W.Frag) (mg : Str → Option Value) (cTable cSets cBadTable cBadSets cStuck : Addr) : Prop where
  b_abs : mg "abs" = none
  b_bool : mg "bool" = none
  b_enumerate : mg "enumerate" = none
  b_int : mg "int" = none
  b_isinstance : mg "isinstance" = none
  b_len : mg "len" = none
  b_list : mg "list" = none
  b_max : mg "max" = none
  b_min : mg "min" = none
  b_range : mg "range" = none
  b_str : mg "str" = none
  b_tuple : mg "tuple" = none
  g_DIGITS : ∃ t, mg "DIGITS" = some (.str "0123456789" t)
  g_KEPT : GTup K mg "KEPT" g_KEPT
  g_LETTERS : ∃ t, mg "LETTERS" = some (.str "abcdefghijklmnopqrstuvwxyz" t)
  g_MOST_VALUES : ∃ t, mg "MOST_VALUES" = some (.int 36 t)
  g_PAIRS : GTup K mg "PAIRS" g_PAIRS
  k_Table : mg "Table" = some (.ref cTable)
  k_Sets : mg "Sets" = some (.ref cSets)
  k_BadTable : mg "BadTable" = some (.ref cBadTable)
  k_BadSets : mg "BadSets" = some (.ref cBadSets)
  k_Stuck : mg "Stuck" = some (.ref cStuck)
  cl_Table : Cls K cTable
  cl_Sets : Cls K cSets
  fd_Sets_columns : FdM K mg ["Sets"] "columns"
  fd_Table_columns : FdM K mg ["Table"] "columns"
  fd_Table_every : FdM K mg ["Table"] "every"
  fd_Sets_results : FdM K mg ["Sets"] "results"
  fd_Sets_table : FdM K mg ["Sets"] "table"
  fd_Sets_text : FdM K mg ["Sets"] "text"
  fd_Table_tops : FdM K mg ["Table"] "tops"
  xo_BadTable : OexC K cBadTable
  xf_BadTable : XfC K cBadTable
  xn_BadTable_at : PySem.W.findIn K (.ref cBadTable) "at" = some none
  te_BadTable : PySem.W.exmOne K (.ref cBadTable) (.ref cBadTable) = some true
  xo_BadSets : OexC K cBadSets
  xf_BadSets : XfC K cBadSets
  xn_BadSets_at : PySem.W.findIn K (.ref cBadSets) "at" = some none
  te_BadSets : PySem.W.exmOne K (.ref cBadSets) (.ref cBadSets) = some true
  xo_Stuck : OexC K cStuck
  xf_Stuck : XfC K cStuck
  xn_Stuck_at : PySem.W.findIn K (.ref cStuck) "at" = some none
  te_Stuck : PySem.W.exmOne K (.ref cStuck) (.ref cStuck) = some true
abbrev s_bag : Stmt := top 27
abbrev N_bag : List Str := ["_law_script", "_law_at", "_law_cell", "_law_other", "_law_great"]
theorem sc_bag : FnScope N_bag ["_law_script", "_law_at"] (defScope s_bag) := ⟨rfl, rfl, rfl, by decide +kernel, rfl, by decide +kernel, by decide +kernel⟩
def B_bag : IS :=
  (iSeq (iSet 2 (iIf (iTest (iBin gLt (iVar 1) (iCallB gLen (iCons (iVar 0) iNil)))) (iIx (iVar 0) (iVar 1)) (iBin gAdd (iBin gMul (iC (.int 5)) (iVar 1)) (iC (.int 2)))))
  (iSeq (iSet 3 (iIf (iTest (iBin gLt (iBin gAdd (iVar 1) (iC (.int 1))) (iCallB gLen (iCons (iVar 0) iNil)))) (iIx (iVar 0) (iBin gAdd (iVar 1) (iC (.int 1)))) (iBin gAdd (iBin gMul (iC (.int 3)) (iVar 1)) (iC (.int 1)))))
  (iSeq (iSet 4 (iIf (iTest (iBin gGe (iCallB gAbs (iCons (iVar 2) iNil)) (iBin gPow (iC (.int 10)) (iC (.int 18))))) (iCallB gAbs (iCons (iVar 2) iNil)) (iC (.int 0))))
  (iRet (iLstS (iCons (iVar 4) (iCons (iBin gAdd (iBin gMod (iCallB gInt (iCons (iVar 2) iNil)) (iC (.int 1000000007))) (iC (.int 2))) (iCons (iBin gAdd (iBin gMod (iCallB gInt (iCons (iVar 3) iNil)) (iC (.int 998244353))) (iC (.int 5))) (iCons (iC (.int 0)) iNil)))))))))
def F_bag : Mi.Fn := fnOf 3 B_bag
abbrev s_draw : Stmt := top 28
abbrev N_draw : List Str := ["_law_bag_here", "_law_many", "_law_digit", "_law_turned"]
theorem sc_draw : FnScope N_draw ["_law_bag_here", "_law_many"] (defScope s_draw) := ⟨rfl, rfl, rfl, by decide +kernel, rfl, by decide +kernel, by decide +kernel⟩
def B_draw : IS :=
  (iSeq (iIfS (iTest (iBin gGt (iIx (iVar 0) (iC (.int 0))) (iC (.int 1))))
  (iSeq (iSet 2 (iBin gMod (iCallB gInt (iCons (iIx (iVar 0) (iC (.int 0))) iNil)) (iVar 1)))
  (iSeq (iAsg (iBin gDiv (iIx (iVar 0) (iC (.int 0))) (iVar 1)) (tgSub (iVar 0) (iC (.int 0))))
  (iRet (iVar 2))))
  iSkip)
  (iSeq (iAsg (iBin gAdd (iIx (iVar 0) (iC (.int 3))) (iC (.int 1))) (tgSub (iVar 0) (iC (.int 3))))
  (iSeq (iSet 3 (iBin gMod (iCallB gInt (iCons (iBin gAdd (iBin gAdd (iBin gMul (iIx (iVar 0) (iC (.int 1))) (iC (.int 48271))) (iBin gMul (iIx (iVar 0) (iC (.int 2))) (iIx (iVar 0) (iC (.int 3))))) (iBin gMul (iBin gMul (iIx (iVar 0) (iC (.int 3))) (iIx (iVar 0) (iC (.int 3)))) (iC (.int 7919)))) iNil)) (iC (.int 2147483629))))
  (iSeq (iSet 3 (iBin gMod (iCallB gInt (iCons (iBin gAdd (iBin gAdd (iBin gMul (iVar 3) (iVar 3)) (iBin gMul (iIx (iVar 0) (iC (.int 3))) (iC (.int 104729)))) (iIx (iVar 0) (iC (.int 1)))) iNil)) (iC (.int 2147483587))))
  (iRet (iBin gMod (iCallB gInt (iCons (iBin gDiv (iVar 3) (iC (.int 8))) iNil)) (iVar 1)))))))
def F_draw : Mi.Fn := fnOf 2 B_draw
abbrev s_kept : Stmt := top 30
abbrev N_kept : List Str := []
theorem sc_kept : FnScope N_kept [] (defScope s_kept) := ⟨rfl, rfl, rfl, by decide +kernel, rfl, by decide +kernel, by decide +kernel⟩
def B_kept : IS :=
  (iRet (iLst (iCons (iC (.str "add")) (iCons (iC (.str "all")) (iCons (iC (.str "and")) (iCons (iC (.str "by")) (iCons (iC (.str "change")) (iCons (iC (.str "check")) (iCons (iC (.str "copied")) (iCons (iC (.str "cursor")) (iCons (iC (.str "desc")) (iCons (iC (.str "false")) (iCons (iC (.str "hold")) (iCons (iC (.str "in")) (iCons (iC (.str "keep")) (iCons (iC (.str "key")) (iCons (iC (.str "kept")) (iCons (iC (.str "live")) (iCons (iC (.str "locked")) (iCons (iC (.str "name")) (iCons (iC (.str "none")) (iCons (iC (.str "not")) (iCons (iC (.str "or")) (iCons (iC (.str "place")) (iCons (iC (.str "reach")) (iCons (iC (.str "remove")) (iCons (iC (.str "shut")) (iCons (iC (.str "true")) (iCons (iC (.str "values")) (iCons (iC (.str "version")) (iCons (iC (.str "where")) (iCons (iC (.str "when")) (iCons (iC (.str "backward")) (iCons (iC (.str "refused")) (iCons (iC (.str "again")) (iCons (iC (.str "skip")) iNil))))))))))))))))))))))))))))))))))))
def F_kept : Mi.Fn := fnOf 0 B_kept
abbrev s_word : Stmt := top 31
abbrev N_word : List Str := ["_law_bag_here", "_law_taken", "_law_word_here", "_law_turn", "_law_fresh", "_law_one"]
theorem sc_word : FnScope N_word ["_law_bag_here", "_law_taken"] (defScope s_word) := ⟨rfl, rfl, rfl, by decide +kernel, rfl, by decide +kernel, by decide +kernel⟩
def B_word : IS :=
  (iSeq (iSet 2 (iC (.str "")))
  (iSeq (iFor (iRng gRng1 (iCons (iBin gAdd (iC (.int 1)) (iCall (arity 2 F_draw) (iCons (iVar 0) (iCons (iC (.int 8)) iNil)))) iNil)) (tgName 3)
  (iSet 2 (iBin gAdd (iVar 2) (iIx (iC (.str "abcdefghijklmnopqrstuvwxyz")) (iCall (arity 2 F_draw) (iCons (iVar 0) (iCons (iC (.int 26)) iNil)))))))
  (iSeq (iSet 4 (iF (iLc (iOver (iLst (iCons (iVar 2) (iCons (iC (.str "qz")) (iCons (iC (.str "qy")) (iCons (iC (.str "qx")) (iCons (iC (.str "qw")) iNil))))))) [5] (tgName 5) (iTest (iBin (gIn true) (iVar 5) (iVar 1))) (iVar 5))))
  (iSeq (iSet 4 (iF (iLc (iOver (iVar 4)) [5] (tgName 5) (iTest (iBin (gIn true) (iVar 5) (iCall (arity 0 F_kept) iNil))) (iVar 5))))
  (iRet (iIx (iVar 4) (iC (.int 0))))))))
def F_word : Mi.Fn := fnOf 4 B_word
abbrev s_columns : Stmt := top 32
abbrev N_columns : List Str := ["_law_bag_here", "_law_most", "_law_found", "_law_taken", "_law_room", "_law_turn", "_law_top"]
theorem sc_columns : FnScope N_columns ["_law_bag_here", "_law_most"] (defScope s_columns) := ⟨rfl, rfl, rfl, by decide +kernel, rfl, by decide +kernel, by decide +kernel⟩
def B_columns : IS :=
  (iSeq (iPar3 2 3 4 (iCons (iLstS iNil) (iCons (iLstS iNil) (iCons (iVar 1) iNil))))
  (iSeq (iFor (iRng gRng1 (iCons (iBin gAdd (iC (.int 1)) (iCall (arity 2 F_draw) (iCons (iVar 0) (iCons (iC (.int 3)) iNil)))) iNil)) (tgName 5)
  (iIfS (iTest (iBin gGe (iVar 4) (iC (.int 2))))
  (iSeq (iSet 6 (iBin gAdd (iC (.int 1)) (iCall (arity 2 F_draw) (iCons (iVar 0) (iCons (iCallB gMin (iCons (iC (.int 5)) (iCons (iBin gSub (iVar 4) (iC (.int 1))) iNil))) iNil)))))
  (iSeq (iDrop (iMtd gApp (iVar 3) (iCons (iCall (arity 2 F_word) (iCons (iVar 0) (iCons (iVar 3) iNil))) iNil)))
  (iSeq (iDrop (iMtd gApp (iVar 2) (iCons (iTup (iCons (iIx (iVar 3) (iNeg (iC (.int 1)))) (iCons (iVar 6) iNil))) iNil)))
  (iSet 4 (iBin gDiv (iVar 4) (iBin gAdd (iVar 6) (iC (.int 1))))))))
  iSkip))
  (iRet (iVar 2))))
def F_columns : Mi.Fn := fnOf 5 B_columns
abbrev s_P_is_column : Stmt := top 24
abbrev N_P_is_column : List Str := ["entry", "word", "top", "sign"]
theorem sc_P_is_column : FnScope N_P_is_column ["entry"] (defScope s_P_is_column) := ⟨rfl, rfl, rfl, by decide +kernel, rfl, by decide +kernel, by decide +kernel⟩
def B_P_is_column : IS :=
  (iSeq (iIfS (iOr (iNot (iTest (iCallB gIsi (iCons (iVar 0) (iCons (iC (.ty "tuple")) iNil))))) (iTest (iBin gNe (iCallB gLen (iCons (iVar 0) iNil)) (iC (.int 2)))))
  (iRet (iC (.bl false)))
  iSkip)
  (iSeq (iAsg (iVar 0) (tgTup 2 (tgCons (tgName 1) (tgCons (tgName 2) tgNil))))
  (iSeq (iIfS (iOr (iNot (iTest (iCallB gIsi (iCons (iVar 1) (iCons (iC (.ty "str")) iNil))))) (iOr (iNot (iTest (iChain gLe gLe (iC (.int 1)) (iCallB gLen (iCons (iVar 1) iNil)) (iC (.int 8))))) (iTest (iBin (gIn false) (iVar 1) (iC (.tup g_KEPT))))))
  (iRet (iC (.bl false)))
  iSkip)
  (iSeq (iFor (iOver (iVar 1)) (tgName 3)
  (iIfS (iTest (iBin (gIn true) (iVar 3) (iC (.str "abcdefghijklmnopqrstuvwxyz"))))
  (iRet (iC (.bl false)))
  iSkip))
  (iRet (iAndV (iCallB gIsi (iCons (iVar 2) (iCons (iC (.ty "int")) iNil))) (iAndV (iNotV (iCallB gIsi (iCons (iVar 2) (iCons (iC (.ty "bool")) iNil)))) (iChain gLe gLe (iC (.int 1)) (iVar 2) (iC (.int 5))))))))))
def F_P_is_column : Mi.Fn := fnOf 3 B_P_is_column
abbrev s_P_Table_init : Stmt := inClass (top 25) 0
abbrev N_P_Table_init : List Str := ["self", "columns", "words", "at", "entry", "_", "top", "every", "values", "value"]
theorem sc_P_Table_init : FnScope N_P_Table_init ["self", "columns"] (defScope s_P_Table_init) := ⟨rfl, rfl, rfl, by decide +kernel, rfl, by decide +kernel, by decide +kernel⟩
def B_P_Table_init : IS :=
  (iSeq (iIfS (iNot (iTest (iChain gLe gLe (iC (.int 1)) (iCallB gLen (iCons (iVar 1) iNil)) (iC (.int 3)))))
  (iRaise "BadTable" "at" (iNeg (iC (.int 1))))
  iSkip)
  (iSeq (iSetOwn 2 (iFew iNil))
  (iSeq (iFor (iRng gEnum (iCons (iVar 1) iNil)) (tgTup 2 (tgCons (tgName 3) (tgCons (tgName 4) tgNil)))
  (iSeq (iIfS (iOr (iNot (iTest (iCall (arity 1 F_P_is_column) (iCons (iVar 4) iNil)))) (iTest (iOwnIn false (iIx (iVar 4) (iC (.int 0))) 2)))
  (iRaise "BadTable" "at" (iVar 3))
  iSkip)
  (iOwnApp 2 (iIx (iVar 4) (iC (.int 0))))))
  (iSeq (iStFld ["Table"] "columns" (iVar 0) (iOwnTupP 2))
  (iSeq (iStFld ["Table"] "tops" (iVar 0) (iCallB gTuple (iCons (iF (iLc (iOver (iVar 1)) [5, 6] (tgTup 2 (tgCons (tgName 5) (tgCons (tgName 6) tgNil))) iYes (iVar 6))) iNil)))
  (iSeq (iSet 7 (iLst (iCons (iTup iNil) iNil)))
  (iSeq (iFor (iOver (iFld ["Table"] "tops" (iVar 0))) (tgName 6)
  (iSet 7 (iF (iLc2 (iOver (iVar 7)) [8, 9] (tgName 8) iYes (iRng gRng1 (iCons (iBin gAdd (iVar 6) (iC (.int 1))) iNil)) [9] (tgName 9) iYes (iBin gAdd (iVar 8) (iTup (iCons (iVar 9) iNil)))))))
  (iSeq (iIfS (iTest (iBin gGt (iCallB gLen (iCons (iVar 7) iNil)) (iC (.int 36))))
  (iRaise "BadTable" "at" (iNeg (iC (.int 1))))
  iSkip)
  (iStFld ["Table"] "every" (iVar 0) (iCallB gTuple (iCons (iVar 7) iNil)))))))))))
def F_P_Table_init : Mi.Fn := fnOf 8 B_P_Table_init
abbrev s_pick : Stmt := top 29
abbrev N_pick : List Str := ["_law_bag_here", "_law_some"]
theorem sc_pick : FnScope N_pick ["_law_bag_here", "_law_some"] (defScope s_pick) := ⟨rfl, rfl, rfl, by decide +kernel, rfl, by decide +kernel, by decide +kernel⟩
def B_pick : IS :=
  (iRet (iIx (iVar 1) (iCall (arity 2 F_draw) (iCons (iVar 0) (iCons (iCallB gLen (iCons (iVar 1) iNil)) iNil)))))
def F_pick : Mi.Fn := fnOf 0 B_pick
abbrev s_spoilt : Stmt := top 40
abbrev N_spoilt : List Str := ["_law_bag_here", "_law_tokens", "_law_odd_here", "_law_found", "_law_turn", "_law_k", "_law_kind"]
theorem sc_spoilt : FnScope N_spoilt ["_law_bag_here", "_law_tokens", "_law_odd_here"] (defScope s_spoilt) := ⟨rfl, rfl, rfl, by decide +kernel, rfl, by decide +kernel, by decide +kernel⟩
def B_spoilt : IS :=
  (iSeq (iSet 3 (iCallB gList (iCons (iVar 1) iNil)))
  (iSeq (iFor (iRng gRng1 (iCons (iCall (arity 2 F_draw) (iCons (iVar 0) (iCons (iC (.int 4)) iNil))) iNil)) (tgName 4)
  (iSeq (iPar2 5 6 (iCons (iCall (arity 2 F_draw) (iCons (iVar 0) (iCons (iBin gAdd (iCallB gLen (iCons (iVar 3) iNil)) (iC (.int 1))) iNil))) (iCons (iCall (arity 2 F_draw) (iCons (iVar 0) (iCons (iC (.int 4)) iNil))) iNil)))
  (iIfS (iTest (iBin gEq (iVar 6) (iC (.int 0))))
  (iSet 3 (iBin gAdd (iCut (iVar 3) iNoPart (iPart (iVar 5))) (iCut (iVar 3) (iPart (iBin gAdd (iVar 5) (iC (.int 1)))) iNoPart)))
  (iIfS (iTest (iBin gEq (iVar 6) (iC (.int 1))))
  (iSet 3 (iBin gAdd (iBin gAdd (iCut (iVar 3) iNoPart (iPart (iVar 5))) (iLst (iCons (iCall (arity 2 F_pick) (iCons (iVar 0) (iCons (iVar 2) iNil))) iNil))) (iCut (iVar 3) (iPart (iVar 5)) iNoPart)))
  (iIfS (iTest (iBin gEq (iVar 6) (iC (.int 2))))
  (iSet 3 (iBin gAdd (iBin gAdd (iCut (iVar 3) iNoPart (iPart (iVar 5))) (iLst (iCons (iCall (arity 2 F_pick) (iCons (iVar 0) (iCons (iVar 2) iNil))) iNil))) (iCut (iVar 3) (iPart (iBin gAdd (iVar 5) (iC (.int 1)))) iNoPart)))
  (iSet 3 (iBin gAdd (iCut (iVar 3) iNoPart (iPart (iVar 5))) (iIx (iLst (iCons (iLst iNil) (iCons (iLst (iCons (iCall (arity 2 F_pick) (iCons (iVar 0) (iCons (iVar 2) iNil))) iNil)) iNil))) (iCall (arity 2 F_draw) (iCons (iVar 0) (iCons (iC (.int 2)) iNil)))))))))))
  (iRet (iVar 3))))
def F_spoilt : Mi.Fn := fnOf 4 B_spoilt
abbrev s_set_tokens : Stmt := top 36
abbrev N_set_tokens : List Str := ["_law_sets_here", "_law_columns_here", "_law_found", "_law_k", "_law_sign", "_law_source", "_law_number_here"]
theorem sc_set_tokens : FnScope N_set_tokens ["_law_sets_here", "_law_columns_here"] (defScope s_set_tokens) := ⟨rfl, rfl, rfl, by decide +kernel, rfl, by decide +kernel, by decide +kernel⟩
def L_set_tokens_1 : IS :=
  (iSeq (iSet 2 (iBin gAdd (iVar 2) (iIf (iTest (iBin gEq (iVar 2) (iLst iNil))) (iLst iNil) (iLst (iCons (iC (.str ",")) iNil)))))
  (iSet 2 (iBin gAdd (iVar 2) (iLst (iCons (iIx (iIx (iVar 1) (iVar 3)) (iC (.int 0))) (iCons (iVar 4) (iCons (iIf (iTest (iBin gLt (iVar 5) (iC (.int 0)))) (iCallB gStr (iCons (iVar 6) iNil)) (iIx (iIx (iVar 1) (iVar 5)) (iC (.int 0)))) iNil)))))))
def B_set_tokens : IS :=
  (iSeq (iSet 2 (iLst iNil))
  (iSeq (iFor (iOver (iVar 0)) (tgTup 4 (tgCons (tgName 3) (tgCons (tgName 4) (tgCons (tgName 5) (tgCons (tgName 6) tgNil)))))
  L_set_tokens_1)
  (iRet (iVar 2))))
def F_set_tokens : Mi.Fn := fnOf 5 B_set_tokens
abbrev s_number : Stmt := top 33
abbrev N_number : List Str := ["_law_bag_here", "_law_top"]
theorem sc_number : FnScope N_number ["_law_bag_here", "_law_top"] (defScope s_number) := ⟨rfl, rfl, rfl, by decide +kernel, rfl, by decide +kernel, by decide +kernel⟩
def B_number : IS :=
  (iSeq (iIfS (iTest (iBin gEq (iCall (arity 2 F_draw) (iCons (iVar 0) (iCons (iC (.int 4)) iNil))) (iC (.int 0))))
  (iRet (iCall (arity 2 F_draw) (iCons (iVar 0) (iCons (iC (.int 1000)) iNil))))
  iSkip)
  (iRet (iCall (arity 2 F_draw) (iCons (iVar 0) (iCons (iBin gAdd (iVar 1) (iC (.int 3))) iNil)))))
def F_number : Mi.Fn := fnOf 0 B_number
abbrev s_sets : Stmt := top 34
abbrev N_sets : List Str := ["_law_bag_here", "_law_columns_here", "_law_left", "_law_found", "_law_k", "_law_turn", "_law_sign", "_law_source"]
theorem sc_sets : FnScope N_sets ["_law_bag_here", "_law_columns_here"] (defScope s_sets) := ⟨rfl, rfl, rfl, by decide +kernel, rfl, by decide +kernel, by decide +kernel⟩
def L_sets_1 : IS :=
  (iSeq (iSet 4 (iMtd gPopAt (iVar 2) (iCons (iCall (arity 2 F_draw) (iCons (iVar 0) (iCons (iCallB gLen (iCons (iVar 2) iNil)) iNil))) iNil)))
  (iSeq (iPar2 6 7 (iCons (iCall (arity 2 F_pick) (iCons (iVar 0) (iCons (iLst (iCons (iC (.str "=")) (iCons (iC (.str "+=")) (iCons (iC (.str "-=")) (iCons (iC (.str "=")) iNil))))) iNil))) (iCons (iNeg (iC (.int 1))) iNil)))
  (iSeq (iIfS (iAnd (iTest (iBin gEq (iVar 6) (iC (.str "=")))) (iTest (iBin gEq (iCall (arity 2 F_draw) (iCons (iVar 0) (iCons (iC (.int 2)) iNil))) (iC (.int 0)))))
  (iSet 7 (iCall (arity 2 F_draw) (iCons (iVar 0) (iCons (iCallB gLen (iCons (iVar 1) iNil)) iNil))))
  iSkip)
  (iDrop (iMtd gApp (iVar 3) (iCons (iTup (iCons (iVar 4) (iCons (iVar 6) (iCons (iVar 7) (iCons (iCall (arity 2 F_number) (iCons (iVar 0) (iCons (iIx (iIx (iVar 1) (iVar 4)) (iC (.int 1))) iNil))) iNil))))) iNil))))))
def B_sets : IS :=
  (iSeq (iPar2 2 3 (iCons (iFS (iLc (iRng gRng1 (iCons (iCallB gLen (iCons (iVar 1) iNil)) iNil)) [4] (tgName 4) iYes (iVar 4))) (iCons (iLstS iNil) iNil)))
  (iSeq (iFor (iRng gRng1 (iCons (iBin gAdd (iC (.int 1)) (iCall (arity 2 F_draw) (iCons (iVar 0) (iCons (iCallB gLen (iCons (iVar 1) iNil)) iNil)))) iNil)) (tgName 5)
  L_sets_1)
  (iRet (iVar 3))))
def F_sets : Mi.Fn := fnOf 6 B_sets
abbrev s_odd : Stmt := top 39
abbrev N_odd : List Str := ["_law_columns_here", "_law_odd_here", "_law_word_here", "_law_top"]
theorem sc_odd : FnScope N_odd ["_law_columns_here"] (defScope s_odd) := ⟨rfl, rfl, rfl, by decide +kernel, rfl, by decide +kernel, by decide +kernel⟩
def B_odd : IS :=
  (iSeq (iSet 1 (iLst (iCons (iC (.str "and")) (iCons (iC (.str "or")) (iCons (iC (.str "not")) (iCons (iC (.str "(")) (iCons (iC (.str ")")) (iCons (iC (.str "in")) (iCons (iC (.str "..")) (iCons (iC (.str ".")) (iCons (iC (.str "=")) (iCons (iC (.str "!=")) (iCons (iC (.str "<")) (iCons (iC (.str ">=")) (iCons (iC (.str "+=")) (iCons (iC (.str "-=")) (iCons (iC (.str ",")) (iCons (iC (.str ":")) (iCons (iC (.str "0")) (iCons (iC (.str "00")) (iCons (iC (.str "07")) (iCons (iC (.str "999")) (iCons (iC (.str "1000")) (iCons (iC (.str "A")) (iCons (iC (.str "_")) (iCons (iC (.str "!")) (iCons (iC (.str "-")) (iCons (iC (.str "true")) (iCons (iC (.str "by")) (iCons (iC (.str "where")) (iCons (iC (.str "desc")) (iCons (iC (.str "name")) (iCons (iC (.str "change")) (iCons (iC (.str "remove")) (iCons (iC (.str "keep")) (iCons (iC (.str "add")) (iCons (iC (.str "cursor")) (iCons (iC (.str "reach")) (iCons (iC (.str "all")) (iCons (iC (.str "1")) (iCons (iC (.str "hold")) (iCons (iC (.str "kept")) (iCons (iC (.str "live")) (iCons (iC (.str "copied")) (iCons (iC (.str "locked")) (iCons (iC (.str "check")) (iCons (iC (.str "none")) (iCons (iC (.str "when")) iNil))))))))))))))))))))))))))))))))))))))))))))))))
  (iRet (iBin gAdd (iBin gAdd (iVar 1) (iF (iLc (iOver (iVar 0)) [2, 3] (tgTup 2 (tgCons (tgName 2) (tgCons (tgName 3) tgNil))) iYes (iVar 2)))) (iF (iLc (iOver (iVar 0)) [2, 3] (tgTup 2 (tgCons (tgName 2) (tgCons (tgName 3) tgNil))) iYes (iVar 2))))))
def F_odd : Mi.Fn := fnOf 3 B_odd
abbrev s_sort : Stmt := top 37
abbrev N_sort : List Str := ["_law_sign"]
theorem sc_sort : FnScope N_sort ["_law_sign"] (defScope s_sort) := ⟨rfl, rfl, rfl, by decide +kernel, rfl, by decide +kernel, by decide +kernel⟩
def B_sort : IS :=
  (iSeq (iIfS (iTest (iBin (gIn false) (iVar 0) (iC (.str "abcdefghijklmnopqrstuvwxyz"))))
  (iRet (iC (.int 0)))
  iSkip)
  (iSeq (iIfS (iTest (iBin (gIn false) (iVar 0) (iC (.str "0123456789"))))
  (iRet (iC (.int 1)))
  iSkip)
  (iRet (iIf (iTest (iBin (gIn false) (iVar 0) (iC (.str "(),")))) (iC (.int 2)) (iC (.int 3))))))
def F_sort : Mi.Fn := fnOf 0 B_sort
abbrev s_spread : Stmt := top 38
abbrev N_spread : List Str := ["_law_bag_here", "_law_tokens", "_law_text", "_law_places", "_law_k", "_law_ends", "_law_begins"]
theorem sc_spread : FnScope N_spread ["_law_bag_here", "_law_tokens"] (defScope s_spread) := ⟨rfl, rfl, rfl, by decide +kernel, rfl, by decide +kernel, by decide +kernel⟩
def B_spread : IS :=
  (iSeq (iPar2 2 3 (iCons (iBin gMulS (iC (.str " ")) (iCallB gInt (iCons (iBin gEq (iCall (arity 2 F_draw) (iCons (iVar 0) (iCons (iC (.int 4)) iNil))) (iC (.int 0))) iNil))) (iCons (iLstS iNil) iNil)))
  (iSeq (iFor (iRng gRng1 (iCons (iCallB gLen (iCons (iVar 1) iNil)) iNil)) (tgName 4)
  (iSeq (iDrop (iMtd gApp (iVar 3) (iCons (iCallB gLen (iCons (iVar 2) iNil)) iNil)))
  (iSeq (iSet 2 (iBin gAdd (iVar 2) (iIx (iVar 1) (iVar 4))))
  (iIfS (iTest (iBin gLt (iBin gAdd (iVar 4) (iC (.int 1))) (iCallB gLen (iCons (iVar 1) iNil))))
  (iSeq (iPar2 5 6 (iCons (iCall (arity 1 F_sort) (iCons (iIx (iIx (iVar 1) (iVar 4)) (iNeg (iC (.int 1)))) iNil)) (iCons (iCall (arity 1 F_sort) (iCons (iIx (iIx (iVar 1) (iBin gAdd (iVar 4) (iC (.int 1)))) (iC (.int 0))) iNil)) iNil)))
  (iSet 2 (iBin gAdd (iVar 2) (iBin gMulS (iC (.str " ")) (iBin gAdd (iCallB gInt (iCons (iChain gEq gNe (iVar 5) (iVar 6) (iC (.int 2))) iNil)) (iIx (iLst (iCons (iC (.int 0)) (iCons (iC (.int 0)) (iCons (iC (.int 1)) (iCons (iC (.int 1)) (iCons (iC (.int 1)) (iCons (iC (.int 2)) iNil))))))) (iCall (arity 2 F_draw) (iCons (iVar 0) (iCons (iC (.int 6)) iNil)))))))))
  iSkip))))
  (iRet (iTup (iCons (iBin gAdd (iVar 2) (iBin gMulS (iC (.str " ")) (iIx (iLst (iCons (iC (.int 0)) (iCons (iC (.int 0)) (iCons (iC (.int 0)) (iCons (iC (.int 2)) iNil))))) (iCall (arity 2 F_draw) (iCons (iVar 0) (iCons (iC (.int 4)) iNil)))))) (iCons (iVar 3) iNil))))))
def F_spread : Mi.Fn := fnOf 5 B_spread
abbrev s_is_number : Stmt := top 41
abbrev N_is_number : List Str := ["_law_token", "_law_digits", "_law_sign"]
theorem sc_is_number : FnScope N_is_number ["_law_token"] (defScope s_is_number) := ⟨rfl, rfl, rfl, by decide +kernel, rfl, by decide +kernel, by decide +kernel⟩
def B_is_number : IS :=
  (iSeq (iSet 1 (iF (iLc (iOver (iVar 0)) [2] (tgName 2) (iTest (iBin (gIn false) (iVar 2) (iC (.str "0123456789")))) (iVar 2))))
  (iRet (iAndV (iChain gLe gLe (iC (.int 1)) (iCallB gLen (iCons (iVar 1) iNil)) (iC (.int 3))) (iAndV (iBin gEq (iCallB gLen (iCons (iVar 1) iNil)) (iCallB gLen (iCons (iVar 0) iNil))) (iOrV (iBin gNe (iIx (iVar 0) (iC (.int 0))) (iC (.str "0"))) (iBin gEq (iVar 0) (iC (.str "0"))))))))
def F_is_number : Mi.Fn := fnOf 2 B_is_number
abbrev s_walk_sets : Stmt := top 42
abbrev N_walk_sets : List Str := ["_law_tokens", "_law_at", "_law_words", "_law_state", "_law_used", "_law_k", "_law_token"]
theorem sc_walk_sets : FnScope N_walk_sets ["_law_tokens", "_law_at", "_law_words"] (defScope s_walk_sets) := ⟨rfl, rfl, rfl, by decide +kernel, rfl, by decide +kernel, by decide +kernel⟩
def L_walk_sets_1 : IS :=
  (iSeq (iSet 6 (iIf (iTest (iBin gLt (iVar 5) (iCallB gLen (iCons (iVar 0) iNil)))) (iIx (iVar 0) (iVar 5)) (iC (.str ""))))
  (iIfS (iAnd (iTest (iBin gEq (iVar 3) (iC (.str "column")))) (iAnd (iTest (iBin (gIn false) (iVar 6) (iVar 2))) (iTest (iBin (gIn true) (iVar 6) (iVar 4)))))
  (iSeq (iDrop (iMtd gApp (iVar 4) (iCons (iVar 6) iNil)))
  (iSet 3 (iC (.str "sign"))))
  (iIfS (iAnd (iTest (iBin gEq (iVar 3) (iC (.str "sign")))) (iTest (iBin (gIn false) (iVar 6) (iLst (iCons (iC (.str "=")) (iCons (iC (.str "+=")) (iCons (iC (.str "-=")) iNil)))))))
  (iSet 3 (iIf (iTest (iBin gEq (iVar 6) (iC (.str "=")))) (iC (.str "term")) (iC (.str "number"))))
  (iIfS (iOr (iAnd (iTest (iBin (gIn false) (iVar 3) (iLst (iCons (iC (.str "term")) (iCons (iC (.str "number")) iNil))))) (iTest (iCall (arity 1 F_is_number) (iCons (iVar 6) iNil)))) (iAnd (iTest (iBin gEq (iVar 3) (iC (.str "term")))) (iTest (iBin (gIn false) (iVar 6) (iVar 2)))))
  (iSet 3 (iC (.str "done")))
  (iIfS (iAnd (iTest (iBin gEq (iVar 3) (iC (.str "done")))) (iAnd (iTest (iBin gEq (iVar 6) (iC (.str ",")))) (iTest (iBin gLt (iCallB gLen (iCons (iVar 4) iNil)) (iCallB gLen (iCons (iVar 2) iNil))))))
  (iSet 3 (iC (.str "column")))
  (iRet (iTup (iCons (iAndV (iBin gEq (iVar 3) (iC (.str "done"))) (iBin gNe (iVar 6) (iC (.str ",")))) (iCons (iVar 5) iNil)))))))))
def B_walk_sets : IS :=
  (iSeq (iPar2 3 4 (iCons (iC (.str "column")) (iCons (iLstS iNil) iNil)))
  (iSeq (iFor (iRng gRng2 (iCons (iVar 1) (iCons (iBin gAdd (iCallB gLen (iCons (iVar 0) iNil)) (iC (.int 1))) iNil))) (tgName 5)
  L_walk_sets_1)
  (iRet (iTup (iCons (iC (.bl false)) (iCons (iCallB gLen (iCons (iVar 0) iNil)) iNil))))))
def F_walk_sets : Mi.Fn := fnOf 4 B_walk_sets
abbrev s_P_token_end : Stmt := top 9
abbrev N_P_token_end : List Str := ["text", "at", "row", "end"]
theorem sc_P_token_end : FnScope N_P_token_end ["text", "at"] (defScope s_P_token_end) := ⟨rfl, rfl, rfl, by decide +kernel, rfl, by decide +kernel, by decide +kernel⟩
def B_P_token_end : IS :=
  (iSeq (iFor (iOver (iTup (iCons (iC (.str "abcdefghijklmnopqrstuvwxyz")) (iCons (iC (.str "0123456789")) iNil)))) (tgName 2)
  (iIfS (iTest (iBin (gIn false) (iIx (iVar 0) (iVar 1)) (iVar 2)))
  (iSeq (iSet 3 (iVar 1))
  (iSeq (iWhile 200 (iAnd (iTest (iBin gLt (iVar 3) (iCallB gLen (iCons (iVar 0) iNil)))) (iTest (iBin (gIn false) (iIx (iVar 0) (iVar 3)) (iVar 2))))
  (iSet 3 (iBin gAdd (iVar 3) (iC (.int 1)))))
  (iRet (iVar 3))))
  iSkip))
  (iRet (iIf (iTest (iBin (gIn false) (iCut (iVar 0) (iPart (iVar 1)) (iPart (iBin gAdd (iVar 1) (iC (.int 2))))) (iC (.tup g_PAIRS)))) (iBin gAdd (iVar 1) (iC (.int 2))) (iBin gAdd (iVar 1) (iC (.int 1))))))
def F_P_token_end : Mi.Fn := fnOf 2 B_P_token_end
abbrev s_P_tokens_of : Stmt := top 10
abbrev N_P_tokens_of : List Str := ["text", "found", "at", "end"]
theorem sc_P_tokens_of : FnScope N_P_tokens_of ["text"] (defScope s_P_tokens_of) := ⟨rfl, rfl, rfl, by decide +kernel, rfl, by decide +kernel, by decide +kernel⟩
def B_P_tokens_of : IS :=
  (iSeq (iSetOwn 1 (iFew iNil))
  (iSeq (iSet 2 (iC (.int 0)))
  (iSeq (iWhile 200 (iTest (iBin gLt (iVar 2) (iCallB gLen (iCons (iVar 0) iNil))))
  (iSeq (iSet 3 (iCall (arity 2 F_P_token_end) (iCons (iVar 0) (iCons (iVar 2) iNil))))
  (iSeq (iIfS (iTest (iBin gNe (iIx (iVar 0) (iVar 2)) (iC (.str " "))))
  (iOwnApp 1 (iTup (iCons (iCut (iVar 0) (iPart (iVar 2)) (iPart (iVar 3))) (iCons (iVar 2) iNil))))
  iSkip)
  (iSet 2 (iVar 3)))))
  (iSeq (iOwnApp 1 (iTup (iCons (iC (.str "")) (iCons (iCallB gLen (iCons (iVar 0) iNil)) iNil))))
  (iRetOwn 1)))))
def F_P_tokens_of : Mi.Fn := fnOf 3 B_P_tokens_of
abbrev s_P_passed : Stmt := top 12
abbrev N_P_passed : List Str := ["tokens", "at", "allowed", "token", "index"]
theorem sc_P_passed : FnScope N_P_passed ["tokens", "at", "allowed"] (defScope s_P_passed) := ⟨rfl, rfl, rfl, by decide +kernel, rfl, by decide +kernel, by decide +kernel⟩
def B_P_passed : IS :=
  (iSeq (iAsg (iIx (iVar 0) (iVar 1)) (tgTup 2 (tgCons (tgName 3) (tgCons (tgName 4) tgNil))))
  (iSeq (iIfS (iTest (iBin (gIn true) (iVar 3) (iVar 2)))
  (iRaise "Stuck" "at" (iVar 4))
  iSkip)
  (iRet (iBin gAdd (iVar 1) (iC (.int 1))))))
def F_P_passed : Mi.Fn := fnOf 2 B_P_passed
abbrev s_P_read_column : Stmt := top 14
abbrev N_P_read_column : List Str := ["tokens", "at", "table", "token", "start", "column", "word"]
theorem sc_P_read_column : FnScope N_P_read_column ["tokens", "at", "table"] (defScope s_P_read_column) := ⟨rfl, rfl, rfl, by decide +kernel, rfl, by decide +kernel, by decide +kernel⟩
def L_P_read_column_1 : IS :=
  (iIfS (iTest (iBin gEq (iVar 6) (iVar 3)))
  (iRet (iTup (iCons (iVar 5) (iCons (iBin gAdd (iVar 1) (iC (.int 1))) iNil))))
  iSkip)
def B_P_read_column : IS :=
  (iSeq (iAsg (iIx (iVar 0) (iVar 1)) (tgTup 2 (tgCons (tgName 3) (tgCons (tgName 4) tgNil))))
  (iSeq (iFor (iRng gEnumT (iCons (iUn (iFld ["Table"] "columns" (iVar 2))) iNil)) (tgTup 2 (tgCons (tgName 5) (tgCons (tgName 6) tgNil)))
  L_P_read_column_1)
  (iRaise "Stuck" "at" (iVar 4))))
def F_P_read_column : Mi.Fn := fnOf 4 B_P_read_column
abbrev s_P_read_number : Stmt := top 13
abbrev N_P_read_number : List Str := ["tokens", "at", "token", "index"]
theorem sc_P_read_number : FnScope N_P_read_number ["tokens", "at"] (defScope s_P_read_number) := ⟨rfl, rfl, rfl, by decide +kernel, rfl, by decide +kernel, by decide +kernel⟩
def B_P_read_number : IS :=
  (iSeq (iAsg (iIx (iVar 0) (iVar 1)) (tgTup 2 (tgCons (tgName 2) (tgCons (tgName 3) tgNil))))
  (iSeq (iIfS (iOr (iTest (iBin gEq (iVar 2) (iC (.str "")))) (iOr (iTest (iBin (gIn true) (iIx (iVar 2) (iC (.int 0))) (iC (.str "0123456789")))) (iTest (iBin gGt (iCallB gLen (iCons (iVar 2) iNil)) (iC (.int 3))))))
  (iRaise "Stuck" "at" (iVar 3))
  iSkip)
  (iSeq (iIfS (iAnd (iTest (iBin gEq (iIx (iVar 2) (iC (.int 0))) (iC (.str "0")))) (iTest (iBin gNe (iVar 2) (iC (.str "0")))))
  (iRaise "Stuck" "at" (iVar 3))
  iSkip)
  (iRet (iTup (iCons (iCallB gIntS (iCons (iVar 2) iNil)) (iCons (iBin gAdd (iVar 1) (iC (.int 1))) iNil)))))))
def F_P_read_number : Mi.Fn := fnOf 2 B_P_read_number
abbrev s_P_read_term : Stmt := top 15
abbrev N_P_read_term : List Str := ["tokens", "at", "table", "column", "end", "number"]
theorem sc_P_read_term : FnScope N_P_read_term ["tokens", "at", "table"] (defScope s_P_read_term) := ⟨rfl, rfl, rfl, by decide +kernel, rfl, by decide +kernel, by decide +kernel⟩
def B_P_read_term : IS :=
  (iSeq (iIfS (iTest (iBin (gIn false) (iIx (iIx (iVar 0) (iVar 1)) (iC (.int 0))) (iUn (iFld ["Table"] "columns" (iVar 2)))))
  (iSeq (iAsg (iCall (arity 3 F_P_read_column) (iCons (iVar 0) (iCons (iVar 1) (iCons (iVar 2) iNil)))) (tgTup 2 (tgCons (tgName 3) (tgCons (tgName 4) tgNil))))
  (iRet (iTup (iCons (iTup (iCons (iC (.bl true)) (iCons (iVar 3) iNil))) (iCons (iVar 4) iNil)))))
  iSkip)
  (iSeq (iAsg (iCall (arity 2 F_P_read_number) (iCons (iVar 0) (iCons (iVar 1) iNil))) (tgTup 2 (tgCons (tgName 5) (tgCons (tgName 4) tgNil))))
  (iRet (iTup (iCons (iTup (iCons (iC (.bl false)) (iCons (iVar 5) iNil))) (iCons (iVar 4) iNil))))))
def F_P_read_term : Mi.Fn := fnOf 3 B_P_read_term
abbrev s_P_read_sets : Stmt := top 18
abbrev N_P_read_sets : List Str := ["tokens", "at", "table", "items", "used", "word", "index", "sign", "term", "number"]
theorem sc_P_read_sets : FnScope N_P_read_sets ["tokens", "at", "table"] (defScope s_P_read_sets) := ⟨rfl, rfl, rfl, by decide +kernel, rfl, by decide +kernel, by decide +kernel⟩
def L_P_read_sets_1 : IS :=
  (iSeq (iAsg (iIx (iVar 0) (iVar 1)) (tgTup 2 (tgCons (tgName 5) (tgCons (tgName 6) tgNil))))
  (iSeq (iIfS (iOr (iTest (iBin (gIn true) (iVar 5) (iUn (iFld ["Table"] "columns" (iVar 2))))) (iTest (iBin (gIn false) (iVar 5) (iVar 4))))
  (iRaise "Stuck" "at" (iVar 6))
  iSkip)
  (iSeq (iDrop (iMtd gApp (iVar 4) (iCons (iVar 5) iNil)))
  (iSeq (iSet 7 (iIx (iIx (iVar 0) (iBin gAdd (iVar 1) (iC (.int 1)))) (iC (.int 0))))
  (iSeq (iSet 1 (iCall (arity 3 F_P_passed) (iCons (iVar 0) (iCons (iBin gAdd (iVar 1) (iC (.int 1))) (iCons (iTup (iCons (iC (.str "=")) (iCons (iC (.str "+=")) (iCons (iC (.str "-=")) iNil)))) iNil)))))
  (iSeq (iIfS (iTest (iBin gEq (iVar 7) (iC (.str "="))))
  (iAsg (iCall (arity 3 F_P_read_term) (iCons (iVar 0) (iCons (iVar 1) (iCons (iVar 2) iNil)))) (tgTup 2 (tgCons (tgName 8) (tgCons (tgName 1) tgNil))))
  (iSeq (iAsg (iCall (arity 2 F_P_read_number) (iCons (iVar 0) (iCons (iVar 1) iNil))) (tgTup 2 (tgCons (tgName 9) (tgCons (tgName 1) tgNil))))
  (iSet 8 (iTup (iCons (iC (.bl false)) (iCons (iVar 9) iNil))))))
  (iSeq (iDrop (iMtd gApp (iVar 3) (iCons (iTup (iCons (iTix (iFld ["Table"] "columns" (iVar 2)) (iVar 5)) (iCons (iVar 7) (iCons (iVar 8) iNil)))) iNil)))
  (iSeq (iIfS (iTest (iBin gNe (iIx (iIx (iVar 0) (iVar 1)) (iC (.int 0))) (iC (.str ","))))
  (iRet (iTup (iCons (iVar 3) (iCons (iVar 1) iNil))))
  iSkip)
  (iSeq (iIfS (iTest (iBin gEq (iCallB gLen (iCons (iVar 4) iNil)) (iCallB gLen (iCons (iUn (iFld ["Table"] "columns" (iVar 2))) iNil))))
  (iRaise "Stuck" "at" (iIx (iIx (iVar 0) (iVar 1)) (iC (.int 1))))
  iSkip)
  (iAug gIAdd 1 (iC (.int 1))))))))))))
def B_P_read_sets : IS :=
  (iSeq (iSet 3 (iLstS iNil))
  (iSeq (iSet 4 (iLstS iNil))
  (iWhile 10 (iTest (iC (.bl true)))
  L_P_read_sets_1)))
def F_P_read_sets : Mi.Fn := fnOf 7 B_P_read_sets
abbrev s_P_spaced : Stmt := top 11
abbrev N_P_spaced : List Str := ["text", "token", "_"]
theorem sc_P_spaced : FnScope N_P_spaced ["text"] (defScope s_P_spaced) := ⟨rfl, rfl, rfl, by decide +kernel, rfl, by decide +kernel, by decide +kernel⟩
def B_P_spaced : IS :=
  (iRet (iSm gJoin (iC (.str " ")) (iCons (iF (iLc (iOver (iCut (iCall (arity 1 F_P_tokens_of) (iCons (iVar 0) iNil)) iNoPart (iPart (iNeg (iC (.int 1)))))) [1, 2] (tgTup 2 (tgCons (tgName 1) (tgCons (tgName 2) tgNil))) iYes (iVar 1))) iNil)))
def F_P_spaced : Mi.Fn := fnOf 2 B_P_spaced
abbrev s_P_Table_all_values : Stmt := inClass (top 25) 1
abbrev N_P_Table_all_values : List Str := ["self"]
theorem sc_P_Table_all_values : FnScope N_P_Table_all_values ["self"] (defScope s_P_Table_all_values) := ⟨rfl, rfl, rfl, by decide +kernel, rfl, by decide +kernel, by decide +kernel⟩
def B_P_Table_all_values : IS :=
  (iRet (iCallB gList (iCons (iFld ["Table"] "every" (iVar 0)) iNil)))
def F_P_Table_all_values : Mi.Fn := fnOf 0 B_P_Table_all_values
abbrev s_P_term_value : Stmt := top 16
abbrev N_P_term_value : List Str := ["term", "values", "is_column", "number"]
theorem sc_P_term_value : FnScope N_P_term_value ["term", "values"] (defScope s_P_term_value) := ⟨rfl, rfl, rfl, by decide +kernel, rfl, by decide +kernel, by decide +kernel⟩
def B_P_term_value : IS :=
  (iSeq (iAsg (iVar 0) (tgTup 2 (tgCons (tgName 2) (tgCons (tgName 3) tgNil))))
  (iRet (iIf (iTest (iVar 2)) (iIx (iVar 1) (iVar 3)) (iVar 3))))
def F_P_term_value : Mi.Fn := fnOf 2 B_P_term_value
abbrev s_P_new_values : Stmt := top 19
abbrev N_P_new_values : List Str := ["items", "values", "table", "found", "column", "sign", "term", "worth"]
theorem sc_P_new_values : FnScope N_P_new_values ["items", "values", "table"] (defScope s_P_new_values) := ⟨rfl, rfl, rfl, by decide +kernel, rfl, by decide +kernel, by decide +kernel⟩
def L_P_new_values_1 : IS :=
  (iSeq (iSet 7 (iCall (arity 2 F_P_term_value) (iCons (iVar 6) (iCons (iVar 1) iNil))))
  (iSeq (iIfS (iTest (iBin gEq (iVar 5) (iC (.str "+="))))
  (iSet 7 (iBin gAdd (iIx (iVar 1) (iVar 4)) (iVar 7)))
  (iIfS (iTest (iBin gEq (iVar 5) (iC (.str "-="))))
  (iSet 7 (iBin gSub (iIx (iVar 1) (iVar 4)) (iVar 7)))
  iSkip))
  (iAsg (iCallB gMax (iCons (iC (.int 0)) (iCons (iCallB gMin (iCons (iVar 7) (iCons (iIx (iFld ["Table"] "tops" (iVar 2)) (iVar 4)) iNil))) iNil))) (tgSub (iVar 3) (iVar 4)))))
def B_P_new_values : IS :=
  (iSeq (iSet 3 (iCallB gListS (iCons (iVar 1) iNil)))
  (iSeq (iFor (iOver (iVar 0)) (tgTup 3 (tgCons (tgName 4) (tgCons (tgName 5) (tgCons (tgName 6) tgNil))))
  L_P_new_values_1)
  (iRet (iCallB gTuple (iCons (iVar 3) iNil)))))
def F_P_new_values : Mi.Fn := fnOf 5 B_P_new_values
abbrev s_P_Sets_init : Stmt := inClass (top 20) 0
abbrev N_P_Sets_init : List Str := ["self", "text", "table", "tokens", "items", "at", "e", "column", "_", "values"]
theorem sc_P_Sets_init : FnScope N_P_Sets_init ["self", "text", "table"] (defScope s_P_Sets_init) := ⟨rfl, rfl, rfl, by decide +kernel, rfl, by decide +kernel, by decide +kernel⟩
def B_P_Sets_init : IS :=
  (iSeq (iIfS (iNot (iTest (iCallB gIsi (iCons (iVar 1) (iCons (iC (.ty "str")) iNil)))))
  (iRaise "BadSets" "at" (iNeg (iC (.int 1))))
  iSkip)
  (iSeq (iSet 3 (iCall (arity 1 F_P_tokens_of) (iCons (iVar 1) iNil)))
  (iSeq (iTryAsX 6 (fun c => if c = "Stuck" then some true else none)
  (iSeq (iAsg (iCall (arity 3 F_P_read_sets) (iCons (iVar 3) (iCons (iC (.int 0)) (iCons (iVar 2) iNil)))) (tgTup 2 (tgCons (tgName 4) (tgCons (tgName 5) tgNil))))
  (iDrop (iCall (arity 3 F_P_passed) (iCons (iVar 3) (iCons (iVar 5) (iCons (iTup (iCons (iC (.str "")) iNil)) iNil))))))
  (iRaise "BadSets" "at" (iExf 6 "at")))
  (iSeq (iStFld ["Sets"] "table" (iVar 0) (iVar 2))
  (iSeq (iStFld ["Sets"] "text" (iVar 0) (iCall (arity 1 F_P_spaced) (iCons (iVar 1) iNil)))
  (iSeq (iStFld ["Sets"] "columns" (iVar 0) (iCallB gTuple (iCons (iF (iLc (iOver (iVar 4)) [7, 8] (tgTup 3 (tgCons (tgName 7) (tgCons (tgName 8) (tgCons (tgName 8) tgNil)))) iYes (iIx (iUn (iFld ["Table"] "columns" (iVar 2))) (iVar 7)))) iNil)))
  (iStFld ["Sets"] "results" (iVar 0) (iDc (iOver (iMeth "Table" "all_values" (arity 1 F_P_Table_all_values) (iVar 2) iNil)) [9] (tgName 9) iYes (iVar 9) (iCall (arity 3 F_P_new_values) (iCons (iVar 4) (iCons (iVar 9) (iCons (iVar 2) iNil))))))))))))
def F_P_Sets_init : Mi.Fn := fnOf 7 B_P_Sets_init
abbrev s_P_Sets_str : Stmt := inClass (top 20) 3
abbrev N_P_Sets_str : List Str := ["self"]
theorem sc_P_Sets_str : FnScope N_P_Sets_str ["self"] (defScope s_P_Sets_str) := ⟨rfl, rfl, rfl, by decide +kernel, rfl, by decide +kernel, by decide +kernel⟩
def B_P_Sets_str : IS :=
  (iRet (iFmt (iFld ["Sets"] "text" (iVar 0))))
def F_P_Sets_str : Mi.Fn := fnOf 0 B_P_Sets_str
abbrev s_told : Stmt := top 43
abbrev N_told : List Str := ["_law_text", "_law_table", "_law_made", "e"]
theorem sc_told : FnScope N_told ["_law_text", "_law_table"] (defScope s_told) := ⟨rfl, rfl, rfl, by decide +kernel, rfl, by decide +kernel, by decide +kernel⟩
def B_told : IS :=
  (iSeq (iTryAs 3 (fun c => if c = "BadSets" then some true else none)
  (iSet 2 (iMake "Sets" (arity 3 F_P_Sets_init) (iCons (iVar 0) (iCons (iVar 1) iNil))))
  (iRet (iLst (iCons (iExf 3 "at") iNil))))
  (iRet (iCallB (gOwnStr "Sets" F_P_Sets_str) (iCons (iVar 2) iNil))))
def F_told : Mi.Fn := fnOf 2 B_told
abbrev s_law : Stmt := top 44
abbrev N_law : List Str := ["_law_script", "_law_at", "_law_bag_here", "_law_columns_here", "_law_table", "_law_words", "_law_word_here", "_law_top", "_law_turn", "_law_tokens", "_law_text", "_law_places", "_law_is_on", "_law_k", "_law_wanted", "_law_again", "_law_told_here", "_law_odd_here"]
theorem sc_law : FnScope N_law ["_law_script"] (defScope s_law) := ⟨rfl, rfl, rfl, by decide +kernel, rfl, by decide +kernel, by decide +kernel⟩
def L_law_1 : IS :=
  (iSeq (iSet 16 (iCall (arity 2 F_told) (iCons (iVar 10) (iCons (iVar 4) iNil))))
  (iIfS (iOr (iTest (iBin gNe (iVar 16) (iVar 14))) (iAnd (iTest (iCallB gIsi (iCons (iVar 16) (iCons (iC (.ty "list")) iNil)))) (iTest (iCallB gIsi (iCons (iIx (iVar 16) (iC (.int 0))) (iCons (iC (.ty "bool")) iNil))))))
  (iRet (iC (.bl false)))
  iSkip))
def L_law_2 : IS :=
  (iSeq (iSet 9 (iCall (arity 3 F_spoilt) (iCons (iVar 2) (iCons (iCall (arity 2 F_set_tokens) (iCons (iCall (arity 2 F_sets) (iCons (iVar 2) (iCons (iVar 3) iNil))) (iCons (iVar 3) iNil))) (iCons (iCall (arity 1 F_odd) (iCons (iVar 3) iNil)) iNil)))))
  (iSeq (iAsg (iCall (arity 2 F_spread) (iCons (iVar 2) (iCons (iVar 9) iNil))) (tgTup 2 (tgCons (tgName 10) (tgCons (tgName 11) tgNil))))
  (iSeq (iAsg (iCall (arity 3 F_walk_sets) (iCons (iVar 9) (iCons (iC (.int 0)) (iCons (iVar 5) iNil)))) (tgTup 2 (tgCons (tgName 12) (tgCons (tgName 13) tgNil))))
  (iSeq (iSet 14 (iSm gJoin (iC (.str " ")) (iCons (iVar 9) iNil)))
  (iSeq (iIfS (iOr (iNot (iTest (iVar 12))) (iTest (iBin gLt (iVar 13) (iCallB gLen (iCons (iVar 9) iNil)))))
  (iSet 14 (iLst (iCons (iIf (iTest (iBin gLt (iVar 13) (iCallB gLen (iCons (iVar 9) iNil)))) (iIx (iVar 11) (iVar 13)) (iCallB gLen (iCons (iVar 10) iNil))) iNil)))
  iSkip)
  (iFor (iRng gRng1 (iCons (iC (.int 2)) iNil)) (tgName 15)
  L_law_1))))))
def L_law_3 : IS :=
  (iSeq (iSet 2 (iCall (arity 2 F_bag) (iCons (iVar 0) (iCons (iVar 1) iNil))))
  (iSeq (iSet 3 (iCall (arity 2 F_columns) (iCons (iVar 2) (iCons (iC (.int 36)) iNil))))
  (iSeq (iPar2 4 5 (iCons (iMake "Table" (arity 2 F_P_Table_init) (iCons (iCallB gList (iCons (iVar 3) iNil)) iNil)) (iCons (iF (iLc (iOver (iVar 3)) [6, 7] (tgTup 2 (tgCons (tgName 6) (tgCons (tgName 7) tgNil))) iYes (iVar 6))) iNil)))
  (iSeq (iFor (iRng gRng1 (iCons (iC (.int 7)) iNil)) (tgName 8)
  L_law_2)
  (iSeq (iSet 17 (iCall (arity 2 F_pick) (iCons (iVar 2) (iCons (iLst (iCons (iC .non) (iCons (iC (.int 7)) (iCons (iC (.bl true)) (iCons (iLst (iCons (iBin gAdd (iIx (iVar 5) (iC (.int 0))) (iC (.str " = 0"))) iNil)) (iCons (iTup (iCons (iIx (iVar 5) (iC (.int 0))) iNil)) (iCons (iLst iNil) (iCons (iNeg (iBin gPow (iC (.int 10)) (iC (.int 29)))) iNil)))))))) iNil))))
  (iIfS (iOr (iTest (iBin gNe (iCall (arity 2 F_told) (iCons (iVar 17) (iCons (iVar 4) iNil))) (iLst (iCons (iNeg (iC (.int 1))) iNil)))) (iOr (iTest (iBin gNe (iCall (arity 2 F_told) (iCons (iC (.str "")) (iCons (iVar 4) iNil))) (iLst (iCons (iC (.int 0)) iNil)))) (iTest (iBin gNe (iCall (arity 2 F_told) (iCons (iBin gAdd (iIx (iVar 5) (iC (.int 0))) (iC (.str "=0"))) (iCons (iVar 4) iNil))) (iBin gAdd (iIx (iVar 5) (iC (.int 0))) (iC (.str " = 0")))))))
  (iRet (iC (.bl false)))
  iSkip))))))
def B_law : IS :=
  (iSeq (iFor (iRng gRng1 (iCons (iCallB gMax (iCons (iC (.int 1)) (iCons (iCallB gMin (iCons (iC (.int 3)) (iCons (iCallB gLen (iCons (iVar 0) iNil)) iNil))) iNil))) iNil)) (tgName 1)
  L_law_3)
  (iRet (iC (.bl true))))
def F_law : Mi.Fn := fnOf 17 B_law
abbrev s_BadTable_init : Stmt := inClass (top 2) 0
theorem sc_BadTable_init : FnScope ["self", "at"] ["self", "at"] (defScope s_BadTable_init) := ⟨rfl, rfl, rfl, by decide +kernel, rfl, by decide +kernel, by decide +kernel⟩
abbrev s_BadSets_init : Stmt := inClass (top 3) 0
theorem sc_BadSets_init : FnScope ["self", "at"] ["self", "at"] (defScope s_BadSets_init) := ⟨rfl, rfl, rfl, by decide +kernel, rfl, by decide +kernel, by decide +kernel⟩
abbrev s_Stuck_init : Stmt := inClass (top 8) 0
theorem sc_Stuck_init : FnScope ["self", "at"] ["self", "at"] (defScope s_Stuck_init) := ⟨rfl, rfl, rfl, by decide +kernel, rfl, by decide +kernel, by decide +kernel⟩
section
variable {P : Program} {w : World} {K : PySem.W.Frag} {mg : Str → Option Value} {base : Heap} {cTable cSets cBadTable cBadSets cStuck : Addr}
theorem ok_bag {f : Addr} {fd : FuncData} (F : L2.Fun K "_law_bag" "_law_bag" s_bag f fd) (T : Tx K mg cTable cSets cBadTable cBadSets cStuck)  : FnOk P w K mg base (L2.CX P w) 1 f fd ["_law_script", "_law_at"] (spOf ⟨K, mg, P, w⟩ 2 F_bag) := by
  refine fn_ok (k := 0) F sc_bag rfl fun cdv A outer s H E hr => ?_
  unfold B_bag 
  exact (mss_cons (ms_set (i := 2) sc_bag.nd rfl (by first | exact Or.inl rfl | exact Or.inr rfl) (me_if (mt_cmp opm_lt (me_var (pv 1)) (me_callB cm_len (by rfl) T.b_len rfl (ma_cons (me_var (pv 0)) ma_nil)) (nomark _)) (me_ix (me_var (pv 0)) (me_var (pv 1))) (me_bin opm_add (me_bin opm_mul me_int (me_var (pv 1))) me_int)))
  (mss_cons (ms_set (i := 3) sc_bag.nd rfl (by first | exact Or.inl rfl | exact Or.inr rfl) (me_if (mt_cmp opm_lt (me_bin opm_add (me_var (pv 1)) me_int) (me_callB cm_len (by rfl) T.b_len rfl (ma_cons (me_var (pv 0)) ma_nil)) (nomark _)) (me_ix (me_var (pv 0)) (me_bin opm_add (me_var (pv 1)) me_int)) (me_bin opm_add (me_bin opm_mul me_int (me_var (pv 1))) me_int)))
  (mss_cons (ms_set (i := 4) sc_bag.nd rfl (by first | exact Or.inl rfl | exact Or.inr rfl) (me_if (mt_cmp opm_ge (me_callB cm_abs (by rfl) T.b_abs rfl (ma_cons (me_var (pv 2)) ma_nil)) (me_bin opm_pow me_int me_int) (nomark _)) (me_callB cm_abs (by rfl) T.b_abs rfl (ma_cons (me_var (pv 2)) ma_nil)) me_int))
  (mss_one (ms_ret (me_lstS (ma_cons (me_var (pv 4)) (ma_cons (me_bin opm_add (me_bin opm_mod (me_callTy cm_int (by rfl) T.b_int rfl (ma_cons (me_var (pv 2)) ma_nil)) me_int) me_int) (ma_cons (me_bin opm_add (me_bin opm_mod (me_callTy cm_int (by rfl) T.b_int rfl (ma_cons (me_var (pv 3)) ma_nil)) me_int) me_int) (ma_cons me_int ma_nil))))))))))
theorem ok_draw {f : Addr} {fd : FuncData} (F : L2.Fun K "_law_draw" "_law_draw" s_draw f fd) (T : Tx K mg cTable cSets cBadTable cBadSets cStuck)  : FnOk P w K mg base (L2.CX P w) 1 f fd ["_law_bag_here", "_law_many"] (spOf ⟨K, mg, P, w⟩ 2 F_draw) := by
  refine fn_ok (k := 0) F sc_draw rfl fun cdv A outer s H E hr => ?_
  unfold B_draw 
  exact (mss_cons (ms_if (mt_cmp opm_gt (me_ix (me_var (pv 0)) me_int) me_int (nomark _))
  (mss_cons (ms_set (i := 2) sc_draw.nd rfl (by first | exact Or.inl rfl | exact Or.inr rfl) (me_bin opm_mod (me_callTy cm_int (by rfl) T.b_int rfl (ma_cons (me_ix (me_var (pv 0)) me_int) ma_nil)) (me_var (pv 1))))
  (mss_cons (ms_asg (me_bin opm_div (me_ix (me_var (pv 0)) me_int) (me_var (pv 1))) (mg_sub (me_var (pv 0)) me_int) (hT := (tgok_sub).use))
  (mss_one (ms_ret (me_var (pv 2))))))
  mss_nil)
  (mss_cons (ms_asg (me_bin opm_add (me_ix (me_var (pv 0)) me_int) me_int) (mg_sub (me_var (pv 0)) me_int) (hT := (tgok_sub).use))
  (mss_cons (ms_set (i := 3) sc_draw.nd rfl (by first | exact Or.inl rfl | exact Or.inr rfl) (me_bin opm_mod (me_callTy cm_int (by rfl) T.b_int rfl (ma_cons (me_bin opm_add (me_bin opm_add (me_bin opm_mul (me_ix (me_var (pv 0)) me_int) me_int) (me_bin opm_mul (me_ix (me_var (pv 0)) me_int) (me_ix (me_var (pv 0)) me_int))) (me_bin opm_mul (me_bin opm_mul (me_ix (me_var (pv 0)) me_int) (me_ix (me_var (pv 0)) me_int)) me_int)) ma_nil)) me_int))
  (mss_cons (ms_set (i := 3) sc_draw.nd rfl (by first | exact Or.inl rfl | exact Or.inr rfl) (me_bin opm_mod (me_callTy cm_int (by rfl) T.b_int rfl (ma_cons (me_bin opm_add (me_bin opm_add (me_bin opm_mul (me_var (pv 3)) (me_var (pv 3))) (me_bin opm_mul (me_ix (me_var (pv 0)) me_int) me_int)) (me_ix (me_var (pv 0)) me_int)) ma_nil)) me_int))
  (mss_one (ms_ret (me_bin opm_mod (me_callTy cm_int (by rfl) T.b_int rfl (ma_cons (me_bin opm_div (me_var (pv 3)) me_int) ma_nil)) (me_var (pv 1)))))))))
theorem ok_kept {f : Addr} {fd : FuncData} (F : L2.Fun K "_law_kept" "_law_kept" s_kept f fd) (T : Tx K mg cTable cSets cBadTable cBadSets cStuck)  : FnOk P w K mg base (L2.CX P w) 1 f fd [] (spOf ⟨K, mg, P, w⟩ 0 F_kept) := by
  refine fn_ok (k := 0) F sc_kept rfl fun cdv A outer s H E hr => ?_
  unfold B_kept 
  exact (mss_one (ms_ret (me_lst (ma_cons me_str (ma_cons me_str (ma_cons me_str (ma_cons me_str (ma_cons me_str (ma_cons me_str (ma_cons me_str (ma_cons me_str (ma_cons me_str (ma_cons me_str (ma_cons me_str (ma_cons me_str (ma_cons me_str (ma_cons me_str (ma_cons me_str (ma_cons me_str (ma_cons me_str (ma_cons me_str (ma_cons me_str (ma_cons me_str (ma_cons me_str (ma_cons me_str (ma_cons me_str (ma_cons me_str (ma_cons me_str (ma_cons me_str (ma_cons me_str (ma_cons me_str (ma_cons me_str (ma_cons me_str (ma_cons me_str (ma_cons me_str (ma_cons me_str (ma_cons me_str ma_nil)))))))))))))))))))))))))))))))))))))
theorem ok_word {f : Addr} {fd : FuncData} (F : L2.Fun K "_law_word" "_law_word" s_word f fd) (T : Tx K mg cTable cSets cBadTable cBadSets cStuck) (c_draw : FnM P w K mg base "_law_draw" 1 2 F_draw) (c_kept : FnM P w K mg base "_law_kept" 1 0 F_kept) : FnOk P w K mg base (L2.CX P w) 2 f fd ["_law_bag_here", "_law_taken"] (spOf ⟨K, mg, P, w⟩ 2 F_word) := by
  refine fn_ok (k := 1) F sc_word rfl fun cdv A outer s H E hr => ?_
  unfold B_word 
  exact (mss_cons (ms_set (i := 2) sc_word.nd rfl (by first | exact Or.inl rfl | exact Or.inr rfl) me_str)
  (mss_cons (ms_for (passes_of rfl) rfl (mi_range1 (by rfl) T.b_range (ma_cons (me_bin opm_add me_int (me_call c_draw (hr.mono (by decide)) (by exact takes_of rfl rfl rfl rfl) (by rfl) (ma_cons (me_var (pv 0)) (ma_cons me_int ma_nil)))) ma_nil)) (mg_name (i := 3) sc_word.nd rfl (by first | exact Or.inl rfl | exact Or.inr rfl))
  (mss_one (ms_set (i := 2) sc_word.nd rfl (by first | exact Or.inl rfl | exact Or.inr rfl) (me_bin opm_add (me_var (pv 2)) (me_ix me_str (me_call c_draw (hr.mono (by decide)) (by exact takes_of rfl rfl rfl rfl) (by rfl) (ma_cons (me_var (pv 0)) (ma_cons me_int ma_nil))))))))
  (mss_cons (setLc (i := 4) (own := [("_law_one", 5)]) rfl sc_word.nd rfl rfl (by rfl) (mi_over (me_lst (ma_cons (me_var (pv 2)) (ma_cons me_str (ma_cons me_str (ma_cons me_str (ma_cons me_str ma_nil))))))) (blkOk_by (N := N_word) (sc := defScope s_word) (own := [("_law_one", 5)]) (by decide +kernel)) (fun _ _ _ _ _ => pg_name (i := 5) sc_word.nd rfl (by first | exact Or.inl rfl | exact Or.inr rfl)) (ctg_name (by decide)) (tgpl_name (i := 5)) (fun _ _ _ _ _ => pts_one (mt_cmp opm_notIn (me_var (pv 5)) (me_var (pv 1)) (by rfl))) ttok_one (fun _ _ _ _ _ => (me_var (pv 5))) hw_in)
  (mss_cons (setLc (i := 4) (own := [("_law_one", 5)]) rfl sc_word.nd rfl rfl (by rfl) (mi_over (me_var (pv 4))) (blkOk_by (N := N_word) (sc := defScope s_word) (own := [("_law_one", 5)]) (by decide +kernel)) (fun _ _ _ _ _ => pg_name (i := 5) sc_word.nd rfl (by first | exact Or.inl rfl | exact Or.inr rfl)) (ctg_name (by decide)) (tgpl_name (i := 5)) (fun _ _ _ _ _ => pts_one (mt_cmp opm_notIn (me_var (pv 5)) (me_call0 c_kept (hr.mono (by decide)) takes0 (by rfl)) (by rfl))) ttok_one (fun _ _ _ _ _ => (me_var (pv 5))) hw_in)
  (mss_one (ms_ret (me_ix (me_var (pv 4)) me_int)))))))
theorem ok_columns {f : Addr} {fd : FuncData} (F : L2.Fun K "_law_columns" "_law_columns" s_columns f fd) (T : Tx K mg cTable cSets cBadTable cBadSets cStuck) (c_draw : FnM P w K mg base "_law_draw" 1 2 F_draw) (c_word : FnM P w K mg base "_law_word" 2 2 F_word) : FnOk P w K mg base (L2.CX P w) 3 f fd ["_law_bag_here", "_law_most"] (spOf ⟨K, mg, P, w⟩ 2 F_columns) := by
  refine fn_ok (k := 2) F sc_columns rfl fun cdv A outer s H E hr => ?_
  unfold B_columns 
  exact (mss_cons (ms_par3 (i := 2) (j := 3) (l := 4) rfl sc_columns.nd rfl rfl rfl (by decide) (by decide) (by decide) rfl rfl rfl (ma_cons (me_lstS ma_nil) (ma_cons (me_lstS ma_nil) (ma_cons (me_var (pv 1)) ma_nil))) (by rfl))
  (mss_cons (ms_for (passes_of rfl) rfl (mi_range1 (by rfl) T.b_range (ma_cons (me_bin opm_add me_int (me_call c_draw (hr.mono (by decide)) (by exact takes_of rfl rfl rfl rfl) (by rfl) (ma_cons (me_var (pv 0)) (ma_cons me_int ma_nil)))) ma_nil)) (mg_name (i := 5) sc_columns.nd rfl (by first | exact Or.inl rfl | exact Or.inr rfl))
  (mss_one (ms_if (mt_cmp opm_ge (me_var (pv 4)) me_int (nomark _))
  (mss_cons (ms_set (i := 6) sc_columns.nd rfl (by first | exact Or.inl rfl | exact Or.inr rfl) (me_bin opm_add me_int (me_call c_draw (hr.mono (by decide)) (by exact takes_of rfl rfl rfl rfl) (by rfl) (ma_cons (me_var (pv 0)) (ma_cons (me_callB (cm_min rfl) (by rfl) T.b_min rfl (ma_cons me_int (ma_cons (me_bin opm_sub (me_var (pv 4)) me_int) ma_nil))) ma_nil)))))
  (mss_cons (ms_expr (me_mtd mtd_append PySem.F.slot_list_append PySem.F.type_list_append (me_var (pv 3)) (ma_cons (me_call c_word (hr.mono (by decide)) (by exact takes_of rfl rfl rfl rfl) (by rfl) (ma_cons (me_var (pv 0)) (ma_cons (me_var (pv 3)) ma_nil))) ma_nil)))
  (mss_cons (ms_expr (me_mtd mtd_append PySem.F.slot_list_append PySem.F.type_list_append (me_var (pv 2)) (ma_cons (me_tup (ma_cons (me_ix (me_var (pv 3)) (me_neg me_int)) (ma_cons (me_var (pv 6)) ma_nil))) ma_nil)))
  (mss_one (ms_set (i := 4) sc_columns.nd rfl (by first | exact Or.inl rfl | exact Or.inr rfl) (me_bin opm_div (me_var (pv 4)) (me_bin opm_add (me_var (pv 6)) me_int)))))))
  mss_nil)))
  (mss_one (ms_ret (me_var (pv 2))))))
theorem ok_P_is_column {f : Addr} {fd : FuncData} (F : L2.Fun K "is_column" "is_column" s_P_is_column f fd) (T : Tx K mg cTable cSets cBadTable cBadSets cStuck)  : FnOk P w K mg base (L2.CX P w) 1 f fd ["entry"] (spOf ⟨K, mg, P, w⟩ 1 F_P_is_column) := by
  refine fn_ok (k := 0) F sc_P_is_column rfl fun cdv A outer s H E hr => ?_
  unfold B_P_is_column 
  exact (mss_cons (ms_if (PW.pt (mw_or (mt_not (mt_val (me_callB cm_isi (by rfl) T.b_isinstance rfl (ma_cons (me_var (pv 0)) (ma_cons (me_bty (by rfl) T.b_tuple rfl) ma_nil))))) (mw_or1 (mt_cmp (opm_ne (by exact hr.units)) (me_callB cm_len (by rfl) T.b_len rfl (ma_cons (me_var (pv 0)) ma_nil)) me_int (nomark _)))))
  (mss_one (ms_ret me_bl))
  mss_nil)
  (mss_cons (ms_asg (me_var (pv 0)) (mg_tup rfl (mgs_cons (mg_name (i := 1) sc_P_is_column.nd rfl (by first | exact Or.inl rfl | exact Or.inr rfl)) (mgs_cons (mg_name (i := 2) sc_P_is_column.nd rfl (by first | exact Or.inl rfl | exact Or.inr rfl)) mgs_nil))) (hT := ((tgok_tup (tgsok_cons tgok_name (tgsok_cons tgok_name tgsok_nil)))).use))
  (mss_cons (ms_if (PW.pt (mw_or (mt_not (mt_val (me_callB cm_isi (by rfl) T.b_isinstance rfl (ma_cons (me_var (pv 1)) (ma_cons (me_bty (by rfl) T.b_str rfl) ma_nil))))) (mw_or (mt_not (mt_chain opm_le opm_le me_int (me_callB cm_len (by rfl) T.b_len rfl (ma_cons (me_var (pv 1)) ma_nil)) me_int)) (mw_or1 (mt_cmp opm_in (me_var (pv 1)) (me_globT (by rfl) T.g_KEPT) (by rfl))))))
  (mss_one (ms_ret me_bl))
  mss_nil)
  (mss_cons (ms_for (passes_of rfl) rfl (mi_over (me_var (pv 1))) (mg_name (i := 3) sc_P_is_column.nd rfl (by first | exact Or.inl rfl | exact Or.inr rfl))
  (mss_one (ms_if (mt_cmp opm_notIn (me_var (pv 3)) (me_globS (by rfl) T.g_LETTERS) (by rfl))
  (mss_one (ms_ret me_bl))
  mss_nil)))
  (mss_one (ms_ret (me_and (me_callB cm_isi (by rfl) T.b_isinstance rfl (ma_cons (me_var (pv 2)) (ma_cons (me_bty (by rfl) T.b_int rfl) ma_nil))) (me_and (me_not (me_callB cm_isi (by rfl) T.b_isinstance rfl (ma_cons (me_var (pv 2)) (ma_cons (me_bty (by rfl) T.b_bool rfl) ma_nil)))) (me_one (me_chain opm_le opm_le me_int (me_var (pv 2)) me_int))))))))))
theorem ok_P_Table_init {f : Addr} {fd : FuncData} (F : L2.Fun K "__init__" "Table.__init__" s_P_Table_init f fd) (T : Tx K mg cTable cSets cBadTable cBadSets cStuck) (c_P_is_column : FnM P w K mg base "is_column" 1 1 F_P_is_column) (x_BadTable : ExcM P w K mg base "BadTable" "at" 1) : FnOk P w K mg base (L2.CX P w) 3 f fd ["self", "columns"] (spOf ⟨K, mg, P, w⟩ 2 F_P_Table_init) := by
  refine fn_ok (k := 2) F sc_P_Table_init rfl fun cdv A outer s H E hr => ?_
  unfold B_P_Table_init 
  exact (mss_cons (ms_if (mt_not (mt_chain opm_le opm_le me_int (me_callB cm_len (by rfl) T.b_len rfl (ma_cons (me_var (pv 1)) ma_nil)) me_int))
  (mss_one (ms_raise rfl x_BadTable (hr.mono (by decide)) (by exact takes_of rfl rfl rfl rfl) (by rfl) (me_neg me_int)))
  mss_nil)
  (mss_cons (ms_setOwn (i := 2) sc_P_Table_init.nd rfl (by first | exact Or.inl rfl | exact Or.inr rfl) (mf_lst ma_nil))
  (mss_cons (ms_for (passes_of rfl) rfl (mi_enum (by rfl) T.b_enumerate (ma_cons (me_var (pv 1)) ma_nil)) (mg_tup rfl (mgs_cons (mg_name (i := 3) sc_P_Table_init.nd rfl (by first | exact Or.inl rfl | exact Or.inr rfl)) (mgs_cons (mg_name (i := 4) sc_P_Table_init.nd rfl (by first | exact Or.inl rfl | exact Or.inr rfl)) mgs_nil)))
  (mss_cons (ms_if (PW.pt (mw_or (mt_not (mt_val (me_call c_P_is_column (hr.mono (by decide)) (by exact takes_of rfl rfl rfl rfl) (by rfl) (ma_cons (me_var (pv 4)) ma_nil)))) (mw_or1 (mt_ownIn (me_ix (me_var (pv 4)) me_int) (pv 2) (by rfl)))))
  (mss_one (ms_raise rfl x_BadTable (hr.mono (by decide)) (by exact takes_of rfl rfl rfl rfl) (by rfl) (me_var (pv 3))))
  mss_nil)
  (mss_one (ms_ownApp (pv 2) (me_ix (me_var (pv 4)) me_int)))))
  (mss_cons (ms_fld (T.fd_Table_columns) (me_var (pv 0)) (me_ownTupP (pv 2) (by rfl) T.b_tuple rfl))
  (mss_cons (ms_fld (T.fd_Table_tops) (me_var (pv 0)) (me_callTy cm_tuple (by rfl) T.b_tuple rfl (ma_cons (me_F (by exact mf_lc (own := [("_", 5), ("top", 6)]) rfl sc_P_Table_init.nd (mi_over (me_var (pv 1))) (blkOk_by (N := N_P_Table_init) (sc := defScope s_P_Table_init) (own := [("_", 5), ("top", 6)]) (by decide +kernel)) (fun _ _ _ _ _ => pg_tup rfl (pgs_cons (pg_name (i := 5) sc_P_Table_init.nd rfl (by first | exact Or.inl rfl | exact Or.inr rfl)) (pgs_cons (pg_name (i := 6) sc_P_Table_init.nd rfl (by first | exact Or.inl rfl | exact Or.inr rfl)) pgs_nil))) (ctg_pair (by decide) (by decide)) (tgpl_pair (i := 5) (j := 6)) (fun _ _ _ _ _ => pts_nil) ttok_yes (fun _ _ _ _ _ => (me_var (pv 6))))) ma_nil)))
  (mss_cons (ms_set (i := 7) sc_P_Table_init.nd rfl (by first | exact Or.inl rfl | exact Or.inr rfl) (me_lst (ma_cons (me_tup ma_nil) ma_nil)))
  (mss_cons (ms_for (passes_of rfl) rfl (mi_over (me_fld (T.fd_Table_tops) (me_var (pv 0)))) (mg_name (i := 6) sc_P_Table_init.nd rfl (by first | exact Or.inl rfl | exact Or.inr rfl))
  (mss_one (setLc2 (i := 7) (own := [("values", 8), ("value", 9)]) (vs1 := [9]) rfl sc_P_Table_init.nd rfl rfl (by rfl) (mi_over (me_var (pv 7))) (blkOk_by (N := N_P_Table_init) (sc := defScope s_P_Table_init) (own := [("values", 8), ("value", 9)]) (by decide +kernel)) (by decide) (fun _ _ _ _ _ => pg_name (i := 8) sc_P_Table_init.nd rfl (by first | exact Or.inl rfl | exact Or.inr rfl)) (ctg_name (by decide)) (tgpl_name (i := 8)) (fun _ _ _ _ _ => pts_nil) ttok_yes (fun _ _ _ _ _ => (mi_range1 (by rfl) T.b_range (ma_cons (me_bin opm_add (me_var (pv 6)) me_int) ma_nil))) (fun _ _ _ _ _ => pg_name (i := 9) sc_P_Table_init.nd rfl (by first | exact Or.inl rfl | exact Or.inr rfl)) (ctg_name (by decide)) (tgpl_name (i := 9)) (fun _ _ _ _ _ => pts_nil) ttok_yes (fun _ _ _ _ _ => (me_bin opm_add (me_var (pv 8)) (me_tup (ma_cons (me_var (pv 9)) ma_nil)))) hw_in)))
  (mss_cons (ms_if (mt_cmp opm_gt (me_callB cm_len (by rfl) T.b_len rfl (ma_cons (me_var (pv 7)) ma_nil)) (me_globI (by rfl) T.g_MOST_VALUES) (nomark _))
  (mss_one (ms_raise rfl x_BadTable (hr.mono (by decide)) (by exact takes_of rfl rfl rfl rfl) (by rfl) (me_neg me_int)))
  mss_nil)
  (mss_one (ms_fld (T.fd_Table_every) (me_var (pv 0)) (me_callTy cm_tuple (by rfl) T.b_tuple rfl (ma_cons (me_var (pv 7)) ma_nil))))))))))))
theorem ok_pick {f : Addr} {fd : FuncData} (F : L2.Fun K "_law_pick" "_law_pick" s_pick f fd) (T : Tx K mg cTable cSets cBadTable cBadSets cStuck) (c_draw : FnM P w K mg base "_law_draw" 1 2 F_draw) : FnOk P w K mg base (L2.CX P w) 2 f fd ["_law_bag_here", "_law_some"] (spOf ⟨K, mg, P, w⟩ 2 F_pick) := by
  refine fn_ok (k := 1) F sc_pick rfl fun cdv A outer s H E hr => ?_
  unfold B_pick 
  exact (mss_one (ms_ret (me_ix (me_var (pv 1)) (me_call c_draw (hr.mono (by decide)) (by exact takes_of rfl rfl rfl rfl) (by rfl) (ma_cons (me_var (pv 0)) (ma_cons (me_callB cm_len (by rfl) T.b_len rfl (ma_cons (me_var (pv 1)) ma_nil)) ma_nil))))))
theorem ok_spoilt {f : Addr} {fd : FuncData} (F : L2.Fun K "_law_spoilt" "_law_spoilt" s_spoilt f fd) (T : Tx K mg cTable cSets cBadTable cBadSets cStuck) (c_draw : FnM P w K mg base "_law_draw" 1 2 F_draw) (c_pick : FnM P w K mg base "_law_pick" 2 2 F_pick) : FnOk P w K mg base (L2.CX P w) 3 f fd ["_law_bag_here", "_law_tokens", "_law_odd_here"] (spOf ⟨K, mg, P, w⟩ 3 F_spoilt) := by
  refine fn_ok (k := 2) F sc_spoilt rfl fun cdv A outer s H E hr => ?_
  unfold B_spoilt 
  exact (mss_cons (ms_set (i := 3) sc_spoilt.nd rfl (by first | exact Or.inl rfl | exact Or.inr rfl) (me_callTy cm_list (by rfl) T.b_list rfl (ma_cons (me_var (pv 1)) ma_nil)))
  (mss_cons (ms_for (passes_of rfl) rfl (mi_range1 (by rfl) T.b_range (ma_cons (me_call c_draw (hr.mono (by decide)) (by exact takes_of rfl rfl rfl rfl) (by rfl) (ma_cons (me_var (pv 0)) (ma_cons me_int ma_nil))) ma_nil)) (mg_name (i := 4) sc_spoilt.nd rfl (by first | exact Or.inl rfl | exact Or.inr rfl))
  (mss_cons (ms_par2 (i := 5) (j := 6) rfl sc_spoilt.nd rfl rfl (by decide) rfl rfl (ma_cons (me_call c_draw (hr.mono (by decide)) (by exact takes_of rfl rfl rfl rfl) (by rfl) (ma_cons (me_var (pv 0)) (ma_cons (me_bin opm_add (me_callB cm_len (by rfl) T.b_len rfl (ma_cons (me_var (pv 3)) ma_nil)) me_int) ma_nil))) (ma_cons (me_call c_draw (hr.mono (by decide)) (by exact takes_of rfl rfl rfl rfl) (by rfl) (ma_cons (me_var (pv 0)) (ma_cons me_int ma_nil))) ma_nil)) (by rfl))
  (mss_one (ms_if (mt_cmp (opm_eq (by exact hr.units)) (me_var (pv 6)) me_int (nomark _))
  (mss_one (ms_set (i := 3) sc_spoilt.nd rfl (by first | exact Or.inl rfl | exact Or.inr rfl) (me_bin opm_add (me_cut (me_var (pv 3)) mo_none (mo_some (me_var (pv 5)))) (me_cut (me_var (pv 3)) (mo_some (me_bin opm_add (me_var (pv 5)) me_int)) mo_none))))
  (mss_one (ms_if (mt_cmp (opm_eq (by exact hr.units)) (me_var (pv 6)) me_int (nomark _))
  (mss_one (ms_set (i := 3) sc_spoilt.nd rfl (by first | exact Or.inl rfl | exact Or.inr rfl) (me_bin opm_add (me_bin opm_add (me_cut (me_var (pv 3)) mo_none (mo_some (me_var (pv 5)))) (me_lst (ma_cons (me_call c_pick (hr.mono (by decide)) (by exact takes_of rfl rfl rfl rfl) (by rfl) (ma_cons (me_var (pv 0)) (ma_cons (me_var (pv 2)) ma_nil))) ma_nil))) (me_cut (me_var (pv 3)) (mo_some (me_var (pv 5))) mo_none))))
  (mss_one (ms_if (mt_cmp (opm_eq (by exact hr.units)) (me_var (pv 6)) me_int (nomark _))
  (mss_one (ms_set (i := 3) sc_spoilt.nd rfl (by first | exact Or.inl rfl | exact Or.inr rfl) (me_bin opm_add (me_bin opm_add (me_cut (me_var (pv 3)) mo_none (mo_some (me_var (pv 5)))) (me_lst (ma_cons (me_call c_pick (hr.mono (by decide)) (by exact takes_of rfl rfl rfl rfl) (by rfl) (ma_cons (me_var (pv 0)) (ma_cons (me_var (pv 2)) ma_nil))) ma_nil))) (me_cut (me_var (pv 3)) (mo_some (me_bin opm_add (me_var (pv 5)) me_int)) mo_none))))
  (mss_one (ms_set (i := 3) sc_spoilt.nd rfl (by first | exact Or.inl rfl | exact Or.inr rfl) (me_bin opm_add (me_cut (me_var (pv 3)) mo_none (mo_some (me_var (pv 5)))) (me_ix (me_lst (ma_cons (me_lst ma_nil) (ma_cons (me_lst (ma_cons (me_call c_pick (hr.mono (by decide)) (by exact takes_of rfl rfl rfl rfl) (by rfl) (ma_cons (me_var (pv 0)) (ma_cons (me_var (pv 2)) ma_nil))) ma_nil)) ma_nil))) (me_call c_draw (hr.mono (by decide)) (by exact takes_of rfl rfl rfl rfl) (by rfl) (ma_cons (me_var (pv 0)) (ma_cons me_int ma_nil)))))))))))))))
  (mss_one (ms_ret (me_var (pv 3))))))
theorem ok_set_tokens {f : Addr} {fd : FuncData} (F : L2.Fun K "_law_set_tokens" "_law_set_tokens" s_set_tokens f fd) (T : Tx K mg cTable cSets cBadTable cBadSets cStuck)  : FnOk P w K mg base (L2.CX P w) 1 f fd ["_law_sets_here", "_law_columns_here"] (spOf ⟨K, mg, P, w⟩ 2 F_set_tokens) := by
  refine fn_ok (k := 0) F sc_set_tokens rfl fun cdv A outer s H E hr => ?_
  unfold B_set_tokens L_set_tokens_1
  exact (mss_cons (ms_set (i := 2) sc_set_tokens.nd rfl (by first | exact Or.inl rfl | exact Or.inr rfl) (me_lst ma_nil))
  (mss_cons (ms_for (passes_of rfl) rfl (mi_over (me_var (pv 0))) (mg_tup rfl (mgs_cons (mg_name (i := 3) sc_set_tokens.nd rfl (by first | exact Or.inl rfl | exact Or.inr rfl)) (mgs_cons (mg_name (i := 4) sc_set_tokens.nd rfl (by first | exact Or.inl rfl | exact Or.inr rfl)) (mgs_cons (mg_name (i := 5) sc_set_tokens.nd rfl (by first | exact Or.inl rfl | exact Or.inr rfl)) (mgs_cons (mg_name (i := 6) sc_set_tokens.nd rfl (by first | exact Or.inl rfl | exact Or.inr rfl)) mgs_nil)))))
  (mss_cons (ms_set (i := 2) sc_set_tokens.nd rfl (by first | exact Or.inl rfl | exact Or.inr rfl) (me_bin opm_add (me_var (pv 2)) (me_if (mt_cmp (opm_eq (by exact hr.units)) (me_var (pv 2)) (me_lst ma_nil) (nomark _)) (me_lst ma_nil) (me_lst (ma_cons me_str ma_nil)))))
  (mss_one (ms_set (i := 2) sc_set_tokens.nd rfl (by first | exact Or.inl rfl | exact Or.inr rfl) (me_bin opm_add (me_var (pv 2)) (me_lst (ma_cons (me_ix (me_ix (me_var (pv 1)) (me_var (pv 3))) me_int) (ma_cons (me_var (pv 4)) (ma_cons (me_if (mt_cmp opm_lt (me_var (pv 5)) me_int (nomark _)) (me_callTy cm_str (by rfl) T.b_str rfl (ma_cons (me_var (pv 6)) ma_nil)) (me_ix (me_ix (me_var (pv 1)) (me_var (pv 5))) me_int)) ma_nil)))))))))
  (mss_one (ms_ret (me_var (pv 2))))))
theorem ok_number {f : Addr} {fd : FuncData} (F : L2.Fun K "_law_number" "_law_number" s_number f fd) (T : Tx K mg cTable cSets cBadTable cBadSets cStuck) (c_draw : FnM P w K mg base "_law_draw" 1 2 F_draw) : FnOk P w K mg base (L2.CX P w) 2 f fd ["_law_bag_here", "_law_top"] (spOf ⟨K, mg, P, w⟩ 2 F_number) := by
  refine fn_ok (k := 1) F sc_number rfl fun cdv A outer s H E hr => ?_
  unfold B_number 
  exact (mss_cons (ms_if (mt_cmp (opm_eq (by exact hr.units)) (me_call c_draw (hr.mono (by decide)) (by exact takes_of rfl rfl rfl rfl) (by rfl) (ma_cons (me_var (pv 0)) (ma_cons me_int ma_nil))) me_int (nomark _))
  (mss_one (ms_ret (me_call c_draw (hr.mono (by decide)) (by exact takes_of rfl rfl rfl rfl) (by rfl) (ma_cons (me_var (pv 0)) (ma_cons me_int ma_nil)))))
  mss_nil)
  (mss_one (ms_ret (me_call c_draw (hr.mono (by decide)) (by exact takes_of rfl rfl rfl rfl) (by rfl) (ma_cons (me_var (pv 0)) (ma_cons (me_bin opm_add (me_var (pv 1)) me_int) ma_nil))))))
theorem ok_sets {f : Addr} {fd : FuncData} (F : L2.Fun K "_law_sets" "_law_sets" s_sets f fd) (T : Tx K mg cTable cSets cBadTable cBadSets cStuck) (c_draw : FnM P w K mg base "_law_draw" 1 2 F_draw) (c_number : FnM P w K mg base "_law_number" 2 2 F_number) (c_pick : FnM P w K mg base "_law_pick" 2 2 F_pick) : FnOk P w K mg base (L2.CX P w) 3 f fd ["_law_bag_here", "_law_columns_here"] (spOf ⟨K, mg, P, w⟩ 2 F_sets) := by
  refine fn_ok (k := 2) F sc_sets rfl fun cdv A outer s H E hr => ?_
  unfold B_sets L_sets_1
  exact (mss_cons (ms_par2 (i := 2) (j := 3) rfl sc_sets.nd rfl rfl (by decide) rfl rfl (ma_cons (me_FS (by exact mf_lc (own := [("_law_k", 4)]) rfl sc_sets.nd (mi_range1 (by rfl) T.b_range (ma_cons (me_callB cm_len (by rfl) T.b_len rfl (ma_cons (me_var (pv 1)) ma_nil)) ma_nil)) (blkOk_by (N := N_sets) (sc := defScope s_sets) (own := [("_law_k", 4)]) (by decide +kernel)) (fun _ _ _ _ _ => pg_name (i := 4) sc_sets.nd rfl (by first | exact Or.inl rfl | exact Or.inr rfl)) (ctg_name (by decide)) (tgpl_name (i := 4)) (fun _ _ _ _ _ => pts_nil) ttok_yes (fun _ _ _ _ _ => (me_var (pv 4))))) (ma_cons (me_lstS ma_nil) ma_nil)) (by rfl))
  (mss_cons (ms_for (passes_of rfl) rfl (mi_range1 (by rfl) T.b_range (ma_cons (me_bin opm_add me_int (me_call c_draw (hr.mono (by decide)) (by exact takes_of rfl rfl rfl rfl) (by rfl) (ma_cons (me_var (pv 0)) (ma_cons (me_callB cm_len (by rfl) T.b_len rfl (ma_cons (me_var (pv 1)) ma_nil)) ma_nil)))) ma_nil)) (mg_name (i := 5) sc_sets.nd rfl (by first | exact Or.inl rfl | exact Or.inr rfl))
  (mss_cons (ms_set (i := 4) sc_sets.nd rfl (by first | exact Or.inl rfl | exact Or.inr rfl) (me_mtd mtd_popAt PySem.F.slot_list_pop PySem.F.type_list_pop (me_var (pv 2)) (ma_cons (me_call c_draw (hr.mono (by decide)) (by exact takes_of rfl rfl rfl rfl) (by rfl) (ma_cons (me_var (pv 0)) (ma_cons (me_callB cm_len (by rfl) T.b_len rfl (ma_cons (me_var (pv 2)) ma_nil)) ma_nil))) ma_nil)))
  (mss_cons (ms_par2 (i := 6) (j := 7) rfl sc_sets.nd rfl rfl (by decide) rfl rfl (ma_cons (me_call c_pick (hr.mono (by decide)) (by exact takes_of rfl rfl rfl rfl) (by rfl) (ma_cons (me_var (pv 0)) (ma_cons (me_lst (ma_cons me_str (ma_cons me_str (ma_cons me_str (ma_cons me_str ma_nil))))) ma_nil))) (ma_cons (me_neg me_int) ma_nil)) (by rfl))
  (mss_cons (ms_if (PW.pt (mw_and (mt_cmp (opm_eq (by exact hr.units)) (me_var (pv 6)) me_str (nomark _)) (mw_and1 (mt_cmp (opm_eq (by exact hr.units)) (me_call c_draw (hr.mono (by decide)) (by exact takes_of rfl rfl rfl rfl) (by rfl) (ma_cons (me_var (pv 0)) (ma_cons me_int ma_nil))) me_int (nomark _)))))
  (mss_one (ms_set (i := 7) sc_sets.nd rfl (by first | exact Or.inl rfl | exact Or.inr rfl) (me_call c_draw (hr.mono (by decide)) (by exact takes_of rfl rfl rfl rfl) (by rfl) (ma_cons (me_var (pv 0)) (ma_cons (me_callB cm_len (by rfl) T.b_len rfl (ma_cons (me_var (pv 1)) ma_nil)) ma_nil)))))
  mss_nil)
  (mss_one (ms_expr (me_mtd mtd_append PySem.F.slot_list_append PySem.F.type_list_append (me_var (pv 3)) (ma_cons (me_tup (ma_cons (me_var (pv 4)) (ma_cons (me_var (pv 6)) (ma_cons (me_var (pv 7)) (ma_cons (me_call c_number (hr.mono (by decide)) (by exact takes_of rfl rfl rfl rfl) (by rfl) (ma_cons (me_var (pv 0)) (ma_cons (me_ix (me_ix (me_var (pv 1)) (me_var (pv 4))) me_int) ma_nil))) ma_nil))))) ma_nil))))))))
  (mss_one (ms_ret (me_var (pv 3))))))
theorem ok_odd {f : Addr} {fd : FuncData} (F : L2.Fun K "_law_odd" "_law_odd" s_odd f fd) (T : Tx K mg cTable cSets cBadTable cBadSets cStuck)  : FnOk P w K mg base (L2.CX P w) 1 f fd ["_law_columns_here"] (spOf ⟨K, mg, P, w⟩ 1 F_odd) := by
  refine fn_ok (k := 0) F sc_odd rfl fun cdv A outer s H E hr => ?_
  unfold B_odd 
  exact (mss_cons (ms_set (i := 1) sc_odd.nd rfl (by first | exact Or.inl rfl | exact Or.inr rfl) (me_lst (ma_cons me_str (ma_cons me_str (ma_cons me_str (ma_cons me_str (ma_cons me_str (ma_cons me_str (ma_cons me_str (ma_cons me_str (ma_cons me_str (ma_cons me_str (ma_cons me_str (ma_cons me_str (ma_cons me_str (ma_cons me_str (ma_cons me_str (ma_cons me_str (ma_cons me_str (ma_cons me_str (ma_cons me_str (ma_cons me_str (ma_cons me_str (ma_cons me_str (ma_cons me_str (ma_cons me_str (ma_cons me_str (ma_cons me_str (ma_cons me_str (ma_cons me_str (ma_cons me_str (ma_cons me_str (ma_cons me_str (ma_cons me_str (ma_cons me_str (ma_cons me_str (ma_cons me_str (ma_cons me_str (ma_cons me_str (ma_cons me_str (ma_cons me_str (ma_cons me_str (ma_cons me_str (ma_cons me_str (ma_cons me_str (ma_cons me_str (ma_cons me_str (ma_cons me_str ma_nil))))))))))))))))))))))))))))))))))))))))))))))))
  (mss_one (ms_ret (me_bin opm_add (me_bin opm_add (me_var (pv 1)) (me_F (by exact mf_lc (own := [("_law_word_here", 2), ("_law_top", 3)]) rfl sc_odd.nd (mi_over (me_var (pv 0))) (blkOk_by (N := N_odd) (sc := defScope s_odd) (own := [("_law_word_here", 2), ("_law_top", 3)]) (by decide +kernel)) (fun _ _ _ _ _ => pg_tup rfl (pgs_cons (pg_name (i := 2) sc_odd.nd rfl (by first | exact Or.inl rfl | exact Or.inr rfl)) (pgs_cons (pg_name (i := 3) sc_odd.nd rfl (by first | exact Or.inl rfl | exact Or.inr rfl)) pgs_nil))) (ctg_pair (by decide) (by decide)) (tgpl_pair (i := 2) (j := 3)) (fun _ _ _ _ _ => pts_nil) ttok_yes (fun _ _ _ _ _ => (me_var (pv 2)))))) (me_F (by exact mf_lc (own := [("_law_word_here", 2), ("_law_top", 3)]) rfl sc_odd.nd (mi_over (me_var (pv 0))) (blkOk_by (N := N_odd) (sc := defScope s_odd) (own := [("_law_word_here", 2), ("_law_top", 3)]) (by decide +kernel)) (fun _ _ _ _ _ => pg_tup rfl (pgs_cons (pg_name (i := 2) sc_odd.nd rfl (by first | exact Or.inl rfl | exact Or.inr rfl)) (pgs_cons (pg_name (i := 3) sc_odd.nd rfl (by first | exact Or.inl rfl | exact Or.inr rfl)) pgs_nil))) (ctg_pair (by decide) (by decide)) (tgpl_pair (i := 2) (j := 3)) (fun _ _ _ _ _ => pts_nil) ttok_yes (fun _ _ _ _ _ => (me_var (pv 2)))))))))
theorem ok_sort {f : Addr} {fd : FuncData} (F : L2.Fun K "_law_sort" "_law_sort" s_sort f fd) (T : Tx K mg cTable cSets cBadTable cBadSets cStuck)  : FnOk P w K mg base (L2.CX P w) 1 f fd ["_law_sign"] (spOf ⟨K, mg, P, w⟩ 1 F_sort) := by
  refine fn_ok (k := 0) F sc_sort rfl fun cdv A outer s H E hr => ?_
  unfold B_sort 
  exact (mss_cons (ms_if (mt_cmp opm_in (me_var (pv 0)) me_str (by rfl))
  (mss_one (ms_ret me_int))
  mss_nil)
  (mss_cons (ms_if (mt_cmp opm_in (me_var (pv 0)) me_str (by rfl))
  (mss_one (ms_ret me_int))
  mss_nil)
  (mss_one (ms_ret (me_if (mt_cmp opm_in (me_var (pv 0)) me_str (by rfl)) me_int me_int)))))
theorem ok_spread {f : Addr} {fd : FuncData} (F : L2.Fun K "_law_spread" "_law_spread" s_spread f fd) (T : Tx K mg cTable cSets cBadTable cBadSets cStuck) (c_draw : FnM P w K mg base "_law_draw" 1 2 F_draw) (c_sort : FnM P w K mg base "_law_sort" 1 1 F_sort) : FnOk P w K mg base (L2.CX P w) 2 f fd ["_law_bag_here", "_law_tokens"] (spOf ⟨K, mg, P, w⟩ 2 F_spread) := by
  refine fn_ok (k := 1) F sc_spread rfl fun cdv A outer s H E hr => ?_
  unfold B_spread 
  exact (mss_cons (ms_par2 (i := 2) (j := 3) rfl sc_spread.nd rfl rfl (by decide) rfl rfl (ma_cons (me_bin opm_mulS me_str (me_callTy cm_int (by rfl) T.b_int rfl (ma_cons (me_cmp (opm_eq (by exact hr.units)) (me_call c_draw (hr.mono (by decide)) (by exact takes_of rfl rfl rfl rfl) (by rfl) (ma_cons (me_var (pv 0)) (ma_cons me_int ma_nil))) me_int (nomark _)) ma_nil))) (ma_cons (me_lstS ma_nil) ma_nil)) (by rfl))
  (mss_cons (ms_for (passes_of rfl) rfl (mi_range1 (by rfl) T.b_range (ma_cons (me_callB cm_len (by rfl) T.b_len rfl (ma_cons (me_var (pv 1)) ma_nil)) ma_nil)) (mg_name (i := 4) sc_spread.nd rfl (by first | exact Or.inl rfl | exact Or.inr rfl))
  (mss_cons (ms_expr (me_mtd mtd_append PySem.F.slot_list_append PySem.F.type_list_append (me_var (pv 3)) (ma_cons (me_callB cm_len (by rfl) T.b_len rfl (ma_cons (me_var (pv 2)) ma_nil)) ma_nil)))
  (mss_cons (ms_set (i := 2) sc_spread.nd rfl (by first | exact Or.inl rfl | exact Or.inr rfl) (me_bin opm_add (me_var (pv 2)) (me_ix (me_var (pv 1)) (me_var (pv 4)))))
  (mss_one (ms_if (mt_cmp opm_lt (me_bin opm_add (me_var (pv 4)) me_int) (me_callB cm_len (by rfl) T.b_len rfl (ma_cons (me_var (pv 1)) ma_nil)) (nomark _))
  (mss_cons (ms_par2 (i := 5) (j := 6) rfl sc_spread.nd rfl rfl (by decide) rfl rfl (ma_cons (me_call c_sort (hr.mono (by decide)) (by exact takes_of rfl rfl rfl rfl) (by rfl) (ma_cons (me_ix (me_ix (me_var (pv 1)) (me_var (pv 4))) (me_neg me_int)) ma_nil)) (ma_cons (me_call c_sort (hr.mono (by decide)) (by exact takes_of rfl rfl rfl rfl) (by rfl) (ma_cons (me_ix (me_ix (me_var (pv 1)) (me_bin opm_add (me_var (pv 4)) me_int)) me_int) ma_nil)) ma_nil)) (by rfl))
  (mss_one (ms_set (i := 2) sc_spread.nd rfl (by first | exact Or.inl rfl | exact Or.inr rfl) (me_bin opm_add (me_var (pv 2)) (me_bin opm_mulS me_str (me_bin opm_add (me_callTy cm_int (by rfl) T.b_int rfl (ma_cons (me_chain (opm_eq (by exact hr.units)) (opm_ne (by exact hr.units)) (me_var (pv 5)) (me_var (pv 6)) me_int) ma_nil)) (me_ix (me_lst (ma_cons me_int (ma_cons me_int (ma_cons me_int (ma_cons me_int (ma_cons me_int (ma_cons me_int ma_nil))))))) (me_call c_draw (hr.mono (by decide)) (by exact takes_of rfl rfl rfl rfl) (by rfl) (ma_cons (me_var (pv 0)) (ma_cons me_int ma_nil))))))))))
  mss_nil)))))
  (mss_one (ms_ret (me_tup (ma_cons (me_bin opm_add (me_var (pv 2)) (me_bin opm_mulS me_str (me_ix (me_lst (ma_cons me_int (ma_cons me_int (ma_cons me_int (ma_cons me_int ma_nil))))) (me_call c_draw (hr.mono (by decide)) (by exact takes_of rfl rfl rfl rfl) (by rfl) (ma_cons (me_var (pv 0)) (ma_cons me_int ma_nil)))))) (ma_cons (me_var (pv 3)) ma_nil)))))))
theorem ok_is_number {f : Addr} {fd : FuncData} (F : L2.Fun K "_law_is_number" "_law_is_number" s_is_number f fd) (T : Tx K mg cTable cSets cBadTable cBadSets cStuck)  : FnOk P w K mg base (L2.CX P w) 1 f fd ["_law_token"] (spOf ⟨K, mg, P, w⟩ 1 F_is_number) := by
  refine fn_ok (k := 0) F sc_is_number rfl fun cdv A outer s H E hr => ?_
  unfold B_is_number 
  exact (mss_cons (setLc (i := 1) (own := [("_law_sign", 2)]) rfl sc_is_number.nd rfl rfl (by rfl) (mi_over (me_var (pv 0))) (blkOk_by (N := N_is_number) (sc := defScope s_is_number) (own := [("_law_sign", 2)]) (by decide +kernel)) (fun _ _ _ _ _ => pg_name (i := 2) sc_is_number.nd rfl (by first | exact Or.inl rfl | exact Or.inr rfl)) (ctg_name (by decide)) (tgpl_name (i := 2)) (fun _ _ _ _ _ => pts_one (mt_cmp opm_in (me_var (pv 2)) me_str (by rfl))) ttok_one (fun _ _ _ _ _ => (me_var (pv 2))) hw_in)
  (mss_one (ms_ret (me_and (me_chain opm_le opm_le me_int (me_callB cm_len (by rfl) T.b_len rfl (ma_cons (me_var (pv 1)) ma_nil)) me_int) (me_and (me_cmp (opm_eq (by exact hr.units)) (me_callB cm_len (by rfl) T.b_len rfl (ma_cons (me_var (pv 1)) ma_nil)) (me_callB cm_len (by rfl) T.b_len rfl (ma_cons (me_var (pv 0)) ma_nil)) (nomark _)) (me_one (me_or (me_cmp (opm_ne (by exact hr.units)) (me_ix (me_var (pv 0)) me_int) me_str (nomark _)) (me_one (me_cmp (opm_eq (by exact hr.units)) (me_var (pv 0)) me_str (nomark _))))))))))
theorem ok_walk_sets {f : Addr} {fd : FuncData} (F : L2.Fun K "_law_walk_sets" "_law_walk_sets" s_walk_sets f fd) (T : Tx K mg cTable cSets cBadTable cBadSets cStuck) (c_is_number : FnM P w K mg base "_law_is_number" 1 1 F_is_number) : FnOk P w K mg base (L2.CX P w) 2 f fd ["_law_tokens", "_law_at", "_law_words"] (spOf ⟨K, mg, P, w⟩ 3 F_walk_sets) := by
  refine fn_ok (k := 1) F sc_walk_sets rfl fun cdv A outer s H E hr => ?_
  unfold B_walk_sets L_walk_sets_1
  exact (mss_cons (ms_par2 (i := 3) (j := 4) rfl sc_walk_sets.nd rfl rfl (by decide) rfl rfl (ma_cons me_str (ma_cons (me_lstS ma_nil) ma_nil)) (by rfl))
  (mss_cons (ms_for (passes_of rfl) rfl (mi_range2 (by rfl) T.b_range (ma_cons (me_var (pv 1)) (ma_cons (me_bin opm_add (me_callB cm_len (by rfl) T.b_len rfl (ma_cons (me_var (pv 0)) ma_nil)) me_int) ma_nil))) (mg_name (i := 5) sc_walk_sets.nd rfl (by first | exact Or.inl rfl | exact Or.inr rfl))
  (mss_cons (ms_set (i := 6) sc_walk_sets.nd rfl (by first | exact Or.inl rfl | exact Or.inr rfl) (me_if (mt_cmp opm_lt (me_var (pv 5)) (me_callB cm_len (by rfl) T.b_len rfl (ma_cons (me_var (pv 0)) ma_nil)) (nomark _)) (me_ix (me_var (pv 0)) (me_var (pv 5))) me_str))
  (mss_one (ms_if (PW.pt (mw_and (mt_cmp (opm_eq (by exact hr.units)) (me_var (pv 3)) me_str (nomark _)) (mw_and (mt_cmp opm_in (me_var (pv 6)) (me_var (pv 2)) (by rfl)) (mw_and1 (mt_cmp opm_notIn (me_var (pv 6)) (me_var (pv 4)) (by rfl))))))
  (mss_cons (ms_expr (me_mtd mtd_append PySem.F.slot_list_append PySem.F.type_list_append (me_var (pv 4)) (ma_cons (me_var (pv 6)) ma_nil)))
  (mss_one (ms_set (i := 3) sc_walk_sets.nd rfl (by first | exact Or.inl rfl | exact Or.inr rfl) me_str)))
  (mss_one (ms_if (PW.pt (mw_and (mt_cmp (opm_eq (by exact hr.units)) (me_var (pv 3)) me_str (nomark _)) (mw_and1 (mt_cmp opm_in (me_var (pv 6)) (me_lst (ma_cons me_str (ma_cons me_str (ma_cons me_str ma_nil)))) (by rfl)))))
  (mss_one (ms_set (i := 3) sc_walk_sets.nd rfl (by first | exact Or.inl rfl | exact Or.inr rfl) (me_if (mt_cmp (opm_eq (by exact hr.units)) (me_var (pv 6)) me_str (nomark _)) me_str me_str)))
  (mss_one (ms_if (PW.pt (mw_or (PW.pt (mw_and (mt_cmp opm_in (me_var (pv 3)) (me_lst (ma_cons me_str (ma_cons me_str ma_nil))) (by rfl)) (mw_and1 (mt_val (me_call c_is_number (hr.mono (by decide)) (by exact takes_of rfl rfl rfl rfl) (by rfl) (ma_cons (me_var (pv 6)) ma_nil)))))) (mw_or1 (PW.pt (mw_and (mt_cmp (opm_eq (by exact hr.units)) (me_var (pv 3)) me_str (nomark _)) (mw_and1 (mt_cmp opm_in (me_var (pv 6)) (me_var (pv 2)) (by rfl))))))))
  (mss_one (ms_set (i := 3) sc_walk_sets.nd rfl (by first | exact Or.inl rfl | exact Or.inr rfl) me_str))
  (mss_one (ms_if (PW.pt (mw_and (mt_cmp (opm_eq (by exact hr.units)) (me_var (pv 3)) me_str (nomark _)) (mw_and (mt_cmp (opm_eq (by exact hr.units)) (me_var (pv 6)) me_str (nomark _)) (mw_and1 (mt_cmp opm_lt (me_callB cm_len (by rfl) T.b_len rfl (ma_cons (me_var (pv 4)) ma_nil)) (me_callB cm_len (by rfl) T.b_len rfl (ma_cons (me_var (pv 2)) ma_nil)) (nomark _))))))
  (mss_one (ms_set (i := 3) sc_walk_sets.nd rfl (by first | exact Or.inl rfl | exact Or.inr rfl) me_str))
  (mss_one (ms_ret (me_tup (ma_cons (me_and (me_cmp (opm_eq (by exact hr.units)) (me_var (pv 3)) me_str (nomark _)) (me_one (me_cmp (opm_ne (by exact hr.units)) (me_var (pv 6)) me_str (nomark _)))) (ma_cons (me_var (pv 5)) ma_nil)))))))))))))))
  (mss_one (ms_ret (me_tup (ma_cons me_bl (ma_cons (me_callB cm_len (by rfl) T.b_len rfl (ma_cons (me_var (pv 0)) ma_nil)) ma_nil)))))))
theorem ok_P_token_end {f : Addr} {fd : FuncData} (F : L2.Fun K "token_end" "token_end" s_P_token_end f fd) (T : Tx K mg cTable cSets cBadTable cBadSets cStuck)  : FnOk P w K mg base (L2.CX P w) 1 f fd ["text", "at"] (spOf ⟨K, mg, P, w⟩ 2 F_P_token_end) := by
  refine fn_ok (k := 0) F sc_P_token_end rfl fun cdv A outer s H E hr => ?_
  unfold B_P_token_end 
  exact (mss_cons (ms_for (passes_of rfl) rfl (mi_over (me_tup (ma_cons (me_globS (by rfl) T.g_LETTERS) (ma_cons (me_globS (by rfl) T.g_DIGITS) ma_nil)))) (mg_name (i := 2) sc_P_token_end.nd rfl (by first | exact Or.inl rfl | exact Or.inr rfl))
  (mss_one (ms_if (mt_cmp opm_in (me_ix (me_var (pv 0)) (me_var (pv 1))) (me_var (pv 2)) (by rfl))
  (mss_cons (ms_set (i := 3) sc_P_token_end.nd rfl (by first | exact Or.inl rfl | exact Or.inr rfl) (me_var (pv 1)))
  (mss_cons (ms_while (n := 200) (passes_of rfl) (PW.pt (mw_and (mt_cmp opm_lt (me_var (pv 3)) (me_callB cm_len (by rfl) T.b_len rfl (ma_cons (me_var (pv 0)) ma_nil)) (nomark _)) (mw_and1 (mt_cmp opm_in (me_ix (me_var (pv 0)) (me_var (pv 3))) (me_var (pv 2)) (by rfl)))))
  (mss_one (ms_set (i := 3) sc_P_token_end.nd rfl (by first | exact Or.inl rfl | exact Or.inr rfl) (me_bin opm_add (me_var (pv 3)) me_int))))
  (mss_one (ms_ret (me_var (pv 3))))))
  mss_nil)))
  (mss_one (ms_ret (me_if (mt_cmp opm_in (me_cut (me_var (pv 0)) (mo_some (me_var (pv 1))) (mo_some (me_bin opm_add (me_var (pv 1)) me_int))) (me_globT (by rfl) T.g_PAIRS) (by rfl)) (me_bin opm_add (me_var (pv 1)) me_int) (me_bin opm_add (me_var (pv 1)) me_int)))))
theorem ok_P_tokens_of {f : Addr} {fd : FuncData} (F : L2.Fun K "tokens_of" "tokens_of" s_P_tokens_of f fd) (T : Tx K mg cTable cSets cBadTable cBadSets cStuck) (c_P_token_end : FnM P w K mg base "token_end" 1 2 F_P_token_end) : FnOk P w K mg base (L2.CX P w) 2 f fd ["text"] (spOf ⟨K, mg, P, w⟩ 1 F_P_tokens_of) := by
  refine fn_ok (k := 1) F sc_P_tokens_of rfl fun cdv A outer s H E hr => ?_
  unfold B_P_tokens_of 
  exact (mss_cons (ms_setOwn (i := 1) sc_P_tokens_of.nd rfl (by first | exact Or.inl rfl | exact Or.inr rfl) (mf_lst ma_nil))
  (mss_cons (ms_set (i := 2) sc_P_tokens_of.nd rfl (by first | exact Or.inl rfl | exact Or.inr rfl) me_int)
  (mss_cons (ms_while (n := 200) (passes_of rfl) (mt_cmp opm_lt (me_var (pv 2)) (me_callB cm_len (by rfl) T.b_len rfl (ma_cons (me_var (pv 0)) ma_nil)) (nomark _))
  (mss_cons (ms_set (i := 3) sc_P_tokens_of.nd rfl (by first | exact Or.inl rfl | exact Or.inr rfl) (me_call c_P_token_end (hr.mono (by decide)) (by exact takes_of rfl rfl rfl rfl) (by rfl) (ma_cons (me_var (pv 0)) (ma_cons (me_var (pv 2)) ma_nil))))
  (mss_cons (ms_if (mt_cmp (opm_ne (by exact hr.units)) (me_ix (me_var (pv 0)) (me_var (pv 2))) me_str (nomark _))
  (mss_one (ms_ownApp (pv 1) (me_tup (ma_cons (me_cut (me_var (pv 0)) (mo_some (me_var (pv 2))) (mo_some (me_var (pv 3)))) (ma_cons (me_var (pv 2)) ma_nil)))))
  mss_nil)
  (mss_one (ms_set (i := 2) sc_P_tokens_of.nd rfl (by first | exact Or.inl rfl | exact Or.inr rfl) (me_var (pv 3)))))))
  (mss_cons (ms_ownApp (pv 1) (me_tup (ma_cons me_str (ma_cons (me_callB cm_len (by rfl) T.b_len rfl (ma_cons (me_var (pv 0)) ma_nil)) ma_nil))))
  (mss_one (ms_retOwn (pv 1)))))))
theorem ok_P_passed {f : Addr} {fd : FuncData} (F : L2.Fun K "passed" "passed" s_P_passed f fd) (T : Tx K mg cTable cSets cBadTable cBadSets cStuck) (x_Stuck : ExcM P w K mg base "Stuck" "at" 1) : FnOk P w K mg base (L2N.CX P w) 3 f fd ["tokens", "at", "allowed"] (spOf ⟨K, mg, P, w⟩ 3 F_P_passed) := by
  refine fn_okN (k := 2) F sc_P_passed rfl fun cdv A outer s H E hr => ?_
  unfold B_P_passed 
  exact (mss_cons (ms_asg (me_ix (me_var (pv 0)) (me_var (pv 1))) (mg_tup rfl (mgs_cons (mg_name (i := 3) sc_P_passed.nd rfl (by first | exact Or.inl rfl | exact Or.inr rfl)) (mgs_cons (mg_name (i := 4) sc_P_passed.nd rfl (by first | exact Or.inl rfl | exact Or.inr rfl)) mgs_nil))) (hT := ((tgok_tup (tgsok_cons tgok_name (tgsok_cons tgok_name tgsok_nil)))).use))
  (mss_cons (ms_if (mt_cmp opm_notIn (me_var (pv 3)) (me_var (pv 2)) (by rfl))
  (mss_one (ms_raiseN rfl x_Stuck (hr.mono (by decide)) (by exact L2N.takes_of rfl rfl rfl rfl) (by rfl) (me_var (pv 4))))
  mss_nil)
  (mss_one (ms_ret (me_bin opm_add (me_var (pv 1)) me_int)))))
theorem ok_P_read_column {f : Addr} {fd : FuncData} (F : L2.Fun K "read_column" "read_column" s_P_read_column f fd) (T : Tx K mg cTable cSets cBadTable cBadSets cStuck) (x_Stuck : ExcM P w K mg base "Stuck" "at" 1) : FnOk P w K mg base (L2N.CX P w) 3 f fd ["tokens", "at", "table"] (spOf ⟨K, mg, P, w⟩ 3 F_P_read_column) := by
  refine fn_okN (k := 2) F sc_P_read_column rfl fun cdv A outer s H E hr => ?_
  unfold B_P_read_column L_P_read_column_1
  exact (mss_cons (ms_asg (me_ix (me_var (pv 0)) (me_var (pv 1))) (mg_tup rfl (mgs_cons (mg_name (i := 3) sc_P_read_column.nd rfl (by first | exact Or.inl rfl | exact Or.inr rfl)) (mgs_cons (mg_name (i := 4) sc_P_read_column.nd rfl (by first | exact Or.inl rfl | exact Or.inr rfl)) mgs_nil))) (hT := ((tgok_tup (tgsok_cons tgok_name (tgsok_cons tgok_name tgsok_nil)))).use))
  (mss_cons (ms_for (passes_of rfl) rfl (mi_enumT (by rfl) T.b_enumerate (ma_cons (me_un (me_fld (T.fd_Table_columns) (me_var (pv 2)))) ma_nil)) (mg_tup rfl (mgs_cons (mg_name (i := 5) sc_P_read_column.nd rfl (by first | exact Or.inl rfl | exact Or.inr rfl)) (mgs_cons (mg_name (i := 6) sc_P_read_column.nd rfl (by first | exact Or.inl rfl | exact Or.inr rfl)) mgs_nil)))
  (mss_one (ms_if (mt_cmp (opm_eq (by exact hr.units)) (me_var (pv 6)) (me_var (pv 3)) (nomark _))
  (mss_one (ms_ret (me_tup (ma_cons (me_var (pv 5)) (ma_cons (me_bin opm_add (me_var (pv 1)) me_int) ma_nil)))))
  mss_nil)))
  (mss_one (ms_raiseN rfl x_Stuck (hr.mono (by decide)) (by exact L2N.takes_of rfl rfl rfl rfl) (by rfl) (me_var (pv 4))))))
theorem ok_P_read_number {f : Addr} {fd : FuncData} (F : L2.Fun K "read_number" "read_number" s_P_read_number f fd) (T : Tx K mg cTable cSets cBadTable cBadSets cStuck) (x_Stuck : ExcM P w K mg base "Stuck" "at" 1) : FnOk P w K mg base (L2N.CX P w) 3 f fd ["tokens", "at"] (spOf ⟨K, mg, P, w⟩ 2 F_P_read_number) := by
  refine fn_okN (k := 2) F sc_P_read_number rfl fun cdv A outer s H E hr => ?_
  unfold B_P_read_number 
  exact (mss_cons (ms_asg (me_ix (me_var (pv 0)) (me_var (pv 1))) (mg_tup rfl (mgs_cons (mg_name (i := 2) sc_P_read_number.nd rfl (by first | exact Or.inl rfl | exact Or.inr rfl)) (mgs_cons (mg_name (i := 3) sc_P_read_number.nd rfl (by first | exact Or.inl rfl | exact Or.inr rfl)) mgs_nil))) (hT := ((tgok_tup (tgsok_cons tgok_name (tgsok_cons tgok_name tgsok_nil)))).use))
  (mss_cons (ms_if (PW.pt (mw_or (mt_cmp (opm_eq (by exact hr.units)) (me_var (pv 2)) me_str (nomark _)) (mw_or (mt_cmp opm_notIn (me_ix (me_var (pv 2)) me_int) (me_globS (by rfl) T.g_DIGITS) (by rfl)) (mw_or1 (mt_cmp opm_gt (me_callB cm_len (by rfl) T.b_len rfl (ma_cons (me_var (pv 2)) ma_nil)) me_int (nomark _))))))
  (mss_one (ms_raiseN rfl x_Stuck (hr.mono (by decide)) (by exact L2N.takes_of rfl rfl rfl rfl) (by rfl) (me_var (pv 3))))
  mss_nil)
  (mss_cons (ms_if (PW.pt (mw_and (mt_cmp (opm_eq (by exact hr.units)) (me_ix (me_var (pv 2)) me_int) me_str (nomark _)) (mw_and1 (mt_cmp (opm_ne (by exact hr.units)) (me_var (pv 2)) me_str (nomark _)))))
  (mss_one (ms_raiseN rfl x_Stuck (hr.mono (by decide)) (by exact L2N.takes_of rfl rfl rfl rfl) (by rfl) (me_var (pv 3))))
  mss_nil)
  (mss_one (ms_ret (me_tup (ma_cons (me_callTy cm_intS (by rfl) T.b_int rfl (ma_cons (me_var (pv 2)) ma_nil)) (ma_cons (me_bin opm_add (me_var (pv 1)) me_int) ma_nil))))))))
theorem ok_P_read_term {f : Addr} {fd : FuncData} (F : L2.Fun K "read_term" "read_term" s_P_read_term f fd) (T : Tx K mg cTable cSets cBadTable cBadSets cStuck) (cn_P_read_column : FnMN P w K mg base "read_column" 3 3 F_P_read_column) (cn_P_read_number : FnMN P w K mg base "read_number" 3 2 F_P_read_number) : FnOk P w K mg base (L2N.CX P w) 4 f fd ["tokens", "at", "table"] (spOf ⟨K, mg, P, w⟩ 3 F_P_read_term) := by
  refine fn_okN (k := 3) F sc_P_read_term rfl fun cdv A outer s H E hr => ?_
  unfold B_P_read_term 
  exact (mss_cons (ms_if (mt_cmp opm_in (me_ix (me_ix (me_var (pv 0)) (me_var (pv 1))) me_int) (me_un (me_fld (T.fd_Table_columns) (me_var (pv 2)))) (by rfl))
  (mss_cons (ms_asg (me_callN cn_P_read_column (hr.mono (by decide)) (by exact L2N.takes_of rfl rfl rfl rfl) (by rfl) (ma_cons (me_var (pv 0)) (ma_cons (me_var (pv 1)) (ma_cons (me_var (pv 2)) ma_nil)))) (mg_tup rfl (mgs_cons (mg_name (i := 3) sc_P_read_term.nd rfl (by first | exact Or.inl rfl | exact Or.inr rfl)) (mgs_cons (mg_name (i := 4) sc_P_read_term.nd rfl (by first | exact Or.inl rfl | exact Or.inr rfl)) mgs_nil))) (hT := ((tgok_tup (tgsok_cons tgok_name (tgsok_cons tgok_name tgsok_nil)))).use))
  (mss_one (ms_ret (me_tup (ma_cons (me_tup (ma_cons me_bl (ma_cons (me_var (pv 3)) ma_nil))) (ma_cons (me_var (pv 4)) ma_nil))))))
  mss_nil)
  (mss_cons (ms_asg (me_callN cn_P_read_number (hr.mono (by decide)) (by exact L2N.takes_of rfl rfl rfl rfl) (by rfl) (ma_cons (me_var (pv 0)) (ma_cons (me_var (pv 1)) ma_nil))) (mg_tup rfl (mgs_cons (mg_name (i := 5) sc_P_read_term.nd rfl (by first | exact Or.inl rfl | exact Or.inr rfl)) (mgs_cons (mg_name (i := 4) sc_P_read_term.nd rfl (by first | exact Or.inl rfl | exact Or.inr rfl)) mgs_nil))) (hT := ((tgok_tup (tgsok_cons tgok_name (tgsok_cons tgok_name tgsok_nil)))).use))
  (mss_one (ms_ret (me_tup (ma_cons (me_tup (ma_cons me_bl (ma_cons (me_var (pv 5)) ma_nil))) (ma_cons (me_var (pv 4)) ma_nil)))))))
theorem ok_P_read_sets {f : Addr} {fd : FuncData} (F : L2.Fun K "read_sets" "read_sets" s_P_read_sets f fd) (T : Tx K mg cTable cSets cBadTable cBadSets cStuck) (cn_P_passed : FnMN P w K mg base "passed" 3 3 F_P_passed) (cn_P_read_number : FnMN P w K mg base "read_number" 3 2 F_P_read_number) (cn_P_read_term : FnMN P w K mg base "read_term" 4 3 F_P_read_term) (x_Stuck : ExcM P w K mg base "Stuck" "at" 1) : FnOk P w K mg base (L2N.CX P w) 5 f fd ["tokens", "at", "table"] (spOf ⟨K, mg, P, w⟩ 3 F_P_read_sets) := by
  refine fn_okN (k := 4) F sc_P_read_sets rfl fun cdv A outer s H E hr => ?_
  unfold B_P_read_sets L_P_read_sets_1
  exact (mss_cons (ms_set (i := 3) sc_P_read_sets.nd rfl (by first | exact Or.inl rfl | exact Or.inr rfl) (me_lstS ma_nil))
  (mss_cons (ms_set (i := 4) sc_P_read_sets.nd rfl (by first | exact Or.inl rfl | exact Or.inr rfl) (me_lstS ma_nil))
  (mss_one (ms_while (n := 10) (passes_of rfl) (mt_val me_bl)
  (mss_cons (ms_asg (me_ix (me_var (pv 0)) (me_var (pv 1))) (mg_tup rfl (mgs_cons (mg_name (i := 5) sc_P_read_sets.nd rfl (by first | exact Or.inl rfl | exact Or.inr rfl)) (mgs_cons (mg_name (i := 6) sc_P_read_sets.nd rfl (by first | exact Or.inl rfl | exact Or.inr rfl)) mgs_nil))) (hT := ((tgok_tup (tgsok_cons tgok_name (tgsok_cons tgok_name tgsok_nil)))).use))
  (mss_cons (ms_if (PW.pt (mw_or (mt_cmp opm_notIn (me_var (pv 5)) (me_un (me_fld (T.fd_Table_columns) (me_var (pv 2)))) (by rfl)) (mw_or1 (mt_cmp opm_in (me_var (pv 5)) (me_var (pv 4)) (by rfl)))))
  (mss_one (ms_raiseN rfl x_Stuck (hr.mono (by decide)) (by exact L2N.takes_of rfl rfl rfl rfl) (by rfl) (me_var (pv 6))))
  mss_nil)
  (mss_cons (ms_expr (me_mtd mtd_append PySem.F.slot_list_append PySem.F.type_list_append (me_var (pv 4)) (ma_cons (me_var (pv 5)) ma_nil)))
  (mss_cons (ms_set (i := 7) sc_P_read_sets.nd rfl (by first | exact Or.inl rfl | exact Or.inr rfl) (me_ix (me_ix (me_var (pv 0)) (me_bin opm_add (me_var (pv 1)) me_int)) me_int))
  (mss_cons (ms_set (i := 1) sc_P_read_sets.nd rfl (by first | exact Or.inl rfl | exact Or.inr rfl) (me_callN cn_P_passed (hr.mono (by decide)) (by exact L2N.takes_of rfl rfl rfl rfl) (by rfl) (ma_cons (me_var (pv 0)) (ma_cons (me_bin opm_add (me_var (pv 1)) me_int) (ma_cons (me_tup (ma_cons me_str (ma_cons me_str (ma_cons me_str ma_nil)))) ma_nil)))))
  (mss_cons (ms_if (mt_cmp (opm_eq (by exact hr.units)) (me_var (pv 7)) me_str (nomark _))
  (mss_one (ms_asg (me_callN cn_P_read_term (hr.mono (by decide)) (by exact L2N.takes_of rfl rfl rfl rfl) (by rfl) (ma_cons (me_var (pv 0)) (ma_cons (me_var (pv 1)) (ma_cons (me_var (pv 2)) ma_nil)))) (mg_tup rfl (mgs_cons (mg_name (i := 8) sc_P_read_sets.nd rfl (by first | exact Or.inl rfl | exact Or.inr rfl)) (mgs_cons (mg_name (i := 1) sc_P_read_sets.nd rfl (by first | exact Or.inl rfl | exact Or.inr rfl)) mgs_nil))) (hT := ((tgok_tup (tgsok_cons tgok_name (tgsok_cons tgok_name tgsok_nil)))).use)))
  (mss_cons (ms_asg (me_callN cn_P_read_number (hr.mono (by decide)) (by exact L2N.takes_of rfl rfl rfl rfl) (by rfl) (ma_cons (me_var (pv 0)) (ma_cons (me_var (pv 1)) ma_nil))) (mg_tup rfl (mgs_cons (mg_name (i := 9) sc_P_read_sets.nd rfl (by first | exact Or.inl rfl | exact Or.inr rfl)) (mgs_cons (mg_name (i := 1) sc_P_read_sets.nd rfl (by first | exact Or.inl rfl | exact Or.inr rfl)) mgs_nil))) (hT := ((tgok_tup (tgsok_cons tgok_name (tgsok_cons tgok_name tgsok_nil)))).use))
  (mss_one (ms_set (i := 8) sc_P_read_sets.nd rfl (by first | exact Or.inl rfl | exact Or.inr rfl) (me_tup (ma_cons me_bl (ma_cons (me_var (pv 9)) ma_nil)))))))
  (mss_cons (ms_expr (me_mtd mtd_append PySem.F.slot_list_append PySem.F.type_list_append (me_var (pv 3)) (ma_cons (me_tup (ma_cons (me_tix (me_fld (T.fd_Table_columns) (me_var (pv 2))) (me_var (pv 5))) (ma_cons (me_var (pv 7)) (ma_cons (me_var (pv 8)) ma_nil)))) ma_nil)))
  (mss_cons (ms_if (mt_cmp (opm_ne (by exact hr.units)) (me_ix (me_ix (me_var (pv 0)) (me_var (pv 1))) me_int) me_str (nomark _))
  (mss_one (ms_ret (me_tup (ma_cons (me_var (pv 3)) (ma_cons (me_var (pv 1)) ma_nil)))))
  mss_nil)
  (mss_cons (ms_if (mt_cmp (opm_eq (by exact hr.units)) (me_callB cm_len (by rfl) T.b_len rfl (ma_cons (me_var (pv 4)) ma_nil)) (me_callB cm_len (by rfl) T.b_len rfl (ma_cons (me_un (me_fld (T.fd_Table_columns) (me_var (pv 2)))) ma_nil)) (nomark _))
  (mss_one (ms_raiseN rfl x_Stuck (hr.mono (by decide)) (by exact L2N.takes_of rfl rfl rfl rfl) (by rfl) (me_ix (me_ix (me_var (pv 0)) (me_var (pv 1))) me_int)))
  mss_nil)
  (mss_one (ms_aug (i := 1) sc_P_read_sets.nd rfl (by first | exact Or.inl rfl | exact Or.inr rfl) me_int ipm_add)))))))))))))))
theorem ok_P_spaced {f : Addr} {fd : FuncData} (F : L2.Fun K "spaced" "spaced" s_P_spaced f fd) (T : Tx K mg cTable cSets cBadTable cBadSets cStuck) (c_P_tokens_of : FnM P w K mg base "tokens_of" 2 1 F_P_tokens_of) : FnOk P w K mg base (L2.CX P w) 3 f fd ["text"] (spOf ⟨K, mg, P, w⟩ 1 F_P_spaced) := by
  refine fn_ok (k := 2) F sc_P_spaced rfl fun cdv A outer s H E hr => ?_
  unfold B_P_spaced 
  exact (mss_one (ms_ret (me_sm1 mtd_join PySem.F.slot_str_join PySem.F.type_str_join me_str (me_F (by exact mf_lc (own := [("token", 1), ("_", 2)]) rfl sc_P_spaced.nd (mi_over (me_cut (me_call c_P_tokens_of (hr.mono (by decide)) (by exact takes_of rfl rfl rfl rfl) (by rfl) (ma_cons (me_var (pv 0)) ma_nil)) mo_none (mo_some (me_neg me_int)))) (blkOk_by (N := N_P_spaced) (sc := defScope s_P_spaced) (own := [("token", 1), ("_", 2)]) (by decide +kernel)) (fun _ _ _ _ _ => pg_tup rfl (pgs_cons (pg_name (i := 1) sc_P_spaced.nd rfl (by first | exact Or.inl rfl | exact Or.inr rfl)) (pgs_cons (pg_name (i := 2) sc_P_spaced.nd rfl (by first | exact Or.inl rfl | exact Or.inr rfl)) pgs_nil))) (ctg_pair (by decide) (by decide)) (tgpl_pair (i := 1) (j := 2)) (fun _ _ _ _ _ => pts_nil) ttok_yes (fun _ _ _ _ _ => (me_var (pv 1))))))))
theorem ok_P_Table_all_values {f : Addr} {fd : FuncData} (F : L2.Fun K "all_values" "Table.all_values" s_P_Table_all_values f fd) (T : Tx K mg cTable cSets cBadTable cBadSets cStuck)  : FnOk P w K mg base (L2.CX P w) 1 f fd ["self"] (spOf ⟨K, mg, P, w⟩ 1 F_P_Table_all_values) := by
  refine fn_ok (k := 0) F sc_P_Table_all_values rfl fun cdv A outer s H E hr => ?_
  unfold B_P_Table_all_values 
  exact (mss_one (ms_ret (me_callTy cm_list (by rfl) T.b_list rfl (ma_cons (me_fld (T.fd_Table_every) (me_var (pv 0))) ma_nil))))
theorem ok_P_term_value {f : Addr} {fd : FuncData} (F : L2.Fun K "term_value" "term_value" s_P_term_value f fd) (T : Tx K mg cTable cSets cBadTable cBadSets cStuck)  : FnOk P w K mg base (L2.CX P w) 1 f fd ["term", "values"] (spOf ⟨K, mg, P, w⟩ 2 F_P_term_value) := by
  refine fn_ok (k := 0) F sc_P_term_value rfl fun cdv A outer s H E hr => ?_
  unfold B_P_term_value 
  exact (mss_cons (ms_asg (me_var (pv 0)) (mg_tup rfl (mgs_cons (mg_name (i := 2) sc_P_term_value.nd rfl (by first | exact Or.inl rfl | exact Or.inr rfl)) (mgs_cons (mg_name (i := 3) sc_P_term_value.nd rfl (by first | exact Or.inl rfl | exact Or.inr rfl)) mgs_nil))) (hT := ((tgok_tup (tgsok_cons tgok_name (tgsok_cons tgok_name tgsok_nil)))).use))
  (mss_one (ms_ret (me_if (mt_val (me_var (pv 2))) (me_ix (me_var (pv 1)) (me_var (pv 3))) (me_var (pv 3))))))
theorem ok_P_new_values {f : Addr} {fd : FuncData} (F : L2.Fun K "new_values" "new_values" s_P_new_values f fd) (T : Tx K mg cTable cSets cBadTable cBadSets cStuck) (c_P_term_value : FnM P w K mg base "term_value" 1 2 F_P_term_value) : FnOk P w K mg base (L2.CX P w) 2 f fd ["items", "values", "table"] (spOf ⟨K, mg, P, w⟩ 3 F_P_new_values) := by
  refine fn_ok (k := 1) F sc_P_new_values rfl fun cdv A outer s H E hr => ?_
  unfold B_P_new_values L_P_new_values_1
  exact (mss_cons (ms_set (i := 3) sc_P_new_values.nd rfl (by first | exact Or.inl rfl | exact Or.inr rfl) (me_callTy cm_listS (by rfl) T.b_list rfl (ma_cons (me_var (pv 1)) ma_nil)))
  (mss_cons (ms_for (passes_of rfl) rfl (mi_over (me_var (pv 0))) (mg_tup rfl (mgs_cons (mg_name (i := 4) sc_P_new_values.nd rfl (by first | exact Or.inl rfl | exact Or.inr rfl)) (mgs_cons (mg_name (i := 5) sc_P_new_values.nd rfl (by first | exact Or.inl rfl | exact Or.inr rfl)) (mgs_cons (mg_name (i := 6) sc_P_new_values.nd rfl (by first | exact Or.inl rfl | exact Or.inr rfl)) mgs_nil))))
  (mss_cons (ms_set (i := 7) sc_P_new_values.nd rfl (by first | exact Or.inl rfl | exact Or.inr rfl) (me_call c_P_term_value (hr.mono (by decide)) (by exact takes_of rfl rfl rfl rfl) (by rfl) (ma_cons (me_var (pv 6)) (ma_cons (me_var (pv 1)) ma_nil))))
  (mss_cons (ms_if (mt_cmp (opm_eq (by exact hr.units)) (me_var (pv 5)) me_str (nomark _))
  (mss_one (ms_set (i := 7) sc_P_new_values.nd rfl (by first | exact Or.inl rfl | exact Or.inr rfl) (me_bin opm_add (me_ix (me_var (pv 1)) (me_var (pv 4))) (me_var (pv 7)))))
  (mss_one (ms_if (mt_cmp (opm_eq (by exact hr.units)) (me_var (pv 5)) me_str (nomark _))
  (mss_one (ms_set (i := 7) sc_P_new_values.nd rfl (by first | exact Or.inl rfl | exact Or.inr rfl) (me_bin opm_sub (me_ix (me_var (pv 1)) (me_var (pv 4))) (me_var (pv 7)))))
  mss_nil)))
  (mss_one (ms_asg (me_callB (cm_max rfl) (by rfl) T.b_max rfl (ma_cons me_int (ma_cons (me_callB (cm_min rfl) (by rfl) T.b_min rfl (ma_cons (me_var (pv 7)) (ma_cons (me_ix (me_fld (T.fd_Table_tops) (me_var (pv 2))) (me_var (pv 4))) ma_nil))) ma_nil))) (mg_sub (me_var (pv 3)) (me_var (pv 4))) (hT := (tgok_sub).use))))))
  (mss_one (ms_ret (me_callTy cm_tuple (by rfl) T.b_tuple rfl (ma_cons (me_var (pv 3)) ma_nil))))))
theorem ok_P_Sets_init {f : Addr} {fd : FuncData} (F : L2.Fun K "__init__" "Sets.__init__" s_P_Sets_init f fd) (T : Tx K mg cTable cSets cBadTable cBadSets cStuck) (c_P_new_values : FnM P w K mg base "new_values" 2 3 F_P_new_values) (c_P_spaced : FnM P w K mg base "spaced" 3 1 F_P_spaced) (c_P_tokens_of : FnM P w K mg base "tokens_of" 2 1 F_P_tokens_of) (cn_P_passed : FnMN P w K mg base "passed" 3 3 F_P_passed) (cn_P_read_sets : FnMN P w K mg base "read_sets" 5 3 F_P_read_sets) (m_P_Table_all_values : MethM P w K mg base "Table" "all_values" 1 1 F_P_Table_all_values) (xh_BadSets : ExcHM P w K mg base "BadSets" "at" 1) (x_BadSets : ExcM P w K mg base "BadSets" "at" 1) : FnOk P w K mg base (L2.CX P w) 6 f fd ["self", "text", "table"] (spOf ⟨K, mg, P, w⟩ 3 F_P_Sets_init) := by
  refine fn_ok (k := 5) F sc_P_Sets_init rfl fun cdv A outer s H E hr => ?_
  unfold B_P_Sets_init 
  exact (mss_cons (ms_if (mt_not (mt_val (me_callB cm_isi (by rfl) T.b_isinstance rfl (ma_cons (me_var (pv 1)) (ma_cons (me_bty (by rfl) T.b_str rfl) ma_nil)))))
  (mss_one (ms_raise rfl x_BadSets (hr.mono (by decide)) (by exact takes_of rfl rfl rfl rfl) (by rfl) (me_neg me_int)))
  mss_nil)
  (mss_cons (ms_set (i := 3) sc_P_Sets_init.nd rfl (by first | exact Or.inl rfl | exact Or.inr rfl) (me_call c_P_tokens_of (hr.mono (by decide)) (by exact takes_of rfl rfl rfl rfl) (by rfl) (ma_cons (me_var (pv 1)) ma_nil)))
  (mss_cons (ms_tryAsX (i := 6) (M := fun c => if c = "Stuck" then some true else none) (q := fun v => v = .ref cStuck) rfl rfl (fun hd => L2H.passesAt_of rfl hd) rfl sc_P_Sets_init.nd rfl rfl ⟨rfl, by decide, Or.inl T.k_Stuck⟩ (by exact takes_of rfl rfl rfl rfl) (exm_one T.k_Stuck T.te_Stuck)
  (fun W pn xe tk pass => (mss_cons (ms_asg (me_callN cn_P_read_sets (hr.mono (by decide)) tk (by rfl) (ma_cons (me_var (pv 3)) (ma_cons me_int (ma_cons (me_var (pv 2)) ma_nil)))) (mg_tup rfl (mgs_cons (mg_name (i := 4) sc_P_Sets_init.nd rfl (by first | exact Or.inl rfl | exact Or.inr rfl)) (mgs_cons (mg_name (i := 5) sc_P_Sets_init.nd rfl (by first | exact Or.inl rfl | exact Or.inr rfl)) mgs_nil))) (hT := ((tgok_tup (tgsok_cons tgok_name (tgsok_cons tgok_name tgsok_nil)))).use))
  (mss_one (ms_expr (me_callN cn_P_passed (hr.mono (by decide)) tk (by rfl) (ma_cons (me_var (pv 3)) (ma_cons (me_var (pv 5)) (ma_cons (me_tup (ma_cons me_str ma_nil)) ma_nil))))))))
  (fun a oe cls dd pn xe hq hz hf tkS => (mss_one (ms_raiseHX (hot_suite hz hf) xh_BadSets (L2H.roomH_mark (hr.mono (by decide)) _) tkS (by rfl) (PE.nox (me_exf T.xf_Stuck T.xn_Stuck_at hq hz.zc hf (pv 6)))))))
  (mss_cons (ms_fld (T.fd_Sets_table) (me_var (pv 0)) (me_var (pv 2)))
  (mss_cons (ms_fld (T.fd_Sets_text) (me_var (pv 0)) (me_call c_P_spaced (hr.mono (by decide)) (by exact takes_of rfl rfl rfl rfl) (by rfl) (ma_cons (me_var (pv 1)) ma_nil)))
  (mss_cons (ms_fld (T.fd_Sets_columns) (me_var (pv 0)) (me_callTy cm_tuple (by rfl) T.b_tuple rfl (ma_cons (me_F (by exact mf_lc (own := [("column", 7), ("_", 8)]) rfl sc_P_Sets_init.nd (mi_over (me_var (pv 4))) (blkOk_by (N := N_P_Sets_init) (sc := defScope s_P_Sets_init) (own := [("column", 7), ("_", 8)]) (by decide +kernel)) (fun _ _ _ _ _ => (pg_tup rfl (pgs_cons (pg_name (i := 7) sc_P_Sets_init.nd rfl (by first | exact Or.inl rfl | exact Or.inr rfl)) (pgs_cons (pg_name (i := 8) sc_P_Sets_init.nd rfl (by first | exact Or.inl rfl | exact Or.inr rfl)) (pgs_cons (pg_name (i := 8) sc_P_Sets_init.nd rfl (by first | exact Or.inl rfl | exact Or.inr rfl)) pgs_nil))))) (ctg_tup (ctgs_cons (tgpl_name (i := 7)) (ctg_name (by decide)) (ctgs_cons (tgpl_name (i := 8)) (ctg_name (by decide)) (ctgs_cons (tgpl_name (i := 8)) (ctg_name (by decide)) ctgs_nil)))) (tgpl_tup (tgspl_cons (tgpl_name (i := 7)) (tgspl_cons (tgpl_name (i := 8)) (tgspl_cons (tgpl_name (i := 8)) tgspl_nil)))) (fun _ _ _ _ _ => pts_nil) ttok_yes (fun _ _ _ _ _ => (me_ix (me_un (me_fld (T.fd_Table_columns) (me_var (pv 2)))) (me_var (pv 7)))))) ma_nil)))
  (mss_one (ms_fld (T.fd_Sets_results) (me_var (pv 0)) (me_dc (own := [("values", 9)]) (by exact hr.units0) rfl sc_P_Sets_init.nd (mi_over (me_meth0 m_P_Table_all_values (hr.mono (by decide)) (by exact takes_of rfl rfl rfl rfl) (me_var (pv 2)))) (blkOk_by (N := N_P_Sets_init) (sc := defScope s_P_Sets_init) (own := [("values", 9)]) (by decide +kernel)) (fun _ _ _ _ _ => pg_name (i := 9) sc_P_Sets_init.nd rfl (by first | exact Or.inl rfl | exact Or.inr rfl)) (ctg_name (by decide)) (tgpl_name (i := 9)) (fun _ _ _ _ _ => pts_nil) ttok_yes (fun _ _ _ _ _ => (me_var (pv 9))) (fun _ _ _ _ _ => (me_call c_P_new_values (hr.mono (by decide)) takes0 (by rfl) (ma_cons (me_var (pv 4)) (ma_cons (me_var (pv 9)) (ma_cons (me_var (pv 2)) ma_nil))))))))))))))
theorem ok_P_Sets_str {f : Addr} {fd : FuncData} (F : L2.Fun K "__str__" "Sets.__str__" s_P_Sets_str f fd) (T : Tx K mg cTable cSets cBadTable cBadSets cStuck)  : FnOk P w K mg base (L2.CX P w) 1 f fd ["self"] (spOf ⟨K, mg, P, w⟩ 1 F_P_Sets_str) := by
  refine fn_ok (k := 0) F sc_P_Sets_str rfl fun cdv A outer s H E hr => ?_
  unfold B_P_Sets_str 
  exact (mss_one (ms_ret (me_joined1 (me_fmt (me_fld (T.fd_Sets_text) (me_var (pv 0)))))))
theorem ok_told {f : Addr} {fd : FuncData} (F : L2.Fun K "_law_told" "_law_told" s_told f fd) (T : Tx K mg cTable cSets cBadTable cBadSets cStuck) (mk_Sets : MkM P w K mg base "Sets" 6 3 F_P_Sets_init) (m_P_Sets_str : MethM P w K mg base "Sets" "__str__" 1 1 F_P_Sets_str) : FnOk P w K mg base (L2.CX P w) 8 f fd ["_law_text", "_law_table"] (spOf ⟨K, mg, P, w⟩ 2 F_told) := by
  refine fn_ok (k := 7) F sc_told rfl fun cdv A outer s H E hr => ?_
  unfold B_told 
  exact (mss_cons (ms_tryAs (i := 3) (M := fun c => if c = "BadSets" then some true else none) (q := fun v => v = .ref cBadSets) rfl rfl sc_told.nd rfl rfl ⟨rfl, by decide, Or.inl T.k_BadSets⟩ (by exact takes_of rfl rfl rfl rfl) (exm_one T.k_BadSets T.te_BadSets)
  (fun W pn xe tk pass => (mss_one (ms_set (i := 2) sc_told.nd rfl (by first | exact Or.inl rfl | exact Or.inr rfl) (me_make mk_Sets (hr.mono (by decide)) tk (by rfl) (ma_cons (me_var (pv 0)) (ma_cons (me_var (pv 1)) ma_nil))))))
  (fun a oe cls dd pn hq hz hf => (mss_one (ms_ret (me_lst (ma_cons (me_exf T.xf_BadSets T.xn_BadSets_at hq hz hf (pv 3)) ma_nil))))))
  (mss_one (ms_ret (me_callTy (by exact cm_ownStr m_P_Sets_str (hr.mono (by decide))) (by rfl) T.b_str rfl (ma_cons (me_var (pv 2)) ma_nil)))))
theorem ok_law {f : Addr} {fd : FuncData} (F : L2.Fun K "law" "law" s_law f fd) (T : Tx K mg cTable cSets cBadTable cBadSets cStuck) (c_bag : FnM P w K mg base "_law_bag" 1 2 F_bag) (c_columns : FnM P w K mg base "_law_columns" 3 2 F_columns) (c_odd : FnM P w K mg base "_law_odd" 1 1 F_odd) (c_pick : FnM P w K mg base "_law_pick" 2 2 F_pick) (c_set_tokens : FnM P w K mg base "_law_set_tokens" 1 2 F_set_tokens) (c_sets : FnM P w K mg base "_law_sets" 3 2 F_sets) (c_spoilt : FnM P w K mg base "_law_spoilt" 3 3 F_spoilt) (c_spread : FnM P w K mg base "_law_spread" 2 2 F_spread) (c_told : FnM P w K mg base "_law_told" 8 2 F_told) (c_walk_sets : FnM P w K mg base "_law_walk_sets" 2 3 F_walk_sets) (mk_Table : MkM P w K mg base "Table" 3 2 F_P_Table_init) : FnOk P w K mg base (L2.CX P w) 9 f fd ["_law_script"] (spOf ⟨K, mg, P, w⟩ 1 F_law) := by
  refine fn_ok (k := 8) F sc_law rfl fun cdv A outer s H E hr => ?_
  unfold B_law L_law_3 L_law_2 L_law_1
  exact (mss_cons (ms_for (passes_of rfl) rfl (mi_range1 (by rfl) T.b_range (ma_cons (me_callB (cm_max rfl) (by rfl) T.b_max rfl (ma_cons me_int (ma_cons (me_callB (cm_min rfl) (by rfl) T.b_min rfl (ma_cons me_int (ma_cons (me_callB cm_len (by rfl) T.b_len rfl (ma_cons (me_var (pv 0)) ma_nil)) ma_nil))) ma_nil))) ma_nil)) (mg_name (i := 1) sc_law.nd rfl (by first | exact Or.inl rfl | exact Or.inr rfl))
  (mss_cons (ms_set (i := 2) sc_law.nd rfl (by first | exact Or.inl rfl | exact Or.inr rfl) (me_call c_bag (hr.mono (by decide)) (by exact takes_of rfl rfl rfl rfl) (by rfl) (ma_cons (me_var (pv 0)) (ma_cons (me_var (pv 1)) ma_nil))))
  (mss_cons (ms_set (i := 3) sc_law.nd rfl (by first | exact Or.inl rfl | exact Or.inr rfl) (me_call c_columns (hr.mono (by decide)) (by exact takes_of rfl rfl rfl rfl) (by rfl) (ma_cons (me_var (pv 2)) (ma_cons me_int ma_nil))))
  (mss_cons (ms_par2 (i := 4) (j := 5) rfl sc_law.nd rfl rfl (by decide) rfl rfl (ma_cons (me_make mk_Table (hr.mono (by decide)) (by exact takes_of rfl rfl rfl rfl) (by rfl) (ma_cons (me_callTy cm_list (by rfl) T.b_list rfl (ma_cons (me_var (pv 3)) ma_nil)) ma_nil)) (ma_cons (me_F (by exact mf_lc (own := [("_law_word_here", 6), ("_law_top", 7)]) rfl sc_law.nd (mi_over (me_var (pv 3))) (blkOk_by (N := N_law) (sc := defScope s_law) (own := [("_law_word_here", 6), ("_law_top", 7)]) (by decide +kernel)) (fun _ _ _ _ _ => pg_tup rfl (pgs_cons (pg_name (i := 6) sc_law.nd rfl (by first | exact Or.inl rfl | exact Or.inr rfl)) (pgs_cons (pg_name (i := 7) sc_law.nd rfl (by first | exact Or.inl rfl | exact Or.inr rfl)) pgs_nil))) (ctg_pair (by decide) (by decide)) (tgpl_pair (i := 6) (j := 7)) (fun _ _ _ _ _ => pts_nil) ttok_yes (fun _ _ _ _ _ => (me_var (pv 6))))) ma_nil)) (by rfl))
  (mss_cons (ms_for (passes_of rfl) rfl (mi_range1 (by rfl) T.b_range (ma_cons me_int ma_nil)) (mg_name (i := 8) sc_law.nd rfl (by first | exact Or.inl rfl | exact Or.inr rfl))
  (mss_cons (ms_set (i := 9) sc_law.nd rfl (by first | exact Or.inl rfl | exact Or.inr rfl) (me_call c_spoilt (hr.mono (by decide)) (by exact takes_of rfl rfl rfl rfl) (by rfl) (ma_cons (me_var (pv 2)) (ma_cons (me_call c_set_tokens (hr.mono (by decide)) (by exact takes_of rfl rfl rfl rfl) (by rfl) (ma_cons (me_call c_sets (hr.mono (by decide)) (by exact takes_of rfl rfl rfl rfl) (by rfl) (ma_cons (me_var (pv 2)) (ma_cons (me_var (pv 3)) ma_nil))) (ma_cons (me_var (pv 3)) ma_nil))) (ma_cons (me_call c_odd (hr.mono (by decide)) (by exact takes_of rfl rfl rfl rfl) (by rfl) (ma_cons (me_var (pv 3)) ma_nil)) ma_nil)))))
  (mss_cons (ms_asg (me_call c_spread (hr.mono (by decide)) (by exact takes_of rfl rfl rfl rfl) (by rfl) (ma_cons (me_var (pv 2)) (ma_cons (me_var (pv 9)) ma_nil))) (mg_tup rfl (mgs_cons (mg_name (i := 10) sc_law.nd rfl (by first | exact Or.inl rfl | exact Or.inr rfl)) (mgs_cons (mg_name (i := 11) sc_law.nd rfl (by first | exact Or.inl rfl | exact Or.inr rfl)) mgs_nil))) (hT := ((tgok_tup (tgsok_cons tgok_name (tgsok_cons tgok_name tgsok_nil)))).use))
  (mss_cons (ms_asg (me_call c_walk_sets (hr.mono (by decide)) (by exact takes_of rfl rfl rfl rfl) (by rfl) (ma_cons (me_var (pv 9)) (ma_cons me_int (ma_cons (me_var (pv 5)) ma_nil)))) (mg_tup rfl (mgs_cons (mg_name (i := 12) sc_law.nd rfl (by first | exact Or.inl rfl | exact Or.inr rfl)) (mgs_cons (mg_name (i := 13) sc_law.nd rfl (by first | exact Or.inl rfl | exact Or.inr rfl)) mgs_nil))) (hT := ((tgok_tup (tgsok_cons tgok_name (tgsok_cons tgok_name tgsok_nil)))).use))
  (mss_cons (ms_set (i := 14) sc_law.nd rfl (by first | exact Or.inl rfl | exact Or.inr rfl) (me_sm1 mtd_join PySem.F.slot_str_join PySem.F.type_str_join me_str (me_var (pv 9))))
  (mss_cons (ms_if (PW.pt (mw_or (mt_not (mt_val (me_var (pv 12)))) (mw_or1 (mt_cmp opm_lt (me_var (pv 13)) (me_callB cm_len (by rfl) T.b_len rfl (ma_cons (me_var (pv 9)) ma_nil)) (nomark _)))))
  (mss_one (ms_set (i := 14) sc_law.nd rfl (by first | exact Or.inl rfl | exact Or.inr rfl) (me_lst (ma_cons (me_if (mt_cmp opm_lt (me_var (pv 13)) (me_callB cm_len (by rfl) T.b_len rfl (ma_cons (me_var (pv 9)) ma_nil)) (nomark _)) (me_ix (me_var (pv 11)) (me_var (pv 13))) (me_callB cm_len (by rfl) T.b_len rfl (ma_cons (me_var (pv 10)) ma_nil))) ma_nil))))
  mss_nil)
  (mss_one (ms_for (passes_of rfl) rfl (mi_range1 (by rfl) T.b_range (ma_cons me_int ma_nil)) (mg_name (i := 15) sc_law.nd rfl (by first | exact Or.inl rfl | exact Or.inr rfl))
  (mss_cons (ms_set (i := 16) sc_law.nd rfl (by first | exact Or.inl rfl | exact Or.inr rfl) (me_call c_told (hr.mono (by decide)) (by exact takes_of rfl rfl rfl rfl) (by rfl) (ma_cons (me_var (pv 10)) (ma_cons (me_var (pv 4)) ma_nil))))
  (mss_one (ms_if (PW.pt (mw_or (mt_cmp (opm_ne (by exact hr.units)) (me_var (pv 16)) (me_var (pv 14)) (nomark _)) (mw_or1 (PW.pt (mw_and (mt_val (me_callB cm_isi (by rfl) T.b_isinstance rfl (ma_cons (me_var (pv 16)) (ma_cons (me_bty (by rfl) T.b_list rfl) ma_nil)))) (mw_and1 (mt_val (me_callB cm_isi (by rfl) T.b_isinstance rfl (ma_cons (me_ix (me_var (pv 16)) me_int) (ma_cons (me_bty (by rfl) T.b_bool rfl) ma_nil))))))))))
  (mss_one (ms_ret me_bl))
  mss_nil)))))))))))
  (mss_cons (ms_set (i := 17) sc_law.nd rfl (by first | exact Or.inl rfl | exact Or.inr rfl) (me_call c_pick (hr.mono (by decide)) (by exact takes_of rfl rfl rfl rfl) (by rfl) (ma_cons (me_var (pv 2)) (ma_cons (me_lst (ma_cons me_non (ma_cons me_int (ma_cons me_bl (ma_cons (me_lst (ma_cons (me_bin opm_add (me_ix (me_var (pv 5)) me_int) me_str) ma_nil)) (ma_cons (me_tup (ma_cons (me_ix (me_var (pv 5)) me_int) ma_nil)) (ma_cons (me_lst ma_nil) (ma_cons (me_neg (me_bin opm_pow me_int me_int)) ma_nil)))))))) ma_nil))))
  (mss_one (ms_if (PW.pt (mw_or (mt_cmp (opm_ne (by exact hr.units)) (me_call c_told (hr.mono (by decide)) (by exact takes_of rfl rfl rfl rfl) (by rfl) (ma_cons (me_var (pv 17)) (ma_cons (me_var (pv 4)) ma_nil))) (me_lst (ma_cons (me_neg me_int) ma_nil)) (nomark _)) (mw_or (mt_cmp (opm_ne (by exact hr.units)) (me_call c_told (hr.mono (by decide)) (by exact takes_of rfl rfl rfl rfl) (by rfl) (ma_cons me_str (ma_cons (me_var (pv 4)) ma_nil))) (me_lst (ma_cons me_int ma_nil)) (nomark _)) (mw_or1 (mt_cmp (opm_ne (by exact hr.units)) (me_call c_told (hr.mono (by decide)) (by exact takes_of rfl rfl rfl rfl) (by rfl) (ma_cons (me_bin opm_add (me_ix (me_var (pv 5)) me_int) me_str) (ma_cons (me_var (pv 4)) ma_nil))) (me_bin opm_add (me_ix (me_var (pv 5)) me_int) me_str) (nomark _))))))
  (mss_one (ms_ret me_bl))
  mss_nil))))))))
  (mss_one (ms_ret me_bl)))
end
theorem all_mk {l : PySem.W.OpenLaw} {w : World} {K : PySem.W.Frag} {h : Heap} {mg : Str → Option Value} {fa : Addr} (X : K.In h) (G : h.Ns mainGlobals mg) (hfa : mg "law" = some (.ref fa))
    {t_DIGITS : Nat} {a_KEPT : Addr} {o_KEPT : Obj} {t_LETTERS : Nat} {t_MOST_VALUES : Nat} {a_PAIRS : Addr} {o_PAIRS : Obj} {cTable cSets cBadTable cBadSets cStuck : Addr} {nm_BadTable q_BadTable : Str} {N_BadTable : Addr} {bs_BadTable bm_BadTable : List Value} {sn_BadTable : List Str} {sub_BadTable : List Value} {ab_BadTable : Bool} {col_BadTable : Option Bool} {dd_BadTable : Option Addr} {m0_BadTable m1_BadTable m2_BadTable m3_BadTable m5_BadTable : Option Value} {fI_BadTable : Addr} {od_BadTable_init an_BadTable_init : Option Addr} {sl_BadTable_init : Array (Option Value)} {oc_BadTable_init kV_BadTable_init dc_BadTable_init pm_BadTable_init cd_BadTable_init ct_BadTable_init : Value} {nm_BadSets q_BadSets : Str} {N_BadSets : Addr} {bs_BadSets bm_BadSets : List Value} {sn_BadSets : List Str} {sub_BadSets : List Value} {ab_BadSets : Bool} {col_BadSets : Option Bool} {dd_BadSets : Option Addr} {m0_BadSets m1_BadSets m2_BadSets m3_BadSets m5_BadSets : Option Value} {fI_BadSets : Addr} {od_BadSets_init an_BadSets_init : Option Addr} {sl_BadSets_init : Array (Option Value)} {oc_BadSets_init kV_BadSets_init dc_BadSets_init pm_BadSets_init cd_BadSets_init ct_BadSets_init : Value} {nm_Stuck q_Stuck : Str} {N_Stuck : Addr} {bs_Stuck bm_Stuck : List Value} {sn_Stuck : List Str} {sub_Stuck : List Value} {ab_Stuck : Bool} {col_Stuck : Option Bool} {dd_Stuck : Option Addr} {m0_Stuck m1_Stuck m2_Stuck m3_Stuck m5_Stuck : Option Value} {fI_Stuck : Addr} {od_Stuck_init an_Stuck_init : Option Addr} {sl_Stuck_init : Array (Option Value)} {oc_Stuck_init kV_Stuck_init dc_Stuck_init pm_Stuck_init cd_Stuck_init ct_Stuck_init : Value} {f_bag : Addr} {od_bag an_bag : Option Addr} {sl_bag : Array (Option Value)} {oc_bag kV_bag dc_bag pm_bag cd_bag ct_bag : Value} {f_draw : Addr} {od_draw an_draw : Option Addr} {sl_draw : Array (Option Value)} {oc_draw kV_draw dc_draw pm_draw cd_draw ct_draw : Value} {f_kept : Addr} {od_kept an_kept : Option Addr} {sl_kept : Array (Option Value)} {oc_kept kV_kept dc_kept pm_kept cd_kept ct_kept : Value} {f_word : Addr} {od_word an_word : Option Addr} {sl_word : Array (Option Value)} {oc_word kV_word dc_word pm_word cd_word ct_word : Value} {f_columns : Addr} {od_columns an_columns : Option Addr} {sl_columns : Array (Option Value)} {oc_columns kV_columns dc_columns pm_columns cd_columns ct_columns : Value} {f_P_is_column : Addr} {od_P_is_column an_P_is_column : Option Addr} {sl_P_is_column : Array (Option Value)} {oc_P_is_column kV_P_is_column dc_P_is_column pm_P_is_column cd_P_is_column ct_P_is_column : Value} {f_P_Table_init : Addr} {od_P_Table_init an_P_Table_init : Option Addr} {sl_P_Table_init : Array (Option Value)} {oc_P_Table_init kV_P_Table_init dc_P_Table_init pm_P_Table_init cd_P_Table_init ct_P_Table_init : Value} {f_pick : Addr} {od_pick an_pick : Option Addr} {sl_pick : Array (Option Value)} {oc_pick kV_pick dc_pick pm_pick cd_pick ct_pick : Value} {f_spoilt : Addr} {od_spoilt an_spoilt : Option Addr} {sl_spoilt : Array (Option Value)} {oc_spoilt kV_spoilt dc_spoilt pm_spoilt cd_spoilt ct_spoilt : Value} {f_set_tokens : Addr} {od_set_tokens an_set_tokens : Option Addr} {sl_set_tokens : Array (Option Value)} {oc_set_tokens kV_set_tokens dc_set_tokens pm_set_tokens cd_set_tokens ct_set_tokens : Value} {f_number : Addr} {od_number an_number : Option Addr} {sl_number : Array (Option Value)} {oc_number kV_number dc_number pm_number cd_number ct_number : Value} {f_sets : Addr} {od_sets an_sets : Option Addr} {sl_sets : Array (Option Value)} {oc_sets kV_sets dc_sets pm_sets cd_sets ct_sets : Value} {f_odd : Addr} {od_odd an_odd : Option Addr} {sl_odd : Array (Option Value)} {oc_odd kV_odd dc_odd pm_odd cd_odd ct_odd : Value} {f_sort : Addr} {od_sort an_sort : Option Addr} {sl_sort : Array (Option Value)} {oc_sort kV_sort dc_sort pm_sort cd_sort ct_sort : Value} {f_spread : Addr} {od_spread an_spread : Option Addr} {sl_spread : Array (Option Value)} {oc_spread kV_spread dc_spread pm_spread cd_spread ct_spread : Value} {f_is_number : Addr} {od_is_number an_is_number : Option Addr} {sl_is_number : Array (Option Value)} {oc_is_number kV_is_number dc_is_number pm_is_number cd_is_number ct_is_number : Value} {f_walk_sets : Addr} {od_walk_sets an_walk_sets : Option Addr} {sl_walk_sets : Array (Option Value)} {oc_walk_sets kV_walk_sets dc_walk_sets pm_walk_sets cd_walk_sets ct_walk_sets : Value} {f_P_token_end : Addr} {od_P_token_end an_P_token_end : Option Addr} {sl_P_token_end : Array (Option Value)} {oc_P_token_end kV_P_token_end dc_P_token_end pm_P_token_end cd_P_token_end ct_P_token_end : Value} {f_P_tokens_of : Addr} {od_P_tokens_of an_P_tokens_of : Option Addr} {sl_P_tokens_of : Array (Option Value)} {oc_P_tokens_of kV_P_tokens_of dc_P_tokens_of pm_P_tokens_of cd_P_tokens_of ct_P_tokens_of : Value} {f_P_passed : Addr} {od_P_passed an_P_passed : Option Addr} {sl_P_passed : Array (Option Value)} {oc_P_passed kV_P_passed dc_P_passed pm_P_passed cd_P_passed ct_P_passed : Value} {f_P_read_column : Addr} {od_P_read_column an_P_read_column : Option Addr} {sl_P_read_column : Array (Option Value)} {oc_P_read_column kV_P_read_column dc_P_read_column pm_P_read_column cd_P_read_column ct_P_read_column : Value} {f_P_read_number : Addr} {od_P_read_number an_P_read_number : Option Addr} {sl_P_read_number : Array (Option Value)} {oc_P_read_number kV_P_read_number dc_P_read_number pm_P_read_number cd_P_read_number ct_P_read_number : Value} {f_P_read_term : Addr} {od_P_read_term an_P_read_term : Option Addr} {sl_P_read_term : Array (Option Value)} {oc_P_read_term kV_P_read_term dc_P_read_term pm_P_read_term cd_P_read_term ct_P_read_term : Value} {f_P_read_sets : Addr} {od_P_read_sets an_P_read_sets : Option Addr} {sl_P_read_sets : Array (Option Value)} {oc_P_read_sets kV_P_read_sets dc_P_read_sets pm_P_read_sets cd_P_read_sets ct_P_read_sets : Value} {f_P_spaced : Addr} {od_P_spaced an_P_spaced : Option Addr} {sl_P_spaced : Array (Option Value)} {oc_P_spaced kV_P_spaced dc_P_spaced pm_P_spaced cd_P_spaced ct_P_spaced : Value} {f_P_Table_all_values : Addr} {od_P_Table_all_values an_P_Table_all_values : Option Addr} {sl_P_Table_all_values : Array (Option Value)} {oc_P_Table_all_values kV_P_Table_all_values dc_P_Table_all_values pm_P_Table_all_values cd_P_Table_all_values ct_P_Table_all_values : Value} {f_P_term_value : Addr} {od_P_term_value an_P_term_value : Option Addr} {sl_P_term_value : Array (Option Value)} {oc_P_term_value kV_P_term_value dc_P_term_value pm_P_term_value cd_P_term_value ct_P_term_value : Value} {f_P_new_values : Addr} {od_P_new_values an_P_new_values : Option Addr} {sl_P_new_values : Array (Option Value)} {oc_P_new_values kV_P_new_values dc_P_new_values pm_P_new_values cd_P_new_values ct_P_new_values : Value} {f_P_Sets_init : Addr} {od_P_Sets_init an_P_Sets_init : Option Addr} {sl_P_Sets_init : Array (Option Value)} {oc_P_Sets_init kV_P_Sets_init dc_P_Sets_init pm_P_Sets_init cd_P_Sets_init ct_P_Sets_init : Value} {f_P_Sets_str : Addr} {od_P_Sets_str an_P_Sets_str : Option Addr} {sl_P_Sets_str : Array (Option Value)} {oc_P_Sets_str kV_P_Sets_str dc_P_Sets_str pm_P_Sets_str cd_P_Sets_str ct_P_Sets_str : Value} {f_told : Addr} {od_told an_told : Option Addr} {sl_told : Array (Option Value)} {oc_told kV_told dc_told pm_told cd_told ct_told : Value} {f_law : Addr} {od_law an_law : Option Addr} {sl_law : Array (Option Value)} {oc_law kV_law dc_law pm_law cd_law ct_law : Value}
    (z_abs : PySem.W.nsIn K mainGlobals "abs" = some none)
    (z_bool : PySem.W.nsIn K mainGlobals "bool" = some none)
    (z_enumerate : PySem.W.nsIn K mainGlobals "enumerate" = some none)
    (z_int : PySem.W.nsIn K mainGlobals "int" = some none)
    (z_isinstance : PySem.W.nsIn K mainGlobals "isinstance" = some none)
    (z_len : PySem.W.nsIn K mainGlobals "len" = some none)
    (z_list : PySem.W.nsIn K mainGlobals "list" = some none)
    (z_max : PySem.W.nsIn K mainGlobals "max" = some none)
    (z_min : PySem.W.nsIn K mainGlobals "min" = some none)
    (z_range : PySem.W.nsIn K mainGlobals "range" = some none)
    (z_str : PySem.W.nsIn K mainGlobals "str" = some none)
    (z_tuple : PySem.W.nsIn K mainGlobals "tuple" = some none)
    (n_DIGITS : PySem.W.nsIn K mainGlobals "DIGITS" = some (some (.str "0123456789" t_DIGITS)))
    (n_KEPT : PySem.W.nsIn K mainGlobals "KEPT" = some (some (.ref a_KEPT)))
    (l_KEPT : K.lookup a_KEPT = some o_KEPT)
    (d_KEPT : o_KEPT.cls = .type "tuple" ∧ ∃ (its : Array Value) (n : Nat), o_KEPT.data = .seq its n ∧ its.size ≤ 1000 ∧ its.toList.map absV = (g_KEPT.map fun x => some (vOf x)))
    (n_LETTERS : PySem.W.nsIn K mainGlobals "LETTERS" = some (some (.str "abcdefghijklmnopqrstuvwxyz" t_LETTERS)))
    (n_MOST_VALUES : PySem.W.nsIn K mainGlobals "MOST_VALUES" = some (some (.int 36 t_MOST_VALUES)))
    (n_PAIRS : PySem.W.nsIn K mainGlobals "PAIRS" = some (some (.ref a_PAIRS)))
    (l_PAIRS : K.lookup a_PAIRS = some o_PAIRS)
    (d_PAIRS : o_PAIRS.cls = .type "tuple" ∧ ∃ (its : Array Value) (n : Nat), o_PAIRS.data = .seq its n ∧ its.size ≤ 1000 ∧ its.toList.map absV = (g_PAIRS.map fun x => some (vOf x)))
    (n_Table : PySem.W.nsIn K mainGlobals "Table" = some (some (.ref cTable)))
    (n_Sets : PySem.W.nsIn K mainGlobals "Sets" = some (some (.ref cSets)))
    (n_BadTable : PySem.W.nsIn K mainGlobals "BadTable" = some (some (.ref cBadTable)))
    (n_BadSets : PySem.W.nsIn K mainGlobals "BadSets" = some (some (.ref cBadSets)))
    (n_Stuck : PySem.W.nsIn K mainGlobals "Stuck" = some (some (.ref cStuck)))
    (pg_Table : PySem.W.plainGet K cTable Str.empty = true)
    (hd_Table : PySem.W.hasDictIn K cTable = true)
    (po_Table : PySem.W.plainOver K cTable = true)
    (sa_Table : PySem.W.findIn K (.ref cTable) "__setattr__" = some (some (.builtin "object.__setattr__")))
    (pg_Sets : PySem.W.plainGet K cSets Str.empty = true)
    (hd_Sets : PySem.W.hasDictIn K cSets = true)
    (po_Sets : PySem.W.plainOver K cSets = true)
    (sa_Sets : PySem.W.findIn K (.ref cSets) "__setattr__" = some (some (.builtin "object.__setattr__")))
    (mk_Sets : PySem.W.makesIn K cSets = true)
    (kc_Sets : PySem.W.keepIn K (.ref cSets) = true)
    (mk_Table : PySem.W.makesIn K cTable = true)
    (kc_Table : PySem.W.keepIn K (.ref cTable) = true)
    (na_Sets_columns : PySem.W.findIn K (.ref cSets) "columns" = some none)
    (na_Sets_results : PySem.W.findIn K (.ref cSets) "results" = some none)
    (na_Sets_table : PySem.W.findIn K (.ref cSets) "table" = some none)
    (na_Sets_text : PySem.W.findIn K (.ref cSets) "text" = some none)
    (na_Table_columns : PySem.W.findIn K (.ref cTable) "columns" = some none)
    (na_Table_every : PySem.W.findIn K (.ref cTable) "every" = some none)
    (na_Table_tops : PySem.W.findIn K (.ref cTable) "tops" = some none)
    (xL_BadTable : K.lookup cBadTable = some (excClassObj nm_BadTable q_BadTable cBadTable N_BadTable bs_BadTable bm_BadTable true sn_BadTable sub_BadTable ab_BadTable col_BadTable dd_BadTable m0_BadTable m1_BadTable m2_BadTable m3_BadTable m5_BadTable "ValueError.__new__"))
    (xr_BadTable : PySem.HandSPX.refsVE bm_BadTable = true)
    (xs_BadTable : PySem.W.findIn K (.ref cBadTable) "__setattr__" = some (some (.builtin "object.__setattr__")))
    (xe_BadTable : PySem.W.subIn K (.ref cBadTable) (.type "BaseException") = some true)
    (xt_BadTable : PySem.W.typeIn K (.ref cBadTable) = some (.type "type"))
    (xk_BadTable : PySem.W.keepIn K (.ref cBadTable) = true)
    (xg_BadTable : PySem.W.findIn K (.ref cBadTable) "__getattribute__" = some (some (.builtin "BaseException.__getattribute__")))
    (xh_BadTable : PySem.W.findIn K (.ref cBadTable) "__getattr__" = some none)
    (xd_BadTable : PySem.W.hasDictIn K cBadTable = true)
    (xn_BadTable : PySem.W.findIn K (.ref cBadTable) "at" = some none)
    (xc_BadTable : PySem.W.isClsIn K cBadTable = true)
    (xu_BadTable : PySem.W.subIn K (.ref cBadTable) (.ref cBadTable) = some true)
    (xi_BadTable : PySem.W.findIn K (.ref cBadTable) "__init__" = some (some (.ref fI_BadTable)))
    (xf_BadTable : PySem.W.typeIn K (.ref fI_BadTable) = some (.type "function"))
    (l_BadTable_init : K.lookup fI_BadTable = some ⟨oc_BadTable_init, od_BadTable_init, .func (PySem.W.fnOf "__init__" "BadTable.__init__" (defArgs s_BadTable_init) (defBody s_BadTable_init) (defScope s_BadTable_init) .none kV_BadTable_init dc_BadTable_init pm_BadTable_init an_BadTable_init cd_BadTable_init ct_BadTable_init), sl_BadTable_init⟩)
    (c_BadTable_init : PySem.W.codeIn K cd_BadTable_init "BadTable.__init__" = true)
    (k_BadTable_init : PySem.W.keepIn K (.ref fI_BadTable) = true)
    (xL_BadSets : K.lookup cBadSets = some (excClassObj nm_BadSets q_BadSets cBadSets N_BadSets bs_BadSets bm_BadSets true sn_BadSets sub_BadSets ab_BadSets col_BadSets dd_BadSets m0_BadSets m1_BadSets m2_BadSets m3_BadSets m5_BadSets "ValueError.__new__"))
    (xr_BadSets : PySem.HandSPX.refsVE bm_BadSets = true)
    (xs_BadSets : PySem.W.findIn K (.ref cBadSets) "__setattr__" = some (some (.builtin "object.__setattr__")))
    (xe_BadSets : PySem.W.subIn K (.ref cBadSets) (.type "BaseException") = some true)
    (xt_BadSets : PySem.W.typeIn K (.ref cBadSets) = some (.type "type"))
    (xk_BadSets : PySem.W.keepIn K (.ref cBadSets) = true)
    (xg_BadSets : PySem.W.findIn K (.ref cBadSets) "__getattribute__" = some (some (.builtin "BaseException.__getattribute__")))
    (xh_BadSets : PySem.W.findIn K (.ref cBadSets) "__getattr__" = some none)
    (xd_BadSets : PySem.W.hasDictIn K cBadSets = true)
    (xn_BadSets : PySem.W.findIn K (.ref cBadSets) "at" = some none)
    (xc_BadSets : PySem.W.isClsIn K cBadSets = true)
    (xu_BadSets : PySem.W.subIn K (.ref cBadSets) (.ref cBadSets) = some true)
    (xi_BadSets : PySem.W.findIn K (.ref cBadSets) "__init__" = some (some (.ref fI_BadSets)))
    (xf_BadSets : PySem.W.typeIn K (.ref fI_BadSets) = some (.type "function"))
    (l_BadSets_init : K.lookup fI_BadSets = some ⟨oc_BadSets_init, od_BadSets_init, .func (PySem.W.fnOf "__init__" "BadSets.__init__" (defArgs s_BadSets_init) (defBody s_BadSets_init) (defScope s_BadSets_init) .none kV_BadSets_init dc_BadSets_init pm_BadSets_init an_BadSets_init cd_BadSets_init ct_BadSets_init), sl_BadSets_init⟩)
    (c_BadSets_init : PySem.W.codeIn K cd_BadSets_init "BadSets.__init__" = true)
    (k_BadSets_init : PySem.W.keepIn K (.ref fI_BadSets) = true)
    (xL_Stuck : K.lookup cStuck = some (excClassObj nm_Stuck q_Stuck cStuck N_Stuck bs_Stuck bm_Stuck true sn_Stuck sub_Stuck ab_Stuck col_Stuck dd_Stuck m0_Stuck m1_Stuck m2_Stuck m3_Stuck m5_Stuck "ValueError.__new__"))
    (xr_Stuck : PySem.HandSPX.refsVE bm_Stuck = true)
    (xs_Stuck : PySem.W.findIn K (.ref cStuck) "__setattr__" = some (some (.builtin "object.__setattr__")))
    (xe_Stuck : PySem.W.subIn K (.ref cStuck) (.type "BaseException") = some true)
    (xt_Stuck : PySem.W.typeIn K (.ref cStuck) = some (.type "type"))
    (xk_Stuck : PySem.W.keepIn K (.ref cStuck) = true)
    (xg_Stuck : PySem.W.findIn K (.ref cStuck) "__getattribute__" = some (some (.builtin "BaseException.__getattribute__")))
    (xh_Stuck : PySem.W.findIn K (.ref cStuck) "__getattr__" = some none)
    (xd_Stuck : PySem.W.hasDictIn K cStuck = true)
    (xn_Stuck : PySem.W.findIn K (.ref cStuck) "at" = some none)
    (xc_Stuck : PySem.W.isClsIn K cStuck = true)
    (xu_Stuck : PySem.W.subIn K (.ref cStuck) (.ref cStuck) = some true)
    (xi_Stuck : PySem.W.findIn K (.ref cStuck) "__init__" = some (some (.ref fI_Stuck)))
    (xf_Stuck : PySem.W.typeIn K (.ref fI_Stuck) = some (.type "function"))
    (l_Stuck_init : K.lookup fI_Stuck = some ⟨oc_Stuck_init, od_Stuck_init, .func (PySem.W.fnOf "__init__" "Stuck.__init__" (defArgs s_Stuck_init) (defBody s_Stuck_init) (defScope s_Stuck_init) .none kV_Stuck_init dc_Stuck_init pm_Stuck_init an_Stuck_init cd_Stuck_init ct_Stuck_init), sl_Stuck_init⟩)
    (c_Stuck_init : PySem.W.codeIn K cd_Stuck_init "Stuck.__init__" = true)
    (k_Stuck_init : PySem.W.keepIn K (.ref fI_Stuck) = true)
    (a_bag : PySem.W.nsIn K mainGlobals "_law_bag" = some (some (.ref f_bag)))
    (l_bag : K.lookup f_bag = some ⟨oc_bag, od_bag, .func (PySem.W.fnOf "_law_bag" "_law_bag" (defArgs s_bag) (defBody s_bag) (defScope s_bag) .none kV_bag dc_bag pm_bag an_bag cd_bag ct_bag), sl_bag⟩)
    (c_bag : PySem.W.codeIn K cd_bag "_law_bag" = true)
    (k_bag : PySem.W.keepIn K (.ref f_bag) = true)
    (a_draw : PySem.W.nsIn K mainGlobals "_law_draw" = some (some (.ref f_draw)))
    (l_draw : K.lookup f_draw = some ⟨oc_draw, od_draw, .func (PySem.W.fnOf "_law_draw" "_law_draw" (defArgs s_draw) (defBody s_draw) (defScope s_draw) .none kV_draw dc_draw pm_draw an_draw cd_draw ct_draw), sl_draw⟩)
    (c_draw : PySem.W.codeIn K cd_draw "_law_draw" = true)
    (k_draw : PySem.W.keepIn K (.ref f_draw) = true)
    (a_kept : PySem.W.nsIn K mainGlobals "_law_kept" = some (some (.ref f_kept)))
    (l_kept : K.lookup f_kept = some ⟨oc_kept, od_kept, .func (PySem.W.fnOf "_law_kept" "_law_kept" (defArgs s_kept) (defBody s_kept) (defScope s_kept) .none kV_kept dc_kept pm_kept an_kept cd_kept ct_kept), sl_kept⟩)
    (c_kept : PySem.W.codeIn K cd_kept "_law_kept" = true)
    (k_kept : PySem.W.keepIn K (.ref f_kept) = true)
    (a_word : PySem.W.nsIn K mainGlobals "_law_word" = some (some (.ref f_word)))
    (l_word : K.lookup f_word = some ⟨oc_word, od_word, .func (PySem.W.fnOf "_law_word" "_law_word" (defArgs s_word) (defBody s_word) (defScope s_word) .none kV_word dc_word pm_word an_word cd_word ct_word), sl_word⟩)
    (c_word : PySem.W.codeIn K cd_word "_law_word" = true)
    (k_word : PySem.W.keepIn K (.ref f_word) = true)
    (a_columns : PySem.W.nsIn K mainGlobals "_law_columns" = some (some (.ref f_columns)))
    (l_columns : K.lookup f_columns = some ⟨oc_columns, od_columns, .func (PySem.W.fnOf "_law_columns" "_law_columns" (defArgs s_columns) (defBody s_columns) (defScope s_columns) .none kV_columns dc_columns pm_columns an_columns cd_columns ct_columns), sl_columns⟩)
    (c_columns : PySem.W.codeIn K cd_columns "_law_columns" = true)
    (k_columns : PySem.W.keepIn K (.ref f_columns) = true)
    (a_P_is_column : PySem.W.nsIn K mainGlobals "is_column" = some (some (.ref f_P_is_column)))
    (l_P_is_column : K.lookup f_P_is_column = some ⟨oc_P_is_column, od_P_is_column, .func (PySem.W.fnOf "is_column" "is_column" (defArgs s_P_is_column) (defBody s_P_is_column) (defScope s_P_is_column) .none kV_P_is_column dc_P_is_column pm_P_is_column an_P_is_column cd_P_is_column ct_P_is_column), sl_P_is_column⟩)
    (c_P_is_column : PySem.W.codeIn K cd_P_is_column "is_column" = true)
    (k_P_is_column : PySem.W.keepIn K (.ref f_P_is_column) = true)
    (a_P_Table_init : PySem.W.findIn K (.ref cTable) "__init__" = some (some (.ref f_P_Table_init)))
    (i_P_Table_init : PySem.W.isFn K (.ref f_P_Table_init) = true)
    (l_P_Table_init : K.lookup f_P_Table_init = some ⟨oc_P_Table_init, od_P_Table_init, .func (PySem.W.fnOf "__init__" "Table.__init__" (defArgs s_P_Table_init) (defBody s_P_Table_init) (defScope s_P_Table_init) .none kV_P_Table_init dc_P_Table_init pm_P_Table_init an_P_Table_init cd_P_Table_init ct_P_Table_init), sl_P_Table_init⟩)
    (c_P_Table_init : PySem.W.codeIn K cd_P_Table_init "Table.__init__" = true)
    (k_P_Table_init : PySem.W.keepIn K (.ref f_P_Table_init) = true)
    (a_pick : PySem.W.nsIn K mainGlobals "_law_pick" = some (some (.ref f_pick)))
    (l_pick : K.lookup f_pick = some ⟨oc_pick, od_pick, .func (PySem.W.fnOf "_law_pick" "_law_pick" (defArgs s_pick) (defBody s_pick) (defScope s_pick) .none kV_pick dc_pick pm_pick an_pick cd_pick ct_pick), sl_pick⟩)
    (c_pick : PySem.W.codeIn K cd_pick "_law_pick" = true)
    (k_pick : PySem.W.keepIn K (.ref f_pick) = true)
    (a_spoilt : PySem.W.nsIn K mainGlobals "_law_spoilt" = some (some (.ref f_spoilt)))
    (l_spoilt : K.lookup f_spoilt = some ⟨oc_spoilt, od_spoilt, .func (PySem.W.fnOf "_law_spoilt" "_law_spoilt" (defArgs s_spoilt) (defBody s_spoilt) (defScope s_spoilt) .none kV_spoilt dc_spoilt pm_spoilt an_spoilt cd_spoilt ct_spoilt), sl_spoilt⟩)
    (c_spoilt : PySem.W.codeIn K cd_spoilt "_law_spoilt" = true)
    (k_spoilt : PySem.W.keepIn K (.ref f_spoilt) = true)
    (a_set_tokens : PySem.W.nsIn K mainGlobals "_law_set_tokens" = some (some (.ref f_set_tokens)))
    (l_set_tokens : K.lookup f_set_tokens = some ⟨oc_set_tokens, od_set_tokens, .func (PySem.W.fnOf "_law_set_tokens" "_law_set_tokens" (defArgs s_set_tokens) (defBody s_set_tokens) (defScope s_set_tokens) .none kV_set_tokens dc_set_tokens pm_set_tokens an_set_tokens cd_set_tokens ct_set_tokens), sl_set_tokens⟩)
    (c_set_tokens : PySem.W.codeIn K cd_set_tokens "_law_set_tokens" = true)
    (k_set_tokens : PySem.W.keepIn K (.ref f_set_tokens) = true)
    (a_number : PySem.W.nsIn K mainGlobals "_law_number" = some (some (.ref f_number)))
    (l_number : K.lookup f_number = some ⟨oc_number, od_number, .func (PySem.W.fnOf "_law_number" "_law_number" (defArgs s_number) (defBody s_number) (defScope s_number) .none kV_number dc_number pm_number an_number cd_number ct_number), sl_number⟩)
    (c_number : PySem.W.codeIn K cd_number "_law_number" = true)
    (k_number : PySem.W.keepIn K (.ref f_number) = true)
    (a_sets : PySem.W.nsIn K mainGlobals "_law_sets" = some (some (.ref f_sets)))
    (l_sets : K.lookup f_sets = some ⟨oc_sets, od_sets, .func (PySem.W.fnOf "_law_sets" "_law_sets" (defArgs s_sets) (defBody s_sets) (defScope s_sets) .none kV_sets dc_sets pm_sets an_sets cd_sets ct_sets), sl_sets⟩)
    (c_sets : PySem.W.codeIn K cd_sets "_law_sets" = true)
    (k_sets : PySem.W.keepIn K (.ref f_sets) = true)
    (a_odd : PySem.W.nsIn K mainGlobals "_law_odd" = some (some (.ref f_odd)))
    (l_odd : K.lookup f_odd = some ⟨oc_odd, od_odd, .func (PySem.W.fnOf "_law_odd" "_law_odd" (defArgs s_odd) (defBody s_odd) (defScope s_odd) .none kV_odd dc_odd pm_odd an_odd cd_odd ct_odd), sl_odd⟩)
    (c_odd : PySem.W.codeIn K cd_odd "_law_odd" = true)
    (k_odd : PySem.W.keepIn K (.ref f_odd) = true)
    (a_sort : PySem.W.nsIn K mainGlobals "_law_sort" = some (some (.ref f_sort)))
    (l_sort : K.lookup f_sort = some ⟨oc_sort, od_sort, .func (PySem.W.fnOf "_law_sort" "_law_sort" (defArgs s_sort) (defBody s_sort) (defScope s_sort) .none kV_sort dc_sort pm_sort an_sort cd_sort ct_sort), sl_sort⟩)
    (c_sort : PySem.W.codeIn K cd_sort "_law_sort" = true)
    (k_sort : PySem.W.keepIn K (.ref f_sort) = true)
    (a_spread : PySem.W.nsIn K mainGlobals "_law_spread" = some (some (.ref f_spread)))
    (l_spread : K.lookup f_spread = some ⟨oc_spread, od_spread, .func (PySem.W.fnOf "_law_spread" "_law_spread" (defArgs s_spread) (defBody s_spread) (defScope s_spread) .none kV_spread dc_spread pm_spread an_spread cd_spread ct_spread), sl_spread⟩)
    (c_spread : PySem.W.codeIn K cd_spread "_law_spread" = true)
    (k_spread : PySem.W.keepIn K (.ref f_spread) = true)
    (a_is_number : PySem.W.nsIn K mainGlobals "_law_is_number" = some (some (.ref f_is_number)))
    (l_is_number : K.lookup f_is_number = some ⟨oc_is_number, od_is_number, .func (PySem.W.fnOf "_law_is_number" "_law_is_number" (defArgs s_is_number) (defBody s_is_number) (defScope s_is_number) .none kV_is_number dc_is_number pm_is_number an_is_number cd_is_number ct_is_number), sl_is_number⟩)
    (c_is_number : PySem.W.codeIn K cd_is_number "_law_is_number" = true)
    (k_is_number : PySem.W.keepIn K (.ref f_is_number) = true)
    (a_walk_sets : PySem.W.nsIn K mainGlobals "_law_walk_sets" = some (some (.ref f_walk_sets)))
    (l_walk_sets : K.lookup f_walk_sets = some ⟨oc_walk_sets, od_walk_sets, .func (PySem.W.fnOf "_law_walk_sets" "_law_walk_sets" (defArgs s_walk_sets) (defBody s_walk_sets) (defScope s_walk_sets) .none kV_walk_sets dc_walk_sets pm_walk_sets an_walk_sets cd_walk_sets ct_walk_sets), sl_walk_sets⟩)
    (c_walk_sets : PySem.W.codeIn K cd_walk_sets "_law_walk_sets" = true)
    (k_walk_sets : PySem.W.keepIn K (.ref f_walk_sets) = true)
    (a_P_token_end : PySem.W.nsIn K mainGlobals "token_end" = some (some (.ref f_P_token_end)))
    (l_P_token_end : K.lookup f_P_token_end = some ⟨oc_P_token_end, od_P_token_end, .func (PySem.W.fnOf "token_end" "token_end" (defArgs s_P_token_end) (defBody s_P_token_end) (defScope s_P_token_end) .none kV_P_token_end dc_P_token_end pm_P_token_end an_P_token_end cd_P_token_end ct_P_token_end), sl_P_token_end⟩)
    (c_P_token_end : PySem.W.codeIn K cd_P_token_end "token_end" = true)
    (k_P_token_end : PySem.W.keepIn K (.ref f_P_token_end) = true)
    (a_P_tokens_of : PySem.W.nsIn K mainGlobals "tokens_of" = some (some (.ref f_P_tokens_of)))
    (l_P_tokens_of : K.lookup f_P_tokens_of = some ⟨oc_P_tokens_of, od_P_tokens_of, .func (PySem.W.fnOf "tokens_of" "tokens_of" (defArgs s_P_tokens_of) (defBody s_P_tokens_of) (defScope s_P_tokens_of) .none kV_P_tokens_of dc_P_tokens_of pm_P_tokens_of an_P_tokens_of cd_P_tokens_of ct_P_tokens_of), sl_P_tokens_of⟩)
    (c_P_tokens_of : PySem.W.codeIn K cd_P_tokens_of "tokens_of" = true)
    (k_P_tokens_of : PySem.W.keepIn K (.ref f_P_tokens_of) = true)
    (a_P_passed : PySem.W.nsIn K mainGlobals "passed" = some (some (.ref f_P_passed)))
    (l_P_passed : K.lookup f_P_passed = some ⟨oc_P_passed, od_P_passed, .func (PySem.W.fnOf "passed" "passed" (defArgs s_P_passed) (defBody s_P_passed) (defScope s_P_passed) .none kV_P_passed dc_P_passed pm_P_passed an_P_passed cd_P_passed ct_P_passed), sl_P_passed⟩)
    (c_P_passed : PySem.W.codeIn K cd_P_passed "passed" = true)
    (k_P_passed : PySem.W.keepIn K (.ref f_P_passed) = true)
    (a_P_read_column : PySem.W.nsIn K mainGlobals "read_column" = some (some (.ref f_P_read_column)))
    (l_P_read_column : K.lookup f_P_read_column = some ⟨oc_P_read_column, od_P_read_column, .func (PySem.W.fnOf "read_column" "read_column" (defArgs s_P_read_column) (defBody s_P_read_column) (defScope s_P_read_column) .none kV_P_read_column dc_P_read_column pm_P_read_column an_P_read_column cd_P_read_column ct_P_read_column), sl_P_read_column⟩)
    (c_P_read_column : PySem.W.codeIn K cd_P_read_column "read_column" = true)
    (k_P_read_column : PySem.W.keepIn K (.ref f_P_read_column) = true)
    (a_P_read_number : PySem.W.nsIn K mainGlobals "read_number" = some (some (.ref f_P_read_number)))
    (l_P_read_number : K.lookup f_P_read_number = some ⟨oc_P_read_number, od_P_read_number, .func (PySem.W.fnOf "read_number" "read_number" (defArgs s_P_read_number) (defBody s_P_read_number) (defScope s_P_read_number) .none kV_P_read_number dc_P_read_number pm_P_read_number an_P_read_number cd_P_read_number ct_P_read_number), sl_P_read_number⟩)
    (c_P_read_number : PySem.W.codeIn K cd_P_read_number "read_number" = true)
    (k_P_read_number : PySem.W.keepIn K (.ref f_P_read_number) = true)
    (a_P_read_term : PySem.W.nsIn K mainGlobals "read_term" = some (some (.ref f_P_read_term)))
    (l_P_read_term : K.lookup f_P_read_term = some ⟨oc_P_read_term, od_P_read_term, .func (PySem.W.fnOf "read_term" "read_term" (defArgs s_P_read_term) (defBody s_P_read_term) (defScope s_P_read_term) .none kV_P_read_term dc_P_read_term pm_P_read_term an_P_read_term cd_P_read_term ct_P_read_term), sl_P_read_term⟩)
    (c_P_read_term : PySem.W.codeIn K cd_P_read_term "read_term" = true)
    (k_P_read_term : PySem.W.keepIn K (.ref f_P_read_term) = true)
    (a_P_read_sets : PySem.W.nsIn K mainGlobals "read_sets" = some (some (.ref f_P_read_sets)))
    (l_P_read_sets : K.lookup f_P_read_sets = some ⟨oc_P_read_sets, od_P_read_sets, .func (PySem.W.fnOf "read_sets" "read_sets" (defArgs s_P_read_sets) (defBody s_P_read_sets) (defScope s_P_read_sets) .none kV_P_read_sets dc_P_read_sets pm_P_read_sets an_P_read_sets cd_P_read_sets ct_P_read_sets), sl_P_read_sets⟩)
    (c_P_read_sets : PySem.W.codeIn K cd_P_read_sets "read_sets" = true)
    (k_P_read_sets : PySem.W.keepIn K (.ref f_P_read_sets) = true)
    (a_P_spaced : PySem.W.nsIn K mainGlobals "spaced" = some (some (.ref f_P_spaced)))
    (l_P_spaced : K.lookup f_P_spaced = some ⟨oc_P_spaced, od_P_spaced, .func (PySem.W.fnOf "spaced" "spaced" (defArgs s_P_spaced) (defBody s_P_spaced) (defScope s_P_spaced) .none kV_P_spaced dc_P_spaced pm_P_spaced an_P_spaced cd_P_spaced ct_P_spaced), sl_P_spaced⟩)
    (c_P_spaced : PySem.W.codeIn K cd_P_spaced "spaced" = true)
    (k_P_spaced : PySem.W.keepIn K (.ref f_P_spaced) = true)
    (a_P_Table_all_values : PySem.W.findIn K (.ref cTable) "all_values" = some (some (.ref f_P_Table_all_values)))
    (i_P_Table_all_values : PySem.W.isFn K (.ref f_P_Table_all_values) = true)
    (l_P_Table_all_values : K.lookup f_P_Table_all_values = some ⟨oc_P_Table_all_values, od_P_Table_all_values, .func (PySem.W.fnOf "all_values" "Table.all_values" (defArgs s_P_Table_all_values) (defBody s_P_Table_all_values) (defScope s_P_Table_all_values) .none kV_P_Table_all_values dc_P_Table_all_values pm_P_Table_all_values an_P_Table_all_values cd_P_Table_all_values ct_P_Table_all_values), sl_P_Table_all_values⟩)
    (c_P_Table_all_values : PySem.W.codeIn K cd_P_Table_all_values "Table.all_values" = true)
    (k_P_Table_all_values : PySem.W.keepIn K (.ref f_P_Table_all_values) = true)
    (a_P_term_value : PySem.W.nsIn K mainGlobals "term_value" = some (some (.ref f_P_term_value)))
    (l_P_term_value : K.lookup f_P_term_value = some ⟨oc_P_term_value, od_P_term_value, .func (PySem.W.fnOf "term_value" "term_value" (defArgs s_P_term_value) (defBody s_P_term_value) (defScope s_P_term_value) .none kV_P_term_value dc_P_term_value pm_P_term_value an_P_term_value cd_P_term_value ct_P_term_value), sl_P_term_value⟩)
    (c_P_term_value : PySem.W.codeIn K cd_P_term_value "term_value" = true)
    (k_P_term_value : PySem.W.keepIn K (.ref f_P_term_value) = true)
    (a_P_new_values : PySem.W.nsIn K mainGlobals "new_values" = some (some (.ref f_P_new_values)))
    (l_P_new_values : K.lookup f_P_new_values = some ⟨oc_P_new_values, od_P_new_values, .func (PySem.W.fnOf "new_values" "new_values" (defArgs s_P_new_values) (defBody s_P_new_values) (defScope s_P_new_values) .none kV_P_new_values dc_P_new_values pm_P_new_values an_P_new_values cd_P_new_values ct_P_new_values), sl_P_new_values⟩)
    (c_P_new_values : PySem.W.codeIn K cd_P_new_values "new_values" = true)
    (k_P_new_values : PySem.W.keepIn K (.ref f_P_new_values) = true)
    (a_P_Sets_init : PySem.W.findIn K (.ref cSets) "__init__" = some (some (.ref f_P_Sets_init)))
    (i_P_Sets_init : PySem.W.isFn K (.ref f_P_Sets_init) = true)
    (l_P_Sets_init : K.lookup f_P_Sets_init = some ⟨oc_P_Sets_init, od_P_Sets_init, .func (PySem.W.fnOf "__init__" "Sets.__init__" (defArgs s_P_Sets_init) (defBody s_P_Sets_init) (defScope s_P_Sets_init) .none kV_P_Sets_init dc_P_Sets_init pm_P_Sets_init an_P_Sets_init cd_P_Sets_init ct_P_Sets_init), sl_P_Sets_init⟩)
    (c_P_Sets_init : PySem.W.codeIn K cd_P_Sets_init "Sets.__init__" = true)
    (k_P_Sets_init : PySem.W.keepIn K (.ref f_P_Sets_init) = true)
    (a_P_Sets_str : PySem.W.findIn K (.ref cSets) "__str__" = some (some (.ref f_P_Sets_str)))
    (i_P_Sets_str : PySem.W.isFn K (.ref f_P_Sets_str) = true)
    (l_P_Sets_str : K.lookup f_P_Sets_str = some ⟨oc_P_Sets_str, od_P_Sets_str, .func (PySem.W.fnOf "__str__" "Sets.__str__" (defArgs s_P_Sets_str) (defBody s_P_Sets_str) (defScope s_P_Sets_str) .none kV_P_Sets_str dc_P_Sets_str pm_P_Sets_str an_P_Sets_str cd_P_Sets_str ct_P_Sets_str), sl_P_Sets_str⟩)
    (c_P_Sets_str : PySem.W.codeIn K cd_P_Sets_str "Sets.__str__" = true)
    (k_P_Sets_str : PySem.W.keepIn K (.ref f_P_Sets_str) = true)
    (a_told : PySem.W.nsIn K mainGlobals "_law_told" = some (some (.ref f_told)))
    (l_told : K.lookup f_told = some ⟨oc_told, od_told, .func (PySem.W.fnOf "_law_told" "_law_told" (defArgs s_told) (defBody s_told) (defScope s_told) .none kV_told dc_told pm_told an_told cd_told ct_told), sl_told⟩)
    (c_told : PySem.W.codeIn K cd_told "_law_told" = true)
    (k_told : PySem.W.keepIn K (.ref f_told) = true)
    (a_law : PySem.W.nsIn K mainGlobals "law" = some (some (.ref f_law)))
    (l_law : K.lookup f_law = some ⟨oc_law, od_law, .func (PySem.W.fnOf "law" "law" (defArgs s_law) (defBody s_law) (defScope s_law) .none kV_law dc_law pm_law an_law cd_law ct_law), sl_law⟩)
    (c_law : PySem.W.codeIn K cd_law "law" = true)
    (k_law : PySem.W.keepIn K (.ref f_law) = true)
    (hF : ∀ ns : List Int, ns.length ≤ 63 → ∃ st', F_law [.lst (ns.map .int)] [] = .ok (.bl true) st') :
    ∃ fd : FuncData, (∀ (s : Shared) (v : Value), BindsTo s fd ⟨[v], []⟩ [("_law_script", v)]) ∧ ∀ base : Heap, K.In base → base.Ns mainGlobals mg → FnOk l.prog w K mg base (L2.CX l.prog w) 9 fa fd ["_law_script"] (spLaw K) := by
  have e := hfa.symm.trans (PySem.W.mg_of X G a_law)
  cases e
  have T : Tx K mg cTable cSets cBadTable cBadSets cStuck :=
    { b_abs := PySem.W.mg_none_of X G z_abs,
      b_bool := PySem.W.mg_none_of X G z_bool,
      b_enumerate := PySem.W.mg_none_of X G z_enumerate,
      b_int := PySem.W.mg_none_of X G z_int,
      b_isinstance := PySem.W.mg_none_of X G z_isinstance,
      b_len := PySem.W.mg_none_of X G z_len,
      b_list := PySem.W.mg_none_of X G z_list,
      b_max := PySem.W.mg_none_of X G z_max,
      b_min := PySem.W.mg_none_of X G z_min,
      b_range := PySem.W.mg_none_of X G z_range,
      b_str := PySem.W.mg_none_of X G z_str,
      b_tuple := PySem.W.mg_none_of X G z_tuple,
      g_DIGITS := ⟨_, PySem.W.mg_of X G n_DIGITS⟩,
      g_KEPT := gtup_of (PySem.W.mg_of X G n_KEPT) l_KEPT d_KEPT,
      g_LETTERS := ⟨_, PySem.W.mg_of X G n_LETTERS⟩,
      g_MOST_VALUES := ⟨_, PySem.W.mg_of X G n_MOST_VALUES⟩,
      g_PAIRS := gtup_of (PySem.W.mg_of X G n_PAIRS) l_PAIRS d_PAIRS,
      k_Table := PySem.W.mg_of X G n_Table,
      k_Sets := PySem.W.mg_of X G n_Sets,
      k_BadTable := PySem.W.mg_of X G n_BadTable,
      k_BadSets := PySem.W.mg_of X G n_BadSets,
      k_Stuck := PySem.W.mg_of X G n_Stuck,
      cl_Table := ⟨pg_Table, hd_Table, po_Table, sa_Table⟩,
      cl_Sets := ⟨pg_Sets, hd_Sets, po_Sets, sa_Sets⟩,
      fd_Sets_columns := fdm_one (PySem.W.mg_of X G n_Sets) ⟨pg_Sets, hd_Sets, po_Sets, sa_Sets⟩ na_Sets_columns,
      fd_Table_columns := fdm_one (PySem.W.mg_of X G n_Table) ⟨pg_Table, hd_Table, po_Table, sa_Table⟩ na_Table_columns,
      fd_Table_every := fdm_one (PySem.W.mg_of X G n_Table) ⟨pg_Table, hd_Table, po_Table, sa_Table⟩ na_Table_every,
      fd_Sets_results := fdm_one (PySem.W.mg_of X G n_Sets) ⟨pg_Sets, hd_Sets, po_Sets, sa_Sets⟩ na_Sets_results,
      fd_Sets_table := fdm_one (PySem.W.mg_of X G n_Sets) ⟨pg_Sets, hd_Sets, po_Sets, sa_Sets⟩ na_Sets_table,
      fd_Sets_text := fdm_one (PySem.W.mg_of X G n_Sets) ⟨pg_Sets, hd_Sets, po_Sets, sa_Sets⟩ na_Sets_text,
      fd_Table_tops := fdm_one (PySem.W.mg_of X G n_Table) ⟨pg_Table, hd_Table, po_Table, sa_Table⟩ na_Table_tops,
      xo_BadTable := ⟨⟨_, _, _, _, _, _, _, _, _, _, _, _, _, _, _, xL_BadTable, xr_BadTable⟩, xs_BadTable, xe_BadTable, xt_BadTable, xk_BadTable⟩,
      xf_BadTable := ⟨xg_BadTable, xh_BadTable, xe_BadTable, xd_BadTable⟩,
      xn_BadTable_at := xn_BadTable,
      te_BadTable := exm_self xe_BadTable xc_BadTable xt_BadTable xu_BadTable,
      xo_BadSets := ⟨⟨_, _, _, _, _, _, _, _, _, _, _, _, _, _, _, xL_BadSets, xr_BadSets⟩, xs_BadSets, xe_BadSets, xt_BadSets, xk_BadSets⟩,
      xf_BadSets := ⟨xg_BadSets, xh_BadSets, xe_BadSets, xd_BadSets⟩,
      xn_BadSets_at := xn_BadSets,
      te_BadSets := exm_self xe_BadSets xc_BadSets xt_BadSets xu_BadSets,
      xo_Stuck := ⟨⟨_, _, _, _, _, _, _, _, _, _, _, _, _, _, _, xL_Stuck, xr_Stuck⟩, xs_Stuck, xe_Stuck, xt_Stuck, xk_Stuck⟩,
      xf_Stuck := ⟨xg_Stuck, xh_Stuck, xe_Stuck, xd_Stuck⟩,
      xn_Stuck_at := xn_Stuck,
      te_Stuck := exm_self xe_Stuck xc_Stuck xt_Stuck xu_Stuck }
  have G_BadTable_init := fun_mk (st := s_BadTable_init) l_BadTable_init c_BadTable_init k_BadTable_init
  have b_BadTable_init := G_BadTable_init.binds (ps := ["self", "at"]) fun _ _ _ _ _ _ us hl => match us, hl with | [_, _], _ => rfl
  have G_BadSets_init := fun_mk (st := s_BadSets_init) l_BadSets_init c_BadSets_init k_BadSets_init
  have b_BadSets_init := G_BadSets_init.binds (ps := ["self", "at"]) fun _ _ _ _ _ _ us hl => match us, hl with | [_, _], _ => rfl
  have G_Stuck_init := fun_mk (st := s_Stuck_init) l_Stuck_init c_Stuck_init k_Stuck_init
  have b_Stuck_init := G_Stuck_init.binds (ps := ["self", "at"]) fun _ _ _ _ _ _ us hl => match us, hl with | [_, _], _ => rfl
  have G_bag := fun_mk (st := s_bag) l_bag c_bag k_bag
  have b_bag := G_bag.binds (ps := ["_law_script", "_law_at"]) fun _ _ _ _ _ _ us hl => match us, hl with | [_, _], _ => rfl
  have G_draw := fun_mk (st := s_draw) l_draw c_draw k_draw
  have b_draw := G_draw.binds (ps := ["_law_bag_here", "_law_many"]) fun _ _ _ _ _ _ us hl => match us, hl with | [_, _], _ => rfl
  have G_kept := fun_mk (st := s_kept) l_kept c_kept k_kept
  have b_kept := G_kept.binds (ps := []) fun _ _ _ _ _ _ us hl => match us, hl with | [], _ => rfl
  have G_word := fun_mk (st := s_word) l_word c_word k_word
  have b_word := G_word.binds (ps := ["_law_bag_here", "_law_taken"]) fun _ _ _ _ _ _ us hl => match us, hl with | [_, _], _ => rfl
  have G_columns := fun_mk (st := s_columns) l_columns c_columns k_columns
  have b_columns := G_columns.binds (ps := ["_law_bag_here", "_law_most"]) fun _ _ _ _ _ _ us hl => match us, hl with | [_, _], _ => rfl
  have G_P_is_column := fun_mk (st := s_P_is_column) l_P_is_column c_P_is_column k_P_is_column
  have b_P_is_column := G_P_is_column.binds (ps := ["entry"]) fun _ _ _ _ _ _ us hl => match us, hl with | [_], _ => rfl
  have G_P_Table_init := fun_mk (st := s_P_Table_init) l_P_Table_init c_P_Table_init k_P_Table_init
  have b_P_Table_init := G_P_Table_init.binds (ps := ["self", "columns"]) fun _ _ _ _ _ _ us hl => match us, hl with | [_, _], _ => rfl
  have G_pick := fun_mk (st := s_pick) l_pick c_pick k_pick
  have b_pick := G_pick.binds (ps := ["_law_bag_here", "_law_some"]) fun _ _ _ _ _ _ us hl => match us, hl with | [_, _], _ => rfl
  have G_spoilt := fun_mk (st := s_spoilt) l_spoilt c_spoilt k_spoilt
  have b_spoilt := G_spoilt.binds (ps := ["_law_bag_here", "_law_tokens", "_law_odd_here"]) fun _ _ _ _ _ _ us hl => match us, hl with | [_, _, _], _ => rfl
  have G_set_tokens := fun_mk (st := s_set_tokens) l_set_tokens c_set_tokens k_set_tokens
  have b_set_tokens := G_set_tokens.binds (ps := ["_law_sets_here", "_law_columns_here"]) fun _ _ _ _ _ _ us hl => match us, hl with | [_, _], _ => rfl
  have G_number := fun_mk (st := s_number) l_number c_number k_number
  have b_number := G_number.binds (ps := ["_law_bag_here", "_law_top"]) fun _ _ _ _ _ _ us hl => match us, hl with | [_, _], _ => rfl
  have G_sets := fun_mk (st := s_sets) l_sets c_sets k_sets
  have b_sets := G_sets.binds (ps := ["_law_bag_here", "_law_columns_here"]) fun _ _ _ _ _ _ us hl => match us, hl with | [_, _], _ => rfl
  have G_odd := fun_mk (st := s_odd) l_odd c_odd k_odd
  have b_odd := G_odd.binds (ps := ["_law_columns_here"]) fun _ _ _ _ _ _ us hl => match us, hl with | [_], _ => rfl
  have G_sort := fun_mk (st := s_sort) l_sort c_sort k_sort
  have b_sort := G_sort.binds (ps := ["_law_sign"]) fun _ _ _ _ _ _ us hl => match us, hl with | [_], _ => rfl
  have G_spread := fun_mk (st := s_spread) l_spread c_spread k_spread
  have b_spread := G_spread.binds (ps := ["_law_bag_here", "_law_tokens"]) fun _ _ _ _ _ _ us hl => match us, hl with | [_, _], _ => rfl
  have G_is_number := fun_mk (st := s_is_number) l_is_number c_is_number k_is_number
  have b_is_number := G_is_number.binds (ps := ["_law_token"]) fun _ _ _ _ _ _ us hl => match us, hl with | [_], _ => rfl
  have G_walk_sets := fun_mk (st := s_walk_sets) l_walk_sets c_walk_sets k_walk_sets
  have b_walk_sets := G_walk_sets.binds (ps := ["_law_tokens", "_law_at", "_law_words"]) fun _ _ _ _ _ _ us hl => match us, hl with | [_, _, _], _ => rfl
  have G_P_token_end := fun_mk (st := s_P_token_end) l_P_token_end c_P_token_end k_P_token_end
  have b_P_token_end := G_P_token_end.binds (ps := ["text", "at"]) fun _ _ _ _ _ _ us hl => match us, hl with | [_, _], _ => rfl
  have G_P_tokens_of := fun_mk (st := s_P_tokens_of) l_P_tokens_of c_P_tokens_of k_P_tokens_of
  have b_P_tokens_of := G_P_tokens_of.binds (ps := ["text"]) fun _ _ _ _ _ _ us hl => match us, hl with | [_], _ => rfl
  have G_P_passed := fun_mk (st := s_P_passed) l_P_passed c_P_passed k_P_passed
  have b_P_passed := G_P_passed.binds (ps := ["tokens", "at", "allowed"]) fun _ _ _ _ _ _ us hl => match us, hl with | [_, _, _], _ => rfl
  have G_P_read_column := fun_mk (st := s_P_read_column) l_P_read_column c_P_read_column k_P_read_column
  have b_P_read_column := G_P_read_column.binds (ps := ["tokens", "at", "table"]) fun _ _ _ _ _ _ us hl => match us, hl with | [_, _, _], _ => rfl
  have G_P_read_number := fun_mk (st := s_P_read_number) l_P_read_number c_P_read_number k_P_read_number
  have b_P_read_number := G_P_read_number.binds (ps := ["tokens", "at"]) fun _ _ _ _ _ _ us hl => match us, hl with | [_, _], _ => rfl
  have G_P_read_term := fun_mk (st := s_P_read_term) l_P_read_term c_P_read_term k_P_read_term
  have b_P_read_term := G_P_read_term.binds (ps := ["tokens", "at", "table"]) fun _ _ _ _ _ _ us hl => match us, hl with | [_, _, _], _ => rfl
  have G_P_read_sets := fun_mk (st := s_P_read_sets) l_P_read_sets c_P_read_sets k_P_read_sets
  have b_P_read_sets := G_P_read_sets.binds (ps := ["tokens", "at", "table"]) fun _ _ _ _ _ _ us hl => match us, hl with | [_, _, _], _ => rfl
  have G_P_spaced := fun_mk (st := s_P_spaced) l_P_spaced c_P_spaced k_P_spaced
  have b_P_spaced := G_P_spaced.binds (ps := ["text"]) fun _ _ _ _ _ _ us hl => match us, hl with | [_], _ => rfl
  have G_P_Table_all_values := fun_mk (st := s_P_Table_all_values) l_P_Table_all_values c_P_Table_all_values k_P_Table_all_values
  have b_P_Table_all_values := G_P_Table_all_values.binds (ps := ["self"]) fun _ _ _ _ _ _ us hl => match us, hl with | [_], _ => rfl
  have G_P_term_value := fun_mk (st := s_P_term_value) l_P_term_value c_P_term_value k_P_term_value
  have b_P_term_value := G_P_term_value.binds (ps := ["term", "values"]) fun _ _ _ _ _ _ us hl => match us, hl with | [_, _], _ => rfl
  have G_P_new_values := fun_mk (st := s_P_new_values) l_P_new_values c_P_new_values k_P_new_values
  have b_P_new_values := G_P_new_values.binds (ps := ["items", "values", "table"]) fun _ _ _ _ _ _ us hl => match us, hl with | [_, _, _], _ => rfl
  have G_P_Sets_init := fun_mk (st := s_P_Sets_init) l_P_Sets_init c_P_Sets_init k_P_Sets_init
  have b_P_Sets_init := G_P_Sets_init.binds (ps := ["self", "text", "table"]) fun _ _ _ _ _ _ us hl => match us, hl with | [_, _, _], _ => rfl
  have G_P_Sets_str := fun_mk (st := s_P_Sets_str) l_P_Sets_str c_P_Sets_str k_P_Sets_str
  have b_P_Sets_str := G_P_Sets_str.binds (ps := ["self"]) fun _ _ _ _ _ _ us hl => match us, hl with | [_], _ => rfl
  have G_told := fun_mk (st := s_told) l_told c_told k_told
  have b_told := G_told.binds (ps := ["_law_text", "_law_table"]) fun _ _ _ _ _ _ us hl => match us, hl with | [_, _], _ => rfl
  have G_law := fun_mk (st := s_law) l_law c_law k_law
  have b_law := G_law.binds (ps := ["_law_script"]) fun _ _ _ _ _ _ us hl => match us, hl with | [_], _ => rfl
  refine ⟨PySem.W.fnOf "law" "law" (defArgs s_law) (defBody s_law) (defScope s_law) .none kV_law dc_law pm_law an_law cd_law ct_law, fun s v => .of_eq rfl, fun base _ _ => ?_⟩
  have x_BadTable : ExcM l.prog w K mg base "BadTable" "at" 1 := ⟨cBadTable, fI_BadTable, _, _, T.k_BadTable, T.xo_BadTable, T.xf_BadTable, T.xn_BadTable_at, xi_BadTable, xf_BadTable, b_BadTable_init, exc_init G_BadTable_init sc_BadTable_init T.xo_BadTable T.xn_BadTable_at rfl (Or.inl rfl) (Or.inl rfl) (by decide) (by decide) (by decide) (by decide)⟩
  have x_BadSets : ExcM l.prog w K mg base "BadSets" "at" 1 := ⟨cBadSets, fI_BadSets, _, _, T.k_BadSets, T.xo_BadSets, T.xf_BadSets, T.xn_BadSets_at, xi_BadSets, xf_BadSets, b_BadSets_init, exc_init G_BadSets_init sc_BadSets_init T.xo_BadSets T.xn_BadSets_at rfl (Or.inl rfl) (Or.inl rfl) (by decide) (by decide) (by decide) (by decide)⟩
  have xh_BadSets : ExcHM l.prog w K mg base "BadSets" "at" 1 := ⟨cBadSets, fI_BadSets, _, _, T.k_BadSets, T.xo_BadSets, xi_BadSets, xf_BadSets, b_BadSets_init, exc_initH G_BadSets_init sc_BadSets_init T.xo_BadSets T.xn_BadSets_at rfl (Or.inl rfl) (Or.inl rfl) (by decide) (by decide) (by decide) (by decide)⟩
  have x_Stuck : ExcM l.prog w K mg base "Stuck" "at" 1 := ⟨cStuck, fI_Stuck, _, _, T.k_Stuck, T.xo_Stuck, T.xf_Stuck, T.xn_Stuck_at, xi_Stuck, xf_Stuck, b_Stuck_init, exc_init G_Stuck_init sc_Stuck_init T.xo_Stuck T.xn_Stuck_at rfl (Or.inl rfl) (Or.inl rfl) (by decide) (by decide) (by decide) (by decide)⟩
  have o_bag := ok_bag (P := l.prog) (w := w) (base := base) G_bag T 
  have c_bag : FnM l.prog w K mg base "_law_bag" 1 2 F_bag := ⟨f_bag, _, _, PySem.W.mg_of X G a_bag, k_bag, b_bag, o_bag⟩
  have o_draw := ok_draw (P := l.prog) (w := w) (base := base) G_draw T 
  have c_draw : FnM l.prog w K mg base "_law_draw" 1 2 F_draw := ⟨f_draw, _, _, PySem.W.mg_of X G a_draw, k_draw, b_draw, o_draw⟩
  have o_kept := ok_kept (P := l.prog) (w := w) (base := base) G_kept T 
  have c_kept : FnM l.prog w K mg base "_law_kept" 1 0 F_kept := ⟨f_kept, _, _, PySem.W.mg_of X G a_kept, k_kept, b_kept, o_kept⟩
  have o_word := ok_word (P := l.prog) (w := w) (base := base) G_word T c_draw c_kept
  have c_word : FnM l.prog w K mg base "_law_word" 2 2 F_word := ⟨f_word, _, _, PySem.W.mg_of X G a_word, k_word, b_word, o_word⟩
  have o_columns := ok_columns (P := l.prog) (w := w) (base := base) G_columns T c_draw c_word
  have c_columns : FnM l.prog w K mg base "_law_columns" 3 2 F_columns := ⟨f_columns, _, _, PySem.W.mg_of X G a_columns, k_columns, b_columns, o_columns⟩
  have o_P_is_column := ok_P_is_column (P := l.prog) (w := w) (base := base) G_P_is_column T 
  have c_P_is_column : FnM l.prog w K mg base "is_column" 1 1 F_P_is_column := ⟨f_P_is_column, _, _, PySem.W.mg_of X G a_P_is_column, k_P_is_column, b_P_is_column, o_P_is_column⟩
  have o_P_Table_init := ok_P_Table_init (P := l.prog) (w := w) (base := base) G_P_Table_init T c_P_is_column x_BadTable
  have mk_Table' : MkM l.prog w K mg base "Table" 3 2 F_P_Table_init := ⟨cTable, f_P_Table_init, _, _, T.k_Table, ⟨mk_Table, a_P_Table_init, i_P_Table_init, kc_Table⟩, b_P_Table_init, o_P_Table_init⟩
  have o_pick := ok_pick (P := l.prog) (w := w) (base := base) G_pick T c_draw
  have c_pick : FnM l.prog w K mg base "_law_pick" 2 2 F_pick := ⟨f_pick, _, _, PySem.W.mg_of X G a_pick, k_pick, b_pick, o_pick⟩
  have o_spoilt := ok_spoilt (P := l.prog) (w := w) (base := base) G_spoilt T c_draw c_pick
  have c_spoilt : FnM l.prog w K mg base "_law_spoilt" 3 3 F_spoilt := ⟨f_spoilt, _, _, PySem.W.mg_of X G a_spoilt, k_spoilt, b_spoilt, o_spoilt⟩
  have o_set_tokens := ok_set_tokens (P := l.prog) (w := w) (base := base) G_set_tokens T 
  have c_set_tokens : FnM l.prog w K mg base "_law_set_tokens" 1 2 F_set_tokens := ⟨f_set_tokens, _, _, PySem.W.mg_of X G a_set_tokens, k_set_tokens, b_set_tokens, o_set_tokens⟩
  have o_number := ok_number (P := l.prog) (w := w) (base := base) G_number T c_draw
  have c_number : FnM l.prog w K mg base "_law_number" 2 2 F_number := ⟨f_number, _, _, PySem.W.mg_of X G a_number, k_number, b_number, o_number⟩
  have o_sets := ok_sets (P := l.prog) (w := w) (base := base) G_sets T c_draw c_number c_pick
  have c_sets : FnM l.prog w K mg base "_law_sets" 3 2 F_sets := ⟨f_sets, _, _, PySem.W.mg_of X G a_sets, k_sets, b_sets, o_sets⟩
  have o_odd := ok_odd (P := l.prog) (w := w) (base := base) G_odd T 
  have c_odd : FnM l.prog w K mg base "_law_odd" 1 1 F_odd := ⟨f_odd, _, _, PySem.W.mg_of X G a_odd, k_odd, b_odd, o_odd⟩
  have o_sort := ok_sort (P := l.prog) (w := w) (base := base) G_sort T 
  have c_sort : FnM l.prog w K mg base "_law_sort" 1 1 F_sort := ⟨f_sort, _, _, PySem.W.mg_of X G a_sort, k_sort, b_sort, o_sort⟩
  have o_spread := ok_spread (P := l.prog) (w := w) (base := base) G_spread T c_draw c_sort
  have c_spread : FnM l.prog w K mg base "_law_spread" 2 2 F_spread := ⟨f_spread, _, _, PySem.W.mg_of X G a_spread, k_spread, b_spread, o_spread⟩
  have o_is_number := ok_is_number (P := l.prog) (w := w) (base := base) G_is_number T 
  have c_is_number : FnM l.prog w K mg base "_law_is_number" 1 1 F_is_number := ⟨f_is_number, _, _, PySem.W.mg_of X G a_is_number, k_is_number, b_is_number, o_is_number⟩
  have o_walk_sets := ok_walk_sets (P := l.prog) (w := w) (base := base) G_walk_sets T c_is_number
  have c_walk_sets : FnM l.prog w K mg base "_law_walk_sets" 2 3 F_walk_sets := ⟨f_walk_sets, _, _, PySem.W.mg_of X G a_walk_sets, k_walk_sets, b_walk_sets, o_walk_sets⟩
  have o_P_token_end := ok_P_token_end (P := l.prog) (w := w) (base := base) G_P_token_end T 
  have c_P_token_end : FnM l.prog w K mg base "token_end" 1 2 F_P_token_end := ⟨f_P_token_end, _, _, PySem.W.mg_of X G a_P_token_end, k_P_token_end, b_P_token_end, o_P_token_end⟩
  have o_P_tokens_of := ok_P_tokens_of (P := l.prog) (w := w) (base := base) G_P_tokens_of T c_P_token_end
  have c_P_tokens_of : FnM l.prog w K mg base "tokens_of" 2 1 F_P_tokens_of := ⟨f_P_tokens_of, _, _, PySem.W.mg_of X G a_P_tokens_of, k_P_tokens_of, b_P_tokens_of, o_P_tokens_of⟩
  have o_P_passed := ok_P_passed (P := l.prog) (w := w) (base := base) G_P_passed T x_Stuck
  have cn_P_passed : FnMN l.prog w K mg base "passed" 3 3 F_P_passed := ⟨f_P_passed, _, _, PySem.W.mg_of X G a_P_passed, k_P_passed, b_P_passed, o_P_passed⟩
  have c_P_passed := cn_P_passed.fnM
  have o_P_read_column := ok_P_read_column (P := l.prog) (w := w) (base := base) G_P_read_column T x_Stuck
  have cn_P_read_column : FnMN l.prog w K mg base "read_column" 3 3 F_P_read_column := ⟨f_P_read_column, _, _, PySem.W.mg_of X G a_P_read_column, k_P_read_column, b_P_read_column, o_P_read_column⟩
  have c_P_read_column := cn_P_read_column.fnM
  have o_P_read_number := ok_P_read_number (P := l.prog) (w := w) (base := base) G_P_read_number T x_Stuck
  have cn_P_read_number : FnMN l.prog w K mg base "read_number" 3 2 F_P_read_number := ⟨f_P_read_number, _, _, PySem.W.mg_of X G a_P_read_number, k_P_read_number, b_P_read_number, o_P_read_number⟩
  have c_P_read_number := cn_P_read_number.fnM
  have o_P_read_term := ok_P_read_term (P := l.prog) (w := w) (base := base) G_P_read_term T cn_P_read_column cn_P_read_number
  have cn_P_read_term : FnMN l.prog w K mg base "read_term" 4 3 F_P_read_term := ⟨f_P_read_term, _, _, PySem.W.mg_of X G a_P_read_term, k_P_read_term, b_P_read_term, o_P_read_term⟩
  have c_P_read_term := cn_P_read_term.fnM
  have o_P_read_sets := ok_P_read_sets (P := l.prog) (w := w) (base := base) G_P_read_sets T cn_P_passed cn_P_read_number cn_P_read_term x_Stuck
  have cn_P_read_sets : FnMN l.prog w K mg base "read_sets" 5 3 F_P_read_sets := ⟨f_P_read_sets, _, _, PySem.W.mg_of X G a_P_read_sets, k_P_read_sets, b_P_read_sets, o_P_read_sets⟩
  have c_P_read_sets := cn_P_read_sets.fnM
  have o_P_spaced := ok_P_spaced (P := l.prog) (w := w) (base := base) G_P_spaced T c_P_tokens_of
  have c_P_spaced : FnM l.prog w K mg base "spaced" 3 1 F_P_spaced := ⟨f_P_spaced, _, _, PySem.W.mg_of X G a_P_spaced, k_P_spaced, b_P_spaced, o_P_spaced⟩
  have o_P_Table_all_values := ok_P_Table_all_values (P := l.prog) (w := w) (base := base) G_P_Table_all_values T 
  have m_P_Table_all_values : MethM l.prog w K mg base "Table" "all_values" 1 1 F_P_Table_all_values := ⟨cTable, f_P_Table_all_values, _, _, T.k_Table, T.cl_Table, ⟨a_P_Table_all_values, i_P_Table_all_values, k_P_Table_all_values⟩, b_P_Table_all_values, o_P_Table_all_values⟩
  have o_P_term_value := ok_P_term_value (P := l.prog) (w := w) (base := base) G_P_term_value T 
  have c_P_term_value : FnM l.prog w K mg base "term_value" 1 2 F_P_term_value := ⟨f_P_term_value, _, _, PySem.W.mg_of X G a_P_term_value, k_P_term_value, b_P_term_value, o_P_term_value⟩
  have o_P_new_values := ok_P_new_values (P := l.prog) (w := w) (base := base) G_P_new_values T c_P_term_value
  have c_P_new_values : FnM l.prog w K mg base "new_values" 2 3 F_P_new_values := ⟨f_P_new_values, _, _, PySem.W.mg_of X G a_P_new_values, k_P_new_values, b_P_new_values, o_P_new_values⟩
  have o_P_Sets_init := ok_P_Sets_init (P := l.prog) (w := w) (base := base) G_P_Sets_init T c_P_new_values c_P_spaced c_P_tokens_of cn_P_passed cn_P_read_sets m_P_Table_all_values xh_BadSets x_BadSets
  have mk_Sets' : MkM l.prog w K mg base "Sets" 6 3 F_P_Sets_init := ⟨cSets, f_P_Sets_init, _, _, T.k_Sets, ⟨mk_Sets, a_P_Sets_init, i_P_Sets_init, kc_Sets⟩, b_P_Sets_init, o_P_Sets_init⟩
  have o_P_Sets_str := ok_P_Sets_str (P := l.prog) (w := w) (base := base) G_P_Sets_str T 
  have m_P_Sets_str : MethM l.prog w K mg base "Sets" "__str__" 1 1 F_P_Sets_str := ⟨cSets, f_P_Sets_str, _, _, T.k_Sets, T.cl_Sets, ⟨a_P_Sets_str, i_P_Sets_str, k_P_Sets_str⟩, b_P_Sets_str, o_P_Sets_str⟩
  have o_told := ok_told (P := l.prog) (w := w) (base := base) G_told T mk_Sets' m_P_Sets_str
  have c_told : FnM l.prog w K mg base "_law_told" 8 2 F_told := ⟨f_told, _, _, PySem.W.mg_of X G a_told, k_told, b_told, o_told⟩
  have o_law := ok_law (P := l.prog) (w := w) (base := base) G_law T c_bag c_columns c_odd c_pick c_set_tokens c_sets c_spoilt c_spread c_told c_walk_sets mk_Table'
  exact law_end o_law hF
end K07
set_option Elab.async false
set_option linter.all false
set_option maxRecDepth 100000
set_option maxHeartbeats 4000000
namespace K07
open PySem PySem.Spec PyProof.Rows L2 Mi

structure Ups (l : Nat) (st st' : Sto) : Prop where
  len : st'.length = st.length
  get : ∀ j, j ≠ l → st'[j]? = st[j]?
theorem Ups.refl (l : Nat) (st : Sto) : Ups l st st := ⟨rfl, fun _ _ => rfl⟩
theorem Ups.trans {l : Nat} {a b c : Sto} (x : Ups l a b) (y : Ups l b c) : Ups l a c := ⟨y.len.trans x.len, fun j h => (y.get j h).trans (x.get j h)⟩
theorem Ups.set {l : Nat} {st : Sto} {o : IO} : Ups l st (st.set l o) := ⟨by simp, fun j h => List.getElem?_set_ne (Ne.symm h)⟩
def BagAt (n l : Nat) (st : Sto) : Prop := ∃ g a b c : Int, st[l]? = some (.lst [.int g, .int a, .int b, .int c]) ∧ 0 ≤ g ∧ 0 ≤ a ∧ a ≤ 1000000000000 ∧ 0 ≤ b ∧ b ≤ 1000000000000 ∧ 0 ≤ c ∧ c ≤ n
theorem BagAt.mono {n m l : Nat} {st : Sto} (h : BagAt n l st) (hm : n ≤ m) : BagAt m l st := by
  obtain ⟨g, a, b, c, e, h1, h2, h3, h4, h5, h6, h7⟩ := h
  exact ⟨g, a, b, c, e, h1, h2, h3, h4, h5, h6, by omega⟩
theorem set_get {st : Sto} {l : Nat} {o o' : IO} (h : st[l]? = some o) : (st.set l o')[l]? = some o' := by
  rw [List.getElem?_set_self (List.getElem?_eq_some_iff.mp h).1]
theorem draw_ok {n l : Nat} {m : Int} {st : Sto} {P : IV → Sto → Prop} {E : Str → List (Str × IV) → Sto → Prop} (hm : 0 < m) (hm2 : m ≤ 1000000000000000000000000000000000000) (hn : n < 1000000000000000000) (h : BagAt n l st)
    (k : ∀ r st', 0 ≤ r → r < m → BagAt (n + 1) l st' → Ups l st st' → P (.int r) st') : (F_draw [.ref l, .int m] st).wp P E := by
  obtain ⟨g, a, b, c, e, h1, h2, h3, h4, h5, h6, h7⟩ := h
  have e3 : ∀ xs, (st.set l (.lst xs))[l]? = some (.lst xs) := fun xs => set_get e
  have ix3 : ∀ xs i (P : IV → Sto → Prop) E, (gIx (.ref l) (.int i) (st.set l (.lst xs))).wq P E .mk = match atI xs i with | some v => P v (st.set l (.lst xs)) | none => False := fun xs i P E => ix_ref (e3 xs)
  simp [F_draw, B_draw, gSetL, ixN, ix_ref e, e, atI, ix3]
  split
  · rename_i hg
    have q1 : 0 ≤ g / m := Int.ediv_nonneg h1 (by omega)
    exact ⟨hm, ⟨hm, by omega⟩, k _ _ (Int.emod_nonneg _ (by omega)) (Int.emod_lt_of_pos _ hm) ⟨_, _, _, _, e3 _, q1, h2, h3, h4, h5, h6, by omega⟩ .set⟩
  · have x1 : 0 ≤ (a * 48271 + b * (c + 1) + (c + 1) * (c + 1) * 7919) % 2147483629 := Int.emod_nonneg _ (by decide)
    have x2 : (a * 48271 + b * (c + 1) + (c + 1) * (c + 1) * 7919) % 2147483629 < 2147483629 := Int.emod_lt_of_pos _ (by decide)
    refine ⟨by omega, by omega, by omega, hm, ?_⟩
    exact k _ _ (Int.emod_nonneg _ (by omega)) (Int.emod_lt_of_pos _ hm) ⟨_, _, _, _, e3 _, h1, h2, h3, h4, h5, by omega, by omega⟩ .set

/-- what stands before n stays -/
structure Keeps (n : Nat) (st st' : Sto) : Prop where
  len : st.length ≤ st'.length
  get : ∀ j, j < n → st'[j]? = st[j]?
theorem bag_ok {ns : List Int} {i : Nat} {st : Sto} {P : IV → Sto → Prop} {E : Str → List (Str × IV) → Sto → Prop} (hi : i ≤ 1000)
    (k : ∀ o, BagAt 0 st.length (st ++ [o]) → P (.ref st.length) (st ++ [o])) : (F_bag [.lst (ns.map .int), .int i] st).wp P E := by
  have key : ∀ (j : Nat), j < ns.length → atI (ns.map IV.int) (j : Int) = some (.int (ns.getD j 0)) := fun j hj => by
    refine atI_at ?_
    rw [List.getElem?_map, List.getElem?_eq_getElem hj]
    simp [hj]
  have fin : ∀ g x y : Int, 0 ≤ g → P (.ref st.length) (st ++ [.lst [.int g, .int (x % 1000000007 + 2), .int (y % 998244353 + 5), .int 0]]) := fun g x y hg => by
    have q1 := Int.emod_nonneg x (show (1000000007 : Int) ≠ 0 by decide)
    have q2 := Int.emod_lt_of_pos x (show (0 : Int) < 1000000007 by decide)
    have q3 := Int.emod_nonneg y (show (998244353 : Int) ≠ 0 by decide)
    have q4 := Int.emod_lt_of_pos y (show (0 : Int) < 998244353 by decide)
    exact k _ ⟨g, x % 1000000007 + 2, y % 998244353 + 5, 0, by simp, hg, by omega, by omega, by omega, by omega, by omega, by omega⟩
  simp [F_bag, B_bag]
  by_cases c : i < ns.length
  · by_cases c2 : i + 1 < ns.length
    · have k2 := key (i + 1) c2
      have e2 : (((i + 1 : Nat)) : Int) = (i : Int) + 1 := by omega
      rw [e2] at k2
      simp [c, key i c, show (i : Int) + 1 < (ns.length : Int) by omega, k2]
      split <;> exact fin _ _ _ (by omega)
    · simp [c, key i c, show ¬ (i : Int) + 1 < (ns.length : Int) by omega]
      split <;> exact fin _ _ _ (by omega)
  · have c2 : ¬ (i : Int) + 1 < (ns.length : Int) := by omega
    simp [c, c2]
    split <;> exact fin _ _ _ (by omega)
theorem pick_ok {n l : Nat} {xs : List IV} {st : Sto} {P : IV → Sto → Prop} {E : Str → List (Str × IV) → Sto → Prop} (h0 : 0 < xs.length) (h1 : xs.length ≤ 1000) (hn : n < 1000000000000000000) (h : BagAt n l st)
    (k : ∀ r st', r ∈ xs → BagAt (n + 1) l st' → Ups l st st' → P r st') : (F_pick [.ref l, .lst xs] st).wp P E := by
  simp [F_pick, B_pick]
  refine draw_ok (by omega) (by omega) hn h fun r st' r0 r1 hb hu => ?_
  obtain ⟨v, e1, e2, e3⟩ := atI_some r0 r1
  simp [e1]
  exact k _ _ e3 hb hu
theorem pick_ref {n l le : Nat} {xs : List IV} {st : Sto} {P : IV → Sto → Prop} {E : Str → List (Str × IV) → Sto → Prop} (hl : le ≠ l) (he : st[le]? = some (.lst xs)) (h0 : 0 < xs.length) (h1 : xs.length ≤ 1000) (hn : n < 1000000000000000000) (h : BagAt n l st)
    (k : ∀ r st', r ∈ xs → BagAt (n + 1) l st' → Ups l st st' → P r st') : (F_pick [.ref l, .ref le] st).wp P E := by
  simp [F_pick, B_pick, len_ref he]
  refine draw_ok (by omega) (by omega) hn h fun r st' r0 r1 hb hu => ?_
  obtain ⟨v, e1, e2, e3⟩ := atI_some r0 r1
  have he' : st'[le]? = some (.lst xs) := (hu.get le hl).trans he
  simp [ix_ref he', e1]
  exact k _ _ e3 hb hu
def keptL : List IV := g_KEPT
theorem kept_ok {st : Sto} : F_kept [] st = .ok (.lst keptL) st := by rfl
theorem kept_wp {st : Sto} {P : IV → Sto → Prop} {E : Str → List (Str × IV) → Sto → Prop} (h : P (.lst keptL) st) : (F_kept [] st).wp P E := by rw [kept_ok]; exact h

def six : List IV := [.str "qz", .str "qy", .str "qx", .str "qw"]
theorem abc_len : ("abcdefghijklmnopqrstuvwxyz" : Str).cps.toList.length = 26 := by decide +kernel
theorem abc_small : ∀ c ∈ ("abcdefghijklmnopqrstuvwxyz" : Str).cps.toList, c < 128 := by decide +kernel
theorem abc_few : ("abcdefghijklmnopqrstuvwxyz" : Str).length ≤ 100000 := by decide +kernel
def inAbc (c : Nat) : Bool := decide (c ∈ ("abcdefghijklmnopqrstuvwxyz" : Str).cps.toList)
theorem in_abc {neg : Bool} {c : Nat} {st : Sto} : gIn neg (.str ⟨#[c]⟩) (.str "abcdefghijklmnopqrstuvwxyz") st = .ok (.bl (if neg then !inAbc c else inAbc c)) st := rfl
def wOk (w : Str) : Bool := decide (1 ≤ w.length) && (decide (w.length ≤ 8) && (!inI (.str w) keptL && w.cps.toList.all inAbc))
def allAbc (w : Str) : Bool := w.cps.toList.all inAbc
theorem six_ok : ∀ x ∈ six, ∃ s : Str, x = .str s ∧ okS s = true ∧ s.length ≤ 8 ∧ inI (.str s) keptL = false ∧ 1 ≤ s.length ∧ s.cps.toList.all inAbc = true := by
  intro x hx
  simp only [six, List.mem_cons, List.not_mem_nil, or_false] at hx
  rcases hx with rfl | rfl | rfl | rfl <;> exact ⟨_, rfl, by decide +kernel, by decide +kernel, by decide +kernel, by decide +kernel, by decide +kernel⟩
theorem keptL_flat : keptL.all flatI = true := by decide +kernel
theorem strs_flat {xs : List IV} (h : ∀ x ∈ xs, ∃ s : Str, x = .str s) : xs.all flatI = true := List.all_eq_true.mpr fun x hx => by obtain ⟨s, rfl⟩ := h x hx; rfl
/-- one of the six is free -/
theorem six_free {xs : List IV} (h : ∀ x ∈ xs, ∃ s : Str, x = .str s) (hl : xs.length ≤ 3) : ∃ s : Str, IV.str s ∈ six ∧ inI (.str s) xs = false := by
  apply Classical.byContradiction
  intro no
  have all : ∀ s ∈ (["qz", "qy", "qx", "qw"] : List Str), s ∈ xs.filterMap (fun x => match x with | .str s => some s | _ => none) := by
    intro s hs
    have h6 : IV.str s ∈ six := by
      simp only [List.mem_cons, List.not_mem_nil, or_false] at hs
      rcases hs with rfl | rfl | rfl | rfl <;> simp [six]
    cases e : inI (.str s) xs with
    | false => exact absurd ⟨s, h6, e⟩ no
    | true => exact List.mem_filterMap.mpr ⟨_, inI_str.mp e, rfl⟩
  have := few_of_sub (by decide +kernel) all
  have l2 := List.length_filterMap_le (fun x : IV => match x with | .str s => some s | _ => none) xs
  simp only [List.length_cons, List.length_nil] at this
  omega
theorem word_ok {n l : Nat} {tk : IV} {xs : List IV} {st : Sto} {P : IV → Sto → Prop} {E : Str → List (Str × IV) → Sto → Prop} (hn : n < 100000000000000000) (h : BagAt n l st) (ht : ∀ st', Ups l st st' → asS st' tk = some xs) (hs : ∀ x ∈ xs, ∃ s : Str, x = .str s) (hl : xs.length ≤ 3)
    (k : ∀ w st', okS w = true → w.length ≤ 8 → wOk w = true → inI (.str w) xs = false → BagAt (n + 9) l st' → Ups l st st' → P (.str w) st') : (F_word [.ref l, tk] st).wp P E := by
  have fl := strs_flat hs
  simp [F_word, B_word]
  refine draw_ok (by decide) (by decide) (by omega) h fun m st1 m0 m1 hb hu => ?_
  simp
  refine ⟨by omega, wp_for (fun i ρ st' => ∃ w a b c, ρ = [some (.v (.ref l)), some (.v tk), some (.v (.str w)), a, b, c] ∧ (okS w = true ∧ allAbc w = true) ∧ w.length = i ∧ BagAt (n + 1 + i) l st' ∧ Ups l st st') ⟨_, none, none, none, rfl, by decide +kernel, by decide +kernel, hb, hu⟩ ?_ ?_⟩
  · rintro i x ρ st2 hx ⟨w, a, b, c, rfl, ⟨w1, w3⟩, w2, hb2, hu2⟩
    obtain ⟨hi, rfl⟩ := rngI_get hx
    refine ⟨rfl, ?_⟩
    simp
    refine draw_ok (by decide) (by decide) (by omega) hb2 fun r st3 r0 r1 hb3 hu3 => ?_
    obtain ⟨c', e1, e2, e3⟩ := atI_some (xs := ("abcdefghijklmnopqrstuvwxyz" : Str).cps.toList) r0 (by rw [abc_len]; exact r1)
    simp [e1, abc_few]
    have e4 : (w ++ (⟨#[c']⟩ : Str)).cps.toList = w.cps.toList ++ [c'] := by
      show (w.cps ++ #[c']).toList = _
      simp
    have l1 : (⟨#[c']⟩ : Str).length = 1 := rfl
    refine ⟨by omega, ⟨okS_app w1 (okS_one (abc_small _ e3)) (by omega), ?_⟩, by rw [Str.length_append]; omega, hb3, hu2.trans hu3⟩
    have w4 : w.cps.toList.all inAbc = true := w3
    have i4 : inAbc c' = true := decide_eq_true e3
    unfold allAbc
    rw [e4, List.all_append, w4, List.all_cons, i4]; rfl
  · rintro ρ st2 ⟨w, a, b, c, rfl, ⟨w1, w3⟩, w2, hb2, hu2⟩
    refine ⟨rfl, ?_⟩
    rw [rngI_len] at w2 hb2
    simp
    have hall : ∀ x ∈ (IV.str w :: six), ∃ s : Str, x = .str s ∧ okS s = true ∧ s.length ≤ 8 ∧ 1 ≤ s.length ∧ s.cps.toList.all inAbc = true := by
      intro x hx
      rcases List.mem_cons.mp hx with rfl | hx
      · exact ⟨w, rfl, w1, by omega, by omega, w3⟩
      · obtain ⟨s, e, h1, h2, _, h3, h4⟩ := six_ok x hx
        exact ⟨s, e, h1, h2, h3, h4⟩
    refine wp_lcL (fun x => if inI x xs = true then none else some x) rfl (fun x hx => ?_) (by simp) ?_
    · obtain ⟨s, rfl, _⟩ := hall x hx
      simp [wipeI, in_str_S (ht st2 hu2) fl]
    · simp
      refine wp_lcL (fun x => if inI x keptL = true then none else some x) rfl (fun x hx => ?_) ?_ ?_
      · obtain ⟨y, hy, hy2⟩ := List.mem_filterMap.mp hx
        split at hy2
        · cases hy2
        · cases hy2
          obtain ⟨s, rfl, _⟩ := hall x hy
          simp [wipeI, kept_ok, in_str_lst keptL_flat]
      · have := List.length_filterMap_le (fun x => if inI x xs = true then none else some x) (IV.str w :: six)
        simp only [List.length_cons, List.length_nil, six] at this ⊢
        omega
      · obtain ⟨s, s1, s2⟩ := six_free hs hl
        obtain ⟨s', e', _, _, s3, _⟩ := six_ok _ s1
        cases e'
        have m1 : IV.str s ∈ (IV.str w :: six).filterMap (fun x => if inI x xs = true then none else some x) := List.mem_filterMap.mpr ⟨_, List.mem_cons_of_mem _ s1, by rw [s2]; rfl⟩
        have m2 : IV.str s ∈ ((IV.str w :: six).filterMap (fun x => if inI x xs = true then none else some x)).filterMap (fun x => if inI x keptL = true then none else some x) := List.mem_filterMap.mpr ⟨_, m1, by rw [s3]; rfl⟩
        obtain ⟨v, e1, e2, e3⟩ := atI_some (xs := ((IV.str w :: six).filterMap (fun x => if inI x xs = true then none else some x)).filterMap (fun x => if inI x keptL = true then none else some x)) (i := 0) (by decide) (by have := List.length_pos_of_mem m2; omega)
        obtain ⟨y, hy, hy2⟩ := List.mem_filterMap.mp e3
        split at hy2
        · cases hy2
        · rename_i nk
          cases hy2
          obtain ⟨z, hz, hz2⟩ := List.mem_filterMap.mp hy
          split at hz2
          · cases hz2
          · rename_i nt
            cases hz2
            obtain ⟨s5, rfl, o1, o2, o3, o4⟩ := hall _ hz
            have o5 : wOk s5 = true := by
              unfold wOk
              rw [o4]
              simp [o2, o3, nk]
            have e1' : atI (List.filterMap (fun x => if inI x keptL = true then none else some x) (List.filterMap (fun x => if inI x xs = true then none else some x) [IV.str w, IV.str "qz", IV.str "qy", IV.str "qx", IV.str "qw"])) 0 = some (.str s5) := e1
            simp only [List.nil_append]
            simp [e1', -List.filterMap_cons]
            exact k _ _ o1 o2 o5 (by simpa using nt) (hb2.mono (by omega)) hu2
end K07
set_option Elab.async false
set_option linter.all false
set_option maxRecDepth 100000
set_option maxHeartbeats 4000000
namespace K07
open PySem PySem.Spec PyProof.Rows L2 Mi
def isWhole : IV → Bool
  | .int _ => true
  | _ => false
def tOk : IV → Bool
  | .int t => decide (1 ≤ t) && decide (t ≤ 5)
  | _ => false
def colOk : IV → Bool
  | .tup [.str w, t] => wOk w && tOk t
  | _ => false
def sgn : IV → Bool
  | .str z => z.cps.toList.all inAbc
  | _ => false
theorem sign_all : ∀ {xs : List Nat}, (List.filterMap (fun x => if sgn x = true then none else some x) (xs.map fun c => IV.str ⟨#[c]⟩)).isEmpty = xs.all inAbc
  | [] => rfl
  | c :: xs => by
    have ih := sign_all (xs := xs)
    rw [List.map_cons, List.filterMap_cons, List.all_cons]
    have e : sgn (.str ⟨#[c]⟩) = inAbc c := by simp [sgn]
    rw [e]
    cases q : inAbc c with
    | true => simp only [if_true, Bool.true_and]; exact ih
    | false => rfl
theorem col_one {a : IV} : colOk (.tup [a]) = false := by cases a <;> rfl
theorem col_many {a b c : IV} {r : List IV} : colOk (.tup (a :: b :: c :: r)) = false := by cases a <;> rfl
end K07
set_option Elab.async false
set_option linter.all false
set_option maxRecDepth 100000
set_option maxHeartbeats 4000000
namespace K07
open PySem PySem.Spec PyProof.Rows L2 Mi
theorem top2_ok {n : Nat} {ρ : Slots} {i : Nat} {t : IV} {st : Sto} {P : IV → Sto → Prop} {E : Str → List (Str × IV) → Sto → Prop} (hi : ρ[i]? = some (some (.v t))) (h : okV n t = true) (k : P (.bl (tOk t)) st) :
    ((iAndV (iCallB gIsi (iCons (iVar i) (iCons (iC (.ty "int")) iNil))) (iAndV (iNotV (iCallB gIsi (iCons (iVar i) (iCons (iC (.ty "bool")) iNil)))) (iChain gLe gLe (iC (.int 1)) (iVar i) (iC (.int 5))))) ρ st).wp P E := by
  simp [hi]
  cases t with
  | int t =>
    simp [hi, askT, isSubB]
    simp only [tOk] at k
    by_cases c1 : 1 ≤ t
    · simpa [c1] using k
    · simpa [c1] using k
  | _ => first | (simp [hi, askT, isSubB]; exact k) | (cases n <;> cases h)
theorem col_2 {a t : IV} (h : ∀ w, a ≠ .str w) : colOk (.tup [a, t]) = false := by cases a <;> first | rfl | exact absurd rfl (h _)
theorem prog_col {n : Nat} {x : IV} {st : Sto} {P : IV → Sto → Prop} {E : Str → List (Str × IV) → Sto → Prop} (h : okV n x = true) (k : P (.bl (colOk x)) st) : (F_P_is_column [x] st).wp P E := by
  cases x with
  | tup xs =>
    match xs with
    | [] => simp [F_P_is_column, B_P_is_column, askT, isSubB]; exact k
    | [a] => rw [col_one] at k; simp [F_P_is_column, B_P_is_column, askT, isSubB]; exact k
    | a :: b :: c :: r =>
      have e : ¬ ((r.length : Int) + 1 + 1 + 1 = 2) := by omega
      rw [col_many] at k; simp [F_P_is_column, B_P_is_column, askT, isSubB, e]; exact k
    | [a, t] =>
      cases n with
      | zero => cases h
      | succ n =>
      simp only [okV, List.all_cons, Bool.and_eq_true, List.all_nil, and_true] at h
      cases a with
      | str w =>
        have hw : okS w = true := by cases n <;> exact h.1
        have wl := okS_len hw
        have e0 : w.length ≤ 100000 := by omega
        simp [F_P_is_column, B_P_is_column, askT, isSubB, e0]
        by_cases c1 : 1 ≤ w.length
        · have c1' : (1 : Int) ≤ (w.length : Int) := by omega
          by_cases c2 : w.length ≤ 8
          · have c2' : (w.length : Int) ≤ 8 := by omega
            have c2b : ¬ (8 : Int) < (w.length : Int) := by omega
            simp [c1', c2', c2b, in_str_tup (ys := g_KEPT) keptL_flat]
            cases c3 : inI (.str w) keptL with
            | true =>
              have c3' : inI (.str w) g_KEPT = true := c3
              simp [c3', c2b]
              simpa [colOk, wOk, c3] using k
            | false =>
              have c3' : inI (.str w) g_KEPT = false := c3
              simp [c3', c2b]
              have e : colOk (.tup [.str w, t]) = (w.cps.toList.all inAbc && tOk t) := by
                show (wOk w && tOk t) = _
                unfold wOk
                rw [c3]
                simp only [c1, c2, decide_true, Bool.true_and, Bool.not_false]
              rw [e] at k
              refine wp_for (fun i ρ st' => st' = st ∧ (∃ s, ρ = [some (.v (.tup [.str w, t])), some (.v (.str w)), some (.v t), s]) ∧ ∀ c ∈ w.cps.toList.take i, inAbc c = true) ⟨rfl, ⟨_, rfl⟩, by simp⟩ ?_ ?_
              · rintro i x ρ st' hx ⟨rfl, ⟨s, rfl⟩, hall⟩
                refine ⟨rfl, ?_⟩
                rw [List.getElem?_map] at hx
                cases hc : w.cps.toList[i]? with
                | none => rw [hc] at hx; cases hx
                | some c =>
                  rw [hc] at hx
                  cases hx
                  have hm : c ∈ w.cps.toList := List.mem_of_getElem? hc
                  simp only [wp_q, wps_q, wps_tgName]
                  simp [in_abc]
                  cases q : inAbc c with
                  | false =>
                    have : w.cps.toList.all inAbc = false := by
                      rw [List.all_eq_false]; exact ⟨c, hm, by simp [q]⟩
                    rw [this] at k
                    simpa using k
                  | true =>
                    simp
                    intro d hd
                    rw [List.take_add_one, hc] at hd
                    rcases List.mem_append.mp hd with hd | hd
                    · exact hall d hd
                    · have : d = c := by simpa using hd
                      rw [this]; exact q
              · rintro ρ st' ⟨rfl, ⟨s, rfl⟩, hall⟩
                refine ⟨rfl, ?_⟩
                rw [List.length_map, List.take_length] at hall
                have : w.cps.toList.all inAbc = true := List.all_eq_true.mpr hall
                rw [this, Bool.true_and] at k
                have z := top2_ok (E := E) (ρ := [some (.v (.tup [.str w, t])), some (.v (.str w)), some (.v t), s]) (i := 2) rfl h.2 k
                simpa using z
          · have c2' : ¬ (w.length : Int) ≤ 8 := by omega
            have c2b : (8 : Int) < (w.length : Int) := by omega
            simp [c1', c2', c2b]
            simpa [colOk, wOk, c2] using k
        · have c1' : ¬ (1 : Int) ≤ (w.length : Int) := by omega
          simp [c1']
          have : w.length = 0 := by omega
          simpa [colOk, wOk, this] using k
      | _ => first | (rw [col_2 (fun _ => by simp)] at k; simp [F_P_is_column, B_P_is_column, askT, isSubB]; exact k) | (cases n <;> cases h.1)
  | _ => first | (simp [F_P_is_column, B_P_is_column, askT, isSubB]; exact k) | (cases n <;> cases h)
end K07
set_option Elab.async false
set_option linter.all false
set_option maxRecDepth 100000
set_option maxHeartbeats 4000000
namespace K07
open PySem PySem.Spec PyProof.Rows L2 Mi
def fst : IV → IV
  | .tup (a :: _) => a
  | _ => .non
def snd : IV → Int
  | .tup [_, .int t] => t
  | _ => 0
def badAt (es : List IV) (k : Nat) : Bool := match es[k]? with
  | some x => !colOk x || inI (fst x) ((es.take k).map fst)
  | none => false
def many (es : List IV) : Int := es.foldl (fun m x => m * (snd x + 1)) 1
def firstBad (es : List IV) : Option Nat := (List.range es.length).find? (badAt es)
def dueV (es : List IV) : IV := if 1 ≤ es.length ∧ es.length ≤ 3 then (match firstBad es with
  | some i => .int i
  | none => if 36 < many es then .int (-1) else .non) else .int (-1)
theorem col_shape {x : IV} (h : colOk x = true) : ∃ w t, x = .tup [.str w, .int t] ∧ 1 ≤ t ∧ t ≤ 5 ∧ wOk w = true := by
  unfold colOk at h
  split at h
  · rename_i w t
    rw [Bool.and_eq_true] at h
    cases t with
    | int t =>
      have h2 := h.2
      simp only [tOk, Bool.and_eq_true, decide_eq_true_eq] at h2
      exact ⟨w, t, rfl, h2.1, h2.2, h.1⟩
    | _ => exact absurd h.2 (by simp [tOk])
  · cases h
theorem range_get {n i : Nat} (h : i < n) : (List.range n)[i]? = some i := by rw [List.getElem?_range h]
theorem first_some {es : List IV} {i : Nat} (hi : i < es.length) (hb : badAt es i = true) (h : ∀ j < i, badAt es j = false) : firstBad es = some i := by
  unfold firstBad
  rw [List.find?_eq_some_iff_getElem]
  refine ⟨hb, i, by simpa using hi, by simp, fun j hj => ?_⟩
  simp [h j hj]
theorem first_none {es : List IV} (h : ∀ j < es.length, badAt es j = false) : firstBad es = none := by
  unfold firstBad
  rw [List.find?_eq_none]
  intro j hj
  rw [h j (by simpa using hj)]
  simp
theorem many_take {es : List IV} {i : Nat} {x : IV} (h : es[i]? = some x) : many (es.take (i + 1)) = many (es.take i) * (snd x + 1) := by
  unfold many
  rw [List.take_add_one, h]
  simp
theorem not_bad {es : List IV} {j : Nat} {x : IV} (e : es[j]? = some x) (h : badAt es j = false) : colOk x = true ∧ inI (fst x) ((es.take j).map fst) = false := by
  unfold badAt at h
  rw [e] at h
  simpa using h
/-- all that stand before i are columns -/
theorem goods {es : List IV} {i : Nat} (h : ∀ j < i, badAt es j = false) : ∀ x ∈ es.take i, colOk x = true := by
  intro x hx
  obtain ⟨j, hj, e⟩ := List.mem_iff_getElem.mp hx
  have hj2 : j < i := by rw [List.length_take] at hj; omega
  have e2 : es[j]? = some x := by
    rw [List.length_take] at hj
    rw [List.getElem_take] at e
    rw [List.getElem?_eq_getElem (by omega), e]
  exact (not_bad e2 (h j hj2)).1
theorem firsts_strs {es : List IV} (h : ∀ x ∈ es, colOk x = true) : ∀ y ∈ es.map fst, ∃ s : Str, y = .str s := by
  intro y hy
  obtain ⟨x, hx, rfl⟩ := List.mem_map.mp hy
  obtain ⟨w, t, rfl, _⟩ := col_shape (h x hx)
  exact ⟨w, rfl⟩
end K07
set_option Elab.async false
set_option linter.all false
set_option maxRecDepth 100000
set_option maxHeartbeats 4000000
namespace K07
open PySem PySem.Spec PyProof.Rows L2 Mi
theorem kne1 : ¬ (("columns" : Str) = "tops") := by decide +kernel
theorem kne2 : ¬ (("columns" : Str) = "every") := by decide +kernel
theorem kne3 : ¬ (("tops" : Str) = "every") := by decide +kernel
theorem kb1 : (("tops" : Str) == "columns") = false := by decide +kernel
theorem kb2 : (("every" : Str) == "columns") = false := by decide +kernel
theorem kb3 : (("every" : Str) == "tops") = false := by decide +kernel
theorem put1 {x : IV} : putI "columns" x [] = [(("columns" : Str), x)] := rfl
theorem put2 {x y : IV} : putI "tops" y [(("columns" : Str), x)] = [(("columns" : Str), x), (("tops" : Str), y)] := by simp [putI, kne1]
theorem put3 {x y z : IV} : putI "every" z [(("columns" : Str), x), (("tops" : Str), y)] = [(("columns" : Str), x), (("tops" : Str), y), (("every" : Str), z)] := by simp [putI, kne2, kne3]
theorem due_bad {es : List IV} {i : Nat} (h1 : 1 ≤ es.length) (h2 : es.length ≤ 3) (h : firstBad es = some i) : dueV es = .int i := by
  unfold dueV; rw [if_pos ⟨h1, h2⟩, h]
theorem due_big {es : List IV} (h1 : 1 ≤ es.length) (h2 : es.length ≤ 3) (h : firstBad es = none) (h3 : 36 < many es) : dueV es = .int (-1) := by
  unfold dueV; rw [if_pos ⟨h1, h2⟩, h]; simp [h3]
theorem due_fine {es : List IV} (h1 : 1 ≤ es.length) (h2 : es.length ≤ 3) (h : firstBad es = none) (h3 : ¬ 36 < many es) : dueV es = .non := by
  unfold dueV; rw [if_pos ⟨h1, h2⟩, h]; simp [h3]
theorem inI_take {es : List IV} {i : Nat} {y : IV} (ei : es[i]? = some y) : (es.take (i + 1)).map fst = (es.take i).map fst ++ [fst y] := by
  rw [List.take_add_one, ei]; simp
theorem bad_eq {es : List IV} {i : Nat} {y : IV} (ei : es[i]? = some y) : badAt es i = (!colOk y || inI (fst y) ((es.take i).map fst)) := by
  unfold badAt; rw [ei]
theorem many_cons {x : IV} {r : List IV} : many (x :: r) = (snd x + 1) * many r := by
  have gen : ∀ (l : List IV) (m : Int), l.foldl (fun m x => m * (snd x + 1)) m = m * l.foldl (fun m x => m * (snd x + 1)) 1 := by
    intro l
    induction l with
    | nil => intro m; simp
    | cons a l ih => intro m; rw [List.foldl_cons, List.foldl_cons, ih, ih (1 * (snd a + 1)), Int.one_mul, Int.mul_assoc]
  unfold many
  rw [List.foldl_cons, gen, Int.one_mul]
def spread (t : Int) (x : IV) : List IV := match x with
  | .tup vs => (rngI 0 (t + 1).toNat).map fun y => .tup (vs ++ [y])
  | _ => []
theorem spread_len {t : Int} {xs : List IV} (h : ∀ x ∈ xs, ∃ vs, x = .tup vs) : (xs.flatMap (spread t)).length = xs.length * (t + 1).toNat := by
  induction xs with
  | nil => simp
  | cons x xs ih =>
    obtain ⟨vs, rfl⟩ := h x List.mem_cons_self
    rw [List.flatMap_cons, List.length_append, ih fun y hy => h y (List.mem_cons_of_mem _ hy), List.length_cons, Nat.succ_mul]
    simp only [spread, List.length_map, rngI_len]
    omega
theorem spread_tups {t : Int} {n : Nat} {xs : List IV} (h : ∀ x ∈ xs, ∃ vs, x = .tup vs ∧ vs.length ≤ n) : ∀ x ∈ xs.flatMap (spread t), ∃ vs, x = .tup vs ∧ vs.length ≤ n + 1 := by
  intro x hx
  obtain ⟨y, hy, hx⟩ := List.mem_flatMap.mp hx
  obtain ⟨vs, rfl, hl⟩ := h y hy
  obtain ⟨z, _, rfl⟩ := List.mem_map.mp hx
  exact ⟨_, rfl, by rw [List.length_append]; simp; omega⟩
def allV (es : List IV) : List IV := es.foldl (fun ev x => ev.flatMap (spread (snd x))) [.tup []]
theorem allV_snoc {es : List IV} {x : IV} : allV (es ++ [x]) = (allV es).flatMap (spread (snd x)) := by unfold allV; rw [List.foldl_append]; rfl
theorem allV_take {es : List IV} {i : Nat} {x : IV} (h : es[i]? = some x) : allV (es.take (i + 1)) = (allV (es.take i)).flatMap (spread (snd x)) := by
  rw [List.take_add_one, h]; exact allV_snoc
theorem allV_tups {es : List IV} : ∀ {i : Nat}, i ≤ es.length → ∀ x ∈ allV (es.take i), ∃ vs, x = .tup vs ∧ vs.length ≤ i
  | 0, _ => fun x hx => by
    have : x = .tup [] := by simpa [allV] using hx
    exact ⟨[], this, by simp⟩
  | i + 1, h => by
    have ei : es[i]? = some es[i] := List.getElem?_eq_getElem (by omega)
    rw [allV_take ei]
    exact spread_tups (allV_tups (by omega))
theorem allV_len {es : List IV} (gd : ∀ x ∈ es, colOk x = true) : ∀ {i : Nat}, i ≤ es.length → ((allV (es.take i)).length : Int) = many (es.take i)
  | 0, _ => rfl
  | i + 1, h => by
    have hi : i < es.length := by omega
    have ei : es[i]? = some es[i] := List.getElem?_eq_getElem hi
    obtain ⟨w, t, ey, t1, t2, _⟩ := col_shape (gd _ (List.getElem_mem hi))
    have es' : snd es[i] = t := by rw [ey]; rfl
    rw [allV_take ei, spread_len fun x hx => by obtain ⟨vs, e, _⟩ := allV_tups (by omega) x hx; exact ⟨vs, e⟩, many_take ei, ← allV_len gd (by omega), es', Int.natCast_mul]
    congr 1
    omega
theorem allV_few {es : List IV} (gd : ∀ x ∈ es, colOk x = true) : ∀ {i : Nat}, i ≤ es.length → (allV (es.take i)).length ≤ 6 ^ i
  | 0, _ => by simp [allV]
  | i + 1, h => by
    have hi : i < es.length := by omega
    have ei : es[i]? = some es[i] := List.getElem?_eq_getElem hi
    obtain ⟨w, t, ey, t1, t2, _⟩ := col_shape (gd _ (List.getElem_mem hi))
    have es' : snd es[i] = t := by rw [ey]; rfl
    rw [allV_take ei, spread_len fun x hx => by obtain ⟨vs, e, _⟩ := allV_tups (by omega) x hx; exact ⟨vs, e⟩, es', Nat.pow_succ]
    exact Nat.mul_le_mul (allV_few gd (by omega)) (by omega)
theorem tab_okG {l : Nat} {cv : IV} {es : List IV} {st : Sto} {P : IV → Sto → Prop} {E : Str → List (Str × IV) → Sto → Prop} (h : st[l]? = some (.ins "Table" [])) (hk : es.all (okV 3) = true) (hl : es.length ≤ 5)
    (hlen : gLen [cv] st = .ok (.int es.length) st) (henum : ∃ g, gEnum [cv] st = .ok (enumI 0 es, g) st ∧ ∀ zs, gokB g st zs = true) (hit : ∀ o, ∃ g, itemsI (st.set l o) cv = some (es, g) ∧ ∀ zs, gokB g (st.set l o) zs = true)
    (kE : ∀ i st', dueV es = .int i → Ups l st st' → E "BadTable" [("at", .int i)] st') (kP : ∀ st', dueV es = .non → (∀ x ∈ es, colOk x = true) → Ups l st st' → st'[l]? = some (.ins "Table" [("columns", .ptp (es.map fst)), ("tops", .tup (es.map fun x => .int (snd x))), ("every", .tup (allV es))]) → P .non st') :
    (F_P_Table_init [.ref l, cv] st).wp P E := by
  obtain ⟨g0, en1, en2⟩ := henum
  simp [F_P_Table_init, B_P_Table_init, hlen]
  by_cases c1 : 1 ≤ es.length
  · have c1' : (1 : Int) ≤ (es.length : Int) := by omega
    by_cases c2 : es.length ≤ 3
    · have c2' : (es.length : Int) ≤ 3 := by omega
      have c2b : ¬ (3 : Int) < (es.length : Int) := by omega
      simp [c1', c2', c2b, en1]
      refine wp_for (fun i ρ st' => st' = st ∧ (∃ s u, ρ = [some (.v (.ref l)), some (.v cv), some (.own ((es.take i).map fst)), s, u, none, none, none, none, none]) ∧ ∀ j < i, badAt es j = false) ⟨rfl, ⟨_, _, rfl⟩, fun j hj => by omega⟩ ?_ ?_
      · rintro i x ρ st' hx ⟨rfl, ⟨s, u, rfl⟩, hall⟩
        obtain ⟨y, ei, rfl⟩ := enumI_get _ _ _ _ hx
        refine ⟨en2 _, ?_⟩
        have hi2 : i < es.length := (List.getElem?_eq_some_iff.mp ei).1
        have ok : okV 3 y = true := List.all_eq_true.mp hk _ (List.mem_of_getElem? ei)
        have be := bad_eq ei
        have gd := goods hall
        have fl := strs_flat (firsts_strs gd)
        have ln : ((es.take i).map fst).length ≤ 5 := by rw [List.length_map, List.length_take]; omega
        rw [inI_take ei]
        generalize (es.take i).map fst = fs at be fl ln ⊢
        simp
        refine prog_col ok ?_
        cases q : colOk y with
        | false =>
          have z := kE (i : Int) st' (due_bad c1 c2 (first_some hi2 (by rw [be, q]; rfl) hall)) (.refl _ _)
          simp
          exact z
        | true =>
          obtain ⟨w, t, ex, t1, t2, _⟩ := col_shape q
          subst ex
          have fw : flatI (.str w) = true := rfl
          rw [q] at be
          cases c3 : inI (.str w) fs with
          | true =>
            have z := kE (i : Int) st' (due_bad c1 c2 (first_some hi2 (by rw [be]; simp [fst, c3]) hall)) (.refl _ _)
            simp [ownAt, fl, fw, c3, -List.all_eq_true]
            exact z
          | false =>
            have hb : badAt es i = false := by rw [be]; simp [fst, c3]
            simp [ownAt, fl, fw, c3, -List.all_eq_true]
            refine ⟨by omega, rfl, fun j hj => ?_⟩
            rcases Nat.lt_succ_iff_lt_or_eq.mp hj with h | rfl
            · exact hall j h
            · exact hb
      · rintro ρ st' ⟨rfl, ⟨s, u, rfl⟩, hall⟩
        refine ⟨en2 _, ?_⟩
        rw [enumI_len] at hall
        have fn := first_none hall
        have gd : ∀ x ∈ es, colOk x = true := fun x hx => by
          have := goods hall
          rw [List.take_length] at this
          exact this x hx
        have e1 : (es.take (enumI 0 es).length).map fst = es.map fst := by rw [enumI_len, List.take_length]
        rw [e1]
        have hi : ∀ o, (st'.set l o)[l]? = some o := fun o => set_get h
        obtain ⟨g1, it1, it2⟩ := hit (.ins "Table" [("columns", .ptp (es.map fst))])
        simp [ownAt, insAt_ref h, put1, it1]
        refine wp_lcL (fun x => some (.int (snd x))) (it2 _) (fun x hx => ?_) (by simp only [List.length_nil]; omega) ?_
        · obtain ⟨w, t, rfl, _⟩ := col_shape (gd x hx)
          simp [wipeI, snd]
        have em : List.filterMap (fun x => some (IV.int (snd x))) es = es.map fun x => .int (snd x) := by rw [List.filterMap_eq_map']
        rw [List.nil_append, em]
        have lk1 : ∀ a b : IV, List.lookup ("tops" : Str) [(("columns" : Str), a), (("tops" : Str), b)] = some b := fun a b => by simp [List.lookup, kb1]
        simp [insAt_ref (hi _), put2, lk1]
        refine wp_for (fun i ρ st2 => st2 = st'.set l (.ins "Table" [("columns", .ptp (es.map fst)), ("tops", .tup (es.map fun x => .int (snd x)))]) ∧ ∃ s6, ρ = [some (.v (.ref l)), some (.v cv), some (.own (es.map fst)), s, u, none, s6, some (.v (.lst (allV (es.take i)))), none, none])
          ⟨rfl, none, rfl⟩ ?_ ?_
        · rintro i x ρ st2 hx ⟨rfl, s6, rfl⟩
          rw [List.getElem?_map] at hx
          cases ei : es[i]? with
          | none => rw [ei] at hx; cases hx
          | some y =>
            rw [ei] at hx
            have hxe : IV.int (snd y) = x := Option.some.inj hx
            have hi2 : i < es.length := (List.getElem?_eq_some_iff.mp ei).1
            obtain ⟨w, t, ey, t1, t2, _⟩ := col_shape (gd y (List.mem_of_getElem? ei))
            have es' : snd y = t := by rw [ey]; rfl
            rw [es'] at hxe
            subst hxe
            have v2 := allV_tups (es := es) (i := i) (by omega)
            have v3 := allV_few gd (i := i) (by omega)
            have p6 : 6 ^ i ≤ 36 := by
              have : i ≤ 2 := by omega
              exact Nat.le_trans (Nat.pow_le_pow_right (by decide) this) (by decide)
            rw [allV_take ei, es']
            generalize allV (es.take i) = ev at v2 v3 ⊢
            have sl := spread_len (t := t) (xs := ev) fun x hx => by obtain ⟨vs, e, _⟩ := v2 x hx; exact ⟨vs, e⟩
            have sl2 : ev.length * (t + 1).toNat ≤ 6 ^ i * 6 := Nat.mul_le_mul v3 (by omega)
            refine ⟨rfl, ?_⟩
            simp
            refine wp_lcO' (spread t) rfl (fun x hx => ?_) (by rw [sl]; simp only [List.length_nil]; omega) ?_
            · obtain ⟨vs, rfl, hvl⟩ := v2 x hx
              simp [wipeI]
              refine ⟨by omega, fun acc ha => ?_⟩
              refine wp_lcL (fun y => some (.tup (vs ++ [y]))) rfl (fun y hy => ?_) (by simpa [spread] using ha) ?_
              · simp [wipeI]; omega
              · exact ⟨rfl, by rw [List.filterMap_eq_map']; rfl⟩
            · rw [List.nil_append]
              exact ⟨rfl, _, rfl⟩
        · rintro ρ st2 ⟨rfl, s6, rfl⟩
          refine ⟨rfl, ?_⟩
          have v1 := allV_len gd (i := es.length) (by omega)
          rw [List.take_length] at v1
          rw [List.length_map, List.take_length]
          simp [v1]
          by_cases c : 36 < many es
          · simp [c]
            exact kE _ _ (due_big c1 c2 fn c) .set
          · simp [c, insAt_ref (hi _), put3]
            exact kP _ (due_fine c1 c2 fn c) gd .set (hi _)
    · have c2' : ¬ (es.length : Int) ≤ 3 := by omega
      have c2b : (3 : Int) < (es.length : Int) := by omega
      have dv : dueV es = .int (-1) := by unfold dueV; rw [if_neg (by omega)]
      have z := kE (-1) st dv (.refl _ _)
      simp [c1', c2', c2b]
      exact z
  · have c1' : ¬ (1 : Int) ≤ (es.length : Int) := by omega
    have dv : dueV es = .int (-1) := by unfold dueV; rw [if_neg (by omega)]
    have z := kE (-1) st dv (.refl _ _)
    have c0 : es = [] := List.eq_nil_of_length_eq_zero (by omega)
    simp [c1']
    simpa [c0] using z
theorem tab_ok {l : Nat} {es : List IV} {st : Sto} {P : IV → Sto → Prop} {E : Str → List (Str × IV) → Sto → Prop} (h : st[l]? = some (.ins "Table" [])) (hk : es.all (okV 3) = true) (hl : es.length ≤ 5)
    (kE : ∀ i st', dueV es = .int i → Ups l st st' → E "BadTable" [("at", .int i)] st') (kP : ∀ st', dueV es = .non → (∀ x ∈ es, colOk x = true) → Ups l st st' → st'[l]? = some (.ins "Table" [("columns", .ptp (es.map fst)), ("tops", .tup (es.map fun x => .int (snd x))), ("every", .tup (allV es))]) → P .non st') :
    (F_P_Table_init [.ref l, .lst es] st).wp P E :=
  tab_okG h hk hl rfl ⟨none, rfl, fun _ => rfl⟩ (fun _ => ⟨none, rfl, fun _ => rfl⟩) kE kP
theorem tab_ref {l lc : Nat} {es : List IV} {st : Sto} {P : IV → Sto → Prop} {E : Str → List (Str × IV) → Sto → Prop} (hc : lc ≠ l) (he : st[lc]? = some (.lst es)) (h : st[l]? = some (.ins "Table" [])) (hk : es.all (okV 3) = true) (hl : es.length ≤ 5)
    (kE : ∀ i st', dueV es = .int i → Ups l st st' → E "BadTable" [("at", .int i)] st') (kP : ∀ st', dueV es = .non → (∀ x ∈ es, colOk x = true) → Ups l st st' → st'[l]? = some (.ins "Table" [("columns", .ptp (es.map fst)), ("tops", .tup (es.map fun x => .int (snd x))), ("every", .tup (allV es))]) → P .non st') :
    (F_P_Table_init [.ref l, .ref lc] st).wp P E := by
  have e2 : ∀ o, (st.set l o)[lc]? = some (.lst es) := fun o => by rw [List.getElem?_set_ne (Ne.symm hc)]; exact he
  exact tab_okG h hk hl (len_ref he) ⟨_, enum_ref he, fun _ => gokB_some he⟩ (fun o => ⟨_, items_ref (e2 o), fun _ => gokB_some (e2 o)⟩) kE kP
end K07
set_option Elab.async false
set_option linter.all false
set_option maxRecDepth 100000
set_option maxHeartbeats 4000000
namespace K07
open PySem PySem.Spec PyProof.Rows L2 Mi
structure Good (cs : List IV) : Prop where
  len : cs.length ≤ 3
  col : ∀ x ∈ cs, colOk x = true
  okv : cs.all (okV 1) = true
  nd : (cs.map fst).Nodup
/-- what stands but for l stays, new things come behind -/
structure Keep2 (l : Nat) (st st' : Sto) : Prop where
  len : st.length ≤ st'.length
  get : ∀ j, j < st.length → j ≠ l → st'[j]? = st[j]?
theorem Keep2.refl (l : Nat) (st : Sto) : Keep2 l st st := ⟨Nat.le_refl _, fun _ _ _ => rfl⟩
theorem Keep2.trans {l : Nat} {a b c : Sto} (x : Keep2 l a b) (y : Keep2 l b c) : Keep2 l a c := ⟨Nat.le_trans x.len y.len, fun j h n => (y.get j (Nat.lt_of_lt_of_le h x.len) n).trans (x.get j h n)⟩
theorem Keep2.of {l : Nat} {a b : Sto} (x : Ups l a b) : Keep2 l a b := ⟨Nat.le_of_eq x.len.symm, fun j _ n => x.get j n⟩
theorem Keep2.push {l : Nat} {a : Sto} {os : List Mi.IO} : Keep2 l a (a ++ os) := ⟨by simp, fun j h _ => List.getElem?_append_left h⟩
theorem all_snoc {n : Nat} {es : List IV} {v : IV} (h : es.all (okV n) = true) (hv : okV n v = true) : (es ++ [v]).all (okV n) = true := by
  rw [List.all_append, h]; simp [hv]
theorem strs_snoc {ks : List IV} {w : Str} (h : ∀ x ∈ ks, ∃ s : Str, x = .str s) : ∀ x ∈ ks ++ [.str w], ∃ s : Str, x = .str s := by
  intro x hx
  rcases List.mem_append.mp hx with hx | hx
  · exact h x hx
  · exact ⟨w, by simpa using hx⟩
theorem bag_set {n m l j : Nat} {st : Sto} {o : Mi.IO} (h : BagAt n l st) (hj : j ≠ l) (hm : n ≤ m) : BagAt m l (st.set j o) := by
  obtain ⟨g', a, b', c', e, r⟩ := h
  exact BagAt.mono ⟨g', a, b', c', by rw [List.getElem?_set_ne hj]; exact e, r⟩ hm
theorem snd_of {w : Str} {t : Int} : snd (.tup [.str w, .int t]) = t := rfl
theorem many_snoc {cs : List IV} {x : IV} : many (cs ++ [x]) = many cs * (snd x + 1) := by unfold many; rw [List.foldl_append]; rfl
def CI (l lf n : Nat) (n0 : Nat) (st0 : Sto) (i : Nat) (ρ : Slots) (st : Sto) : Prop := ∃ (cs : List IV) (room : Int) (t6 t5 : Option SV), ρ = [some (.v (.ref l)), some (.v (.int 36)), some (.v (.ref lf)), some (.v (.ref (lf + 1))), some (.v (.int room)), t5, t6] ∧
  Good cs ∧ cs.length ≤ i ∧ (0 < i → 0 < cs.length) ∧ (i = 0 → room = 36) ∧ 1 ≤ room ∧ many cs * room ≤ 36 ∧ 1 ≤ many cs ∧ st[lf]? = some (.lst cs) ∧ st[lf + 1]? = some (.lst (cs.map fst)) ∧ BagAt (n + 11 * i) l st ∧ st.length = lf + 2 ∧ ∀ j, j < n0 → j ≠ l → st[j]? = st0[j]?
theorem columns_ok {n l : Nat} {st : Sto} {P : IV → Sto → Prop} {E : Str → List (Str × IV) → Sto → Prop} (hn : n < 10000000000000000) (h : BagAt n l st)
    (k : ∀ cs st', Good cs → 0 < cs.length → many cs ≤ 36 → st'[st.length]? = some (.lst cs) → BagAt (n + 34) l st' → st'.length = st.length + 2 → Keep2 l st st' → P (.ref st.length) st') : (F_columns [.ref l, .int 36] st).wp P E := by
  simp [F_columns, B_columns]
  have hll : l < st.length := by obtain ⟨_, _, _, _, e, _⟩ := h; exact (List.getElem?_eq_some_iff.mp e).1
  have hbA : BagAt n l (st ++ [.lst [], .lst []]) := by
    obtain ⟨g, a, b, c, e, r⟩ := h
    exact ⟨g, a, b, c, by rw [List.getElem?_append_left hll]; exact e, r⟩
  have hEl : (st ++ [Mi.IO.lst [], Mi.IO.lst []])[st.length]? = some (.lst []) := by simp
  have hEk : (st ++ [Mi.IO.lst [], Mi.IO.lst []])[st.length + 1]? = some (.lst []) := by
    rw [List.getElem?_append_right (by omega)]; simp
  have hlen : (st ++ [Mi.IO.lst [], Mi.IO.lst []]).length = st.length + 2 := by simp
  have hkp : ∀ j, j < st.length → (st ++ [Mi.IO.lst [], Mi.IO.lst []])[j]? = st[j]? := fun j hj => List.getElem?_append_left hj
  generalize hs0 : st ++ [Mi.IO.lst [], Mi.IO.lst []] = st0 at hbA hEl hEk hlen hkp ⊢
  refine draw_ok (by decide) (by decide) (by omega) hbA fun m st1 m0 m1 hb1 hu1 => ?_
  simp
  refine ⟨by omega, wp_for (CI l st.length (n + 1) st.length st) ⟨[], 36, none, none, rfl, ⟨by simp, by simp, rfl, by simp⟩, by simp, by omega, fun _ => rfl, by decide, by decide, by decide, (hu1.get _ (by omega)).trans hEl, (hu1.get _ (by omega)).trans hEk, hb1, by rw [hu1.len, hlen], fun j hj hne => (hu1.get j hne).trans (hkp j hj)⟩ ?_ ?_⟩
  · rintro i x ρ st2 hx ⟨cs, room, t6, t5, rfl, gd, c1, c2, c3, c4, c5, c6, e1, e2, hb2, hl2, kp⟩
    obtain ⟨hi, rfl⟩ := rngI_get hx
    refine ⟨rfl, ?_⟩
    simp
    by_cases c : 2 ≤ room
    · simp [c]
      refine draw_ok (by omega) (by omega) (by omega) hb2 fun r st3 r0 r1 hb3 hu3 => ?_
      have p1 := (hu3.get st.length (by omega)).trans e1
      have p2 := (hu3.get (st.length + 1) (by omega)).trans e2
      simp [isLst_ref p2]
      have str : ∀ x ∈ cs.map fst, ∃ s : Str, x = .str s := firsts_strs gd.col
      refine word_ok (xs := cs.map fst) (by omega) hb3 (fun s hs => asS_ref ((hs.get (st.length + 1) (by omega)).trans p2)) str (by rw [List.length_map]; omega) fun w st4 w1 w2 w3 w4 hb4 hu4 => ?_
      have q1 := (hu4.get st.length (by omega)).trans p1
      have q2 := (hu4.get (st.length + 1) (by omega)).trans p2
      have l4 : st4.length = st.length + 2 := by rw [hu4.len, hu3.len, hl2]
      simp [app_ref q2 (show (cs.map fst).length < 100000 by rw [List.length_map]; omega)]
      have s1 : (st4.set (st.length + 1) (.lst (cs.map fst ++ [.str w])))[st.length]? = some (.lst cs) := by rw [List.getElem?_set_ne (by omega)]; exact q1
      have s2 : (st4.set (st.length + 1) (.lst (cs.map fst ++ [.str w])))[st.length + 1]? = some (.lst (cs.map fst ++ [.str w])) := set_get q2
      have s3 : BagAt (n + 1 + 11 * i + 1 + 9) l (st4.set (st.length + 1) (.lst (cs.map fst ++ [.str w]))) := by
        obtain ⟨g', a, b', c', e, r⟩ := hb4
        exact ⟨g', a, b', c', by rw [List.getElem?_set_ne (by omega)]; exact e, r⟩
      have s4 : (st4.set (st.length + 1) (.lst (cs.map fst ++ [.str w]))).length = st.length + 2 := by rw [List.length_set, l4]
      have s5 : ∀ j, j < st.length → j ≠ l → (st4.set (st.length + 1) (.lst (cs.map fst ++ [.str w])))[j]? = st[j]? := fun j hj hne => by
        rw [List.getElem?_set_ne (by omega), hu4.get j hne, hu3.get j hne]
        exact kp j hj hne
      generalize st4.set (st.length + 1) (.lst (cs.map fst ++ [.str w])) = st5 at s1 s2 s3 s4 s5 ⊢
      simp [isLst_ref s1, ix_ref s2, Mi.atI_last, app_ref s1 (show cs.length < 100000 by omega)]
      refine ⟨by omega, ?_⟩
      have t1 : 1 ≤ 1 + r := by omega
      have t2 : 1 + r ≤ 5 := by omega
      have t3 : 1 + r + 1 ≤ room := by omega
      have hc : colOk (.tup [.str w, .int (1 + r)]) = true := by
        show (wOk w && tOk (.int (1 + r))) = true
        rw [w3]
        simp only [tOk, Bool.true_and, Bool.and_eq_true, decide_eq_true_eq]
        exact ⟨t1, t2⟩
      have d1 : 1 ≤ room / (1 + r + 1) := (Int.le_ediv_iff_mul_le (by omega)).mpr (by omega)
      have d2 : (room / (1 + r + 1)) * (1 + r + 1) ≤ room := Int.ediv_mul_le _ (by omega)
      refine ⟨cs ++ [.tup [.str w, .int (1 + r)]], room / (1 + r + 1), _, _, rfl, ⟨by rw [List.length_append]; simp only [List.length_cons, List.length_nil]; omega, ?_, ?_, ?_⟩, by rw [List.length_append]; simp only [List.length_cons, List.length_nil]; omega, fun _ => by rw [List.length_append]; simp, fun z => by omega, d1, ?_, ?_, set_get s1, ?_, bag_set s3 (by omega) (by omega), by rw [List.length_set, s4], fun j hj hne => ?_⟩
      · intro x hx
        rcases List.mem_append.mp hx with hx | hx
        · exact gd.col x hx
        · have : x = .tup [.str w, .int (1 + r)] := by simpa using hx
          rw [this]; exact hc
      · exact all_snoc gd.okv (by simp only [okV, List.all_cons, w1]; rfl)
      · rw [List.map_append, List.map_cons, List.map_nil, List.nodup_append]
        refine ⟨gd.nd, by simp, fun x hx y hy => ?_⟩
        have : y = .str w := by simpa [fst] using hy
        rw [this]
        intro z
        rw [z] at hx
        have := inI_str.mpr hx
        rw [w4] at this
        cases this
      · rw [many_snoc, snd_of]
        have m1 : many cs * (1 + r + 1) * (room / (1 + r + 1)) = many cs * ((room / (1 + r + 1)) * (1 + r + 1)) := by rw [Int.mul_assoc, Int.mul_comm (1 + r + 1)]
        rw [m1]
        have m2 : many cs * ((room / (1 + r + 1)) * (1 + r + 1)) ≤ many cs * room := Int.mul_le_mul_of_nonneg_left d2 (by omega)
        omega
      · rw [many_snoc, snd_of]
        have : 1 * 1 ≤ many cs * (1 + r + 1) := Int.mul_le_mul c6 (by omega) (by decide) (by omega)
        omega
      · rw [List.getElem?_set_ne (by omega), s2, List.map_append]
        rfl
      · rw [List.getElem?_set_ne (by omega)]
        exact s5 j hj hne
    · simp [c]
      have hi0 : 0 < i := by
        rcases Nat.eq_zero_or_pos i with z | z
        · have := c3 z
          omega
        · exact z
      exact ⟨cs, room, _, _, rfl, gd, by omega, fun _ => c2 hi0, fun z => by omega, c4, c5, c6, e1, e2, hb2.mono (by omega), hl2, kp⟩
  · rintro ρ st2 ⟨cs, room, t6, t5, rfl, gd, c1, c2, c3, c4, c5, c6, e1, e2, hb2, hl2, kp⟩
    rw [rngI_len] at c1 c2 hb2
    refine ⟨rfl, ?_⟩
    simp
    refine k cs _ gd (c2 (by omega)) ?_ e1 (hb2.mono (by omega)) hl2 ⟨by omega, kp⟩
    have : many cs * 1 ≤ many cs * room := Int.mul_le_mul_of_nonneg_left c4 (by omega)
    omega
end K07
set_option Elab.async false
set_option linter.all false
set_option maxRecDepth 100000
set_option maxHeartbeats 4000000
namespace K07
open PySem PySem.Spec PyProof.Rows L2 Mi
theorem flat_snoc {α β : Type} {xs : List α} {j : Nat} {x : α} {f : α → List β} (h : xs[j]? = some x) : (xs.take (j + 1)).flatMap f = (xs.take j).flatMap f ++ f x := by
  rw [List.take_add_one, h, List.flatMap_append]
  simp
def tabF (cs : List IV) : List (Str × IV) := [("columns", .ptp (cs.map fst)), ("tops", .tup (cs.map fun x => .int (snd x))), ("every", .tup (allV cs))]
def TabAt (lt : Nat) (cs : List IV) (st : Sto) : Prop := st[lt]? = some (.ins "Table" (tabF cs))
theorem lkc {cs : List IV} : (tabF cs).lookup ("columns" : Str) = some (.ptp (cs.map fst)) := rfl
theorem lkt {cs : List IV} : (tabF cs).lookup ("tops" : Str) = some (.tup (cs.map fun x => .int (snd x))) := by simp [tabF, List.lookup, kb1]
theorem lke {cs : List IV} : (tabF cs).lookup ("every" : Str) = some (.tup (allV cs)) := by simp [tabF, List.lookup, kb2, kb3]
section
variable {lt : Nat} {cs : List IV} {st : Sto} {P : IV → Sto → Prop} {E : Str → List (Str × IV) → Sto → Prop}
theorem TabAt.ins (h : TabAt lt cs st) : insAt st [("Table" : Str)] (.ref lt) = some (lt, ("Table" : Str), tabF cs) := insAt_ref (c := ("Table" : Str)) h List.mem_cons_self
theorem allvals_ok (h : TabAt lt cs st) (k : P (.lst (allV cs)) st) : (F_P_Table_all_values [.ref lt] st).wp P E := by
  simp [F_P_Table_all_values, B_P_Table_all_values, h.ins, lke]
  exact k
end
/-- the values vs are values of the columns cs -/
def inTs : List IV → List IV → Bool
  | [], [] => true
  | .int v :: vs, c :: cs => (decide (0 ≤ v) && decide (v ≤ snd c)) && inTs vs cs
  | _, _ => false
def inTab (cs : List IV) : IV → Bool
  | .tup vs => inTs vs cs
  | _ => false
theorem inTs_len : ∀ {vs cs : List IV}, inTs vs cs = true → vs.length = cs.length
  | [], [], _ => rfl
  | .int v :: vs, c :: cs, h => by
    simp only [inTs, Bool.and_eq_true] at h
    simp only [List.length_cons, inTs_len h.2]
  | [], c :: cs, h => by simp [inTs] at h
  | x :: vs, [], h => by cases x <;> simp [inTs] at h
  | .non :: _, _ :: _, h | .bl _ :: _, _ :: _, h | .str _ :: _, _ :: _, h | .ty _ :: _, _ :: _, h | .ref _ :: _, _ :: _, h | .tup _ :: _, _ :: _, h | .lst _ :: _, _ :: _, h => by simp [inTs] at h
theorem inTs_ne {vs cs : List IV} (h : vs.length ≠ cs.length) : inTs vs cs = false := by
  cases q : inTs vs cs with
  | false => rfl
  | true => exact absurd (inTs_len q) h
def okAt (v c : IV) : Bool := match v with
  | .int v => decide (0 ≤ v) && decide (v ≤ snd c)
  | _ => false
theorem inTs_cons {v c : IV} {vs cs : List IV} : inTs (v :: vs) (c :: cs) = (okAt v c && inTs vs cs) := by
  cases v <;> simp [inTs, okAt]
theorem inTs_set {y : IV} : ∀ {vs cs : List IV} {r : Nat} {c : IV}, inTs vs cs = true → cs[r]? = some c → inTs (vs.set r y) cs = okAt y c
  | [], [], r, c, _, e => by simp at e
  | [], c :: cs, r, _, h, e => by simp [inTs] at h
  | x :: vs, [], r, _, h, e => by simp at e
  | x :: vs, c :: cs, 0, c', h, e => by
    rw [inTs_cons, Bool.and_eq_true] at h
    have : c = c' := by simpa using e
    subst this
    rw [List.set_cons_zero, inTs_cons, h.2, Bool.and_true]
  | x :: vs, c :: cs, r + 1, c', h, e => by
    rw [inTs_cons, Bool.and_eq_true] at h
    rw [List.set_cons_succ, inTs_cons, h.1, Bool.true_and]
    exact inTs_set h.2 (by simpa using e)
theorem inTs_get : ∀ {vs cs : List IV} {r : Nat} {c : IV}, inTs vs cs = true → cs[r]? = some c → ∃ v : Int, vs[r]? = some (.int v) ∧ 0 ≤ v ∧ v ≤ snd c
  | [], [], r, c, _, e => by simp at e
  | [], c :: cs, r, _, h, e => by simp [inTs] at h
  | x :: vs, [], r, _, h, e => by simp at e
  | x :: vs, c :: cs, 0, c', h, e => by
    rw [inTs_cons, Bool.and_eq_true] at h
    have : c = c' := by simpa using e
    subst this
    cases x with
    | int v =>
      have h1 := h.1
      simp only [okAt, Bool.and_eq_true, decide_eq_true_eq] at h1
      exact ⟨v, rfl, h1.1, h1.2⟩
    | _ => exact absurd h.1 (by simp [okAt])
  | x :: vs, c :: cs, r + 1, c', h, e => by
    rw [inTs_cons, Bool.and_eq_true] at h
    obtain ⟨v, e1, e2⟩ := inTs_get (r := r) h.2 (by simpa using e)
    exact ⟨v, by simpa using e1, e2⟩
theorem inTs_snoc {v c : IV} : ∀ {vs cs : List IV}, inTs vs cs = true → okAt v c = true → inTs (vs ++ [v]) (cs ++ [c]) = true
  | [], [], _, h2 => by rw [List.nil_append, List.nil_append, inTs_cons, h2]; rfl
  | [], c :: cs, h, _ => by simp [inTs] at h
  | x :: vs, [], h, _ => by cases x <;> simp [inTs] at h
  | x :: vs, c :: cs, h, h2 => by
    rw [inTs_cons, Bool.and_eq_true] at h
    rw [List.cons_append, List.cons_append, inTs_cons, h.1, inTs_snoc h.2 h2]; rfl
/-- all values are values -/
theorem allV_in {cs : List IV} : ∀ {i : Nat}, i ≤ cs.length → ∀ x ∈ allV (cs.take i), ∃ vs, x = .tup vs ∧ inTs vs (cs.take i) = true
  | 0, _ => fun x hx => by
    have : x = .tup [] := by simpa [allV] using hx
    exact ⟨[], this, by simp [inTs]⟩
  | i + 1, h => fun x hx => by
    have ei : cs[i]? = some cs[i] := List.getElem?_eq_getElem (by omega)
    rw [allV_take ei] at hx
    obtain ⟨y, hy, hx⟩ := List.mem_flatMap.mp hx
    obtain ⟨vs, rfl, hv⟩ := allV_in (by omega) y hy
    obtain ⟨z, hz, rfl⟩ := List.mem_map.mp hx
    obtain ⟨k, hk⟩ := List.getElem?_of_mem hz
    obtain ⟨hk1, rfl⟩ := rngI_get hk
    refine ⟨_, rfl, ?_⟩
    rw [List.take_add_one, ei]
    refine inTs_snoc hv ?_
    simp only [okAt, Bool.and_eq_true, decide_eq_true_eq]
    constructor <;> omega
theorem allV_mem {cs : List IV} {x : IV} (h : x ∈ allV cs) : ∃ vs, x = .tup vs ∧ inTs vs cs = true := by
  have := allV_in (cs := cs) (i := cs.length) (by omega) x (by rw [List.take_length]; exact h)
  rw [List.take_length] at this
  exact this
theorem inTs_int : ∀ {vs cs : List IV}, inTs vs cs = true → ∀ x ∈ vs, ∃ v : Int, x = .int v
  | [], _, _, x, hx => by simp at hx
  | y :: vs, [], h, _, _ => by cases y <;> simp [inTs] at h
  | y :: vs, c :: cs, h, x, hx => by
    rw [inTs_cons, Bool.and_eq_true] at h
    rcases List.mem_cons.mp hx with rfl | hx
    · cases x with
      | int v => exact ⟨v, rfl⟩
      | _ => exact absurd h.1 (by simp [okAt])
    · exact inTs_int h.2 x hx
section
variable {lt : Nat} {cs : List IV} {st : Sto} {P : IV → Sto → Prop} {E : Str → List (Str × IV) → Sto → Prop}
end
end K07
set_option Elab.async false
set_option linter.all false
set_option maxRecDepth 100000
set_option maxHeartbeats 4000000
namespace K07
open PySem PySem.Spec PyProof.Rows L2 Mi
theorem good_x {cs : List IV} (g : Good cs) {x : IV} (h : x ∈ cs) : ∃ w t, x = .tup [.str w, .int t] ∧ 1 ≤ t ∧ t ≤ 5 ∧ wOk w = true ∧ okS w = true := by
  obtain ⟨w, t, rfl, t1, t2, hw⟩ := col_shape (g.col x h)
  have := List.all_eq_true.mp g.okv _ h
  simp only [okV, List.all_cons, Bool.and_eq_true] at this
  exact ⟨w, t, rfl, t1, t2, hw, this.1⟩
theorem okv_firsts {cs : List IV} (g : Good cs) : okV 1 (.tup (cs.map fst)) = true := by
  simp only [okV, List.all_eq_true]
  intro y hy
  obtain ⟨x, hx, rfl⟩ := List.mem_map.mp hy
  obtain ⟨w, t, rfl, _, _, _, hw⟩ := good_x g hx
  simpa [fst, okV] using hw
theorem okv_tops {cs : List IV} : okV 1 (.tup (cs.map fun x => .int (snd x))) = true := by
  simp only [okV, List.all_eq_true]
  intro y hy
  obtain ⟨x, hx, rfl⟩ := List.mem_map.mp hy
  rfl
theorem nb_firsts {cs : List IV} (g : Good cs) : nb (.tup (cs.map fst)) = true := by
  simp only [nb, nbs_all, List.all_eq_true]
  intro y hy
  obtain ⟨x, hx, rfl⟩ := List.mem_map.mp hy
  obtain ⟨w, t, rfl, _⟩ := good_x g hx
  simp [fst, nb]
theorem nb_tops {cs : List IV} : nb (.tup (cs.map fun x => .int (snd x))) = true := by
  simp only [nb, nbs_all, List.all_eq_true]
  intro y hy
  obtain ⟨x, hx, rfl⟩ := List.mem_map.mp hy
  simp [nb]
theorem nb_col {cs : List IV} (g : Good cs) : nb (.lst cs) = true := by
  simp only [nb, nbs_all, List.all_eq_true]
  intro x hx
  obtain ⟨w, t, rfl, _⟩ := good_x g hx
  simp [nb, nbs]
section
variable {lt lo : Nat} {cs cs2 : List IV} {st : Sto} {P : IV → Sto → Prop} {E : Str → List (Str × IV) → Sto → Prop}
theorem TabAt.cls (h : TabAt lt cs st) : tyName st (.ref lt) = none ∧ clsOf st (.ref lt) = some ("Table" : Str) := by
  have h' : st[lt]? = some (.ins "Table" (tabF cs)) := h
  constructor
  · simp only [tyName, h']
  · simp only [clsOf, h']
def pieceS : IV → Str
  | .tup [.str w, .int t] => (w ++ ("=" : Str)) ++ (toString t : String)
  | _ => Str.empty
def reprT (cs : List IV) : Str := (("Table(" : Str) ++ Txt.join ", " (cs.map pieceS)) ++ (")" : Str)
theorem digit_len {t : Int} (h1 : 1 ≤ t) (h2 : t ≤ 5) : ((toString t : String) : Str).length = 1 := by
  have : t = 1 ∨ t = 2 ∨ t = 3 ∨ t = 4 ∨ t = 5 := by omega
  rcases this with rfl | rfl | rfl | rfl | rfl <;> decide +kernel
theorem piece_len {cs : List IV} (g : Good cs) {x : IV} (h : x ∈ cs) : (pieceS x).length ≤ 10 := by
  obtain ⟨w, t, rfl, t1, t2, hw, _⟩ := good_x g h
  have hw8 : w.length ≤ 8 := by
    unfold wOk at hw
    simp only [Bool.and_eq_true, decide_eq_true_eq] at hw
    exact hw.2.1
  show ((w ++ ("=" : Str)) ++ ((toString t : String) : Str)).length ≤ 10
  rw [Str.length_append, Str.length_append, digit_len t1 t2]
  have : ("=" : Str).length = 1 := by decide +kernel
  omega
theorem sum_le {α : Type} {f : α → Nat} {b : Nat} : ∀ {xs : List α}, (∀ x ∈ xs, f x ≤ b) → (xs.map f).sum ≤ xs.length * b
  | [], _ => by simp
  | x :: xs, h => by
    have ih := sum_le (f := f) (b := b) (xs := xs) fun y hy => h y (List.mem_cons_of_mem _ hy)
    have := h x List.mem_cons_self
    simp only [List.map_cons, List.sum_cons, List.length_cons, Nat.succ_mul]
    omega
theorem comma_len : (", " : Str).length = 2 := by decide +kernel
theorem piece_sum {cs : List IV} (g : Good cs) : ((cs.map pieceS).map (·.length)).sum + (cs.map pieceS).length * (", " : Str).length ≤ 36 := by
  have h := sum_le (f := fun x => (pieceS x).length) (b := 10) (xs := cs) fun x hx => piece_len g hx
  rw [List.map_map, List.length_map, comma_len]
  have e : (cs.map ((fun x : Str => x.length) ∘ pieceS)).sum = (cs.map fun x => (pieceS x).length).sum := rfl
  rw [e]
  have := g.len
  omega
theorem join_len {cs : List IV} (g : Good cs) : (Txt.join ", " (cs.map pieceS)).length ≤ 36 := by
  show (PySem.Builtin.Str.glued _ _).length ≤ _
  rw [StrLaws.glued_eq_join]
  exact Nat.le_trans (StrLaws.join_length_le _ _) (piece_sum g)
theorem zip_get {cs : List IV} {p : IV} (h : p ∈ zipI (cs.map fst) (cs.map fun x => .int (snd x))) : ∃ x ∈ cs, p = .tup [fst x, .int (snd x)] := by
  obtain ⟨i, hi⟩ := List.getElem?_of_mem h
  obtain ⟨a, b, e1, e2, rfl⟩ := zipI_get _ _ _ _ hi
  rw [List.getElem?_map, Option.map_eq_some_iff] at e1 e2
  obtain ⟨x, e1, rfl⟩ := e1
  obtain ⟨y, e2, rfl⟩ := e2
  rw [e1] at e2; cases e2
  exact ⟨x, List.mem_of_getElem? e1, rfl⟩
theorem zip_cols {cs : List IV} (h : ∀ x ∈ cs, colOk x = true) : zipI (cs.map fst) (cs.map fun x => .int (snd x)) = cs := by
  induction cs with
  | nil => rfl
  | cons x cs ih =>
    obtain ⟨w, t, rfl, _⟩ := col_shape (h x List.mem_cons_self)
    simp only [List.map_cons, zipI, ih fun y hy => h y (List.mem_cons_of_mem _ hy)]
    rfl
theorem small_int {t : Int} (h1 : 1 ≤ t) (h2 : t ≤ 5) : t.natAbs ≤ 10000000000000000000000000000000000000000000000000000000000000000 := by omega
end
end K07
set_option Elab.async false
set_option linter.all false
set_option maxRecDepth 100000
set_option maxHeartbeats 4000000
namespace K07
open PySem PySem.Spec PyProof.Rows L2 Mi
theorem in_L {c : Nat} {st : Sto} : gIn false (.str ⟨#[c]⟩) (.str "abcdefghijklmnopqrstuvwxyz") st = .ok (.bl (isL c)) st := rfl
theorem in_D {c : Nat} {st : Sto} : gIn false (.str ⟨#[c]⟩) (.str "0123456789") st = .ok (.bl (isD c)) st := rfl
theorem tw_get {p : Nat → Bool} : ∀ {l : List Nat} {i : Nat}, i < (l.takeWhile p).length → ∃ c, l[i]? = some c ∧ p c = true
  | [], i, h => by simp at h
  | x :: l, i, h => by
    rw [List.takeWhile_cons] at h
    by_cases hx : p x = true
    · rw [if_pos hx] at h
      cases i with
      | zero => exact ⟨x, rfl, hx⟩
      | succ i =>
        obtain ⟨c, e, hc⟩ := tw_get (l := l) (i := i) (by simpa using h)
        exact ⟨c, by simpa using e, hc⟩
    · rw [if_neg hx] at h; simp at h
theorem tw_end {p : Nat → Bool} : ∀ {l : List Nat} {c : Nat}, l[(l.takeWhile p).length]? = some c → p c = false
  | [], c, h => by simp at h
  | x :: l, c, h => by
    rw [List.takeWhile_cons] at h
    by_cases hx : p x = true
    · rw [if_pos hx] at h
      exact tw_end (l := l) (by simpa using h)
    · rw [if_neg hx] at h
      have : x = c := by simpa using h
      rw [← this]; simpa using hx
theorem tw_le {p : Nat → Bool} {l : List Nat} : (l.takeWhile p).length ≤ l.length := (List.takeWhile_sublist p).length_le
theorem str_len {z : Str} : z.cps.toList.length = z.length := by simp [Str.length]
theorem row_loop {z Z : Str} {at' : Nat} {p : Nat → Bool} {st : Sto} {D : Post} (hl : z.length ≤ 190) (hat : at' ≤ z.length) (hin : ∀ c st, gIn false (.str ⟨#[c]⟩) (.str Z) st = .ok (.bl (p c)) st)
    (k : D.nx [some (.v (.str z)), some (.v (.int at')), some (.v (.str Z)), some (.v (.int ((at' + ((z.cps.toList.drop at').takeWhile p).length : Nat) : Int)))] st) :
    ((iWhile 200 (iAnd (iTest (iBin gLt (iVar 3) (iCallB gLen (iCons (iVar 0) iNil)))) (iTest (iBin (gIn false) (iIx (iVar 0) (iVar 3)) (iVar 2))))
      (iSet 3 (iBin gAdd (iVar 3) (iC (.int 1))))) [some (.v (.str z)), some (.v (.int at')), some (.v (.str Z)), some (.v (.int at'))] st).wp D := by
  have hd : (z.cps.toList.drop at').length = z.length - at' := by rw [List.length_drop, str_len]
  have hm := tw_le (p := p) (l := z.cps.toList.drop at')
  have hg : ∀ i, (z.cps.toList.drop at')[i]? = z.cps.toList[at' + i]? := fun i => by rw [List.getElem?_drop]
  generalize hmm : ((z.cps.toList.drop at').takeWhile p).length = m at k hm
  refine wp_while (fun r ρ st' => st' = st ∧ ∃ j, j ≤ m ∧ r = m - j ∧ ρ = [some (.v (.str z)), some (.v (.int at')), some (.v (.str Z)), some (.v (.int ((at' + j : Nat) : Int)))]) ?_ (k := m) (by omega) ⟨rfl, 0, Nat.zero_le _, rfl, rfl⟩
  rintro r ρ st' ⟨rfl, j, hj, rfl, rfl⟩
  have l1 : z.length ≤ 100000 := by omega
  by_cases c : j < m
  · obtain ⟨d, e1, e2⟩ := tw_get (p := p) (l := z.cps.toList.drop at') (i := j) (by rw [hmm]; exact c)
    rw [hg] at e1
    have c1 : (at' : Int) + (j : Int) < (z.length : Int) := by omega
    have e3 := Mi.atI_at e1
    rw [Int.natCast_add] at e3
    simp [l1, c1, e3, hin, e2]
    exact ⟨m - (j + 1), by omega, j + 1, by omega, rfl, by omega⟩
  · have ej : j = m := by omega
    subst ej
    by_cases c2 : at' + j < z.length
    · have c1 : (at' : Int) + (j : Int) < (z.length : Int) := by omega
      have e1 : z.cps.toList[at' + j]? = some (z.cps.toList[at' + j]'(by rw [str_len]; exact c2)) := List.getElem?_eq_getElem _
      have e2 : p (z.cps.toList[at' + j]'(by rw [str_len]; exact c2)) = false := tw_end (p := p) (l := z.cps.toList.drop at') (by rw [hmm, hg]; exact e1)
      generalize (z.cps.toList[at' + j]'(by rw [str_len]; exact c2)) = d at e1 e2
      have e3 := Mi.atI_at e1
      rw [Int.natCast_add] at e3
      simp [l1, c1, e3, hin, e2]
      simpa using k
    · have c1 : ¬ (at' : Int) + (j : Int) < (z.length : Int) := by omega
      simp [l1, c1]
      simpa using k
theorem cut_at {z : Str} {a b : Nat} (h1 : a ≤ b) (h2 : a ≤ z.length) : cutS z (some (a : Int)) (some (b : Int)) = ⟨((z.cps.toList.drop a).take (b - a)).toArray⟩ := by
  unfold cutS
  have e1 : HT.sIx z.length 0 (some (a : Int)) = a := by simp only [HT.sIx]; rw [if_neg (by omega)]; omega
  have e2 : HT.sIx z.length z.length (some (b : Int)) = min b z.length := by simp only [HT.sIx]; rw [if_neg (by omega)]; omega
  rw [e1, e2]
  congr 2
  by_cases c : b ≤ z.length
  · rw [Nat.min_eq_left c]
  · rw [List.take_of_length_le, List.take_of_length_le] <;> rw [List.length_drop, str_len] <;> omega
theorem in_pairs {w : List Nat} {st : Sto} : gIn false (.str ⟨w.toArray⟩) (.tup g_PAIRS) st = .ok (.bl (decide (w ∈ pairsN))) st := by
  rw [in_str_tup (by decide +kernel)]
  simp only [Bool.false_eq_true, if_false]
  congr 2
  have key : inI (.str ⟨w.toArray⟩) g_PAIRS = true ↔ w ∈ pairsN := by
    rw [inI_str]
    have e : g_PAIRS = pairsN.map fun l => IV.str ⟨l.toArray⟩ := by
      simp only [g_PAIRS, pairsN, List.map_cons, List.map_nil]
      rfl
    rw [e, List.mem_map]
    constructor
    · rintro ⟨l, hl, e⟩
      injection e with e
      injection e with e
      have : l = w := by simpa using congrArg Array.toList e
      rw [← this]; exact hl
    · intro h; exact ⟨w, h, rfl⟩
  by_cases h : w ∈ pairsN
  · rw [key.mpr h]; simp [h]
  · have : inI (.str ⟨w.toArray⟩) g_PAIRS = false := by
      cases q : inI (.str ⟨w.toArray⟩) g_PAIRS with
      | false => rfl
      | true => exact absurd (key.mp q) h
    rw [this]; simp [h]
theorem token_end_ok {z : Str} {at' : Nat} {st : Sto} {P : IV → Sto → Prop} {E : Str → List (Str × IV) → Sto → Prop} (hl : z.length ≤ 190) (hat : at' < z.length) (k : P (.int ((at' + tokLen (z.cps.toList.drop at') : Nat) : Int)) st) : (F_P_token_end [.str z, .int at'] st).wp P E := by
  have l1 : z.length ≤ 100000 := by omega
  have e1 : z.cps.toList[at']? = some (z.cps.toList[at']'(by rw [str_len]; exact hat)) := List.getElem?_eq_getElem _
  have ed : z.cps.toList.drop at' = (z.cps.toList[at']'(by rw [str_len]; exact hat)) :: z.cps.toList.drop (at' + 1) := List.drop_eq_getElem_cons _
  generalize (z.cps.toList[at']'(by rw [str_len]; exact hat)) = c at e1 ed
  have e3 := Mi.atI_at e1
  have cut : cutS z (some (at' : Int)) (some ((at' : Int) + 2)) = ⟨((z.cps.toList.drop at').take 2).toArray⟩ := by
    have := cut_at (z := z) (a := at') (b := at' + 2) (by omega) (by omega)
    rw [Nat.add_sub_cancel_left] at this
    rw [← this]; rfl
  simp [F_P_token_end, B_P_token_end]
  refine wp_forL_cons ?_
  simp [l1, e3, in_L]
  cases hL : isL c with
  | true =>
    simp
    refine row_loop (p := isL) hl (by omega) (fun c st => in_L) ?_
    simp
    have : tokLen (z.cps.toList.drop at') = ((z.cps.toList.drop at').takeWhile isL).length := by rw [ed]; exact isL_of hL
    rw [this] at k
    simpa using k
  | false =>
    simp
    refine wp_forL_cons ?_
    simp [l1, e3, in_D]
    cases hD : isD c with
    | true =>
      simp
      refine row_loop (p := isD) hl (by omega) (fun c st => in_D) ?_
      simp
      have : tokLen (z.cps.toList.drop at') = ((z.cps.toList.drop at').takeWhile isD).length := by rw [ed]; simp only [tokLen, hL, hD, Bool.false_eq_true, if_false, if_true]
      rw [this] at k
      simpa using k
    | false =>
      simp
      refine wp_forL_nil ?_
      simp [l1, cut, in_pairs]
      have : tokLen (z.cps.toList.drop at') = if (z.cps.toList.drop at').take 2 ∈ pairsN then 2 else 1 := by rw [ed]; simp only [tokLen, hL, hD, Bool.false_eq_true, if_false]
      rw [this] at k
      split
      · rename_i h; rw [if_pos h] at k; simpa using k
      · rename_i h; rw [if_neg h] at k; simpa using k
def tokIV (p : List Nat × Nat) : IV := .tup [.str ⟨p.1.toArray⟩, .int p.2]
def toksIV (z : Str) : List IV := (lexN z.length z.cps.toList 0).map tokIV ++ [.tup [.str "", .int z.length]]
theorem blank_eq {c : Nat} : ((⟨#[c]⟩ : Str) = " ") ↔ c = 32 := by
  constructor
  · intro h
    have : (#[c] : Array Nat) = #[32] := congrArg Str.cps h
    simpa using this
  · rintro rfl; rfl
theorem lexN_cons {n : Nat} {l : List Nat} {c off : Nat} {r : List Nat} (h : l = c :: r) : lexN (n + 1) l off = (if c = 32 then [] else [(l.take (tokLen l), off)]) ++ lexN n (l.drop (tokLen l)) (off + tokLen l) := by
  subst h; rfl
theorem tokens_ok {z : Str} {st : Sto} {P : IV → Sto → Prop} {E : Str → List (Str × IV) → Sto → Prop} (hl : z.length ≤ 190) (k : P (.lst (toksIV z)) st) : (F_P_tokens_of [.str z] st).wp P E := by
  have l1 : z.length ≤ 100000 := by omega
  simp [F_P_tokens_of, B_P_tokens_of]
  refine wp_while (fun r ρ st' => st' = st ∧ ∃ at' found s3, at' ≤ z.length ∧ z.length - at' ≤ r ∧ found.length ≤ at' ∧ found ++ (lexN (z.length - at') (z.cps.toList.drop at') at').map tokIV = (lexN z.length z.cps.toList 0).map tokIV ∧ ρ = [some (.v (.str z)), some (.own found), some (.v (.int (at' : Int))), s3]) ?_ (k := z.length) (by omega) ⟨rfl, 0, [], none, Nat.zero_le _, by omega, Nat.le_refl _, rfl, rfl⟩
  rintro r ρ st' ⟨rfl, at', found, s3, h1, hr, h2, h3, rfl⟩
  by_cases c : at' < z.length
  · have c1 : (at' : Int) < (z.length : Int) := by omega
    simp [l1, c1]
    have e1 : z.cps.toList[at']? = some (z.cps.toList[at']'(by rw [str_len]; exact c)) := List.getElem?_eq_getElem _
    have ed : z.cps.toList.drop at' = (z.cps.toList[at']'(by rw [str_len]; exact c)) :: z.cps.toList.drop (at' + 1) := List.drop_eq_getElem_cons _
    generalize (z.cps.toList[at']'(by rw [str_len]; exact c)) = d at e1 ed
    have e3 := Mi.atI_at e1
    have tp := tokLen_pos (l := z.cps.toList.drop at')
    have tle : tokLen (z.cps.toList.drop at') ≤ z.length - at' := by
      have h := tokLen_le (c := d) (r := z.cps.toList.drop (at' + 1))
      rw [← ed, List.length_drop, str_len] at h
      exact h
    have hn : z.length - at' = (z.length - at' - 1) + 1 := by omega
    rw [hn, lexN_cons ed, List.drop_drop] at h3
    have hmore : ∀ n, z.length - (at' + tokLen (z.cps.toList.drop at')) ≤ n → lexN n (z.cps.toList.drop (at' + tokLen (z.cps.toList.drop at'))) (at' + tokLen (z.cps.toList.drop at')) = lexN (z.length - (at' + tokLen (z.cps.toList.drop at'))) (z.cps.toList.drop (at' + tokLen (z.cps.toList.drop at'))) (at' + tokLen (z.cps.toList.drop at')) := fun n hn => lexN_more (by rw [List.length_drop, str_len]; omega) (by rw [List.length_drop, str_len]; omega)
    rw [hmore _ (by omega)] at h3
    have hcut := cut_at (z := z) (a := at') (b := at' + tokLen (z.cps.toList.drop at')) (by omega) (by omega)
    rw [Nat.add_sub_cancel_left] at hcut
    refine ⟨r - 1, by omega, ?_⟩
    refine token_end_ok hl c ?_
    generalize tokLen (z.cps.toList.drop at') = t at tp tle h3 hmore hcut ⊢
    simp [l1, e3, blank_eq]
    split
    · rename_i h32
      rw [if_pos h32, List.nil_append] at h3
      exact ⟨at' + t, by omega, by omega, found, by omega, h3, rfl, by omega⟩
    · rename_i h32
      rw [if_neg h32] at h3
      simp [ownAt]
      have e5 : (at' : Int) + (t : Int) = ((at' + t : Nat) : Int) := by omega
      rw [e5, hcut]
      refine ⟨by omega, at' + t, by omega, by omega, _, ?_, ?_, rfl, rfl⟩
      · rw [List.length_append]; simp only [List.length_cons, List.length_nil]; omega
      · rw [← h3, List.map_append, ← List.append_assoc]
        rfl
  · have c1 : ¬ (at' : Int) < (z.length : Int) := by omega
    have e : at' = z.length := by omega
    subst e
    have f0 : found = (lexN z.length z.cps.toList 0).map tokIV := by
      rw [← h3, Nat.sub_self]; simp [lexN]
    simp [l1, ownAt]
    refine ⟨by omega, ?_⟩
    rw [f0]
    exact k

/-! ### the law's text -/
def sortN (c : Nat) : Int := if isL c then 0 else if isD c then 1 else if c ∈ ([40, 41, 44] : List Nat) then 2 else 3
theorem in_brk {c : Nat} {st : Sto} : gIn false (.str ⟨#[c]⟩) (.str "(),") st = .ok (.bl (decide (c ∈ ([40, 41, 44] : List Nat)))) st := rfl
theorem sort_ok {c : Nat} {st : Sto} {P : IV → Sto → Prop} {E : Str → List (Str × IV) → Sto → Prop} (k : P (.int (sortN c)) st) : (F_sort [.str ⟨#[c]⟩] st).wp P E := by
  unfold sortN at k
  simp [F_sort, B_sort, in_L]
  cases hL : isL c with
  | true => simpa [hL] using k
  | false =>
    simp [in_D]
    cases hD : isD c with
    | true => simpa [hL, hD] using k
    | false =>
      simp [in_brk]
      simp [hL, hD] at k
      split
      · rename_i h; rw [if_pos h] at k; exact k
      · rename_i h; rw [if_neg h] at k; exact k
theorem fits_of : ∀ {its : List (Nat × List Nat)}, (∀ p ∈ its, tokOk p.2 = true) → (∀ (i : Nat) p q, its[i]? = some p → its[i + 1]? = some q → 1 ≤ q.1 ∨ ∃ c r, q.2 = c :: r ∧ mayFollow p.2 c = true) → fits its = true
  | [], _, _ => rfl
  | [(g, t)], h, _ => h (g, t) (by simp)
  | (g, t) :: (g', u) :: r, h, h2 => by
    have h1 := h (g, t) (by simp)
    have h3 := h2 0 (g, t) (g', u) rfl rfl
    have ih := fits_of (its := (g', u) :: r) (fun p hp => h p (List.mem_cons_of_mem _ hp)) fun i p q e1 e2 => h2 (i + 1) p q (by simpa using e1) (by simpa using e2)
    simp only [fits, Bool.and_eq_true, Bool.or_eq_true, decide_eq_true_eq]
    refine ⟨⟨h1, ?_⟩, ih⟩
    rcases h3 with h3 | ⟨c, q, e, h3⟩
    · exact .inl h3
    · right
      have e : u = c :: q := e
      rw [e]; exact h3
theorem last_all {p : Nat → Bool} {t : List Nat} {d : Nat} (h : t.all p = true) (e : d ∈ t) : p d = true := List.all_eq_true.mp h d e
theorem follow_sort {t : List Nat} {d c : Nat} (h : tokOk t = true) (e : t[t.length - 1]? = some d) (hs : sortN d ≠ sortN c ∨ sortN d = 2) : mayFollow t c = true := by
  have hd : d ∈ t := List.mem_of_getElem? e
  cases t with
  | nil => cases h
  | cons x r =>
    simp only [tokOk, Bool.and_eq_true] at h
    obtain ⟨_, h⟩ := h
    simp only [mayFollow]
    by_cases hL : isL x = true
    · rw [if_pos hL] at h ⊢
      have : isL d = true := last_all (t := x :: r) (by rw [List.all_cons, hL, h]; rfl) hd
      cases q : isL c with
      | false => rfl
      | true => simp [sortN, this, q] at hs
    · rw [if_neg hL] at h ⊢
      by_cases hD : isD x = true
      · rw [if_pos hD] at h ⊢
        have h1 : isD d = true := last_all (t := x :: r) (by rw [List.all_cons, hD, h]; rfl) hd
        cases q : isD c with
        | false => rfl
        | true =>
          have dis : ∀ y, isD y = true → isL y = false := by
            intro y hy
            have : y ∈ digN := of_decide_eq_true hy
            have all : ∀ y ∈ digN, isL y = false := by decide +kernel
            exact all y this
          simp [sortN, h1, q, dis d h1, dis c q] at hs
      · rw [if_neg hD] at h ⊢
        cases r with
        | cons y r => rfl
        | nil =>
          simp only [if_true]
          have ed : x = d := by simpa using e
          subst ed
          refine decide_eq_true fun hp => ?_
          have hp2 : (x = 33 ∨ x = 60 ∨ x = 62 ∨ x = 43 ∨ x = 45 ∨ x = 46) ∧ (c = 61 ∨ c = 46) := by
            simp only [pairsN, List.mem_cons, List.not_mem_nil, or_false, List.cons.injEq, and_true] at hp
            omega
          have s1 : sortN x = 3 := by
            rcases hp2.1 with rfl | rfl | rfl | rfl | rfl | rfl <;> decide +kernel
          have s2 : sortN c = 3 := by
            rcases hp2.2 with rfl | rfl <;> decide +kernel
          rw [s1, s2] at hs
          rcases hs with hs | hs
          · exact hs rfl
          · cases hs
def flatI' (its : List (Nat × List Nat)) : List Nat := its.flatMap fun p => List.replicate p.1 32 ++ p.2
theorem build_flat : ∀ {its : List (Nat × List Nat)} {ge : Nat}, build its ge = flatI' its ++ List.replicate ge 32
  | [], ge => by simp [build, flatI']
  | (g, t) :: r, ge => by
    have ih := build_flat (its := r) (ge := ge)
    unfold flatI' at ih ⊢
    rw [build, List.flatMap_cons, ih]
    simp [List.append_assoc]
theorem blanks_cps {n : Int} (h : 0 ≤ n) (h2 : n ≤ 4) : (repS " " n).cps.toList = List.replicate n.toNat 32 := by
  have : n = 0 ∨ n = 1 ∨ n = 2 ∨ n = 3 ∨ n = 4 := by omega
  rcases this with rfl | rfl | rfl | rfl | rfl <;> decide +kernel
theorem app_cps {a b : Str} : (a ++ b).cps.toList = a.cps.toList ++ b.cps.toList := by
  show (a.cps ++ b.cps).toList = _
  simp
end K07
set_option Elab.async false
set_option linter.all false
set_option maxRecDepth 100000
set_option maxHeartbeats 4000000
namespace K07
open PySem PySem.Spec PyProof.Rows L2 Mi
def Adj (its : List (Nat × List Nat)) : Prop := ∀ (i : Nat) p q, its[i]? = some p → its[i + 1]? = some q → 1 ≤ q.1 ∨ ∃ c r, q.2 = c :: r ∧ mayFollow p.2 c = true
theorem adj_snoc {its : List (Nat × List Nat)} {x : Nat × List Nat} (h : Adj its) (hx : ∀ p, its[its.length - 1]? = some p → 1 ≤ x.1 ∨ ∃ c r, x.2 = c :: r ∧ mayFollow p.2 c = true) : Adj (its ++ [x]) := by
  intro i p q e1 e2
  rcases getElem?_snoc e2 with e2 | ⟨i2, rfl⟩
  · rcases getElem?_snoc e1 with e1 | ⟨i1, _⟩
    · exact h i p q e1 e2
    · have := (List.getElem?_eq_some_iff.mp e2).1; omega
  · rcases getElem?_snoc e1 with e1 | ⟨i1, _⟩
    · exact hx p (by rw [← i2, Nat.add_sub_cancel]; exact e1)
    · omega
/-- words of a law: short tokens -/
structure Toks (ss : List Str) : Prop where
  tok : ∀ s ∈ ss, tokOk s.cps.toList = true
  len : ∀ s ∈ ss, s.length ≤ 8
  few : ss.length ≤ 14
theorem blank_len : (" " : Str).length = 1 := by decide +kernel
structure SpI (n l n0 : Nat) (ss : List Str) (st0 : Sto) (i : Nat) (text : Str) (its : List (Nat × List Nat)) (gk : Nat) (pl : List IV) (st : Sto) : Prop where
  txt : text.cps.toList = flatI' its ++ List.replicate gk 32
  itm : its.map (·.2) = (ss.take i).map fun s => s.cps.toList
  tok : ∀ p ∈ its, tokOk p.2 = true
  adj : Adj its
  pend : ∀ p, its[its.length - 1]? = some p → ∀ s, ss[i]? = some s → 1 ≤ gk ∨ ∃ c r, s.cps.toList = c :: r ∧ mayFollow p.2 c = true
  last : ss[i]? = none → 0 < i → gk = 0
  len : text.length ≤ 1 + i * 11
  plc : st[n0]? = some (.lst pl)
  pln : pl.length = i
  bag : BagAt (n + 1 + i) l st
  sz : st.length = n0 + 1
  keep : ∀ j, j < n0 → j ≠ l → st[j]? = st0[j]?
  ofs : pl = (places its 0).map fun p => .int p.2
theorem first_of {s : Str} (h : tokOk s.cps.toList = true) : ∃ c r, s.cps.toList = c :: r := by
  cases e : s.cps.toList with
  | nil => rw [e] at h; cases h
  | cons c r => exact ⟨c, r, rfl⟩
theorem atI_end {α : Type} {xs : List α} (h : 0 < xs.length) : atI xs (-1) = xs[xs.length - 1]? := by
  unfold atI ixN
  rw [if_neg (by omega), if_pos (by omega)]
  show xs[((-1 : Int) + (xs.length : Nat)).toNat]? = _
  congr 1; omega
theorem flatI_snoc {its : List (Nat × List Nat)} {g : Nat} {t : List Nat} : flatI' (its ++ [(g, t)]) = flatI' its ++ (List.replicate g 32 ++ t) := by
  unfold flatI'; rw [List.flatMap_append]; simp
def offsV (its : List (Nat × List Nat)) : List IV := (places its 0).map fun p => .int p.2
theorem places_snoc {g : Nat} {t : List Nat} : ∀ {its : List (Nat × List Nat)} {off : Nat}, places (its ++ [(g, t)]) off = places its off ++ [(t, off + (flatI' its).length + g)]
  | [], off => by simp [places, flatI']
  | (g', t') :: r, off => by
    rw [List.cons_append, places, places, places_snoc]
    simp only [List.cons_append, List.cons.injEq, true_and]
    congr 2
    unfold flatI'
    rw [List.flatMap_cons]
    simp only [List.length_append, List.length_replicate, Prod.mk.injEq, true_and]
    omega
def gapL : List IV := [.int 0, .int 0, .int 1, .int 1, .int 1, .int 2]
def endL : List IV := [.int 0, .int 0, .int 0, .int 2]
theorem gapL_ok : ∀ v ∈ gapL, ∃ g : Nat, v = .int g ∧ g ≤ 2 := by
  intro v hv
  simp only [gapL, List.mem_cons, List.not_mem_nil, or_false] at hv
  rcases hv with rfl | rfl | rfl | rfl | rfl | rfl
  · exact ⟨0, rfl, by omega⟩
  · exact ⟨0, rfl, by omega⟩
  · exact ⟨1, rfl, by omega⟩
  · exact ⟨1, rfl, by omega⟩
  · exact ⟨1, rfl, by omega⟩
  · exact ⟨2, rfl, by omega⟩
theorem endL_ok : ∀ v ∈ endL, ∃ g : Nat, v = .int g ∧ g ≤ 2 := by
  intro v hv
  simp only [endL, List.mem_cons, List.not_mem_nil, or_false] at hv
  rcases hv with rfl | rfl | rfl | rfl
  · exact ⟨0, rfl, by omega⟩
  · exact ⟨0, rfl, by omega⟩
  · exact ⟨0, rfl, by omega⟩
  · exact ⟨2, rfl, by omega⟩
theorem repS_len {g : Nat} (h : g ≤ 4) : (repS " " g).length = g := by
  have := blanks_cps (n := (g : Int)) (by omega) (by omega)
  rw [← str_len, this]; simp
def SpInv (n l n0 : Nat) (ss : List Str) (st0 : Sto) (i : Nat) (ρ : Slots) (st : Sto) : Prop := ∃ text its gk pl s4 s5 s6, ρ = [some (.v (.ref l)), some (.v (.lst (ss.map .str))), some (.v (.str text)), some (.v (.ref n0)), s4, s5, s6] ∧ SpI n l n0 ss st0 i text its gk pl st
theorem spread_ok {n l : Nat} {ss : List Str} {st : Sto} {P : IV → Sto → Prop} {E : Str → List (Str × IV) → Sto → Prop} (hn : n < 10000000000000000) (hb : BagAt n l st) (ht : Toks ss)
    (k : ∀ z its ge lp st', z.cps.toList = build its ge → its.map (·.2) = ss.map (fun s => s.cps.toList) → fits its = true → z.length ≤ 190 → BagAt (n + 20) l st' → Keep2 l st st' → st'[lp]? = some (.lst (offsV its)) → P (.tup [.str z, .ref lp]) st') : (F_spread [.ref l, .lst (ss.map .str)] st).wp P E := by
  have hll : l < st.length := by obtain ⟨_, _, _, _, e, _⟩ := hb; exact (List.getElem?_eq_some_iff.mp e).1
  have bl := blank_len
  have few := ht.few
  simp [F_spread, B_spread]
  refine draw_ok (by decide) (by decide) (by omega) hb fun r st1 r0 r1 hb1 hu1 => ?_
  have g0 : ∃ gk : Nat, gk ≤ 1 ∧ (if r = 0 then (1 : Int) else 0) = (gk : Int) := by
    by_cases c : r = 0
    · exact ⟨1, by omega, by simp [c]⟩
    · exact ⟨0, by omega, by simp [c]⟩
  obtain ⟨gk, gk1, gk2⟩ := g0
  simp [gk2, bl]
  refine ⟨by omega, by omega, ?_⟩
  have hpre : ∀ j, j < st.length → j ≠ l → (st1 ++ [Mi.IO.lst []])[j]? = st[j]? := fun j hj hne => by rw [List.getElem?_append_left (by rw [hu1.len]; exact hj)]; exact hu1.get j hne
  have hsz : (st1 ++ [Mi.IO.lst []]).length = st.length + 1 := by simp [hu1.len]
  have hP : (st1 ++ [Mi.IO.lst []])[st.length]? = some (.lst []) := by rw [← hu1.len]; simp
  have hbA : BagAt (n + 1) l (st1 ++ [Mi.IO.lst []]) := by
    obtain ⟨g, a, b, c, e, r⟩ := hb1
    exact ⟨g, a, b, c, by rw [List.getElem?_append_left (by rw [hu1.len]; exact hll)]; exact e, r⟩
  rw [hu1.len]
  generalize st1 ++ [Mi.IO.lst []] = st2 at hpre hsz hP hbA ⊢
  refine wp_for (SpInv n l st.length ss st)
    ⟨_, [], gk, [], none, none, none, rfl, by rw [blanks_cps (by omega) (by omega)]; simp [flatI'], rfl, by simp, by intro i p q e; simp at e, by intro p e; simp at e, fun _ h => by omega, by rw [repS_len (by omega)]; omega, hP, rfl, hbA, hsz, hpre, rfl⟩ ?_ ?_
  · rintro i x ρ st3 hx ⟨text, its, gk, pl, s4, s5, s6, rfl, I⟩
    obtain ⟨hi, rfl⟩ := rngI_get hx
    refine ⟨rfl, ?_⟩
    have es : ss[i]? = some ss[i] := List.getElem?_eq_getElem hi
    have hs := ht.tok _ (List.getElem_mem hi)
    have hs8 := ht.len _ (List.getElem_mem hi)
    have e0 : (0 : Int) + (i : Int) = (i : Int) := by omega
    have eA : atI (ss.map IV.str) (i : Int) = some (.str ss[i]) := Mi.atI_at (by rw [List.getElem?_map, es]; rfl)
    generalize ss[i] = s at es hs hs8 eA
    have tl := I.len
    have pn := I.pln
    rw [e0]
    simp [isLst_ref I.plc, app_ref I.plc (show pl.length < 100000 by omega), eA]
    refine ⟨by omega, by omega, ?_⟩
    -- the token is behind the text
    have ia : ∀ (u : Str) (g2 : Nat) (st5 : Sto), (u.cps.toList = (text ++ s).cps.toList ++ List.replicate g2 32) → (∀ s', ss[i + 1]? = some s' → 1 ≤ g2 ∨ ∃ c r, s'.cps.toList = c :: r ∧ mayFollow s.cps.toList c = true) → (ss[i + 1]? = none → g2 = 0) → u.length ≤ 1 + (i + 1) * 11 → st5[st.length]? = some (.lst (pl ++ [.int text.length])) → BagAt (n + 1 + (i + 1)) l st5 → st5.length = st.length + 1 → (∀ j, j < st.length → j ≠ l → st5[j]? = st[j]?) →
        SpI n l st.length ss st (i + 1) u (its ++ [(gk, s.cps.toList)]) g2 (pl ++ [.int text.length]) st5 := fun u g2 st5 q1 q2 q3 q4 q5 q6 q7 q8 =>
      ⟨by rw [q1, app_cps, I.txt, flatI_snoc]; simp [List.append_assoc], by rw [List.map_append, I.itm, List.take_add_one, es, List.map_append]; rfl,
        fun p hp => by
          rcases List.mem_append.mp hp with hp | hp
          · exact I.tok p hp
          · have : p = (gk, s.cps.toList) := by simpa using hp
            rw [this]; exact hs,
        adj_snoc I.adj fun p e => I.pend p e s es, fun p e s' e' => by
          have : p = (gk, s.cps.toList) := by
            rw [List.length_append] at e
            simp only [List.length_cons, List.length_nil, Nat.add_sub_cancel, Nat.zero_add] at e
            rw [List.getElem?_append_right (Nat.le_refl _)] at e
            simpa using e.symm
          rw [this]; exact q2 s' e', fun e _ => q3 e, q4, q5, by rw [List.length_append, pn]; rfl, q6, q7, q8, by
        have e1 := congrArg List.length I.txt
        rw [str_len, List.length_append, List.length_replicate] at e1
        rw [places_snoc, List.map_append, ← I.ofs, e1]
        simp⟩
    have P4 : (st3.set st.length (.lst (pl ++ [.int text.length])))[st.length]? = some (.lst (pl ++ [.int text.length])) := set_get I.plc
    have B4 : BagAt (n + 1 + i) l (st3.set st.length (.lst (pl ++ [.int text.length]))) := bag_set I.bag (by omega) (Nat.le_refl _)
    have S4 : (st3.set st.length (.lst (pl ++ [.int text.length]))).length = st.length + 1 := by rw [List.length_set, I.sz]
    have K4 : ∀ j, j < st.length → j ≠ l → (st3.set st.length (.lst (pl ++ [.int text.length])))[j]? = st[j]? := fun j hj hne => by rw [List.getElem?_set_ne (by omega)]; exact I.keep j hj hne
    generalize st3.set st.length (.lst (pl ++ [.int text.length])) = st4 at P4 B4 S4 K4 ⊢
    by_cases c : i + 1 < ss.length
    · have c' : (i : Int) + 1 < (ss.length : Int) := by omega
      have es2 : ss[i + 1]? = some ss[i + 1] := List.getElem?_eq_getElem c
      have hs2 := ht.tok _ (List.getElem_mem c)
      have eA2 : atI (ss.map IV.str) ((i : Int) + 1) = some (.str ss[i + 1]) := by
        have := Mi.atI_at (xs := ss.map IV.str) (i := i + 1) (v := .str ss[i + 1]) (by rw [List.getElem?_map, es2]; rfl)
        rw [← this]; congr 1
      have hs28 := ht.len _ (List.getElem_mem c)
      generalize ss[i + 1] = s' at es2 hs2 eA2 hs28
      obtain ⟨c1, r1', ec1⟩ := first_of hs2
      have ef : atI s'.cps.toList 0 = some c1 := by rw [ec1]; simp
      obtain ⟨c0, r0', ec0⟩ := first_of hs
      have lp0 : 0 < s.cps.toList.length := by rw [ec0]; simp
      have ee : s.cps.toList[s.cps.toList.length - 1]? = some (s.cps.toList[s.cps.toList.length - 1]'(by omega)) := List.getElem?_eq_getElem _
      have el : atI s.cps.toList (-1) = some (s.cps.toList[s.cps.toList.length - 1]'(by omega)) := by rw [atI_end lp0]; exact ee
      generalize (s.cps.toList[s.cps.toList.length - 1]'(by omega)) = d at ee el
      simp [c', eA, eA2, el]
      refine ⟨by omega, sort_ok ?_⟩
      simp [c', eA, eA2, ef]
      refine ⟨by omega, sort_ok ?_⟩
      simp
      have fin : ∀ (j0 : Nat), j0 ≤ 1 → (j0 = 0 → sortN d ≠ sortN c1 ∨ sortN d = 2) → (F_draw [.ref l, .int 6] st4).wp (fun y st_1 => (gIx (.lst [.int 0, .int 0, .int 1, .int 1, .int 1, .int 2]) y st_1).wp (fun y st_2 => (gAdd (.int (j0 : Int)) y st_2).wp (fun y st_3 => (gMulS (.str " ") y st_3).wp (fun y st_4 => (gAdd (.str (text ++ s)) y st_4).wp (fun v st_5 =>
          SpInv n l st.length ss st (i + 1) [some (.v (.ref l)), some (.v (.lst (ss.map .str))), some (.v v), some (.v (.ref st.length)), some (.v (.int i)), some (.v (.int (sortN d))), some (.v (.int (sortN c1)))] st_5) E) E) E) E) E := fun j0 hj hf => by
        refine draw_ok (by decide) (by decide) (by omega) B4 fun r5 st5 r50 r51 hb5 hu5 => ?_
        obtain ⟨v, v1, v2, v3⟩ := Mi.atI_some (xs := gapL) r50 r51
        obtain ⟨g3, rfl, hg3⟩ := gapL_ok v v3
        have v1' : atI [IV.int 0, IV.int 0, IV.int 1, IV.int 1, IV.int 1, IV.int 2] r5 = some (.int g3) := v1
        have rl := repS_len (g := j0 + g3) (by omega)
        rw [Int.natCast_add] at rl
        have lq : (text ++ s).length = text.length + s.length := Str.length_append _ _
        simp [v1', bl, rl]
        refine ⟨by omega, by omega, ?_⟩
        refine ⟨_, _, _, _, _, _, _, rfl, ia _ (j0 + g3) st5 ?_ (fun s2 e => ?_) (fun e => by rw [es2] at e; cases e) ?_ ((hu5.get _ (by omega)).trans P4) (hb5.mono (by omega)) (by rw [hu5.len, S4]) fun j hj hne => (hu5.get j hne).trans (K4 j hj hne)⟩
        · rw [app_cps, blanks_cps (by omega) (by omega)]; congr 2
        · rw [es2] at e; cases e
          by_cases z : j0 = 0
          · exact .inr ⟨c1, r1', ec1, follow_sort hs ee (hf z)⟩
          · exact .inl (by omega)
        · rw [Str.length_append, Str.length_append, rl]; omega
      obtain ⟨j0, hj0, eJ, eJ2⟩ : ∃ j0 : Nat, j0 ≤ 1 ∧ (if sortN c1 = 2 then (0 : Int) else 1) = (j0 : Int) ∧ (j0 = 0 → sortN c1 = 2) := by
        by_cases z : sortN c1 = 2
        · exact ⟨0, by omega, by simp [z], fun _ => z⟩
        · exact ⟨1, by omega, by simp [z], fun q => by omega⟩
      rw [eJ]
      by_cases h1 : sortN d = sortN c1
      · rw [if_pos h1]
        exact fin j0 hj0 (fun z => .inr (by rw [h1]; exact eJ2 z))
      · rw [if_neg h1]
        simpa using fin 0 (by omega) (fun _ => .inl h1)
    · have c' : ¬ (i : Int) + 1 < (ss.length : Int) := by omega
      have en : ss[i + 1]? = none := List.getElem?_eq_none (by omega)
      simp [c']
      exact ⟨_, _, _, _, _, _, _, rfl, ia _ 0 _ (by simp) (fun s' e => by rw [en] at e; cases e) (fun _ => rfl) (by rw [Str.length_append]; omega) P4 (B4.mono (by omega)) S4 K4⟩
  · rintro ρ st3 ⟨text, its, gk, pl, s4, s5, s6, rfl, I⟩
    rw [rngI_len] at I
    refine ⟨rfl, ?_⟩
    simp
    have tl := I.len
    refine draw_ok (by decide) (by decide) (by omega) I.bag fun r5 st5 r50 r51 hb5 hu5 => ?_
    obtain ⟨v, v1, v2, v3⟩ := Mi.atI_some (xs := endL) r50 r51
    obtain ⟨ge, rfl, hge⟩ := endL_ok v v3
    have v1' : atI [IV.int 0, IV.int 0, IV.int 0, IV.int 2] r5 = some (.int ge) := v1
    have rl := repS_len (g := ge) (by omega)
    simp [v1', bl, rl]
    refine ⟨by omega, by omega, ?_⟩
    have tk : ss.take ss.length = ss := List.take_length
    have h0 : its = [] ∧ ss = [] ∨ gk = 0 := by
      by_cases z : ss.length = 0
      · left
        have z2 : ss = [] := List.eq_nil_of_length_eq_zero z
        refine ⟨?_, z2⟩
        have := congrArg List.length I.itm
        rw [z2] at this
        simpa using this
      · exact .inr (I.last (List.getElem?_eq_none (Nat.le_refl _)) (by omega))
    have fit := fits_of I.tok I.adj
    have kk := fun ge' (h : (text ++ repS " " (ge : Int)).cps.toList = build its ge') => k (text ++ repS " " (ge : Int)) its ge' st.length st5 h (by rw [I.itm, tk]) fit (by rw [Str.length_append, rl]; omega) (hb5.mono (by omega)) ⟨by rw [hu5.len, I.sz]; omega, fun j hj hne => by rw [hu5.get j hne]; exact I.keep j hj hne⟩ (by rw [hu5.get _ (by omega), I.plc, I.ofs]; rfl)
    rcases h0 with ⟨z1, z2⟩ | z
    · refine kk (gk + ge) ?_
      rw [app_cps, I.txt, blanks_cps (by omega) (by omega), build_flat, z1]
      simp [flatI']
    · refine kk ge ?_
      rw [app_cps, I.txt, blanks_cps (by omega) (by omega), build_flat, z]
      simp
end K07
set_option Elab.async false
set_option linter.all false
set_option maxRecDepth 100000
set_option maxHeartbeats 4000000
namespace K07
open PySem PySem.Spec PyProof.Rows L2 Mi
def wd (cs : List IV) (k : Nat) : Str := match cs[k]? with
  | some (.tup [.str w, _]) => w
  | _ => Str.empty
theorem wd_at {cs : List IV} (g : Good cs) {k : Nat} (h : k < cs.length) : ∃ t, cs[k]? = some (.tup [.str (wd cs k), .int t]) ∧ wOk (wd cs k) = true ∧ okS (wd cs k) = true ∧ 1 ≤ t ∧ t ≤ 5 := by
  obtain ⟨w, t, e, t1, t2, hw, hs⟩ := good_x g (List.getElem_mem h)
  have e2 : cs[k]? = some (.tup [.str w, .int t]) := by rw [List.getElem?_eq_getElem h, e]
  have e3 : wd cs k = w := by simp only [wd, e2]
  rw [e3]
  exact ⟨t, e2, hw, hs, t1, t2⟩
theorem firsts_at {cs : List IV} (g : Good cs) {k : Nat} (h : k < cs.length) : (cs.map fst)[k]? = some (.str (wd cs k)) := by
  obtain ⟨t, e, _⟩ := wd_at g h
  rw [List.getElem?_map, e]; rfl
theorem wd_inj {cs : List IV} (g : Good cs) {i j : Nat} (hi : i < cs.length) (hj : j < cs.length) (e : wd cs i = wd cs j) : i = j := by
  have h1 := firsts_at g hi
  have h2 := firsts_at g hj
  rw [e] at h1
  exact (List.getElem?_inj (by rw [List.length_map]; exact hi) g.nd).mp (h1.trans h2.symm)
theorem kept_ne {w x : Str} (hw : wOk w = true) (hx : inI (.str x) keptL = true) : w ≠ x := by
  rintro rfl
  unfold wOk at hw
  rw [hx] at hw
  simp at hw
theorem ne_name {w : Str} (hw : wOk w = true) : w ≠ "name" := kept_ne hw (by decide +kernel)
theorem words_idx {cs : List IV} (g : Good cs) {k : Nat} (h : k < cs.length) : ∃ ys : List Str, cs.map fst = ys.map .str ∧ ys.findIdx? (fun y => decide (y = wd cs k)) = some k := by
  refine ⟨(List.range cs.length).map (wd cs), ?_, ?_⟩
  · apply List.ext_getElem?
    intro i
    by_cases hi : i < cs.length
    · rw [firsts_at g hi, List.map_map, List.getElem?_map, List.getElem?_range hi]; rfl
    · rw [List.getElem?_eq_none (by rw [List.length_map]; omega), List.getElem?_eq_none (by rw [List.length_map, List.length_map, List.length_range]; omega)]
  · rw [List.findIdx?_eq_some_iff_getElem]
    refine ⟨by rw [List.length_map, List.length_range]; exact h, by simp, fun j hj => ?_⟩
    have hj2 : j < cs.length := by omega
    simp only [List.getElem_map, List.getElem_range, decide_eq_true_eq]
    intro e
    have := wd_inj g hj2 h e
    omega
/-- the tokens T have the words W -/
def Named (T : List IV) (W : List Str) : Prop := T.length = W.length ∧ ∀ (i : Nat) w, W[i]? = some w → ∃ off : Int, T[i]? = some (.tup [.str w, .int off])
theorem named_at {T : List IV} {W : List Str} {n : Nat} {a : Str} {b : List Str} (h : Named T W) (e : W.drop n = a :: b) : (∃ off : Int, T[n]? = some (.tup [.str a, .int off])) ∧ W.drop (n + 1) = b := by
  have hl : n < W.length := by
    apply Classical.byContradiction
    intro z
    rw [List.drop_eq_nil_of_le (by omega)] at e; cases e
  rw [List.drop_eq_getElem_cons hl] at e
  injection e with e1 e2
  exact ⟨h.2 n a (by rw [List.getElem?_eq_getElem hl, e1]), e2⟩
theorem places_get : ∀ {its : List (Nat × List Nat)} {off : Nat}, (places its off).length = its.length ∧ ∀ (i : Nat) p, its[i]? = some p → ∃ o, (places its off)[i]? = some (p.2, o)
  | [], off => ⟨rfl, fun i p e => by simp at e⟩
  | (g, t) :: r, off => by
    obtain ⟨h1, h2⟩ := places_get (its := r) (off := off + g + t.length)
    refine ⟨by simp [places, h1], fun i p e => ?_⟩
    cases i with
    | zero => have : p = (g, t) := by simpa using e.symm
              rw [this]; exact ⟨off + g, rfl⟩
    | succ i => obtain ⟨o, e2⟩ := h2 i p (by simpa using e); exact ⟨o, by simpa [places] using e2⟩
theorem named_of {z : Str} {gs : List (Nat × List Nat)} {ge : Nat} {W : List Str} (h1 : z.cps.toList = build gs ge) (h2 : gs.map (·.2) = W.map fun s => s.cps.toList) (h3 : fits gs = true) : Named (toksIV z) (W ++ [("" : Str)]) := by
  have e := lex_build (its := gs) (ge := ge) (n := z.length) (off := 0) h3 (by rw [← h1, str_len]; exact Nat.le_refl _)
  obtain ⟨p1, p2⟩ := places_get (its := gs) (off := 0)
  have hl : gs.length = W.length := by have := congrArg List.length h2; simpa using this
  unfold toksIV
  rw [h1, e]
  refine ⟨by simp [p1, hl], fun i w e1 => ?_⟩
  rcases getElem?_snoc e1 with e1 | ⟨i1, rfl⟩
  · have hi : i < W.length := (List.getElem?_eq_some_iff.mp e1).1
    obtain ⟨o, e3⟩ := p2 i gs[i] (List.getElem?_eq_getElem (by omega))
    have e4 : gs[i].2 = w.cps.toList := by
      have := congrArg (fun l => l[i]?) h2
      simp only [List.getElem?_map] at this
      rw [List.getElem?_eq_getElem (by omega), e1] at this
      simpa using this
    refine ⟨o, ?_⟩
    rw [List.getElem?_append_left (by rw [List.length_map, p1]; omega), List.getElem?_map, e3, Option.map_some]
    show some (IV.tup [.str ⟨gs[i].2.toArray⟩, .int o]) = _
    rw [e4, Array.toArray_toList]
  · refine ⟨z.length, ?_⟩
    rw [List.getElem?_append_right (by rw [List.length_map, p1]; omega), List.length_map, p1, i1, hl, Nat.sub_self]
    rfl
section
variable {T : List IV} {st : Sto} {P : IV → Sto → Prop} {E : Str → List (Str × IV) → Sto → Prop}
theorem passed_ok {n : Nat} {w : Str} {off : Int} {al : List IV} (h : T[n]? = some (.tup [.str w, .int off])) (hf : al.all flatI = true) (hi : inI (.str w) al = true) (k : P (.int ((n : Int) + 1)) st) : (F_P_passed [.lst T, .int n, .tup al] st).wp P E := by
  simp [F_P_passed, B_P_passed, Mi.atI_at h, in_str_tup hf, hi]
  exact k
end
theorem tuple_ref {l : Nat} {xs : List IV} {st : Sto} (h : st[l]? = some (.lst xs)) : gTuple [.ref l] st = .ok (.tup xs) st := by
  simp only [gTuple, asS_ref h]
theorem word_tok {w : Str} (hw : wOk w = true) : tokOk w.cps.toList = true ∧ ∀ c, isL c = false → mayFollow w.cps.toList c = true := by
  unfold wOk at hw
  simp only [Bool.and_eq_true, decide_eq_true_eq] at hw
  obtain ⟨h1, _, _, h4⟩ := hw
  cases e : w.cps.toList with
  | nil => rw [← str_len, e] at h1; simp at h1
  | cons c r =>
    rw [e] at h4
    have h5 : isL c = true := (Bool.and_eq_true_iff.mp (by rw [← List.all_cons]; exact h4)).1
    have h6 : r.all isL = true := (Bool.and_eq_true_iff.mp (by rw [← List.all_cons]; exact h4)).2
    refine ⟨?_, fun x hx => ?_⟩
    · simp only [tokOk, h5, if_true, h6, Bool.and_true, decide_eq_true_eq]
      rintro rfl
      have : isL 32 = false := by decide +kernel
      rw [this] at h5; cases h5
    · simp only [mayFollow, h5, if_true, hx, Bool.not_false]
theorem word_len {w : Str} (hw : wOk w = true) : w.length ≤ 8 := by
  unfold wOk at hw
  simp only [Bool.and_eq_true, decide_eq_true_eq] at hw
  exact hw.2.1
theorem join_cons {a x : Str} {ys : List Str} (h : ys ≠ []) : Txt.join a (x :: ys) = x ++ a ++ Txt.join a ys := by
  show PySem.Builtin.Str.glued _ _ = _ ++ _ ++ PySem.Builtin.Str.glued _ _
  rw [StrLaws.glued_eq_join, StrLaws.glued_eq_join]
  cases ys with
  | nil => exact absurd rfl h
  | cons y r => rfl
theorem join_one {a x : Str} : Txt.join a [x] = x := by
  show PySem.Builtin.Str.glued _ _ = _
  rw [StrLaws.glued_eq_join]; rfl
/-- the column of a word -/
def colIx (cs : List IV) (w : Str) : Option Nat := (List.range cs.length).find? fun k => decide (wd cs k = w)
theorem colIx_some {cs : List IV} {w : Str} {k : Nat} (h : colIx cs w = some k) : k < cs.length ∧ wd cs k = w := by
  unfold colIx at h
  have h2 := List.find?_some h
  exact ⟨List.mem_range.mp (List.mem_of_find?_eq_some h), by simpa using h2⟩
theorem colIx_none {cs : List IV} (g : Good cs) {w : Str} (h : colIx cs w = none) : inI (.str w) (cs.map fst) = false := by
  unfold colIx at h
  rw [List.find?_eq_none] at h
  cases q : inI (.str w) (cs.map fst) with
  | false => rfl
  | true =>
    exfalso
    obtain ⟨i, hi, e⟩ := List.getElem_of_mem (inI_str.mp q)
    rw [List.length_map] at hi
    have := firsts_at g hi
    rw [List.getElem?_eq_getElem (by rw [List.length_map]; exact hi), e] at this
    injection this with this
    injection this with this
    exact h i (List.mem_range.mpr hi) (by rw [← this]; simp)
theorem drop_cons {α : Type} {L : List α} {n : Nat} (h : n < L.length) : ∃ x, L[n]? = some x ∧ L.drop n = x :: L.drop (n + 1) := ⟨L[n], List.getElem?_eq_getElem h, List.drop_eq_getElem_cons h⟩
/-- where the j-th token begins; the text's end behind them -/
def offT (gs : List (Nat × List Nat)) (z : Str) (j : Nat) : Int := match (places gs 0)[j]? with
  | some p => p.2
  | none => z.length
structure TxtG (z : Str) (W : List Str) (gs : List (Nat × List Nat)) : Prop where
  b : ∃ ge, z.cps.toList = build gs ge
  w : gs.map (·.2) = W.map (fun s => s.cps.toList)
  f : fits gs = true
  len : z.length ≤ 190
theorem tok_off {z w : Str} {W : List Str} {gs : List (Nat × List Nat)} {j : Nat} {o : Int} (h : TxtG z W gs) (e : (toksIV z)[j]? = some (.tup [.str w, .int o])) : o = offT gs z j := by
  obtain ⟨ge, hb⟩ := h.b
  have el := lex_build (its := gs) (ge := ge) (n := z.length) (off := 0) h.f (by rw [← hb, str_len]; exact Nat.le_refl _)
  rw [← hb] at el
  unfold toksIV at e
  rw [el] at e
  unfold offT
  by_cases c : j < (places gs 0).length
  · rw [List.getElem?_append_left (by rw [List.length_map]; exact c), List.getElem?_map] at e
    rw [List.getElem?_eq_getElem c] at e ⊢
    simp [tokIV] at e
    exact e.2.symm
  · rw [List.getElem?_append_right (by rw [List.length_map]; omega), List.length_map] at e
    rw [List.getElem?_eq_none (by omega)]
    have : j - (places gs 0).length = 0 := by
      have := (List.getElem?_eq_some_iff.mp e).1
      simp only [List.length_cons, List.length_nil] at this
      omega
    rw [this] at e
    simp at e
    exact e.2.symm
theorem words_ne {z : Str} {W : List Str} {gs : List (Nat × List Nat)} (h : TxtG z W gs) : ∀ w ∈ W, w ≠ "" := by
  intro w hw hz
  have h1 : w.cps.toList ∈ gs.map (·.2) := by rw [h.w]; exact List.mem_map.mpr ⟨w, hw, rfl⟩
  obtain ⟨p, hp, e⟩ := List.mem_map.mp h1
  have key : ∀ {gs : List (Nat × List Nat)}, fits gs = true → ∀ p ∈ gs, tokOk p.2 = true := by
    intro gs
    induction gs with
    | nil => intro _ p hp; cases hp
    | cons a r ih =>
      intro hf p hp
      obtain ⟨ga, ta⟩ := a
      cases r with
      | nil => rw [List.mem_singleton.mp hp]; exact hf
      | cons b r =>
        obtain ⟨gb, tb⟩ := b
        simp only [fits, Bool.and_eq_true] at hf
        rcases List.mem_cons.mp hp with hp | hp
        · rw [hp]; exact hf.1.1
        · exact ih hf.2 p hp
  have := key h.f p hp
  rw [e, hz] at this
  exact absurd this (by decide +kernel)
theorem passed_any {T : List IV} {n : Nat} {w : Str} {o : Int} {st : Sto} {P : IV → Sto → Prop} {E : Str → List (Str × IV) → Sto → Prop} (h : T[n]? = some (.tup [.str w, .int o])) (kE : w ≠ "" → E "Stuck" [("at", .int o)] st) (k : w = "" → P (.int ((n : Int) + 1)) st) : (F_P_passed [.lst T, .int n, .tup [.str ""]] st).wp P E := by
  simp [F_P_passed, B_P_passed, Mi.atI_at h, in_str_tup (ys := [IV.str ""]) (by rfl)]
  by_cases c : w = ""
  · have : inI (.str w) [IV.str ""] = true := by rw [c]; rfl
    simp [this]
    exact k c
  · have : inI (.str w) [IV.str ""] = false := by
      cases q : inI (.str w) [IV.str ""] with
      | false => rfl
      | true =>
        have := inI_str.mp q
        simp at this
        exact absurd this c
    simp [this]
    exact kE c
theorem inI_map {w : Str} {xs : List Str} : inI (.str w) (xs.map .str) = decide (w ∈ xs) := by
  rw [Bool.eq_iff_iff, inI_str, decide_eq_true_iff]
  constructor
  · intro h
    obtain ⟨y, hy, e⟩ := List.mem_map.mp h
    injection e with e
    exact e ▸ hy
  · exact fun h => List.mem_map.mpr ⟨w, h, rfl⟩
theorem flat_map {xs : List Str} : (xs.map IV.str).all flatI = true := strs_flat fun y hy => by
  obtain ⟨p, _, rfl⟩ := List.mem_map.mp hy; exact ⟨_, rfl⟩
def wsO (cs : List IV) : List Str := (List.range cs.length).map (wd cs)
theorem mem_ws {cs : List IV} {w : Str} : w ∈ wsO cs ↔ ∃ k, k < cs.length ∧ wd cs k = w := by simp [wsO]
theorem ws_col {cs : List IV} {w : Str} : (colIx cs w = none ↔ w ∉ wsO cs) := by
  unfold colIx wsO
  rw [List.find?_eq_none]
  simp
theorem wd_wOk {cs : List IV} (g : Good cs) {k : Nat} (h : k < cs.length) : wOk (wd cs k) = true := by
  obtain ⟨_, _, hw, _⟩ := wd_at g h; exact hw
theorem ws_ne {cs : List IV} (g : Good cs) : ("" : Str) ∉ wsO cs := fun h => by
  obtain ⟨k, hk, e⟩ := mem_ws.mp h
  have := wd_wOk g hk
  rw [e] at this
  exact absurd this (by decide +kernel)
theorem ws_name {cs : List IV} (g : Good cs) : ("name" : Str) ∉ wsO cs := fun h => by
  obtain ⟨k, hk, e⟩ := mem_ws.mp h
  exact ne_name (wd_wOk g hk) e
theorem used_mem {cs : List IV} (g : Good cs) {k : Nat} {used : List Nat} (hk : k < cs.length) (hu : ∀ x ∈ used, x < cs.length) : (wd cs k ∈ used.map (wd cs)) ↔ k ∈ used := by
  constructor
  · intro h
    obtain ⟨j, hj, e⟩ := List.mem_map.mp h
    rw [← wd_inj g (hu j hj) hk e]; exact hj
  · exact fun h => List.mem_map.mpr ⟨k, h, rfl⟩
def TS (s : Str) : Prop := tokOk s.cps.toList = true ∧ s.length ≤ 8 ∧ okS s = true
theorem cut_takeN {α : Type} {xs : List α} {k : Nat} : cutI xs none (some (k : Int)) = xs.take k := by
  unfold cutI
  rw [HT.sIx_nat]
  have e : HT.sIx xs.length 0 none = 0 := rfl
  rw [e, List.drop_zero, Nat.sub_zero]
  by_cases h : k ≤ xs.length
  · rw [Nat.min_eq_left h]
  · rw [Nat.min_eq_right (by omega), List.take_of_length_le (Nat.le_refl _), List.take_of_length_le (by omega)]
theorem cut_dropN {α : Type} {xs : List α} {k : Nat} : cutI xs (some (k : Int)) none = xs.drop k := by
  unfold cutI
  rw [HT.sIx_nat]
  have e : HT.sIx xs.length xs.length none = xs.length := rfl
  rw [e]
  by_cases h : k ≤ xs.length
  · rw [Nat.min_eq_left h, List.take_of_length_le (by rw [List.length_drop]; omega)]
  · rw [Nat.min_eq_right (by omega), List.drop_of_length_le (Nat.le_refl _), List.drop_of_length_le (by omega)]; simp
theorem cut_t {W : List Str} {k : Nat} : cutI (W.map IV.str) none (some (k : Int)) = (W.take k).map .str := by rw [cut_takeN, List.map_take]
theorem cut_d {W : List Str} {k : Nat} : cutI (W.map IV.str) (some (k : Int)) none = (W.drop k).map .str := by rw [cut_dropN, List.map_drop]
theorem cut_d1 {W : List Str} {k : Nat} : cutI (W.map IV.str) (some ((k : Int) + 1)) none = (W.drop (k + 1)).map .str := by
  have : ((k : Int) + 1) = ((k + 1 : Nat) : Int) := by omega
  rw [this, cut_d]
def SInv (l : Nat) (W odd : List Str) (n : Nat) (st0 : Sto) (i : Nat) (ρ : Slots) (st : Sto) : Prop := ∃ (W' : List Str) (a4 a5 a6 : Option SV), ρ = [some (.v (.ref l)), some (.v (.lst (W.map .str))), some (.v (.lst (odd.map .str))), some (.v (.lst (W'.map .str))), a4, a5, a6] ∧ (∀ s ∈ W', TS s) ∧ W'.length ≤ 11 + i ∧ BagAt (n + 1 + 4 * i) l st ∧ Ups l st0 st
theorem spoilt_ok {n l : Nat} {W odd : List Str} {st : Sto} {P : IV → Sto → Prop} {E : Str → List (Str × IV) → Sto → Prop} (hn : n < 10000000000000000) (hb : BagAt n l st) (hW : ∀ s ∈ W, TS s) (hl : W.length ≤ 11) (ho : ∀ s ∈ odd, TS s) (h0 : 0 < odd.length) (h1 : odd.length ≤ 1000)
    (k : ∀ W' st', Toks W' → (∀ s ∈ W', okS s = true) → BagAt (n + 14) l st' → Ups l st st' → P (.lst (W'.map .str)) st') : (F_spoilt [.ref l, .lst (W.map .str), .lst (odd.map .str)] st).wp P E := by
  simp [F_spoilt, B_spoilt]
  refine draw_ok (by omega) (by omega) (by omega) hb fun r st1 r0 r1 hb1 hu1 => ?_
  simp
  refine ⟨by omega, ?_⟩
  refine wp_for (SInv l W odd n st) ⟨W, _, _, _, rfl, hW, hl, hb1.mono (by omega), hu1⟩ ?_ ?_
  · rintro i x ρ st2 hx ⟨W', a4, a5, a6, rfl, hT, hlen, hb2, hu2⟩
    obtain ⟨hi, rfl⟩ := rngI_get hx
    have hi4 : i < 4 := by omega
    refine ⟨rfl, ?_⟩
    simp
    refine draw_ok (by omega) (by omega) (by omega) hb2 fun q st3 q0 q1 hb3 hu3 => ?_
    simp
    refine draw_ok (by omega) (by omega) (by omega) hb3 fun d st4 d0 d1 hb4 hu4 => ?_
    obtain ⟨m, rfl⟩ : ∃ m : Nat, q = (m : Int) := ⟨q.toNat, by omega⟩
    have hm : m ≤ W'.length := by omega
    have hu : Ups l st st4 := (hu2.trans hu3).trans hu4
    have fin : ∀ (V : List Str) (b5 b6 : Option SV) st5, (∀ s ∈ V, s ∈ W' ∨ TS s) → V.length ≤ W'.length + 1 → BagAt (n + 1 + 4 * i + 1 + 1 + 2) l st5 → Ups l st4 st5 → SInv l W odd n st (i + 1) [some (.v (.ref l)), some (.v (.lst (W.map .str))), some (.v (.lst (odd.map .str))), some (.v (.lst (V.map .str))), some (.v (.int i)), b5, b6] st5 := fun V b5 b6 st5 v1 v2 v3 v4 =>
      ⟨V, _, _, _, rfl, fun s hs => by rcases v1 s hs with h | h; exact hT s h; exact h, by omega, v3.mono (by omega), hu.trans v4⟩
    have tk : ∀ s, s ∈ W'.take m → s ∈ W' := fun s hs => List.mem_of_mem_take hs
    have dk : ∀ j s, s ∈ W'.drop j → s ∈ W' := fun j s hs => List.mem_of_mem_drop hs
    simp
    have hd : d = 0 ∨ d = 1 ∨ d = 2 ∨ d = 3 := by omega
    rcases hd with rfl | rfl | rfl | rfl
    · simp [cut_t, cut_d, cut_d1]
      refine ⟨by omega, ?_⟩
      rw [← List.map_take, ← List.map_drop, ← List.map_append]
      refine fin _ _ _ _ (fun s hs => ?_) (by rw [List.length_append, List.length_take, List.length_drop]; omega) (hb4.mono (by omega)) (.refl _ _)
      rcases List.mem_append.mp hs with h | h
      · exact .inl (tk s h)
      · exact .inl (dk _ s h)
    · simp
      refine pick_ok (by simpa using h0) (by simpa using h1) (by omega) hb4 fun r st5 hr hb5 hu5 => ?_
      obtain ⟨o, ho1, rfl⟩ := List.mem_map.mp hr
      simp [cut_t, cut_d, cut_d1]
      refine ⟨by omega, by omega, ?_⟩
      have e : List.take m (List.map IV.str W') ++ IV.str o :: List.drop m (List.map IV.str W') = (W'.take m ++ o :: W'.drop m).map .str := by simp [List.map_take, List.map_drop]
      rw [e]
      refine fin _ _ _ _ (fun s hs => ?_) (by rw [List.length_append, List.length_cons, List.length_take, List.length_drop]; omega) (hb5.mono (by omega)) hu5
      rcases List.mem_append.mp hs with h | h
      · exact .inl (tk s h)
      · rcases List.mem_cons.mp h with h | h
        · exact .inr (h ▸ ho o ho1)
        · exact .inl (dk _ s h)
    · simp
      refine pick_ok (by simpa using h0) (by simpa using h1) (by omega) hb4 fun r st5 hr hb5 hu5 => ?_
      obtain ⟨o, ho1, rfl⟩ := List.mem_map.mp hr
      simp [cut_t, cut_d, cut_d1]
      refine ⟨by omega, by omega, ?_⟩
      have e : List.take m (List.map IV.str W') ++ IV.str o :: List.drop (m + 1) (List.map IV.str W') = (W'.take m ++ o :: W'.drop (m + 1)).map .str := by simp [List.map_take, List.map_drop]
      rw [e]
      refine fin _ _ _ _ (fun s hs => ?_) (by rw [List.length_append, List.length_cons, List.length_take, List.length_drop]; omega) (hb5.mono (by omega)) hu5
      rcases List.mem_append.mp hs with h | h
      · exact .inl (tk s h)
      · rcases List.mem_cons.mp h with h | h
        · exact .inr (h ▸ ho o ho1)
        · exact .inl (dk _ s h)
    · simp
      refine pick_ok (by simpa using h0) (by simpa using h1) (by omega) hb4 fun r st5 hr hb5 hu5 => ?_
      obtain ⟨o, ho1, rfl⟩ := List.mem_map.mp hr
      simp [cut_t, cut_d, cut_d1]
      refine draw_ok (by omega) (by omega) (by omega) hb5 fun b st6 b0 b1 hb6 hu6 => ?_
      have hbb : b = 0 ∨ b = 1 := by omega
      rcases hbb with rfl | rfl
      · simp [cut_t, cut_d, cut_d1]
        refine ⟨by omega, ?_⟩
        rw [← List.map_take]
        exact fin _ _ _ _ (fun s hs => .inl (tk s hs)) (by rw [List.length_take]; omega) (hb6.mono (by omega)) (hu5.trans hu6)
      · simp [cut_t, cut_d, cut_d1]
        refine ⟨by omega, ?_⟩
        have e : List.take m (List.map IV.str W') ++ [IV.str o] = (W'.take m ++ [o]).map .str := by simp [List.map_take]
        rw [e]
        refine fin _ _ _ _ (fun s hs => ?_) (by rw [List.length_append, List.length_take]; simp; omega) (hb6.mono (by omega)) (hu5.trans hu6)
        rcases List.mem_append.mp hs with h | h
        · exact .inl (tk s h)
        · exact .inr (List.mem_singleton.mp h ▸ ho o ho1)
  · rintro ρ st2 ⟨W', a4, a5, a6, rfl, hT, hlen, hb2, hu2⟩
    refine ⟨rfl, ?_⟩
    rw [rngI_len] at hlen hb2
    simp
    exact k W' st2 ⟨fun s hs => (hT s hs).1, fun s hs => (hT s hs).2.1, by omega⟩ (fun s hs => (hT s hs).2.2) (hb2.mono (by omega)) hu2
def oddB : List Str := [("and" : Str), ("or" : Str), ("not" : Str), ("(" : Str), (")" : Str), ("in" : Str), (".." : Str), ("." : Str), ("=" : Str), ("!=" : Str), ("<" : Str), (">=" : Str), ("+=" : Str), ("-=" : Str), ("," : Str), (":" : Str), ("0" : Str), ("00" : Str), ("07" : Str), ("999" : Str), ("1000" : Str), ("A" : Str), ("_" : Str), ("!" : Str), ("-" : Str), ("true" : Str), ("by" : Str), ("where" : Str), ("desc" : Str), ("name" : Str), ("change" : Str), ("remove" : Str), ("keep" : Str), ("add" : Str), ("cursor" : Str), ("reach" : Str), ("all" : Str), ("1" : Str), ("hold" : Str), ("kept" : Str), ("live" : Str), ("copied" : Str), ("locked" : Str), ("check" : Str), ("none" : Str), ("when" : Str)]
theorem oddB_ts : ∀ s ∈ oddB, TS s := by
  have all : ∀ s ∈ oddB, tokOk s.cps.toList = true ∧ decide (s.length ≤ 8) = true ∧ okS s = true := by decide +kernel
  exact fun s hs => ⟨(all s hs).1, of_decide_eq_true (all s hs).2.1, (all s hs).2.2⟩
theorem abc_low : ∀ c ∈ abcN, c < 128 := by decide +kernel
theorem word_okS {w : Str} (h : wOk w = true) : okS w = true := by
  have l := word_len h
  unfold wOk at h
  simp only [Bool.and_eq_true, decide_eq_true_eq] at h
  obtain ⟨_, _, _, h4⟩ := h
  unfold okS
  rw [Bool.and_eq_true]
  refine ⟨decide_eq_true (by omega), List.all_eq_true.mpr fun c hc => decide_eq_true (abc_low c ?_)⟩
  have : isL c = true := List.all_eq_true.mp h4 c hc
  exact of_decide_eq_true this
def fstV : IV → Option IV
  | .tup [.str w, .int _] => some (.str w)
  | _ => none
theorem fstV_all {cs : List IV} (h : ∀ x ∈ cs, colOk x = true) : ∃ ws : List Str, cs.filterMap fstV = ws.map .str ∧ (∀ s ∈ ws, TS s) ∧ ws.length = cs.length := by
  induction cs with
  | nil => exact ⟨[], rfl, by simp, rfl⟩
  | cons x r ih =>
    obtain ⟨ws, e1, e2, e3⟩ := ih fun y hy => h y (List.mem_cons_of_mem _ hy)
    obtain ⟨w, t, rfl, t1, t5, hw⟩ := col_shape (h x List.mem_cons_self)
    refine ⟨w :: ws, by rw [List.filterMap_cons, e1]; rfl, ?_, by simp [e3]⟩
    intro s hs
    rcases List.mem_cons.mp hs with h | h
    · exact h ▸ ⟨(word_tok hw).1, word_len hw, word_okS hw⟩
    · exact e2 s h
theorem odd_ok {lc : Nat} {cs : List IV} {st : Sto} {P : IV → Sto → Prop} {E : Str → List (Str × IV) → Sto → Prop} (hc : st[lc]? = some (.lst cs)) (g : Good cs)
    (k : ∀ odd : List Str, (∀ s ∈ odd, TS s) → odd.length ≤ 52 → 0 < odd.length → P (.lst (odd.map .str)) st) : (F_odd [.ref lc] st).wp P E := by
  have gl := g.len
  obtain ⟨ws, e1, e2, e3⟩ := fstV_all g.col
  have hi : itemsI st (.ref lc) = some (cs, some (lc, cs)) := items_ref hc
  simp [F_odd, B_odd, hi]
  have hg : gokB (some (lc, cs)) st cs = true := gokB_some hc
  refine wp_lcL fstV hg (fun x hx => ?_) (by simp; omega) ?_
  · obtain ⟨w, t, rfl, t1, t5, hw⟩ := col_shape (g.col x hx)
    simp [wipeI, fstV]
  rw [List.nil_append, e1]
  simp [hi]
  refine ⟨by omega, ?_⟩
  refine wp_lcL fstV hg (fun x hx => ?_) (by simp; omega) ?_
  · obtain ⟨w, t, rfl, t1, t5, hw⟩ := col_shape (g.col x hx)
    simp [wipeI, fstV]
  rw [List.nil_append, e1]
  simp
  refine ⟨by omega, ?_⟩
  have := k (oddB ++ (ws ++ ws)) (fun s hs => ?_) (by rw [List.length_append, List.length_append]; show 46 + _ ≤ 52; omega) (by rw [List.length_append]; show 0 < 46 + _; omega)
  · simpa [oddB] using this
  · rcases List.mem_append.mp hs with h | h
    · exact oddB_ts s h
    · rcases List.mem_append.mp h with h | h <;> exact e2 s h
end K07
set_option Elab.async false
set_option linter.all false
set_option maxRecDepth 100000
set_option maxHeartbeats 4000000
namespace K07
open PySem PySem.Spec PyProof.Rows L2 Mi
/-! ### numbers, columns, terms -/
theorem zero_eq {c : Nat} : ((⟨#[c]⟩ : Str) = "0") ↔ c = 48 := by
  constructor
  · intro h
    have : (⟨#[c]⟩ : Str).cps.toList = ("0" : Str).cps.toList := by rw [h]
    have e : ("0" : Str).cps.toList = [48] := by decide +kernel
    rw [e] at this
    simpa using this
  · rintro rfl; decide +kernel
def isNum (w : Str) : Bool := decide (1 ≤ w.length) && (decide (w.length ≤ 3) && (w.cps.toList.all isD && (decide (w.cps.toList.head? ≠ some 48) || decide (w.length = 1))))
def numO (w : Str) : Option Int := if isNum w then PySem.intText? w else none
theorem isD_rng {c : Nat} (h : isD c = true) : (decide (48 ≤ c) && decide (c ≤ 57)) = true := by
  have all : ∀ c ∈ digN, (decide (48 ≤ c) && decide (c ≤ 57)) = true := by decide +kernel
  exact all c (of_decide_eq_true h)
theorem num_some {w : Str} (h : isNum w = true) : ∃ v, PySem.intText? w = some v := by
  unfold isNum at h
  simp only [Bool.and_eq_true, decide_eq_true_eq] at h
  obtain ⟨h1, h2, h3, _⟩ := h
  have ne : w.cps.toList ≠ [] := fun z => by rw [← str_len, z] at h1; simp at h1
  exact ⟨_, intText_digits (x := w) (fun c hc => by
    have z := isD_rng (List.all_eq_true.mp h3 c hc)
    rw [Bool.and_eq_true, decide_eq_true_eq, decide_eq_true_eq] at z
    exact z) ne (by omega)⟩
theorem numO_none {w : Str} (h : isNum w = false) : numO w = none := by simp [numO, h]
theorem numO_some {w : Str} {v : Int} (h : numO w = some v) : isNum w = true ∧ PySem.intText? w = some v := by
  unfold numO at h
  split at h
  · rename_i c; exact ⟨c, h⟩
  · cases h
section
variable {T : List IV} {n : Nat} {w : Str} {o : Int} {lt : Nat} {cs : List IV} {st : Sto} {P : IV → Sto → Prop} {E : Str → List (Str × IV) → Sto → Prop}
theorem number_any (h : T[n]? = some (.tup [.str w, .int o])) (hw : w ≠ "" → tokOk w.cps.toList = true) (hl : w.length ≤ 100000)
    (kE : numO w = none → E "Stuck" [("at", .int o)] st) (k : ∀ v, numO w = some v → P (.tup [.int v, .int ((n : Int) + 1)]) st) : (F_P_read_number [.lst T, .int n] st).wp P E := by
  simp [F_P_read_number, B_P_read_number, Mi.atI_at h]
  by_cases c0 : w = ""
  · have : isNum w = false := by rw [c0]; decide +kernel
    simp [c0]
    exact kE (numO_none this)
  · have tk := hw c0
    simp [c0]
    refine ⟨hl, ?_⟩
    cases e : w.cps.toList with
    | nil => rw [e] at tk; cases tk
    | cons c r =>
      have el : w.length = r.length + 1 := by rw [← str_len, e]; rfl
      have ind : gIn true (.str ⟨#[c]⟩) (.str "0123456789") st = .ok (.bl (!isD c)) st := rfl
      simp [ind]
      by_cases c1 : isD c = true
      · have all : (c :: r).all isD = true := by
          rw [e] at tk
          unfold tokOk at tk
          have nl : isL c = false := by
            have all : ∀ c ∈ digN, isL c = false := by decide +kernel
            exact all c (of_decide_eq_true c1)
          simp only [nl, c1, Bool.false_eq_true, if_false, if_true, Bool.and_eq_true] at tk
          rw [List.all_cons, c1, tk.2]; rfl
        simp [c1]
        refine ⟨hl, ?_⟩
        by_cases c2 : (3 : Int) < (w.length : Int)
        · have : isNum w = false := by
            unfold isNum
            have : ¬ w.length ≤ 3 := by omega
            simp [this]
          simp [c2]
          exact kE (numO_none this)
        · simp [c2]
          refine ⟨hl, ?_⟩
          simp [zero_eq, e]
          have tail : ∀ v, numO w = some v → gIntS [.str w] st = .ok (.int v) st := fun v hv => int_str (numO_some hv).2 (by omega)
          by_cases c3 : c = 48
          · subst c3
            simp
            by_cases c4 : w = "0"
            · have nw : isNum w = true := by rw [c4]; decide +kernel
              obtain ⟨v, hv⟩ := num_some nw
              have hv' : numO w = some v := by unfold numO; rw [if_pos nw]; exact hv
              simp [c4] at tail hv' ⊢
              simp [tail v (by rw [← c4]; rw [c4]; exact hv')]
              exact k v (by rw [c4]; exact hv')
            · have : isNum w = false := by
                have : w.length ≠ 1 := fun z => by
                  have : r = [] := List.eq_nil_of_length_eq_zero (by omega)
                  subst this
                  exact c4 (cps_ext (by rw [e]; decide +kernel))
                unfold isNum
                simp [e, this]
              simp [c4]
              exact kE (numO_none this)
          · have nw : isNum w = true := by
              unfold isNum
              simp only [e, all, List.head?_cons, Bool.and_eq_true, decide_eq_true_eq, Bool.or_eq_true]
              refine ⟨by omega, by omega, trivial, .inl (by simpa using c3)⟩
            obtain ⟨v, hv⟩ := num_some nw
            have hv' : numO w = some v := by unfold numO; rw [if_pos nw]; exact hv
            simp [c3, tail v hv']
            exact k v hv'
      · have : isNum w = false := by
          unfold isNum
          simp [e, c1]
        have c1' : isD c = false := by simpa using c1
        simp [c1']
        exact kE (numO_none this)
end
end K07
set_option Elab.async false
set_option linter.all false
set_option maxRecDepth 100000
set_option maxHeartbeats 4000000
namespace K07
open PySem PySem.Spec PyProof.Rows L2 Mi
section
variable {T : List IV} {n : Nat} {w : Str} {o : Int} {lt : Nat} {cs : List IV} {st : Sto} {P : IV → Sto → Prop} {E : Str → List (Str × IV) → Sto → Prop}
theorem col_first {cs : List IV} {w : Str} {k : Nat} (h : colIx cs w = some k) : ∀ j, j < k → wd cs j ≠ w := by
  unfold colIx at h
  rw [List.find?_eq_some_iff_getElem] at h
  obtain ⟨_, i, hi, e, hf⟩ := h
  intro j hj
  have e' : i = k := by simpa using e
  subst e'
  have := hf j hj
  simpa using this
def CLI (T : List IV) (n lt : Nat) (w : Str) (o : Int) (cs : List IV) (st0 : Sto) (i : Nat) (ρ : Slots) (st : Sto) : Prop := ∃ a5 a6, ρ = [some (.v (.lst T)), some (.v (.int n)), some (.v (.ref lt)), some (.v (.str w)), some (.v (.int o)), a5, a6] ∧ st = st0 ∧ ∀ j, j < i → wd cs j ≠ w
theorem column_ok {kx : Nat} (ht : TabAt lt cs st) (g : Good cs) (h : T[n]? = some (.tup [.str w, .int o])) (hc : colIx cs w = some kx) (k : P (.tup [.int kx, .int ((n : Int) + 1)]) st) : (F_P_read_column [.lst T, .int n, .ref lt] st).wp P E := by
  obtain ⟨hk, hw⟩ := colIx_some hc
  simp [F_P_read_column, B_P_read_column, Mi.atI_at h, ht.ins, lkc, unP]
  refine wp_for (CLI T n lt w o cs st) ⟨_, _, rfl, rfl, by simp⟩ ?_ ?_
  · rintro i x ρ st1 hx ⟨a5, a6, rfl, rfl, hf⟩
    refine ⟨rfl, ?_⟩
    obtain ⟨z, hz, rfl⟩ := enumI_get _ _ _ _ hx
    have hi : i < cs.length := by have := (List.getElem?_eq_some_iff.mp hz).1; simpa using this
    have ez := firsts_at g hi
    rw [hz] at ez
    cases ez
    simp [L_P_read_column_1]
    by_cases c : wd cs i = w
    · have : i = kx := by
        rcases Nat.lt_trichotomy i kx with q | q | q
        · exact absurd c (col_first hc i q)
        · exact q
        · exact absurd hw (hf kx q)
      subst this
      simp [c]
      exact k
    · simp [c]
      refine ⟨_, _, rfl, rfl, fun j hj => ?_⟩
      by_cases q : j = i
      · rw [q]; exact c
      · exact hf j (by omega)
  · rintro ρ st1 ⟨a5, a6, rfl, rfl, hf⟩
    rw [enumI_len, List.length_map] at hf
    exact absurd hw (hf kx hk)
def termT (cs : List IV) (t : Str) : Option (Bool × Int) := match colIx cs t with
  | some j => some (true, (j : Int))
  | none => (numO t).map fun v => (false, v)
def trmIV (p : Bool × Int) : IV := .tup [.bl p.1, .int p.2]
theorem term_any (ht : TabAt lt cs st) (g : Good cs) (h : T[n]? = some (.tup [.str w, .int o])) (hw : w ≠ "" → tokOk w.cps.toList = true) (hl : w.length ≤ 100000)
    (kE : termT cs w = none → E "Stuck" [("at", .int o)] st) (k : ∀ p, termT cs w = some p → P (.tup [trmIV p, .int ((n : Int) + 1)]) st) : (F_P_read_term [.lst T, .int n, .ref lt] st).wp P E := by
  have fl := strs_flat (firsts_strs g.col)
  simp [F_P_read_term, B_P_read_term, Mi.atI_at h, ht.ins, lkc, unP, in_str_tup fl]
  cases cc : colIx cs w with
  | none =>
    have inn := colIx_none g cc
    simp [inn]
    refine number_any h hw hl (fun e => kE (by unfold termT; rw [cc, e]; rfl)) fun v hv => ?_
    simp
    exact k (false, v) (by unfold termT; rw [cc, hv]; rfl)
  | some kx =>
    obtain ⟨hk, hwd⟩ := colIx_some cc
    have inn : inI (.str w) (cs.map fst) = true := inI_str.mpr (by rw [← hwd]; exact List.mem_of_getElem? (firsts_at g hk))
    simp [inn]
    refine column_ok ht g h cc ?_
    simp
    exact k (true, kx) (by unfold termT; rw [cc])
end
end K07
set_option Elab.async false
set_option linter.all false
set_option maxRecDepth 100000
set_option maxHeartbeats 4000000
namespace K07
open PySem PySem.Spec PyProof.Rows L2 Mi
/-! ### read_sets on any tokens -/
abbrev SI := Nat × Str × Bool × Int
def setIV (p : SI) : IV := .tup [.int p.1, .str p.2.1, trmIV p.2.2]
inductive Rs where
  | stuck (j : Nat) | done (its : List SI) (j : Nat)
def addS (p : List SI) : Rs → Rs
  | .stuck j => .stuck j
  | .done its j => .done (p ++ its) j
theorem addS_app {a b : List SI} {r : Rs} : addS a (addS b r) = addS (a ++ b) r := by cases r <;> simp [addS]
theorem addS_nil {r : Rs} : addS [] r = r := by cases r <;> simp [addS]
def sgS : List Str := ["=", "+=", "-="]
def termO (cs : List IV) (s t : Str) : Option (Bool × Int) := if s = "=" then termT cs t else (numO t).map fun v => (false, v)
def rsO (cs : List IV) : Nat → List Nat → List Str → Nat → Rs
  | 0, _, _, _ => .stuck 0
  | _, _, [], n => .stuck n
  | f + 1, used, w :: r, n => match colIx cs w with
    | none => .stuck n
    | some k => if k ∈ used then .stuck n else match r with
      | [] => .stuck (n + 1)
      | s :: r1 => if s ∈ sgS then match r1 with
        | [] => .stuck (n + 2)
        | t :: r2 => match termO cs s t with
          | none => .stuck (n + 2)
          | some p => match r2 with
            | [] => .done [(k, s, p)] (n + 3)
            | y :: r3 => if y = "," then (if used.length + 1 = cs.length then .stuck (n + 3) else addS [(k, s, p)] (rsO cs f (used ++ [k]) r3 (n + 4))) else .done [(k, s, p)] (n + 3)
        else .stuck (n + 1)
structure ItsS (cs : List IV) (its : List SI) : Prop where
  lt : ∀ p ∈ its, p.1 < cs.length
  nd : (its.map (·.1)).Nodup
  sg : ∀ p ∈ its, p.2.1 ∈ sgS
  tm : ∀ p ∈ its, p.2.2.1 = true → ∃ j : Nat, p.2.2.2 = j ∧ j < cs.length
theorem ItsS.few {cs : List IV} {its : List SI} (h : ItsS cs its) : its.length ≤ cs.length := by
  have := few_of_sub (xs := its.map (·.1)) (ys := List.range cs.length) h.nd fun x hx => by
    obtain ⟨p, hp, rfl⟩ := List.mem_map.mp hx
    exact List.mem_range.mpr (h.lt p hp)
  simpa using this
theorem termT_ok {cs : List IV} {t : Str} {p : Bool × Int} (h : termT cs t = some p) : p.1 = true → ∃ j : Nat, p.2 = j ∧ j < cs.length := by
  unfold termT at h
  cases q : colIx cs t with
  | none =>
    rw [q] at h
    obtain ⟨v, _, e⟩ := Option.map_eq_some_iff.mp h
    rw [← e]; intro z; cases z
  | some j =>
    rw [q] at h
    cases h
    exact fun _ => ⟨j, rfl, (colIx_some q).1⟩
theorem termO_ok {cs : List IV} {s t : Str} {p : Bool × Int} (h : termO cs s t = some p) : p.1 = true → ∃ j : Nat, p.2 = j ∧ j < cs.length := by
  unfold termO at h
  split at h
  · exact termT_ok h
  · obtain ⟨v, _, e⟩ := Option.map_eq_some_iff.mp h
    rw [← e]; intro z; cases z
theorem termO_ne {cs : List IV} (g : Good cs) {s : Str} : termO cs s "" = none := by
  have a : numO "" = none := by decide +kernel
  have b : colIx cs "" = none := ws_col.mpr (ws_ne g)
  unfold termO termT
  rw [a, b]; split <;> rfl
theorem passed_gen {T : List IV} {n : Nat} {w : Str} {o : Int} {al : List Str} {st : Sto} {P : IV → Sto → Prop} {E : Str → List (Str × IV) → Sto → Prop} (h : T[n]? = some (.tup [.str w, .int o])) (kE : w ∉ al → E "Stuck" [("at", .int o)] st) (k : w ∈ al → P (.int ((n : Int) + 1)) st) : (F_P_passed [.lst T, .int n, .tup (al.map .str)] st).wp P E := by
  simp [F_P_passed, B_P_passed, Mi.atI_at h, in_str_tup flat_map, inI_map]
  by_cases c : w ∈ al
  · simp [c]; exact k c
  · simp [c]; exact kE c
def RSI (T : List IV) (L0 : List Str) (cs : List IV) (res : Rs) (lt li : Nat) (st0 : Sto) (r : Nat) (ρ : Slots) (st : Sto) : Prop := ∃ (done : List SI) (n : Nat) (s5 s6 s7 s8 s9 : Option SV), ρ = [some (.v (.lst T)), some (.v (.int (n : Int))), some (.v (.ref lt)), some (.v (.ref li)), some (.v (.ref (li + 1))), s5, s6, s7, s8, s9] ∧
  res = addS done (rsO cs r (done.map (·.1)) (L0.drop n) n) ∧ n < L0.length ∧ ItsS cs done ∧ done.length < cs.length ∧ r + done.length = 4 ∧ st[li]? = some (.lst (done.map setIV)) ∧ st[li + 1]? = some (.lst (done.map fun p => .str (wd cs p.1))) ∧ st.length = li + 2 ∧ ∀ j, j < li → st[j]? = st0[j]?
theorem read_sets_any {T : List IV} {W : List Str} {cs : List IV} {lt : Nat} {st : Sto} {P : IV → Sto → Prop} {E : Str → List (Str × IV) → Sto → Prop} (hN : Named T (W ++ [("" : Str)])) (hne : ∀ w ∈ W, w ≠ "" ∧ tokOk w.cps.toList = true ∧ w.length ≤ 100000) (ht : TabAt lt cs st) (g : Good cs) (h0 : 0 < cs.length)
    (kS : ∀ j w o st', rsO cs 4 [] (W ++ [("" : Str)]) 0 = .stuck j → T[j]? = some (.tup [.str w, .int o]) → (∀ i, i < st.length → st'[i]? = st[i]?) → E "Stuck" [("at", .int o)] st')
    (kD : ∀ its j st', rsO cs 4 [] (W ++ [("" : Str)]) 0 = .done its j → ItsS cs its → its ≠ [] → j ≤ W.length → st'[st.length]? = some (.lst (its.map setIV)) → st'.length = st.length + 2 → (∀ i, i < st.length → st'[i]? = st[i]?) → P (.tup [.ref st.length, .int j]) st') : (F_P_read_sets [.lst T, .int 0, .ref lt] st).wp P E := by
  have hlt : lt < st.length := (List.getElem?_eq_some_iff.mp ht).1
  have lw : (W ++ [("" : Str)]).length = W.length + 1 := by simp
  have tok : ∀ {i : Nat} {y : Str}, (W ++ [("" : Str)])[i]? = some y → (y ≠ "" → tokOk y.cps.toList = true) ∧ y.length ≤ 100000 := fun {i y} ey => by
    rcases List.mem_append.mp (List.mem_of_getElem? ey) with h | h
    · exact ⟨fun _ => (hne y h).2.1, (hne y h).2.2⟩
    · rw [List.mem_singleton.mp h]; exact ⟨fun z => absurd rfl z, by decide +kernel⟩
  have nonE : ∀ {i : Nat} {y : Str}, (W ++ [("" : Str)])[i]? = some y → y ≠ "" → i + 1 < (W ++ [("" : Str)]).length := fun {i y} ey hy => by
    have hl := (List.getElem?_eq_some_iff.mp ey).1
    rw [lw] at hl ⊢
    by_cases c : i < W.length
    · omega
    · exfalso
      have : i = W.length := by omega
      rw [this, List.getElem?_append_right (Nat.le_refl _)] at ey
      simp at ey
      exact hy ey.symm
  have gl := g.len
  simp [F_P_read_sets, B_P_read_sets]
  generalize hres : rsO cs 4 [] (W ++ [("" : Str)]) 0 = res at kS kD
  refine wp_while (RSI T (W ++ [("" : Str)]) cs res lt st.length st) ?_ (k := 4) (by omega) ⟨[], 0, none, none, none, none, none, rfl, by rw [addS_nil, List.drop_zero]; exact hres.symm, by omega, ⟨by simp, by simp, by simp, by simp⟩, h0, rfl, by simp, by simp, by simp, fun j hj => by rw [List.getElem?_append_left hj]⟩
  rintro r ρ st1 ⟨done, n, s5, s6, s7, s8, s9, rfl, e1, e2, e3, e3b, e4, e5, e5b, e6, e7⟩
  have ht1 : TabAt lt cs st1 := (e7 lt hlt).trans ht
  obtain ⟨f, rfl⟩ : ∃ f, r = f + 1 := ⟨r - 1, by omega⟩
  obtain ⟨w, ew, ed⟩ := drop_cons e2
  obtain ⟨o1, t1⟩ := hN.2 n w ew
  rw [ed] at e1
  simp only [rsO] at e1
  simp [L_P_read_sets_1, Mi.atI_at t1]
  have fl := strs_flat (firsts_strs g.col)
  have l1 := lkc (cs := cs)
  cases cc : colIx cs w with
  | none =>
    rw [cc] at e1
    have inn := colIx_none g cc
    simp [ht1.ins, l1, unP, in_str_tup fl, inn]
    exact kS n w o1 st1 e1 t1 e7
  | some kx =>
    rw [cc] at e1
    obtain ⟨hk, hwd⟩ := colIx_some cc
    obtain ⟨ys, y1, y2⟩ := words_idx g hk
    have inn : inI (.str w) (cs.map fst) = true := inI_str.mpr (by rw [← hwd]; exact List.mem_of_getElem? (firsts_at g hk))
    have ful : (done.map fun p : SI => IV.str (wd cs p.1)).all flatI = true := strs_flat fun y hy => by
      obtain ⟨p, _, rfl⟩ := List.mem_map.mp hy; exact ⟨_, rfl⟩
    have nus : inI (.str w) (done.map fun p : SI => IV.str (wd cs p.1)) = decide (kx ∈ done.map (·.1)) := by
      rw [Bool.eq_iff_iff, inI_str, decide_eq_true_iff]
      constructor
      · intro h
        obtain ⟨p, hp1, hp2⟩ := List.mem_map.mp h
        injection hp2 with hp2
        exact List.mem_map.mpr ⟨p, hp1, wd_inj g (e3.lt p hp1) hk (by rw [hp2, hwd])⟩
      · intro h
        obtain ⟨p, hp1, hp2⟩ := List.mem_map.mp h
        exact List.mem_map.mpr ⟨p, hp1, by rw [← hwd, ← hp2]⟩
    by_cases cu : kx ∈ done.map (·.1)
    · simp only [cu, if_true] at e1
      simp only [cu, decide_true] at nus
      generalize (done.map fun p : SI => IV.str (wd cs p.1)) = du at ful nus e5b ⊢
      simp [ht1.ins, l1, unP, in_str_tup fl, inn, in_str_ref e5b ful, nus]
      exact kS n w o1 st1 e1 t1 e7
    · simp only [cu, if_false] at e1
      simp only [cu, decide_false] at nus
      have hw : w ≠ "" := by
        rw [← hwd]
        intro z
        have := wd_wOk g hk
        rw [z] at this
        exact absurd this (by decide +kernel)
      obtain ⟨s, es, es2⟩ := drop_cons (nonE ew hw)
      obtain ⟨o2, t2⟩ := hN.2 (n + 1) s es
      rw [es2] at e1
      simp only at e1
      have du3 : (done.map fun p : SI => IV.str (wd cs p.1)).length < 100000 := by rw [List.length_map]; omega
      have dml : (done.map setIV).length < 100000 := by rw [List.length_map]; omega
      have nus2 := nus
      have e5b2 := e5b
      have hlen2 : ((done.map fun p : SI => IV.str (wd cs p.1)) ++ [IV.str w]).length = done.length + 1 := by simp
      have hdu : (done.map fun p : SI => IV.str (wd cs p.1)) ++ [IV.str w] = (done ++ [(kx, s, false, 0)]).map fun p : SI => IV.str (wd cs p.1) := by simp [hwd]
      generalize hDU : (done.map fun p : SI => IV.str (wd cs p.1)) = du at ful nus e5b du3 hlen2 hdu ⊢
      simp [ht1.ins, l1, unP, in_str_tup fl, inn, in_str_ref e5b ful, nus, isLst_ref e5b, app_ref e5b du3]
      -- behind the append
      have s5 : (st1.set (st.length + 1) (.lst (du ++ [.str w])))[st.length + 1]? = some (.lst (du ++ [.str w])) := set_get e5b
      have s4 : (st1.set (st.length + 1) (.lst (du ++ [.str w])))[st.length]? = some (.lst (done.map setIV)) := by rw [List.getElem?_set_ne (by omega)]; exact e5
      have s7 : ∀ j, j < st.length → (st1.set (st.length + 1) (.lst (du ++ [.str w])))[j]? = st[j]? := fun j hj => by rw [List.getElem?_set_ne (by omega)]; exact e7 j hj
      have s6 : (st1.set (st.length + 1) (.lst (du ++ [.str w]))).length = st.length + 2 := by rw [List.length_set]; exact e6
      have ht2 : TabAt lt cs (st1.set (st.length + 1) (.lst (du ++ [.str w]))) := (s7 lt hlt).trans ht
      generalize st1.set (st.length + 1) (.lst (du ++ [.str w])) = st2 at s4 s5 s6 s7 ht2 ⊢
      have ix2 : atI T ((n : Int) + 1) = some (.tup [.str s, .int o2]) := Mi.atI_at (i := n + 1) t2
      simp [ix2]
      refine passed_gen (al := sgS) (n := n + 1) t2 (fun z => ?_) (fun cs1 => ?_)
      · simp only [z, if_false] at e1
        exact kS (n + 1) s o2 st2 e1 t2 s7
      · simp only [cs1, if_true] at e1
        have sE : s ≠ "" := by rintro rfl; revert cs1; decide +kernel
        obtain ⟨t, et, et2⟩ := drop_cons (nonE es sE)
        obtain ⟨o3, t3⟩ := hN.2 (n + 2) t et
        rw [et2] at e1
        simp only at e1
        have tk := tok et
        -- the term
        have key : ∀ (p : Bool × Int) (a9 : Option SV), termO cs s t = some p → ((iSeq (iDrop (iMtd gApp (iVar 3) (iCons (iTup (iCons (iTix (iFld ["Table"] "columns" (iVar 2)) (iVar 5)) (iCons (iVar 7) (iCons (iVar 8) iNil)))) iNil)))
  (iSeq (iIfS (iTest (iBin gNe (iIx (iIx (iVar 0) (iVar 1)) (iC (.int 0))) (iC (.str ","))))
  (iRet (iTup (iCons (iVar 3) (iCons (iVar 1) iNil))))
  iSkip)
  (iSeq (iIfS (iTest (iBin gEq (iCallB gLen (iCons (iVar 4) iNil)) (iCallB gLen (iCons (iUn (iFld ["Table"] "columns" (iVar 2))) iNil))))
  (iRaise "Stuck" "at" (iIx (iIx (iVar 0) (iVar 1)) (iC (.int 1))))
  iSkip)
  (iAug gIAdd 1 (iC (.int 1))))))
          [some (.v (.lst T)), some (.v (.int ((n + 3 : Nat) : Int))), some (.v (.ref lt)), some (.v (.ref st.length)), some (.v (.ref (st.length + 1))), some (.v (.str w)), some (.v (.int o1)), some (.v (.str s)), some (.v (trmIV p)), a9] st2).wp
          ⟨RSI T (W ++ [("" : Str)]) cs res lt st.length st f, P, fun _ st => P .non st, RSI T (W ++ [("" : Str)]) cs res lt st.length st f, fun c fs _ st => E c fs st⟩ := fun p a9 hp => by
          have tE : t ≠ "" := by rintro rfl; rw [termO_ne g] at hp; cases hp
          obtain ⟨y, ey, ey2⟩ := drop_cons (nonE et tE)
          obtain ⟨o4, t4⟩ := hN.2 (n + 3) y ey
          rw [hp] at e1
          simp only at e1
          rw [ey2] at e1
          simp only at e1
          have hI : ItsS cs (done ++ [(kx, s, p)]) := by
            refine ⟨fun q hq => ?_, ?_, fun q hq => ?_, fun q hq => ?_⟩
            · rcases List.mem_append.mp hq with hq | hq
              · exact e3.lt q hq
              · rw [List.mem_singleton.mp hq]; exact hk
            · rw [List.map_append, List.nodup_append]
              exact ⟨e3.nd, by simp, fun a ha b hb => by
                have : b = kx := by simpa using hb
                rw [this]; rintro rfl; exact cu ha⟩
            · rcases List.mem_append.mp hq with hq | hq
              · exact e3.sg q hq
              · rw [List.mem_singleton.mp hq]; exact cs1
            · rcases List.mem_append.mp hq with hq | hq
              · exact e3.tm q hq
              · rw [List.mem_singleton.mp hq]; exact termO_ok hp
          have few := hI.few
          rw [List.length_append] at few
          simp only [List.length_cons, List.length_nil] at few
          rw [← hwd] at *
          rw [y1] at l1
          have ix4 : atI T (((n + 3 : Nat) : Int)) = some (.tup [.str y, .int o4]) := Mi.atI_at t4
          have q1 : (st2.set st.length (.lst (done.map setIV ++ [setIV (kx, s, p)])))[st.length]? = some (.lst ((done ++ [(kx, s, p)]).map setIV)) := by rw [set_get s4, List.map_append]; rfl
          have q2 : (st2.set st.length (.lst (done.map setIV ++ [setIV (kx, s, p)]))).length = st.length + 2 := by rw [List.length_set, s6]
          have q3 : ∀ j, j < st.length → (st2.set st.length (.lst (done.map setIV ++ [setIV (kx, s, p)])))[j]? = st[j]? := fun j hj => by rw [List.getElem?_set_ne (by omega)]; exact s7 j hj
          have q4 : (st2.set st.length (.lst (done.map setIV ++ [setIV (kx, s, p)])))[st.length + 1]? = some (.lst (du ++ [.str (wd cs kx)])) := by rw [List.getElem?_set_ne (by omega)]; exact s5
          have e10 : setIV (kx, s, p) = .tup [.int kx, .str s, trmIV p] := rfl
          rw [e10] at q1 q2 q3 q4
          have ht3 : TabAt lt cs (st2.set st.length (.lst (done.map setIV ++ [.tup [.int kx, .str s, trmIV p]]))) := (q3 lt hlt).trans ht
          simp [isLst_ref s4, ht2.ins, l1, tix_ok rfl y2, app_ref s4 dml]
          generalize st2.set st.length (.lst (done.map setIV ++ [.tup [.int kx, .str s, trmIV p]])) = st3 at q1 q2 q3 q4 ht3 ⊢
          simp at ix4
          simp [ix4]
          by_cases cy : y = ","
          · have hy : y ≠ "" := by rw [cy]; decide +kernel
            have := nonE ey hy
            simp only [cy, if_true] at e1
            have lc : (cs.map fst).length = cs.length := by simp
            have ly : ys.length = cs.length := by rw [← lc, y1]; simp
            simp [cy, len_ref q4, ht3.ins, l1, unP]
            have hld : ((done.length : Int) + 1 = (cs.length : Int)) ↔ done.length + 1 = cs.length := by omega
            by_cases cf : done.length + 1 = cs.length
            · have cf2 : du.length + 1 = ys.length := by rw [ly, ← hDU]; simpa using cf
              simp only [List.length_map, cf, if_true, addS] at e1
              have cf3 : (du.length : Int) + 1 = (ys.length : Int) := by omega
              simp [cf3, ix4]
              exact kS (n + 3) y o4 st3 e1 t4 q3
            · have cf2 : ¬ du.length + 1 = ys.length := by rw [ly, ← hDU]; simpa using cf
              simp only [List.length_map, cf, if_false, addS_app] at e1
              have cf3 : ¬ (du.length : Int) + 1 = (ys.length : Int) := by omega
              simp [cf3, gIAdd]
              refine ⟨done ++ [(kx, s, p)], n + 4, some (.v (.str (wd cs kx))), some (.v (.int o1)), some (.v (.str s)), some (.v (trmIV p)), a9, ?_, ?_, by omega, hI, ?_, ?_, q1, ?_, q2, q3⟩
              · have e11 : (n : Int) + 3 + 1 = ((n + 4 : Nat) : Int) := by omega
                rw [e11]; rfl
              · rw [e1, List.map_append]; rfl
              · rw [List.length_append]; simp only [List.length_cons, List.length_nil]; omega
              · rw [List.length_append]; simp only [List.length_cons, List.length_nil]; omega
              · rw [q4, List.map_append, hDU]; rfl
          · simp only [cy, if_false, addS] at e1
            simp [cy]
            have hj := (List.getElem?_eq_some_iff.mp ey).1
            have kk := kD (done ++ [(kx, s, p)]) (n + 3) st3 e1 hI (by simp) (by omega) q1 q2 q3
            simpa using kk
        by_cases ceq : s = "="
        · simp [ceq]
          refine term_any (n := n + 2) ht2 g t3 tk.1 tk.2 (fun z => ?_) fun p hp => ?_
          · have : termO cs s t = none := by unfold termO; rw [if_pos ceq, z]
            rw [this] at e1
            exact kS (n + 2) t o3 st2 e1 t3 s7
          · have hp' : termO cs s t = some p := by unfold termO; rw [if_pos ceq, hp]
            have kk := key p s9 hp'
            simp [ceq] at kk ⊢
            exact kk
        · simp [ceq]
          refine number_any (n := n + 2) t3 tk.1 tk.2 (fun z => ?_) fun v hv => ?_
          · have : termO cs s t = none := by unfold termO; rw [if_neg ceq, z]; rfl
            rw [this] at e1
            exact kS (n + 2) t o3 st2 e1 t3 s7
          · have hp' : termO cs s t = some (false, v) := by unfold termO; rw [if_neg ceq, hv]; rfl
            have kk := key (false, v) (some (.v (.int v))) hp'
            simp at kk ⊢
            exact kk
end K07
set_option Elab.async false
set_option linter.all false
set_option maxRecDepth 100000
set_option maxHeartbeats 4000000
namespace K07
open PySem PySem.Spec PyProof.Rows L2 Mi
/-! ### new values -/
def topN (cs : List IV) (k : Nat) : Int := match cs[k]? with
  | some x => snd x
  | none => 0
def worthN (ns : List Int) (p : SI) : Int :=
  let m := if p.2.2.1 then ns.getD p.2.2.2.toNat 0 else p.2.2.2
  if p.2.1 = "+=" then ns.getD p.1 0 + m else if p.2.1 = "-=" then ns.getD p.1 0 - m else m
def newN (cs : List IV) (its : List SI) (ns : List Int) : List Int := its.foldl (fun f p => f.set p.1 (max 0 (min (worthN ns p) (topN cs p.1)))) ns
theorem newN_len {cs : List IV} {its : List SI} {ns : List Int} : (newN cs its ns).length = ns.length := by
  unfold newN
  generalize hf : (fun (f : List Int) (p : SI) => f.set p.1 (max 0 (min (worthN ns p) (topN cs p.1)))) = h
  have : ∀ (its : List SI) (f : List Int), (its.foldl h f).length = f.length := by
    intro its
    induction its with
    | nil => intro f; rfl
    | cons p r ih => intro f; rw [List.foldl_cons, ih, ← hf]; simp
  exact this its ns
theorem newN_snoc {cs : List IV} {a : List SI} {p : SI} {ns : List Int} : newN cs (a ++ [p]) ns = (newN cs a ns).set p.1 (max 0 (min (worthN ns p) (topN cs p.1))) := by
  unfold newN; rw [List.foldl_append]; rfl
theorem at_int {ns : List Int} {k : Nat} (h : k < ns.length) : atI (ns.map IV.int) (k : Int) = some (.int (ns.getD k 0)) := by
  refine atI_at ?_
  rw [List.getElem?_map, List.getD_eq_getElem?_getD, List.getElem?_eq_getElem h]; rfl
section
variable {lt li : Nat} {cs : List IV} {its : List SI} {st : Sto} {P : IV → Sto → Prop} {E : Str → List (Str × IV) → Sto → Prop}
theorem term_value_ok {b : Bool} {v : Int} {ns : List Int} (h : b = true → ∃ j : Nat, v = j ∧ j < ns.length) (k : P (.int (if b then ns.getD v.toNat 0 else v)) st) : (F_P_term_value [.tup [.bl b, .int v], .tup (ns.map .int)] st).wp P E := by
  cases b with
  | false =>
    simp at k
    simpa [F_P_term_value, B_P_term_value] using k
  | true =>
    obtain ⟨j, rfl, hj⟩ := h rfl
    simp at k
    simpa [F_P_term_value, B_P_term_value, at_int hj] using k
def NVI (ns : List Int) (lt li : Nat) (cs : List IV) (its : List SI) (st0 : Sto) (i : Nat) (ρ : Slots) (st : Sto) : Prop := ∃ a4 a5 a6 a7, ρ = [some (.v (.ref li)), some (.v (.tup (ns.map .int))), some (.v (.ref lt)), some (.v (.ref st0.length)), a4, a5, a6, a7] ∧
  st = st0 ++ [.lst ((newN cs (its.take i) ns).map .int)]
theorem new_ok {ns : List Int} (ht : TabAt lt cs st) (hl : st[li]? = some (.lst (its.map setIV))) (hI : ItsS cs its) (hn : ns.length = cs.length)
    (k : P (.tup ((newN cs its ns).map .int)) (st ++ [.lst ((newN cs its ns).map .int)])) : (F_P_new_values [.ref li, .tup (ns.map .int), .ref lt] st).wp P E := by
  have hlt := (List.getElem?_eq_some_iff.mp ht).1
  have hli := (List.getElem?_eq_some_iff.mp hl).1
  have gs : gListS [.tup (ns.map .int)] st = .ok (.ref st.length) (st ++ [.lst (ns.map .int)]) := rfl
  have ap : ∀ (o : Mi.IO) (j : Nat), j < st.length → (st ++ [o])[j]? = st[j]? := fun o j hj => List.getElem?_append_left hj
  have last : ∀ o : Mi.IO, (st ++ [o])[st.length]? = some o := fun o => by simp
  simp [F_P_new_values, B_P_new_values, gs, items_ref ((ap _ _ hli).trans hl)]
  refine wp_for (NVI ns lt li cs its st) ⟨_, _, _, _, rfl, rfl⟩ ?_ ?_
  · rintro i x ρ st1 hx ⟨a4, a5, a6, a7, rfl, rfl⟩
    rw [List.getElem?_map] at hx
    obtain ⟨p, hp, rfl⟩ := Option.map_eq_some_iff.mp hx
    have pm := List.mem_of_getElem? hp
    have hp1 := hI.lt p pm
    have hi := (List.getElem?_eq_some_iff.mp hp).1
    refine ⟨gokB_some ((ap _ _ hli).trans hl), ?_⟩
    obtain ⟨kc, sg, b, v⟩ := p
    have tm := hI.tm _ pm
    have tk : its.take (i + 1) = its.take i ++ [(kc, sg, b, v)] := by rw [List.take_add_one, hp]; rfl
    have nl := newN_len (cs := cs) (its := its.take i) (ns := ns)
    have at1 := at_int (ns := ns) (k := kc) (by rw [hn]; exact hp1)
    have ht2 : TabAt lt cs (st ++ [.lst ((newN cs (its.take i) ns).map .int)]) := (ap _ _ hlt).trans ht
    have atop : atI (cs.map fun x => IV.int (snd x)) (kc : Int) = some (.int (topN cs kc)) := by
      refine atI_at ?_
      unfold topN
      rw [List.getElem?_map, List.getElem?_eq_getElem hp1]; rfl
    have ixk : ixN ((newN cs (its.take i) ns).map IV.int).length (kc : Int) = some kc := by
      unfold ixN
      rw [List.length_map, nl, hn, if_pos (by omega), if_pos (by omega)]; rfl
    have fin : ∀ (a4 a5 a6 a7 : Option SV) (st2 : Sto), st2 = st ++ [Mi.IO.lst ((newN cs (its.take (i + 1)) ns).map IV.int)] → NVI ns lt li cs its st (i + 1) [some (.v (.ref li)), some (.v (.tup (ns.map .int))), some (.v (.ref lt)), some (.v (.ref st.length)), a4, a5, a6, a7] st2 := fun a4 a5 a6 a7 st2 h => ⟨_, _, _, _, rfl, h⟩
    have e0 : setIV (kc, sg, b, v) = .tup [.int kc, .str sg, .tup [.bl b, .int v]] := rfl
    have pm1 : ¬ (("-=" : Str) = "+=") := by decide +kernel
    rw [e0]
    simp [L_P_new_values_1]
    refine term_value_ok (fun z => by obtain ⟨j, e, hj⟩ := tm z; exact ⟨j, e, by omega⟩) ?_
    by_cases c1 : sg = "+="
    · simp [at1, c1, ht2.ins, lkt, atop, setL_ref (last _) ixk]
      refine fin _ _ _ _ _ ?_
      rw [tk, newN_snoc]
      simp [worthN, c1, List.map_set]
    · by_cases c2 : sg = "-="
      · simp [at1, c2, pm1, ht2.ins, lkt, atop, setL_ref (last _) ixk]
        refine fin _ _ _ _ _ ?_
        rw [tk, newN_snoc]
        simp [worthN, c2, pm1, List.map_set]
      · simp [at1, c1, c2, ht2.ins, lkt, atop, setL_ref (last _) ixk]
        refine fin _ _ _ _ _ ?_
        rw [tk, newN_snoc]
        simp [worthN, c1, c2, List.map_set]
  · rintro ρ st1 ⟨a4, a5, a6, a7, rfl, rfl⟩
    refine ⟨gokB_some ((ap _ _ hli).trans hl), ?_⟩
    rw [List.length_map, List.take_length]
    simp [tuple_ref (last _)]
    simpa using k
end
end K07
set_option Elab.async false
set_option linter.all false
set_option maxRecDepth 100000
set_option maxHeartbeats 4000000
namespace K07
open PySem PySem.Spec PyProof.Rows L2 Mi
theorem cut_last {α : Type} {xs : List α} : cutI xs none (some (-1)) = xs.take (xs.length - 1) := by
  unfold cutI
  have e : HT.sIx xs.length 0 none = 0 := rfl
  have e2 : HT.sIx xs.length xs.length (some (-1)) = xs.length - 1 := by
    simp only [HT.sIx]
    rw [if_pos (by omega)]; omega
  rw [e, e2, List.drop_zero, Nat.sub_zero]
theorem sum_len8 : ∀ {W : List Str}, (∀ s ∈ W, s.length ≤ 8) → (W.map (·.length)).sum ≤ 8 * W.length
  | [], _ => by simp
  | w :: r, h => by
    have := sum_len8 fun s hs => h s (List.mem_cons_of_mem w hs)
    have := h w List.mem_cons_self
    simp only [List.map_cons, List.sum_cons, List.length_cons]
    omega
theorem joinW {W : List Str} {st : Sto} (h : Toks W) : gJoin (.str " ") [.lst (W.map .str)] st = .ok (.str (Txt.join " " W)) st := by
  have := sum_len8 h.len
  have := h.few
  refine join_l ?_
  rw [show (" " : Str).length = 1 from blank_len]; omega
theorem glued_len {b : Str} {W : List Str} : (Txt.join b W).length ≤ (W.map (·.length)).sum + W.length * b.length := by
  induction W with
  | nil => exact Nat.zero_le _
  | cons w r ih =>
    cases r with
    | nil => rw [join_one]; simp
    | cons v t =>
      rw [join_cons (by simp), Str.length_append, Str.length_append]
      simp only [List.map_cons, List.sum_cons, List.length_cons] at ih ⊢
      rw [Nat.add_mul (t.length + 1) 1]
      omega
theorem joinW_len {W : List Str} (h : Toks W) : (Txt.join " " W).length ≤ 200 := by
  have a := glued_len (b := " ") (W := W)
  have := sum_len8 h.len
  have := h.few
  rw [show (" " : Str).length = 1 from blank_len] at a; omega
def tokF : IV → Option IV
  | .tup [.str w, .int _] => some (.str w)
  | _ => none
section
variable {z : Str} {W : List Str} {gs : List (Nat × List Nat)} {cs : List IV} {its : List SI} {lo lt : Nat} {st : Sto} {P : IV → Sto → Prop} {E : Str → List (Str × IV) → Sto → Prop}
theorem TxtG.named (hz : TxtG z W gs) : Named (toksIV z) (W ++ [("" : Str)]) := by
  obtain ⟨ge, hb⟩ := hz.b
  exact named_of hb hz.w hz.f
theorem toks_words (hN : Named (toksIV z) (W ++ [("" : Str)])) : ((toksIV z).take ((toksIV z).length - 1)).filterMap tokF = W.map .str := by
  have hl : (toksIV z).length = W.length + 1 := by rw [hN.1]; simp
  rw [hl, Nat.add_sub_cancel]
  have key : ∀ i, i ≤ W.length → ((toksIV z).take i).filterMap tokF = (W.take i).map .str := by
    intro i
    induction i with
    | zero => intro _; rfl
    | succ i ih =>
      intro h
      have hw : (W ++ [("" : Str)])[i]? = some W[i] := by rw [List.getElem?_append_left (by omega), List.getElem?_eq_getElem (by omega)]
      obtain ⟨o, e⟩ := hN.2 i _ hw
      rw [List.take_add_one, List.take_add_one, e, List.getElem?_eq_getElem (by omega), List.filterMap_append, ih (by omega), List.map_append]
      rfl
  have := key W.length (Nat.le_refl _)
  rwa [List.take_length] at this
theorem spaced_ok (hz : TxtG z W gs) (hT : Toks W) (k : P (.str (Txt.join " " W)) st) : (F_P_spaced [.str z] st).wp P E := by
  have hN := hz.named
  have hl : (toksIV z).length = W.length + 1 := by rw [hN.1]; simp
  have few := hT.few
  simp [F_P_spaced, B_P_spaced]
  refine tokens_ok hz.len ?_
  have tw := toks_words hN
  simp [cut_last]
  refine wp_lcL tokF rfl (fun x hx => ?_) (by simp; omega) ?_
  · have hx' : x ∈ toksIV z := List.mem_of_mem_take hx
    obtain ⟨i, hi, e⟩ := List.mem_iff_getElem.mp hx'
    have hi2 : i < (W ++ [("" : Str)]).length := by rw [← hN.1]; exact hi
    have hw : (W ++ [("" : Str)])[i]? = some (W ++ [("" : Str)])[i] := List.getElem?_eq_getElem hi2
    obtain ⟨o, e2⟩ := hN.2 i _ hw
    rw [List.getElem?_eq_getElem hi, e] at e2
    rw [Option.some.inj e2]
    simp [wipeI, tokF]
  · rw [List.nil_append, tw]
    have jn := joinW (st := st) hT
    generalize W.map IV.str = V at jn ⊢
    simp [jn]
    exact k
/-! ### the object -/
def colsV (cs : List IV) (its : List SI) : List IV := its.map fun p => .str (wd cs p.1)
def setF (cs : List IV) (lt ld : Nat) (W : List Str) (its : List SI) : List (Str × IV) := [("table", .ref lt), ("text", .str (Txt.join " " W)), ("columns", .tup (colsV cs its)), ("results", .ref ld)]
def intsV : IV → List Int
  | .tup vs => vs.map fun v => match v with | .int i => i | _ => 0
  | _ => []
def resD (cs : List IV) (its : List SI) (xs : List IV) : List (List Key × IV) := xs.foldl (fun acc x => dputI acc ((intsV x).map .inl) (.tup ((newN cs its (intsV x)).map .int))) []
def rsT (cs : List IV) (W : List Str) : Rs := rsO cs 4 [] (W ++ [("" : Str)]) 0
theorem ints_of {vs cs : List IV} (h : inTs vs cs = true) : vs = (intsV (.tup vs)).map .int ∧ (intsV (.tup vs)).length = cs.length := by
  have hi := inTs_int h
  have hl := inTs_len h
  refine ⟨?_, by simp [intsV, hl]⟩
  unfold intsV
  rw [List.map_map]
  clear h hl
  induction vs with
  | nil => rfl
  | cons x r ih =>
    obtain ⟨v, rfl⟩ := hi x List.mem_cons_self
    rw [List.map_cons, ← ih fun y hy => hi y (List.mem_cons_of_mem _ hy)]; rfl
def itemF (cs : List IV) : IV → Option IV
  | .tup [.int k, _, _] => some (.str (wd cs k.toNat))
  | _ => none
theorem item_cols : (its.map setIV).filterMap (itemF cs) = colsV cs its := by
  induction its with
  | nil => rfl
  | cons p r ih =>
    rw [List.map_cons, List.filterMap_cons]
    show IV.str (wd cs ((p.1 : Int)).toNat) :: _ = _
    rw [ih, Int.toNat_natCast]; rfl
theorem sp1 : ¬ (("table" : Str) = "text") ∧ ¬ (("table" : Str) = "columns") ∧ ¬ (("table" : Str) = "results") ∧ ¬ (("text" : Str) = "columns") ∧ ¬ (("text" : Str) = "results") ∧ ¬ (("columns" : Str) = "results") := by decide +kernel
theorem sput1 {x : IV} : putI "table" x [] = [(("table" : Str), x)] := rfl
theorem sput2 {x y : IV} : putI "text" y [(("table" : Str), x)] = [(("table" : Str), x), (("text" : Str), y)] := by simp [putI, sp1]
theorem sput3 {x y z : IV} : putI "columns" z [(("table" : Str), x), (("text" : Str), y)] = [(("table" : Str), x), (("text" : Str), y), (("columns" : Str), z)] := by simp [putI, sp1]
theorem sput4 {x y z u : IV} : putI "results" u [(("table" : Str), x), (("text" : Str), y), (("columns" : Str), z)] = [(("table" : Str), x), (("text" : Str), y), (("columns" : Str), z), (("results" : Str), u)] := by simp [putI, sp1]
theorem dputs_len : ∀ (xs : List IV) (acc : List (List Key × IV)) (f : List (List Key × IV) → IV → List (List Key × IV)), (∀ a x, (f a x).length ≤ a.length + 1) → (xs.foldl f acc).length ≤ acc.length + xs.length
  | [], acc, f, _ => Nat.le_refl _
  | x :: r, acc, f, h => by
    rw [List.foldl_cons, List.length_cons]
    have := dputs_len r (f acc x) f h
    have := h acc x
    omega
theorem len_of {st st' : Sto} (h : ∀ i, i < st.length → st'[i]? = st[i]?) : st.length ≤ st'.length := by
  apply Classical.byContradiction
  intro z
  have h1 := h st'.length (by omega)
  rw [List.getElem?_eq_none (Nat.le_refl _), List.getElem?_eq_getElem (by omega)] at h1
  cases h1
def DCI (cs : List IV) (its : List SI) (st0 : Sto) (i : Nat) (acc : List (List Key × IV)) (st : Sto) : Prop := acc = resD cs its ((allV cs).take i) ∧ (∀ j, j < st0.length → st[j]? = st0[j]?) ∧ st0.length ≤ st.length
theorem init_any (h : st[lo]? = some (.ins "Sets" [])) (ht : TabAt lt cs st) (hne : lt ≠ lo) (g : Good cs) (h0 : 0 < cs.length) (hz : TxtG z W gs) (hT : Toks W)
    (kE : ∀ j st', (rsT cs W = .stuck j ∨ ∃ its, rsT cs W = .done its j ∧ j < W.length) → (∀ i, i < st.length → i ≠ lo → st'[i]? = st[i]?) → E "BadSets" [("at", .int (offT gs z j))] st')
    (k : ∀ its ld st', rsT cs W = .done its W.length → ItsS cs its → its ≠ [] → st'[lo]? = some (.ins "Sets" (setF cs lt ld W its)) → st.length ≤ ld → st'[ld]? = some (.dct (resD cs its (allV cs))) → (∀ j, j < st.length → j ≠ lo → st'[j]? = st[j]?) → P .non st') : (F_P_Sets_init [.ref lo, .str z, .ref lt] st).wp P E := by
  have hlo : lo < st.length := (List.getElem?_eq_some_iff.mp h).1
  have hlt : lt < st.length := (List.getElem?_eq_some_iff.mp ht).1
  simp [F_P_Sets_init, B_P_Sets_init, askT, isSubB]
  refine tokens_ok hz.len ?_
  have N := hz.named
  have NL := N.1
  have wne := words_ne hz
  have off := fun j w o e => tok_off (z := z) (j := j) (w := w) (o := o) hz e
  have hneW : ∀ w ∈ W, w ≠ "" ∧ tokOk w.cps.toList = true ∧ w.length ≤ 100000 := fun w hw => ⟨wne w hw, hT.tok w hw, by have := hT.len w hw; omega⟩
  generalize toksIV z = T at N NL off ⊢
  have bad : ∀ (j : Nat) (w : Str) (o : Int) (st1 : Sto), (rsT cs W = .stuck j ∨ ∃ its, rsT cs W = .done its j ∧ j < W.length) → T[j]? = some (.tup [.str w, .int o]) → (∀ i, i < st.length → st1[i]? = st[i]?) → E "BadSets" [("at", .int o)] (st1 ++ [Mi.IO.dead]) := fun j w o st1 hj tj hk => by
    rw [off j w o tj]
    exact kE j _ hj fun i hi _ => by
      have hl := len_of hk
      rw [List.getElem?_append_left (by omega)]
      exact hk i hi
  simp
  refine read_sets_any N hneW ht g h0 (fun j w o st1 hj tj hk => ?_) (fun its j st1 hj hits hne1 hjl e1 e2 e3 => ?_)
  · simp [noExn]
    exact bad j w o st1 (.inl hj) tj hk
  · have hjL : j < (W ++ [("" : Str)]).length := by rw [List.length_append]; simp only [List.length_cons, List.length_nil]; omega
    obtain ⟨w, ew, _⟩ := drop_cons hjL
    obtain ⟨o, tj⟩ := N.2 j w ew
    simp
    refine passed_any tj (fun hw => ?_) (fun hw => ?_)
    · simp [noExn]
      refine bad j w o st1 (.inr ⟨its, hj, ?_⟩) tj e3
      apply Classical.byContradiction
      intro q
      have : j = W.length := by omega
      rw [this, List.getElem?_append_right (Nat.le_refl _)] at ew
      simp at ew
      exact hw ew.symm
    · have hjW : j = W.length := by
        apply Classical.byContradiction
        intro q
        rw [List.getElem?_append_left (by omega)] at ew
        exact wne w (List.mem_of_getElem? ew) hw
      subst hjW
      have x0 := (e3 lo hlo).trans h
      have hx : st.length ≠ lo := by omega
      simp [insAt_ref x0, sput1]
      -- the table is in
      have y1 : ∀ o, (st1.set lo o)[st.length]? = some (.lst (its.map setIV)) := fun o => by rw [List.getElem?_set_ne (Ne.symm hx)]; exact e1
      have y3 : ∀ o j, j < st.length → j ≠ lo → (st1.set lo o)[j]? = st[j]? := fun o j hj hn => by rw [List.getElem?_set_ne (Ne.symm hn)]; exact e3 j hj
      have y0 : ∀ o, (st1.set lo o)[lo]? = some o := fun o => set_get x0
      have y2 : ∀ o, (st1.set lo o).length = st.length + 2 := fun o => by rw [List.length_set]; exact e2
      refine spaced_ok hz hT ?_
      simp [insAt_ref (y0 _), sput2]
      have fin : ∀ (st2 : Sto) (a5 a6 a7 a8 a9 : Option SV), st2[lo]? = some (.ins "Sets" [("table", .ref lt), ("text", .str (Txt.join " " W))]) → st2[st.length]? = some (.lst (its.map setIV)) → (∀ j, j < st.length → j ≠ lo → st2[j]? = st[j]?) → st2.length = st.length + 2 →
        ((iSeq (iStFld ["Sets"] "columns" (iVar 0) (iCallB gTuple (iCons (iF (iLc (iOver (iVar 4)) [7, 8] (tgTup 3 (tgCons (tgName 7) (tgCons (tgName 8) (tgCons (tgName 8) tgNil)))) iYes (iIx (iUn (iFld ["Table"] "columns" (iVar 2))) (iVar 7)))) iNil)))
  (iStFld ["Sets"] "results" (iVar 0) (iDc (iOver (iMeth "Table" "all_values" (arity 1 F_P_Table_all_values) (iVar 2) iNil)) [9] (tgName 9) iYes (iVar 9) (iCall (arity 3 F_P_new_values) (iCons (iVar 4) (iCons (iVar 9) (iCons (iVar 2) iNil)))))))
          [some (.v (.ref lo)), some (.v (.str z)), some (.v (.ref lt)), some (.v (.lst T)), some (.v (.ref st.length)), a5, a6, a7, a8, a9] st2).wp ⟨fun _ st => P .non st, P, fun _ _ => False, fun _ _ => False, fun c fs _ st => E c fs st⟩ := fun st2 a5 a6 a7 a8 a9 f0 f1 f2 f3 => by
        have t2 : TabAt lt cs st2 := (f2 lt hlt hne).trans ht
        have few := hits.few
        have gl := g.len
        simp [items_ref f1]
        refine wp_lcL (itemF cs) (gokB_some f1) (fun x hx => ?_) (by simp; omega) ?_
        · obtain ⟨p, hp, rfl⟩ := List.mem_map.mp hx
          have hk := hits.lt p hp
          have e0 : setIV p = .tup [.int p.1, .str p.2.1, trmIV p.2.2] := rfl
          rw [e0]
          simp [wipeI, t2.ins, lkc, unP, itemF, Mi.atI_at (firsts_at g hk)]
        · rw [List.nil_append, item_cols]
          generalize hcv : colsV cs its = cv
          simp [insAt_ref f0, sput3]
          have g0 : (st2.set lo (.ins "Sets" [("table", .ref lt), ("text", .str (Txt.join " " W)), ("columns", .tup cv)]))[lo]? = some (.ins "Sets" [("table", .ref lt), ("text", .str (Txt.join " " W)), ("columns", .tup cv)]) := set_get f0
          have g1 : (st2.set lo (.ins "Sets" [("table", .ref lt), ("text", .str (Txt.join " " W)), ("columns", .tup cv)]))[st.length]? = some (.lst (its.map setIV)) := by rw [List.getElem?_set_ne (Ne.symm hx)]; exact f1
          have g2 : ∀ j, j < st.length → j ≠ lo → (st2.set lo (.ins "Sets" [("table", .ref lt), ("text", .str (Txt.join " " W)), ("columns", .tup cv)]))[j]? = st[j]? := fun j hj hn => by rw [List.getElem?_set_ne (Ne.symm hn)]; exact f2 j hj hn
          have g3 : (st2.set lo (.ins "Sets" [("table", .ref lt), ("text", .str (Txt.join " " W)), ("columns", .tup cv)])).length = st.length + 2 := by rw [List.length_set]; exact f3
          generalize st2.set lo (.ins "Sets" [("table", .ref lt), ("text", .str (Txt.join " " W)), ("columns", .tup cv)]) = st3 at g0 g1 g2 g3 ⊢
          have t3 : TabAt lt cs st3 := (g2 lt hlt hne).trans ht
          simp [t3.ins]
          refine ⟨fun a b hm => by
            simp only [tabF, List.mem_cons, Prod.mk.injEq, List.not_mem_nil, or_false] at hm
            rcases hm with ⟨rfl, _⟩ | ⟨rfl, _⟩ | ⟨rfl, _⟩ <;> decide +kernel, ?_⟩
          refine allvals_ok t3 ?_
          simp
          have av := allV_few g.col (i := cs.length) (Nat.le_refl _)
          rw [List.take_length] at av
          have p6 : 6 ^ cs.length ≤ 216 := Nat.le_trans (Nat.pow_le_pow_right (by decide) gl) (by decide)
          refine wp_dcL (DCI cs its st3) ⟨rfl, fun _ _ => rfl, Nat.le_refl _⟩ ?_ ?_
          · rintro i x acc st4 hx4 ⟨rfl, d2, d3⟩
            have xm := List.mem_of_getElem? hx4
            obtain ⟨vs, rfl, hv⟩ := allV_mem xm
            obtain ⟨ev, el⟩ := ints_of hv
            have i4 := (List.getElem?_eq_some_iff.mp hx4).1
            refine ⟨rfl, ?_, ?_⟩
            · have := dputs_len ((allV cs).take i) [] (fun acc x => dputI acc ((intsV x).map .inl) (.tup ((newN cs its (intsV x)).map .int))) (fun a x => dputI_len _ _ _)
              unfold resD
              rw [List.length_take] at this
              simp only [List.length_nil] at this
              omega
            · have tk : resD cs its ((allV cs).take (i + 1)) = dputI (resD cs its ((allV cs).take i)) ((intsV (.tup vs)).map .inl) (.tup ((newN cs its (intsV (.tup vs))).map .int)) := by
                unfold resD
                rw [List.take_add_one, hx4, List.foldl_append]; rfl
              generalize hns : intsV (.tup vs) = ns at ev el tk
              subst ev
              simp [wipeI]
              have t4 : TabAt lt cs st4 := (d2 lt (by omega)).trans t3
              have l4 := (d2 st.length (by omega)).trans g1
              refine new_ok t4 l4 hits el ?_
              refine ⟨_, keyI_ints, ?_, fun j hj => ?_, ?_⟩
              · rw [tk]
              · rw [List.getElem?_append_left (by omega)]; exact d2 j hj
              · rw [List.length_append]; omega
          · rintro acc st4 ⟨rfl, d2, d3⟩
            refine ⟨rfl, ?_⟩
            rw [List.take_length]
            have z0 : (st4 ++ [Mi.IO.dct (resD cs its (allV cs))])[lo]? = some (.ins "Sets" [("table", .ref lt), ("text", .str (Txt.join " " W)), ("columns", .tup cv)]) := by
              rw [List.getElem?_append_left (by omega)]; exact (d2 lo (by omega)).trans g0
            simp [insAt_ref z0, sput4]
            refine k its st4.length _ hj hits hne1 (by rw [set_get z0, ← hcv]; rfl) (by omega) ?_ fun j hj hn => ?_
            · rw [List.getElem?_set_ne (by omega)]; simp
            · rw [List.getElem?_set_ne (Ne.symm hn), List.getElem?_append_left (by omega)]
              exact (d2 j (by omega)).trans (g2 j hj hn)
      have f := fin ((st1.set lo (.ins "Sets" [("table", .ref lt)])).set lo (.ins "Sets" [("table", .ref lt), ("text", .str (Txt.join " " W))])) (some (.v (.int (W.length : Nat)))) none none none none (set_get (y0 _)) (by rw [List.getElem?_set_ne (Ne.symm hx)]; exact y1 _) (fun j hj hn => by rw [List.getElem?_set_ne (Ne.symm hn)]; exact y3 _ j hj hn) (by rw [List.length_set]; exact y2 _)
      simpa using f
end
end K07
set_option Elab.async false
set_option linter.all false
set_option maxRecDepth 100000
set_option maxHeartbeats 4000000
namespace K07
open PySem PySem.Spec PyProof.Rows L2 Mi
def toldV (cs : List IV) (W : List Str) (gs : List (Nat × List Nat)) (z : Str) : IV := match rsT cs W with
  | .stuck j => .lst [.int (offT gs z j)]
  | .done _ j => if j < W.length then .lst [.int (offT gs z j)] else .str (Txt.join " " W)
theorem pre_app {a : Sto} {b : Sto} {o : Mi.IO} (h : ∀ i, i < (a ++ [o]).length → i ≠ a.length → b[i]? = (a ++ [o])[i]?) : ∀ i, i < a.length → b[i]? = a[i]? := fun i hi => by
  rw [h i (by rw [List.length_append]; omega) (by omega), List.getElem?_append_left hi]
section
variable {z : Str} {W : List Str} {gs : List (Nat × List Nat)} {cs : List IV} {lo lt : Nat} {st : Sto} {P : IV → Sto → Prop} {E : Str → List (Str × IV) → Sto → Prop}
theorem sets_str {ld : Nat} {its : List SI} (hT : Toks W) (h : st[lo]? = some (.ins "Sets" (setF cs lt ld W its))) (k : P (.str (Txt.join " " W)) st) : (F_P_Sets_str [.ref lo] st).wp P E := by
  have e : (setF cs lt ld W its).lookup ("text" : Str) = some (.str (Txt.join " " W)) := by
    have b : (("text" : Str) == "table") = false := by decide +kernel
    simp [setF, List.lookup, b]
  have jl := joinW_len hT
  simp [F_P_Sets_str, B_P_Sets_str, insAt_ref h, e]
  exact ⟨by omega, k⟩
theorem told_v (ht : TabAt lt cs st) (g : Good cs) (h0 : 0 < cs.length) (hz : TxtG z W gs) (hT : Toks W)
    (k : ∀ st', (∀ i, i < st.length → st'[i]? = st[i]?) → (∀ its j, rsT cs W = .done its j → j ≤ W.length) → P (toldV cs W gs z) st') : (F_told [.str z, .ref lt] st).wp P E := by
  have hlt := (List.getElem?_eq_some_iff.mp ht).1
  have N : (st ++ [Mi.IO.ins "Sets" []])[st.length]? = some (.ins "Sets" []) := by simp
  have T : TabAt lt cs (st ++ [Mi.IO.ins "Sets" []]) := by
    show (st ++ [Mi.IO.ins "Sets" []])[lt]? = _
    rw [List.getElem?_append_left hlt]; exact ht
  simp [F_told, B_told]
  refine init_any N T (by omega) g h0 hz hT (fun j st' hj hk => ?_) (fun its ld st' e hi hn ho hld hd hk => ⟨rfl, ?_⟩)
  · have hk' := pre_app hk
    have hl := len_of hk'
    simp [noExn]
    have e : toldV cs W gs z = .lst [.int (offT gs z j)] := by
      unfold toldV
      rcases hj with e | ⟨its, e, h⟩
      · rw [e]
      · rw [e]; simp [h]
    rw [← e]
    refine k _ (fun i hi => by rw [List.getElem?_append_left (by omega)]; exact hk' i hi) fun its j2 e2 => ?_
    rcases hj with e | ⟨its, e, h⟩
    · rw [e] at e2; cases e2
    · rw [e] at e2; cases e2; omega
  · have hk' := pre_app hk
    simp
    refine wp_own_str (insAt_ref ho List.mem_cons_self) (sets_str hT ho ⟨_, rfl, ?_⟩)
    have e1 : toldV cs W gs z = .str (Txt.join " " W) := by
      unfold toldV
      rw [e]; simp
    have kk := k st' hk' fun its j2 e2 => by rw [e] at e2; cases e2; omega
    rw [e1] at kk
    exact kk
/-- things that are no texts -/
theorem told_odd {x : IV} (hx : ∀ st, gIsi [x, .ty "str"] st = .ok (.bl false) st) (k : ∀ st', (∀ i, i < st.length → st'[i]? = st[i]?) → P (.lst [.int (-1)]) st') : (F_told [x, .ref lt] st).wp P E := by
  simp [F_told, B_told, F_P_Sets_init, B_P_Sets_init, hx, noExn]
  exact k _ fun i hi => List.getElem?_append_left hi
theorem filt_len {p : Nat → Bool} : ∀ {l : List Nat}, (l.filter p).length = l.length → l.all p = true
  | [], _ => rfl
  | c :: r, h => by
    by_cases q : p c = true
    · rw [List.filter_cons, if_pos q, List.length_cons, List.length_cons] at h
      rw [List.all_cons, q, filt_len (by omega)]; rfl
    · rw [List.filter_cons, if_neg q, List.length_cons] at h
      have := List.length_filter_le p r
      omega
def digF : IV → Option IV
  | .str x => if (match x.cps.toList with | c :: _ => isD c | [] => false) then some (.str x) else none
  | _ => none
theorem is_number_ok {w : Str} (hl : w.length ≤ 1000) (k : P (.bl (isNum w)) st) : (F_is_number [.str w] st).wp P E := by
  simp [F_is_number, B_is_number]
  have fm : ∀ l : List Nat, ((l.map fun c => IV.str ⟨#[c]⟩).filterMap digF) = (l.filter isD).map fun c => IV.str ⟨#[c]⟩ := by
    intro l
    induction l with
    | nil => rfl
    | cons c r ih =>
      rw [List.map_cons, List.filterMap_cons, List.filter_cons, ih]
      by_cases q : isD c = true
      · simp [digF, q]
      · simp [digF, q]
  refine wp_lcL digF rfl (fun x hx => ?_) (by rw [List.length_nil, List.length_map, str_len]; omega) ?_
  · obtain ⟨c, hc, rfl⟩ := List.mem_map.mp hx
    have ind : gIn false (.str ⟨#[c]⟩) (.str "0123456789") st = .ok (.bl (isD c)) st := rfl
    simp [wipeI, ind, digF]
  · rw [List.nil_append, fm]
    have hle := List.length_filter_le isD w.cps.toList
    have e1 : (((w.cps.toList.filter isD).map fun c => IV.str ⟨#[c]⟩).length : Int) = ((w.cps.toList.filter isD).length : Int) := by simp
    generalize hD : ((w.cps.toList.filter isD).map fun c => IV.str ⟨#[c]⟩) = D at e1 ⊢
    generalize hn : (w.cps.toList.filter isD).length = n at e1 hle
    simp [e1]
    have sl := str_len (z := w)
    have no : isNum w = false → (isNum w = false) := id
    by_cases c1 : (1 : Int) ≤ (n : Int)
    · by_cases c2 : (n : Int) ≤ 3
      · by_cases c3 : (n : Int) = (w.length : Int)
        · have d1 : (1 : Int) ≤ (w.length : Int) := by omega
          have d2 : (w.length : Int) ≤ 3 := by omega
          have all : w.cps.toList.all isD = true := filt_len (by rw [hn, sl]; omega)
          cases e : w.cps.toList with
          | nil => rw [e] at sl; simp at sl; omega
          | cons c r =>
            have el : w.length = r.length + 1 := by rw [← sl, e]; rfl
            rw [e] at all
            by_cases c4 : c = 48
            · have k2 : isNum w = decide (w = "0") := by
                have a1 : decide (1 ≤ w.length) = true := decide_eq_true (by omega)
                have a2 : decide (w.length ≤ 3) = true := decide_eq_true (by omega)
                unfold isNum
                rw [e, a1, a2, all]
                simp only [List.head?_cons, c4, ne_eq, not_true_eq_false, decide_false, Bool.false_or, Bool.true_and]
                rw [Bool.eq_iff_iff, decide_eq_true_iff, decide_eq_true_iff]
                constructor
                · intro h
                  have : r = [] := List.eq_nil_of_length_eq_zero (by omega)
                  exact cps_ext (by rw [e, this, c4]; decide +kernel)
                · rintro rfl; decide +kernel
              rw [k2] at k
              simp [c3, d1, d2, zero_eq, c4]
              exact ⟨by omega, k⟩
            · have k2 : isNum w = true := by
                unfold isNum
                simp only [e, all, List.head?_cons, Bool.and_eq_true, decide_eq_true_eq, Bool.or_eq_true]
                refine ⟨by omega, by omega, trivial, .inl (by simpa using c4)⟩
              rw [k2] at k
              simp [c3, d1, d2, zero_eq, c4]
              exact ⟨by omega, k⟩
        · have k2 : isNum w = false := by
            unfold isNum
            have : w.cps.toList.all isD = false := by
              cases q : w.cps.toList.all isD with
              | false => rfl
              | true =>
                have : w.cps.toList.filter isD = w.cps.toList := List.filter_eq_self.mpr (List.all_eq_true.mp q)
                rw [this, sl] at hn
                omega
            simp [this]
          rw [k2] at k
          simp [c1, c2, c3]
          exact ⟨by omega, k⟩
      · have k2 : isNum w = false := by
          unfold isNum
          have : ¬ w.length ≤ 3 := by omega
          simp [this]
        rw [k2] at k
        simp [c1, c2]
        exact k
    · have k2 : isNum w = false := by
        unfold isNum
        by_cases q : w.length = 0
        · simp [q]
        · have : w.cps.toList.all isD = false := by
            cases q2 : w.cps.toList.all isD with
            | false => rfl
            | true =>
              have : w.cps.toList.filter isD = w.cps.toList := List.filter_eq_self.mpr (List.all_eq_true.mp q2)
              rw [this, sl] at hn
              omega
          simp [this]
      rw [k2] at k
      simp [c1]
      exact k
end
end K07
set_option Elab.async false
set_option linter.all false
set_option maxRecDepth 100000
set_option maxHeartbeats 4000000
namespace K07
open PySem PySem.Spec PyProof.Rows L2 Mi
theorem in_str_lst_map {st : Sto} {neg : Bool} {x : Str} {ys : List Str} : gIn neg (.str x) (.lst (ys.map .str)) st = .ok (.bl (if neg then !decide (x ∈ ys) else decide (x ∈ ys))) st := by rw [in_str_lst flat_map, inI_map]
theorem sne : ¬ (("column" : Str) = "sign") ∧ ¬ (("column" : Str) = "term") ∧ ¬ (("column" : Str) = "number") ∧ ¬ (("column" : Str) = "done") ∧ ¬ (("sign" : Str) = "column") ∧ ¬ (("sign" : Str) = "term") ∧ ¬ (("sign" : Str) = "number") ∧ ¬ (("sign" : Str) = "done") ∧ ¬ (("term" : Str) = "column") ∧ ¬ (("term" : Str) = "sign") ∧ ¬ (("term" : Str) = "number") ∧ ¬ (("term" : Str) = "done") ∧ ¬ (("number" : Str) = "column") ∧ ¬ (("number" : Str) = "sign") ∧ ¬ (("number" : Str) = "term") ∧ ¬ (("number" : Str) = "done") ∧ ¬ (("done" : Str) = "column") ∧ ¬ (("done" : Str) = "sign") ∧ ¬ (("done" : Str) = "term") ∧ ¬ (("done" : Str) = "number") := by decide +kernel
def tnS : List Str := ["term", "number"]
theorem mem_tn {s : Str} : s ∈ tnS ↔ s = "term" ∨ s = "number" := by simp [tnS]
/-! ### the law's own walk -/
def nextS (ws used : List Str) (s w : Str) : Option (Str × List Str) :=
  if s = "column" ∧ w ∈ ws ∧ w ∉ used then some ("sign", used ++ [w])
  else if s = "sign" ∧ w ∈ sgS then some (if w = "=" then "term" else "number", used)
  else if ((s = "term" ∨ s = "number") ∧ isNum w = true) ∨ (s = "term" ∧ w ∈ ws) then some ("done", used)
  else if s = "done" ∧ w = "," ∧ used.length < ws.length then some ("column", used)
  else none
def walkS (ws : List Str) : List Str → Str → List Str → Nat → Bool × Nat
  | [], s, _, n => (decide (s = "done"), n)
  | w :: r, s, used, n => match nextS ws used s w with
    | some (s', used') => walkS ws r s' used' (n + 1)
    | none => (decide (s = "done") && decide (w ≠ ","), n)
theorem tne : ¬ (("" : Str) = ",") ∧ ("" : Str) ∉ sgS ∧ isNum "" = false := by decide +kernel
theorem next_emp {ws used : List Str} {s : Str} (hw : ("" : Str) ∉ ws) : nextS ws used s "" = none := by
  simp [nextS, hw, tne]
theorem walk_le {ws : List Str} : ∀ {W : List Str} {s : Str} {used : List Str} {n : Nat}, (walkS ws W s used n).2 ≤ n + W.length
  | [], s, used, n => by simp [walkS]
  | w :: r, s, used, n => by
    rw [walkS]
    split
    · rename_i s' used' _
      have := walk_le (ws := ws) (W := r) (s := s') (used := used') (n := n + 1)
      rw [List.length_cons]; omega
    · simp
def WInv (W ws : List Str) (res : Bool × Nat) (lu : Nat) (st0 : Sto) (i : Nat) (ρ : Slots) (st : Sto) : Prop := ∃ s used a5 a6, ρ = [some (.v (.lst (W.map .str))), some (.v (.int 0)), some (.v (.lst (ws.map .str))), some (.v (.str s)), some (.v (.ref lu)), a5, a6] ∧
  i ≤ W.length ∧ walkS ws (W.drop i) s used i = res ∧ st[lu]? = some (.lst (used.map .str)) ∧ st.length = lu + 1 ∧ (∀ j, j < lu → st[j]? = st0[j]?) ∧ used.length ≤ i
theorem walk_ok {ws W : List Str} {st : Sto} {P : IV → Sto → Prop} {E : Str → List (Str × IV) → Sto → Prop} (hw : ("" : Str) ∉ ws) (hl : W.length ≤ 1000) (hT : ∀ w ∈ W, w.length ≤ 1000)
    (k : ∀ st', (∀ j, j < st.length → st'[j]? = st[j]?) → P (.tup [.bl (walkS ws W "column" [] 0).1, .int (walkS ws W "column" [] 0).2]) st') : (F_walk_sets [.lst (W.map .str), .int 0, .lst (ws.map .str)] st).wp P E := by
  simp [F_walk_sets, B_walk_sets]
  refine ⟨by omega, ?_⟩
  generalize hres : walkS ws W "column" [] 0 = res at k
  refine wp_for (WInv W ws res st.length st) ⟨"column", [], _, _, rfl, Nat.zero_le _, hres, by simp, by simp, fun j hj => List.getElem?_append_left hj, Nat.le_refl _⟩ ?_ ?_
  · rintro i x ρ st1 hx ⟨s, used, a5, a6, rfl, hi, e1, e2, e3, e4, e5⟩
    obtain ⟨hi2, rfl⟩ := rngI_get hx
    refine ⟨rfl, ?_⟩
    have ul : (used.map IV.str).length < 100000 := by rw [List.length_map]; omega
    have ei0 : (0 : Int) + (i : Int) = (i : Int) := by omega
    rw [ei0]
    -- the token
    obtain ⟨w, ew, e6, hwl⟩ : ∃ w : Str, (if (i : Int) < (W.length : Int) then atI (W.map IV.str) (i : Int) = some (.str w) else w = "") ∧ (res = match nextS ws used s w with | some (s', used') => walkS ws (W.drop (i + 1)) s' used' (i + 1) | none => (decide (s = "done") && decide (w ≠ ","), i)) ∧ w.length ≤ 1000 := by
      by_cases c : i < W.length
      · obtain ⟨w, ew, ed⟩ := drop_cons c
        refine ⟨w, ?_, ?_, hT w (List.mem_of_getElem? ew)⟩
        · rw [if_pos (by omega)]
          exact Mi.atI_at (by rw [List.getElem?_map, ew]; rfl)
        · rw [← e1, ed]; rfl
      · refine ⟨"", by rw [if_neg (by omega)], ?_, by decide +kernel⟩
        have : i = W.length := by omega
        rw [← e1, List.drop_eq_nil_of_le (by omega)]
        simp [next_emp hw, walkS, tne]
    have inext : nextS ws used s w ≠ none → i < W.length := fun hn => by
      apply Classical.byContradiction
      intro c
      rw [if_neg (by omega)] at ew
      rw [ew] at hn
      exact hn (next_emp hw)
    have i3 : ∀ (neg : Bool), gIn neg (.str w) (.lst [.str "=", .str "+=", .str "-="]) st1 = .ok (.bl (if neg then !decide (w ∈ sgS) else decide (w ∈ sgS))) st1 := fun neg => in_str_lst_map (ys := sgS)
    have i4 : ∀ (neg : Bool), gIn neg (.str s) (.lst [.str "term", .str "number"]) st1 = .ok (.bl (if neg then !decide (s ∈ tnS) else decide (s ∈ tnS))) st1 := fun neg => in_str_lst_map (ys := tnS)
    have il : ∀ (neg : Bool) (x : Str), gIn neg (.str x) (.lst (ws.map .str)) st1 = .ok (.bl (if neg then !decide (x ∈ ws) else decide (x ∈ ws))) st1 := fun neg x => in_str_lst_map
    have ir : ∀ (neg : Bool) (x : Str), gIn neg (.str x) (.ref st.length) st1 = .ok (.bl (if neg then !decide (x ∈ used) else decide (x ∈ used))) st1 := fun neg x => by rw [in_str_ref e2 flat_map, inI_map]
    have q1 : (st1.set st.length (.lst (used.map .str ++ [.str w])))[st.length]? = some (.lst ((used ++ [w]).map .str)) := by rw [set_get e2, List.map_append]; rfl
    have q2 : (st1.set st.length (.lst (used.map .str ++ [.str w]))).length = st.length + 1 := by rw [List.length_set, e3]
    have q3 : ∀ j, j < st.length → (st1.set st.length (.lst (used.map .str ++ [.str w])))[j]? = st[j]? := fun j hj => by rw [List.getElem?_set_ne (by omega)]; exact e4 j hj
    have goB : ∀ s', nextS ws used s w = some (s', used) → WInv W ws res st.length st (i + 1) [some (.v (.lst (W.map .str))), some (.v (.int 0)), some (.v (.lst (ws.map .str))), some (.v (.str s')), some (.v (.ref st.length)), some (.v (.int i)), some (.v (.str w))] st1 := fun s' hn =>
      ⟨s', used, _, _, rfl, inext (by rw [hn]; simp), by rw [e6, hn], e2, e3, e4, by omega⟩
    have goA : nextS ws used s w = some (("sign" : Str), used ++ [w]) → WInv W ws res st.length st (i + 1) [some (.v (.lst (W.map .str))), some (.v (.int 0)), some (.v (.lst (ws.map .str))), some (.v (.str "sign")), some (.v (.ref st.length)), some (.v (.int i)), some (.v (.str w))] (st1.set st.length (.lst (used.map .str ++ [.str w]))) := fun hn =>
      ⟨"sign", used ++ [w], _, _, rfl, inext (by rw [hn]; simp), by rw [e6, hn], q1, q2, q3, by rw [List.length_append]; simp only [List.length_cons, List.length_nil]; omega⟩
    have stop : nextS ws used s w = none → P (.tup [.bl (decide (s = "done") && decide (w ≠ ",")), .int i]) st1 := fun hn => by
      have kk := k st1 e4
      rw [e6, hn] at kk
      exact kk
    have lr := len_ref e2
    have inum : ∀ x : Str, x.length ≤ 1000 → F_is_number [.str x] st1 = .ok (.bl (isNum x)) st1 := fun x hx => by
      obtain ⟨v, s', e, rfl, rfl⟩ := eq_of_wp (is_number_ok (w := x) (st := st1) (P := fun v s' => v = .bl (isNum x) ∧ s' = st1) (E := nE) hx ⟨rfl, rfl⟩)
      exact e
    have inw := inum w hwl
    have ine := inum "" (by decide +kernel)
    have lul : (used.map IV.str).length = used.length := by simp
    by_cases c : (i : Int) < (W.length : Int)
    case' pos =>
      rw [if_pos c] at ew
      simp [L_walk_sets_1, c, ew, il, ir, i3, i4, lr, isLst_ref e2, app_ref e2 ul, inw, mem_tn]
    case' neg =>
      rw [if_neg c] at ew
      subst ew
      simp [L_walk_sets_1, c, il, ir, i3, i4, lr, isLst_ref e2, app_ref e2 ul, ine, mem_tn]
    all_goals
      clear il ir i3 i4 q1 q2 q3 e6 inext e1 k hx hres lr inum inw ine
      try clear ew
      unfold nextS at goA goB stop
      have hs : s = "column" ∨ s = "sign" ∨ s = "term" ∨ s = "number" ∨ s = "done" ∨ (s ≠ "column" ∧ s ≠ "sign" ∧ s ≠ "term" ∧ s ≠ "number" ∧ s ≠ "done") := by
        by_cases a : s = "column"
        · exact .inl a
        by_cases b : s = "sign"
        · exact .inr (.inl b)
        by_cases c : s = "term"
        · exact .inr (.inr (.inl c))
        by_cases d : s = "number"
        · exact .inr (.inr (.inr (.inl d)))
        by_cases e : s = "done"
        · exact .inr (.inr (.inr (.inr (.inl e))))
        exact .inr (.inr (.inr (.inr (.inr ⟨a, b, c, d, e⟩))))
      rcases hs with rfl | rfl | rfl | rfl | rfl | ⟨n1, n2, n3, n4, n5⟩
      all_goals
        simp [sne, *] at goA goB stop ⊢
        repeat' split
        all_goals simp_all [tne]
  · rintro ρ st1 ⟨s, used, a5, a6, rfl, hi, _⟩
    rw [rngI_len] at hi
    omega
end K07
set_option Elab.async false
set_option linter.all false
set_option maxRecDepth 100000
set_option maxHeartbeats 4000000
namespace K07
open PySem PySem.Spec PyProof.Rows L2 Mi
def endOf : Rs → Bool × Nat
  | .stuck j => (false, j)
  | .done _ j => (true, j)
theorem endOf_add {p : List SI} {r : Rs} : endOf (addS p r) = endOf r := by cases r <;> rfl
theorem ws_len {cs : List IV} : (wsO cs).length = cs.length := by simp [wsO]
theorem num_none {t : Str} : numO t = none ↔ isNum t = false := by
  constructor
  · intro h
    cases q : isNum t with
    | false => rfl
    | true =>
      obtain ⟨v, e⟩ := num_some q
      simp [numO, q, e] at h
  · exact numO_none
theorem term_none {cs : List IV} {s t : Str} : termO cs s t = none ↔ ¬ (isNum t = true ∨ (s = "=" ∧ t ∈ wsO cs)) := by
  unfold termO termT
  by_cases c : s = "="
  · simp only [c, if_true, true_and]
    cases q : colIx cs t with
    | none =>
      have := ws_col.mp q
      simp [this, num_none]
    | some k =>
      obtain ⟨hk, e⟩ := colIx_some q
      have : t ∈ wsO cs := mem_ws.mpr ⟨k, hk, e⟩
      simp [this]
  · simp [c, num_none]
theorem walk_rs {cs : List IV} (g : Good cs) : ∀ {f : Nat} {used : List Nat} {W : List Str} {n : Nat}, 4 ≤ f + used.length → used.length < cs.length → used.Nodup → (∀ x ∈ used, x < cs.length) → walkS (wsO cs) W "column" (used.map (wd cs)) n = endOf (rsO cs f used (W ++ [("" : Str)]) n)
  | 0, used, W, n, h, hl, hn, hu => by
    have := g.len
    omega
  | f + 1, used, [], n, h, hl, hn, hu => by
    have : colIx cs "" = none := ws_col.mpr (ws_ne g)
    simp [walkS, rsO, this, endOf, sne]
  | f + 1, used, w :: r, n, h, hl, hn, hu => by
    rw [List.cons_append, walkS]
    simp only [rsO]
    cases cc : colIx cs w with
    | none =>
      have n1 := ws_col.mp cc
      simp [nextS, n1, sne, endOf]
    | some k =>
      obtain ⟨hk, hw⟩ := colIx_some cc
      have inw : w ∈ wsO cs := mem_ws.mpr ⟨k, hk, hw⟩
      have um := used_mem g hk hu
      rw [hw] at um
      by_cases cu : k ∈ used
      · have u2 := um.mpr cu
        simp [nextS, inw, u2, sne, cu, endOf]
      · have u2 : w ∉ used.map (wd cs) := fun z => cu (um.mp z)
        have s1 : nextS (wsO cs) (used.map (wd cs)) "column" w = some (("sign" : Str), used.map (wd cs) ++ [w]) := by
          unfold nextS
          rw [if_pos ⟨rfl, inw, u2⟩]
        rw [s1]
        simp only [cu, if_false]
        cases r with
        | nil => simp [walkS, sne, tne, endOf]
        | cons s r =>
          rw [List.cons_append]
          simp only [walkS]
          by_cases cs1 : s ∈ sgS
          · have s2 : nextS (wsO cs) (used.map (wd cs) ++ [w]) "sign" s = some ((if s = "=" then ("term" : Str) else "number"), used.map (wd cs) ++ [w]) := by
              simp [nextS, sne, cs1]
            rw [s2]
            simp only [cs1, if_true]
            have sta : (if s = "=" then ("term" : Str) else "number") ≠ "column" ∧ (if s = "=" then ("term" : Str) else "number") ≠ "sign" ∧ (if s = "=" then ("term" : Str) else "number") ≠ "done" ∧ ((if s = "=" then ("term" : Str) else "number") = "term" ∨ (if s = "=" then ("term" : Str) else "number") = "number") ∧ ((if s = "=" then ("term" : Str) else "number") = "term" ↔ s = "=") := by
              by_cases c : s = "=" <;> simp [c, sne]
            generalize (if s = "=" then ("term" : Str) else "number") = sx at sta
            obtain ⟨x1, x2, x3, x4, x5⟩ := sta
            cases r with
            | nil => simp [walkS, x3, termO_ne g, endOf]
            | cons t r =>
              rw [List.cons_append]
              simp only [walkS]
              cases ct : termO cs s t with
              | none =>
                have tn := term_none.mp ct
                have s3 : nextS (wsO cs) (used.map (wd cs) ++ [w]) sx t = none := by
                  unfold nextS
                  rw [if_neg (fun z => x1 z.1), if_neg (fun z => x2 z.1), if_neg (fun z => tn (by
                    rcases z with ⟨_, z⟩ | ⟨z1, z2⟩
                    · exact .inl z
                    · exact .inr ⟨x5.mp z1, z2⟩)), if_neg (fun z => x3 z.1)]
                rw [s3]
                simp [x3, endOf]
              | some p =>
                have tn : isNum t = true ∨ (s = "=" ∧ t ∈ wsO cs) := by
                  apply Classical.byContradiction
                  intro z
                  rw [term_none.mpr z] at ct; cases ct
                have s3 : nextS (wsO cs) (used.map (wd cs) ++ [w]) sx t = some (("done" : Str), used.map (wd cs) ++ [w]) := by
                  unfold nextS
                  rw [if_neg (fun z => x1 z.1), if_neg (fun z => x2 z.1), if_pos (by
                    rcases tn with z | ⟨z1, z2⟩
                    · exact .inl ⟨x4, z⟩
                    · exact .inr ⟨x5.mpr z1, z2⟩)]
                rw [s3]
                simp only
                cases r with
                | nil => simp [walkS, tne, endOf]
                | cons y r =>
                  rw [List.cons_append]
                  simp only [walkS]
                  by_cases cy : y = ","
                  · simp only [cy, if_true]
                    by_cases cf : used.length + 1 = cs.length
                    · have s4 : nextS (wsO cs) (used.map (wd cs) ++ [w]) "done" "," = none := by
                        simp [nextS, sne, ws_len, cf]
                      rw [s4]
                      simp [cf, endOf]
                    · have s4 : nextS (wsO cs) (used.map (wd cs) ++ [w]) "done" "," = some (("column" : Str), used.map (wd cs) ++ [w]) := by
                        have : used.length + 1 < cs.length := by omega
                        simp [nextS, sne, ws_len, this]
                      rw [s4]
                      simp only [cf, if_false, endOf_add]
                      have ih := walk_rs g (f := f) (used := used ++ [k]) (W := r) (n := n + 1 + 1 + 1 + 1) (by rw [List.length_append]; simp only [List.length_cons, List.length_nil]; omega) (by rw [List.length_append]; simp only [List.length_cons, List.length_nil]; omega) (by
                        rw [List.nodup_append]
                        exact ⟨hn, by simp, fun a ha b hb => by
                          have : b = k := by simpa using hb
                          rw [this]; rintro rfl; exact cu ha⟩) (fun x hx => by
                        rcases List.mem_append.mp hx with hx | hx
                        · exact hu x hx
                        · rw [List.mem_singleton.mp hx]; exact hk)
                      rw [List.map_append, List.map_cons, List.map_nil, hw] at ih
                      exact ih
                  · have s4 : nextS (wsO cs) (used.map (wd cs) ++ [w]) "done" y = none := by
                      simp [nextS, sne, cy]
                    rw [s4]
                    simp [cy, endOf]
          · have s2 : nextS (wsO cs) (used.map (wd cs) ++ [w]) "sign" s = none := by
              simp [nextS, sne, cs1]
            rw [s2]
            simp [cs1, sne, endOf]
end K07
set_option Elab.async false
set_option linter.all false
set_option maxRecDepth 100000
set_option maxHeartbeats 4000000
namespace K07
open PySem PySem.Spec PyProof.Rows L2 Mi
/-! ### the law's own sets -/
abbrev LS := Nat × Str × Int × Int
def lsIV (p : LS) : IV := .tup [.int p.1, .str p.2.1, .int p.2.2.1, .int p.2.2.2]
structure LOk (cs : List IV) (p : LS) : Prop where
  lt : p.1 < cs.length
  sg : p.2.1 ∈ sgS
  src : p.2.2.1 = -1 ∨ (p.2.1 = "=" ∧ ∃ j : Nat, p.2.2.1 = j ∧ j < cs.length)
  n0 : 0 ≤ p.2.2.2
  n1 : p.2.2.2 < 1000
def natI (k : Nat) : IV := .int k
structure SD (n l a : Nat) (cs : List IV) (st0 : Sto) (i : Nat) (its : List LS) (L : List Nat) (st : Sto) : Prop where
  il : its.length = i
  nd : (its.map (·.1) ++ L).Nodup
  ltL : ∀ x ∈ L, x < cs.length
  ok : ∀ p ∈ its, LOk cs p
  sz : its.length + L.length = cs.length
  left : st[a]? = some (.lst (L.map natI))
  items : st[a + 1]? = some (.lst (its.map lsIV))
  bag : BagAt (n + 1 + 6 * i) l st
  len : st.length = a + 2
  keep : ∀ j, j < a → j ≠ l → st[j]? = st0[j]?
def SDI (n l lc a : Nat) (cs : List IV) (st0 : Sto) (i : Nat) (ρ : Slots) (st : Sto) : Prop := ∃ its L s4 s5 s6 s7, ρ = [some (.v (.ref l)), some (.v (.ref lc)), some (.v (.ref a)), some (.v (.ref (a + 1))), s4, s5, s6, s7] ∧ SD n l a cs st0 i its L st
section
variable {n l lc : Nat} {cs : List IV} {st : Sto} {P : IV → Sto → Prop} {E : Str → List (Str × IV) → Sto → Prop}
theorem lnumber_ok {t : Int} (hn : n < 1000000000000000) (hb : BagAt n l st) (h1 : 1 ≤ t) (h5 : t ≤ 5) (k : ∀ r st', 0 ≤ r → r < 1000 → BagAt (n + 2) l st' → Ups l st st' → P (.int r) st') : (F_number [.ref l, .int t] st).wp P E := by
  simp [F_number, B_number]
  refine draw_ok (by decide) (by decide) (by omega) hb fun r st1 r0 r1 hb1 hu1 => ?_
  simp
  split
  · refine draw_ok (by decide) (by decide) (by omega) hb1 fun r st2 r0 r1 hb2 hu2 => k r st2 r0 r1 hb2 (hu1.trans hu2)
  · refine draw_ok (by omega) (by omega) (by omega) hb1 fun r st2 r0 r1 hb2 hu2 => k r st2 r0 (by omega) hb2 (hu1.trans hu2)
theorem lsets_ok (hn : n < 100000000000000) (hb : BagAt n l st) (hc : st[lc]? = some (.lst cs)) (hne : lc ≠ l) (g : Good cs) (h0 : 0 < cs.length)
    (k : ∀ its li st', its ≠ [] → (∀ p ∈ its, LOk cs p) → (its.map (·.1)).Nodup → st'[li]? = some (.lst (its.map lsIV)) → st.length ≤ li → BagAt (n + 20) l st' → Keep2 l st st' → P (.ref li) st') : (F_sets [.ref l, .ref lc] st).wp P E := by
  have gl := g.len
  have hll : l < st.length := by obtain ⟨_, _, _, _, e, _⟩ := hb; exact (List.getElem?_eq_some_iff.mp e).1
  have hcl : lc < st.length := (List.getElem?_eq_some_iff.mp hc).1
  simp [F_sets, B_sets, len_ref hc]
  refine ⟨by omega, wp_lcL (fun x => some x) rfl (fun x hx => ?_) (by simp only [rngI_len, List.length_nil]; omega) ?_⟩
  · simp [wipeI]
  rw [List.nil_append, List.filterMap_some]
  have er : rngI 0 cs.length = (List.range cs.length).map natI := by
    unfold rngI
    refine List.map_congr_left fun i _ => ?_
    show IV.int (0 + (i : Int)) = IV.int (i : Int)
    rw [Int.zero_add]
  rw [er]
  have C2 : (st ++ [Mi.IO.lst ((List.range cs.length).map natI), Mi.IO.lst []])[lc]? = some (.lst cs) := by rw [List.getElem?_append_left hcl]; exact hc
  have B2 : BagAt n l (st ++ [Mi.IO.lst ((List.range cs.length).map natI), Mi.IO.lst []]) := by
    obtain ⟨g, a, b, c, e, r⟩ := hb
    exact ⟨g, a, b, c, by rw [List.getElem?_append_left hll]; exact e, r⟩
  have A2 : (st ++ [Mi.IO.lst ((List.range cs.length).map natI), Mi.IO.lst []])[st.length]? = some (.lst ((List.range cs.length).map natI)) := by simp
  have I2 : (st ++ [Mi.IO.lst ((List.range cs.length).map natI), Mi.IO.lst []])[st.length + 1]? = some (.lst []) := by rw [List.getElem?_append_right (by omega)]; simp
  have L2 : (st ++ [Mi.IO.lst ((List.range cs.length).map natI), Mi.IO.lst []]).length = st.length + 2 := by simp
  have K2 : ∀ j, j < st.length → (st ++ [Mi.IO.lst ((List.range cs.length).map natI), Mi.IO.lst []])[j]? = st[j]? := fun j hj => List.getElem?_append_left hj
  simp
  generalize hr : (List.range cs.length).map natI = rl at C2 B2 A2 I2 L2 K2 ⊢
  generalize st ++ [Mi.IO.lst rl, Mi.IO.lst []] = st1 at C2 B2 A2 I2 L2 K2 ⊢
  simp [len_ref C2]
  refine draw_ok (by omega) (by omega) (by omega) B2 fun r st2 r0 r1 hb2 hu2 => ?_
  simp
  refine ⟨by omega, wp_for (SDI n l lc st.length cs st) ⟨[], List.range cs.length, _, _, _, _, rfl, rfl, by simpa using List.nodup_range, fun x hx => by simpa using hx, by simp, by simp, by rw [hr]; exact (hu2.get _ (by omega)).trans A2, (hu2.get _ (by omega)).trans I2, hb2, by rw [hu2.len, L2], fun j hj hne2 => (hu2.get j hne2).trans (K2 j hj)⟩ ?_ ?_⟩
  · rintro i x ρ st3 hx ⟨its, L, s4, s5, s6, s7, rfl, I⟩
    obtain ⟨hi, rfl⟩ := rngI_get hx
    refine ⟨rfl, ?_⟩
    have il := I.il
    have sz := I.sz
    have Lp : 0 < L.length := by omega
    have hC : st3[lc]? = some (.lst cs) := (I.keep lc hcl hne).trans hc
    simp [L_sets_1, isLst_ref I.items, isLst_ref I.left, len_ref I.left]
    refine draw_ok (by omega) (by omega) (by omega) I.bag fun q st4 q0 q1 hb4 hu4 => ?_
    have left4 := (hu4.get st.length (by omega)).trans I.left
    have items4 := (hu4.get (st.length + 1) (by omega)).trans I.items
    obtain ⟨j, rfl⟩ : ∃ j : Nat, q = (j : Int) := ⟨q.toNat, by omega⟩
    have hj : j < L.length := by omega
    have ev : (L.map natI)[(j : Int).toNat]? = some (natI L[j]) := by rw [Int.toNat_natCast, List.getElem?_map, List.getElem?_eq_getElem hj]; rfl
    have ee : (L.map natI).eraseIdx (j : Int).toNat = (L.eraseIdx j).map natI := by
      rw [Int.toNat_natCast, List.eraseIdx_eq_take_drop_succ, List.eraseIdx_eq_take_drop_succ, List.map_append, List.map_take, List.map_drop]
    have pop := popAt_ref left4 (i := (j : Int)) (by omega) (by omega) ev
    rw [ee] at pop
    have pm : (L[j] :: L.eraseIdx j).Perm L := by
      have sp : L = L.take j ++ L[j] :: L.drop (j + 1) := by rw [← List.drop_eq_getElem_cons hj, List.take_append_drop]
      rw [List.eraseIdx_eq_take_drop_succ]
      exact (List.perm_middle.symm).trans (by rw [← sp])
    have le := List.length_eraseIdx_of_lt hj
    generalize L[j] = kx at pop pm ev
    generalize L.eraseIdx j = L' at pop pm le
    simp [pop]
    have hb5 : BagAt (n + 1 + 6 * i + 1) l (st4.set st.length (.lst (L'.map natI))) := bag_set hb4 (by omega) (Nat.le_refl _)
    have left5 : (st4.set st.length (.lst (L'.map natI)))[st.length]? = some (.lst (L'.map natI)) := set_get left4
    have items5 : (st4.set st.length (.lst (L'.map natI)))[st.length + 1]? = some (.lst (its.map lsIV)) := by rw [List.getElem?_set_ne (by omega)]; exact items4
    have len5 : (st4.set st.length (.lst (L'.map natI))).length = st.length + 2 := by rw [List.length_set, hu4.len, I.len]
    have keep5 : ∀ j, j < st.length → j ≠ l → (st4.set st.length (.lst (L'.map natI)))[j]? = st[j]? := fun j hj hne2 => by rw [List.getElem?_set_ne (by omega), hu4.get j hne2]; exact I.keep j hj hne2
    generalize st4.set st.length (.lst (L'.map natI)) = st5 at hb5 left5 items5 len5 keep5 ⊢
    have hkx : kx < cs.length := I.ltL kx (pm.mem_iff.mp List.mem_cons_self)
    obtain ⟨tt, ec, _, _, t1, t5⟩ := wd_at g hkx
    have nat_kx : natI kx = .int kx := rfl
    refine pick_ok (by simp) (by simp) (by omega) hb5 fun r st6 hr6 hb6 hu6 => ?_
    obtain ⟨sg, rfl, hsg⟩ : ∃ sg : Str, r = .str sg ∧ sg ∈ sgS := by
      simp only [List.mem_cons, List.not_mem_nil, or_false] at hr6
      rcases hr6 with rfl | rfl | rfl | rfl <;> exact ⟨_, rfl, by decide +kernel⟩
    have hsz : its.length + 1 + L'.length = cs.length := by omega
    -- what comes behind the source
    have fin : ∀ (src : Int) (m : Nat) (st7 : Sto), (src = -1 ∨ (sg = "=" ∧ ∃ j : Nat, src = j ∧ j < cs.length)) → m ≤ n + 1 + 6 * i + 4 → BagAt m l st7 → Ups l st6 st7 →
        ∀ D : Post, (∀ ρ st', SDI n l lc st.length cs st (i + 1) ρ st' → D.nx ρ st') → ((iDrop (iMtd gApp (iVar 3) (iCons (iTup (iCons (iVar 4) (iCons (iVar 6) (iCons (iVar 7) (iCons (iCall (arity 2 F_number) (iCons (iVar 0) (iCons (iIx (iIx (iVar 1) (iVar 4)) (iC (.int 1))) iNil))) iNil))))) iNil)))
          [some (.v (.ref l)), some (.v (.ref lc)), some (.v (.ref st.length)), some (.v (.ref (st.length + 1))), some (.v (natI kx)), some (.v (.int i)), some (.v (.str sg)), some (.v (.int src))] st7).wp D := fun src m st7 hsrc hm hb7 hu7 D hD => by
      have hu57 := hu6.trans hu7
      have items7 := (hu57.get (st.length + 1) (by omega)).trans items5
      have left7 := (hu57.get st.length (by omega)).trans left5
      have hC7 : st7[lc]? = some (.lst cs) := (hu57.get lc hne).trans ((keep5 lc hcl hne).trans hc)
      have em : (its.map lsIV).length < 100000 := by rw [List.length_map]; omega
      simp [nat_kx, isLst_ref items7, ix_ref hC7, Mi.atI_at ec]
      refine lnumber_ok (by omega) hb7 t1 t5 fun v st8 v0 v1 hb8 hu8 => ?_
      have hu58 := hu57.trans hu8
      have items8 := (hu58.get (st.length + 1) (by omega)).trans items5
      have left8 := (hu58.get st.length (by omega)).trans left5
      simp [app_ref items8 em]
      have e7 : its.map lsIV ++ [.tup [.int kx, .str sg, .int src, .int v]] = (its ++ [(kx, sg, src, v)]).map lsIV := by rw [List.map_append]; rfl
      rw [e7]
      have perm : (its.map (·.1) ++ [kx] ++ L').Perm (its.map (·.1) ++ L) := by
        rw [List.append_assoc]
        exact List.Perm.append_left _ pm
      refine hD _ _ ⟨its ++ [(kx, sg, src, v)], L', _, _, _, _, rfl, by rw [List.length_append, il]; rfl, ?_, fun x hx => I.ltL x (pm.mem_iff.mp (List.mem_cons_of_mem _ hx)), fun p hp => ?_, by rw [List.length_append]; exact hsz, by rw [List.getElem?_set_ne (by omega)]; exact left8, set_get items8, bag_set hb8 (by omega) (by omega), by rw [List.length_set, hu58.len, len5], fun j hj hne2 => by rw [List.getElem?_set_ne (by omega), hu58.get j hne2]; exact keep5 j hj hne2⟩
      · rw [List.map_append]
        exact perm.nodup_iff.mpr I.nd
      · rcases List.mem_append.mp hp with hp | hp
        · exact I.ok p hp
        · rw [List.mem_singleton.mp hp]; exact ⟨hkx, hsg, hsrc, v0, v1⟩
    simp
    by_cases c : sg = "="
    · subst c
      have len6 : ∀ st', Ups l st6 st' → st'[lc]? = some (.lst cs) := fun st' hu => ((hu6.trans hu).get lc hne).trans ((keep5 lc hcl hne).trans hc)
      simp
      refine draw_ok (by decide) (by decide) (by omega) hb6 fun r st7 r0 r1 hb7 hu7 => ?_
      simp only [wp_q, wps_q, wp_ok, wp_iBin, ev_C, op_eq_i, wp_asB, wp_bind]
      by_cases cr : r = 0
      · subst cr
        simp [len_ref (len6 st7 hu7)]
        refine draw_ok (by omega) (by omega) (by omega) hb7 fun r st8 r0 r1 hb8 hu8 => ?_
        refine fin r _ st8 ?_ ?_ hb8 (hu7.trans hu8) _ ?_
        · exact .inr ⟨rfl, r.toNat, by omega, by omega⟩
        · omega
        · exact fun ρ st' h => h
      · simp [cr]
        have f := fin (-1) _ st7 (.inl rfl) (by omega) hb7 hu7 ⟨SDI n l lc st.length cs st (i + 1), P, fun _ _ => False, fun _ _ => False, fun c fs _ st => E c fs st⟩ (fun ρ st' h => h)
        simp at f ⊢
        exact f
    · simp [c]
      have f := fin (-1) _ st6 (.inl rfl) (by omega) hb6 (.refl _ _) ⟨SDI n l lc st.length cs st (i + 1), P, fun _ _ => False, fun _ _ => False, fun c fs _ st => E c fs st⟩ (fun ρ st' h => h)
      simp at f ⊢
      exact f
  · rintro ρ st3 ⟨its, L, s4, s5, s6, s7, rfl, I⟩
    rw [rngI_len] at I
    refine ⟨rfl, ?_⟩
    simp
    have il := I.il
    have sz := I.sz
    refine k its (st.length + 1) st3 (fun z => by rw [z] at il; simp at il; omega) I.ok (List.nodup_append.mp I.nd).1 I.items (by omega) (I.bag.mono (by omega)) ⟨by rw [I.len]; omega, I.keep⟩
end
/-! ### their tokens -/
def tokL (cs : List IV) (p : LS) : Str := if p.2.2.1 < 0 then ((toString p.2.2.2 : String) : Str) else wd cs p.2.2.1.toNat
def trip (cs : List IV) (p : LS) : List Str := [wd cs p.1, p.2.1, tokL cs p]
def setW (cs : List IV) (its : List LS) : List Str := its.foldl (fun acc p => acc ++ (if acc = [] then [] else [("," : Str)]) ++ trip cs p) []
theorem setW_snoc {cs : List IV} {a : List LS} {p : LS} : setW cs (a ++ [p]) = setW cs a ++ (if setW cs a = [] then [] else [("," : Str)]) ++ trip cs p := by
  unfold setW; rw [List.foldl_append]; rfl
theorem num_all : ∀ n : Nat, n < 1000 → tokOk (((toString (n : Int) : String) : Str)).cps.toList = true ∧ (((toString (n : Int) : String) : Str)).length ≤ 8 ∧ okS ((toString (n : Int) : String) : Str) = true := by
  decide +kernel
theorem eq_nil_lst {n : Nat} {st : Sto} {xs : List IV} (h : xs.all (okV n) = true) (hn : n < 60) : gEq (.lst xs) (.lst []) st = .ok (.bl xs.isEmpty) st := by
  have e := ne_nil_lst (st := st) h hn
  unfold gNe at e
  unfold gEq
  cases q : eqB st (.lst xs) (.lst []) with
  | none => rw [q] at e; cases e
  | some b =>
    rw [q] at e
    simp only [R.ok.injEq, IV.bl.injEq, and_true] at e ⊢
    cases b <;> cases h2 : xs.isEmpty <;> simp_all
theorem sg_ts : ∀ s ∈ sgS, TS s := by
  have all : ∀ s ∈ sgS, tokOk s.cps.toList = true ∧ decide (s.length ≤ 8) = true ∧ okS s = true := by decide +kernel
  exact fun s hs => ⟨(all s hs).1, of_decide_eq_true (all s hs).2.1, (all s hs).2.2⟩
theorem wd_ts {cs : List IV} (g : Good cs) {k : Nat} (h : k < cs.length) : TS (wd cs k) := by
  have w := wd_wOk g h
  exact ⟨(word_tok w).1, word_len w, word_okS w⟩
theorem trip_ts {cs : List IV} (g : Good cs) {p : LS} (h : LOk cs p) : ∀ s ∈ trip cs p, TS s := by
  intro s hs
  simp only [trip, List.mem_cons, List.not_mem_nil, or_false] at hs
  rcases hs with rfl | rfl | rfl
  · exact wd_ts g h.lt
  · exact sg_ts _ h.sg
  · unfold tokL
    split
    · have h0 := h.n0
      have h1 := h.n1
      obtain ⟨m, e⟩ : ∃ m : Nat, p.2.2.2 = (m : Int) := ⟨p.2.2.2.toNat, by omega⟩
      rw [e]
      exact num_all m (by omega)
    · rename_i c
      rcases h.src with z | ⟨_, j, z, hj⟩
      · omega
      · rw [z, Int.toNat_natCast]; exact wd_ts g hj
theorem setW_ts {cs : List IV} (g : Good cs) {its : List LS} (h : ∀ p ∈ its, LOk cs p) : (∀ s ∈ setW cs its, TS s) ∧ (setW cs its).length ≤ 4 * its.length - 1 ∧ (its ≠ [] → setW cs its ≠ []) := by
  have key : ∀ i, i ≤ its.length → (∀ s ∈ setW cs (its.take i), TS s) ∧ (setW cs (its.take i)).length = 4 * i - 1 := by
    intro i
    induction i with
    | zero => exact fun _ => ⟨by simp [setW], rfl⟩
    | succ i ih =>
      intro hi
      obtain ⟨i1, i2⟩ := ih (by omega)
      have e : its.take (i + 1) = its.take i ++ [its[i]] := by rw [List.take_add_one, List.getElem?_eq_getElem (by omega)]; rfl
      rw [e, setW_snoc]
      refine ⟨fun s hs => ?_, ?_⟩
      · rcases List.mem_append.mp hs with hs | hs
        · rcases List.mem_append.mp hs with hs | hs
          · exact i1 s hs
          · split at hs
            · cases hs
            · rw [List.mem_singleton.mp hs]; exact ⟨by decide +kernel, by decide +kernel, by decide +kernel⟩
        · exact trip_ts g (h _ (List.getElem_mem (by omega))) s hs
      · rw [List.length_append, List.length_append, i2]
        by_cases c : i = 0
        · subst c
          simp [setW, trip]
        · have ne : setW cs (its.take i) ≠ [] := fun z => by rw [z] at i2; simp at i2; omega
          rw [if_neg ne]
          simp [trip]; omega
  obtain ⟨a, b⟩ := key its.length (Nat.le_refl _)
  rw [List.take_length] at a b
  refine ⟨a, by omega, fun hne z => ?_⟩
  rw [z] at b
  have := List.length_pos_iff.mpr hne
  simp at b; omega
section
variable {lc li : Nat} {cs : List IV} {its : List LS} {st : Sto} {P : IV → Sto → Prop} {E : Str → List (Str × IV) → Sto → Prop}
def STI (li lc : Nat) (cs : List IV) (its : List LS) (st0 : Sto) (i : Nat) (ρ : Slots) (st : Sto) : Prop := ∃ a3 a4 a5 a6, ρ = [some (.v (.ref li)), some (.v (.ref lc)), some (.v (.lst ((setW cs (its.take i)).map .str))), a3, a4, a5, a6] ∧ st = st0
theorem set_tokens_ok (hl : st[li]? = some (.lst (its.map lsIV))) (hc : st[lc]? = some (.lst cs)) (g : Good cs) (h : ∀ p ∈ its, LOk cs p) (hf : its.length ≤ 3)
    (k : P (.lst ((setW cs its).map .str)) st) : (F_set_tokens [.ref li, .ref lc] st).wp P E := by
  simp [F_set_tokens, B_set_tokens, items_ref hl]
  refine wp_for (STI li lc cs its st) ⟨_, _, _, _, rfl, rfl⟩ ?_ ?_
  · rintro i x ρ st1 hx ⟨a3, a4, a5, a6, rfl, rfl⟩
    rw [List.getElem?_map] at hx
    obtain ⟨p, hp, rfl⟩ := Option.map_eq_some_iff.mp hx
    have pm := List.mem_of_getElem? hp
    have hi := (List.getElem?_eq_some_iff.mp hp).1
    have ho := h p pm
    refine ⟨gokB_some hl, ?_⟩
    have tk : its.take (i + 1) = its.take i ++ [p] := by rw [List.take_add_one, hp]; rfl
    obtain ⟨ts, ln, _⟩ := setW_ts g (its := its.take i) fun q hq => h q (List.mem_of_mem_take hq)
    rw [List.length_take] at ln
    obtain ⟨tt, ec, _⟩ := wd_at g ho.lt
    have sn := setW_snoc (cs := cs) (a := its.take i) (p := p)
    have fin : ∀ a3 a4 a5 a6, STI li lc cs its st1 (i + 1) [some (.v (.ref li)), some (.v (.ref lc)), some (.v (.lst ((setW cs (its.take (i + 1))).map .str))), a3, a4, a5, a6] st1 := fun a3 a4 a5 a6 => ⟨_, _, _, _, rfl, rfl⟩
    rw [tk, sn] at fin
    generalize setW cs (its.take i) = V at ts ln fin
    have eqn := eq_nil_lst (n := 1) (st := st1) (xs := V.map IV.str) (List.all_eq_true.mpr fun x hx => by
      obtain ⟨w, hw, rfl⟩ := List.mem_map.mp hx
      exact okV_up (n := 0) (by decide) (ts w hw).2.2) (by decide)
    have emp : (V.map IV.str).isEmpty = decide (V = []) := by cases V <;> rfl
    rw [emp] at eqn
    have lv : (V.map IV.str).length ≤ 11 := by rw [List.length_map]; omega
    obtain ⟨kc, sg, src, v⟩ := p
    have e0 : lsIV (kc, sg, src, v) = .tup [.int kc, .str sg, .int src, .int v] := rfl
    rw [e0]
    have h0 := ho.n0
    have h1 := ho.n1
    have src' := ho.src
    have tokE : (if src < 0 then R.ok (IV.str ((toString v : String) : Str)) st1 else R.ok (IV.str (wd cs src.toNat)) st1) = R.ok (IV.str (tokL cs (kc, sg, src, v))) st1 := by
      unfold tokL; split <;> rfl
    simp only [List.map_append, trip] at fin
    generalize hVm : V.map IV.str = Vm at lv eqn fin ⊢
    have vs : v.natAbs ≤ 10000000000000000000000000000000000000000000000000000000000000000 := by
      simp only at h0 h1
      omega
    have gs : gStr [.int v] st1 = .ok (.str ((toString v : String) : Str)) st1 := by
      show (if _ then R.ok _ _ else .bad : R IV) = _
      rw [if_pos vs]
    by_cases cv : V = []
    · simp [L_set_tokens_1, eqn, cv, ix_ref hc, Mi.atI_at ec]
      simp [cv] at fin
      refine ⟨by omega, ?_⟩
      by_cases cs0 : src < 0
      · simp [cs0, gs]
        refine ⟨by omega, ?_⟩
        simpa [tokL, cs0] using fin _ _ _ _
      · obtain ⟨_, j, ej, hj⟩ : sg = "=" ∧ ∃ j : Nat, src = j ∧ j < cs.length := by
          rcases src' with z | z
          · exact absurd (show src = -1 from z) (by omega)
          · exact z
        obtain ⟨t2, ec2, _⟩ := wd_at g hj
        subst ej
        simp [cs0, Mi.atI_at ec2]
        refine ⟨by omega, ?_⟩
        simpa [tokL, cs0] using fin _ _ _ _
    · simp [L_set_tokens_1, eqn, cv, ix_ref hc, Mi.atI_at ec]
      simp [cv] at fin
      refine ⟨by omega, ?_⟩
      by_cases cs0 : src < 0
      · simp [cs0, gs]
        refine ⟨by omega, ?_⟩
        simpa [tokL, cs0] using fin _ _ _ _
      · obtain ⟨_, j, ej, hj⟩ : sg = "=" ∧ ∃ j : Nat, src = j ∧ j < cs.length := by
          rcases src' with z | z
          · exact absurd (show src = -1 from z) (by omega)
          · exact z
        obtain ⟨t2, ec2, _⟩ := wd_at g hj
        subst ej
        simp [cs0, Mi.atI_at ec2]
        refine ⟨by omega, ?_⟩
        simpa [tokL, cs0] using fin _ _ _ _
  · rintro ρ st1 ⟨a3, a4, a5, a6, rfl, rfl⟩
    refine ⟨gokB_some hl, ?_⟩
    rw [List.length_map, List.take_length]
    simp
    exact k
end
end K07
set_option Elab.async false
set_option linter.all false
set_option maxRecDepth 100000
set_option maxHeartbeats 4000000
namespace K07
open PySem PySem.Spec PyProof.Rows L2 Mi
theorem inI_nodup {es : List IV} {i : Nat} (nd : (es.map fst).Nodup) (hc : ∀ x ∈ es, colOk x = true) (hi : i < es.length) : inI (fst es[i]) ((es.take i).map fst) = false := by
  obtain ⟨w, t, e, _⟩ := col_shape (hc _ (List.getElem_mem hi))
  rw [e]
  show inI (.str w) _ = false
  cases q : inI (.str w) ((es.take i).map fst) with
  | false => rfl
  | true =>
    exfalso
    have m := inI_str.mp q
    have sp : es = es.take i ++ es[i] :: es.drop (i + 1) := by rw [← List.drop_eq_getElem_cons hi, List.take_append_drop]
    rw [sp, e, List.map_append, List.map_cons, List.nodup_append] at nd
    exact nd.2.2 _ m _ (List.mem_cons_self) rfl
theorem due_good {es : List IV} (g : Good es) (h0 : 0 < es.length) (hm : many es ≤ 36) : dueV es = .non := by
  refine due_fine (by omega) g.len (first_none fun j hj => ?_) (by omega)
  rw [bad_eq (List.getElem?_eq_getElem hj), g.col _ (List.getElem_mem hj), inI_nodup g.nd g.col hj]; rfl
theorem okv3 {es : List IV} (g : Good es) : es.all (okV 3) = true := List.all_eq_true.mpr fun x hx => okV_up (by decide) (List.all_eq_true.mp g.okv x hx)
theorem tabl {es : List IV} {l0 : Nat} {st : Sto} {P : IV → Sto → Prop} {E : Str → List (Str × IV) → Sto → Prop} (g : Good es) (h0 : 0 < es.length) (hm : many es ≤ 36) (h : st[l0]? = some (.ins "Table" []))
    (k : ∀ st', TabAt l0 es st' → Ups l0 st st' → P .non st') : (F_P_Table_init [.ref l0, .lst es] st).wp P E := by
  have d := due_good g h0 hm
  exact tab_ok h (okv3 g) (by have := g.len; omega) (fun i st' e _ => by rw [d] at e; cases e) fun st' _ _ hu ht => k st' ht hu
structure Core (n l lc lt : Nat) (cs : List IV) (st : Sto) : Prop where
  c : st[lc]? = some (.lst cs)
  t : TabAt lt cs st
  b : BagAt n l st
theorem Core.push {n l lc lt : Nat} {cs : List IV} {st : Sto} (h : Core n l lc lt cs st) (os : List Mi.IO) : Core n l lc lt cs (st ++ os) := by
  have ap : ∀ {j : Nat} {o : Mi.IO}, st[j]? = some o → (st ++ os)[j]? = some o := fun {j o} e => by rw [List.getElem?_append_left (List.getElem?_eq_some_iff.mp e).1]; exact e
  obtain ⟨g, a, b, c, e, r⟩ := h.b
  exact ⟨ap h.c, ap h.t, ⟨g, a, b, c, ap e, r⟩⟩
theorem Core.set {n l lc lt k : Nat} {cs : List IV} {st : Sto} {o : Mi.IO} (h : Core n l lc lt cs st) (h1 : k ≠ lc) (h2 : k ≠ lt) (h3 : k ≠ l) : Core n l lc lt cs (st.set k o) :=
  ⟨by rw [List.getElem?_set_ne h1]; exact h.c, by show (st.set k o)[lt]? = _; rw [List.getElem?_set_ne h2]; exact h.t, bag_set h.b h3 (Nat.le_refl _)⟩
theorem Core.keep {n m l lc lt : Nat} {cs : List IV} {st st' : Sto} (h : Core n l lc lt cs st) (hk : Keep2 l st st') (h1 : lc ≠ l) (h2 : lt ≠ l) (b : BagAt m l st') : Core m l lc lt cs st' :=
  ⟨(hk.get _ (List.getElem?_eq_some_iff.mp h.c).1 h1).trans h.c, (hk.get _ (List.getElem?_eq_some_iff.mp h.t).1 h2).trans h.t, b⟩
theorem Core.pre {n l lc lt : Nat} {cs : List IV} {st st' : Sto} (h : Core n l lc lt cs st) (hk : ∀ j, j < st.length → st'[j]? = st[j]?) : Core n l lc lt cs st' := by
  have ap : ∀ {j : Nat} {o : Mi.IO}, st[j]? = some o → st'[j]? = some o := fun {j o} e => (hk j (List.getElem?_eq_some_iff.mp e).1).trans e
  obtain ⟨g, a, b, c, e, r⟩ := h.b
  exact ⟨ap h.c, ap h.t, ⟨g, a, b, c, ap e, r⟩⟩
theorem wps_tg2 {i j : Nat} {x y : IV} {ρ : Slots} {st : Sto} {D : Post} (h : D.nx ((ρ.set i (some (.v x))).set j (some (.v y))) st) : (tgTup 2 (tgCons (tgName i) (tgCons (tgName j) tgNil)) (.tup [x, y]) ρ st).wp D := h
theorem fst_ws {cs : List IV} (g : Good cs) : cs.filterMap fstV = (wsO cs).map .str := by
  have h1 : cs.filterMap fstV = cs.map fst := by
    have hh := g.col
    clear g
    induction cs with
    | nil => rfl
    | cons x r ih =>
      obtain ⟨w, t, rfl, _, _, _⟩ := col_shape (hh x List.mem_cons_self)
      rw [List.filterMap_cons]
      show IV.str w :: r.filterMap fstV = _
      rw [ih fun y hy => hh y (List.mem_cons_of_mem _ hy)]; rfl
  rw [h1]
  refine List.ext_getElem (by simp [wsO]) fun k a b => ?_
  rw [List.length_map] at a
  obtain ⟨t, e, _⟩ := wd_at g a
  have e' : cs[k] = .tup [.str (wd cs k), .int t] := by rw [List.getElem?_eq_getElem a] at e; exact Option.some.inj e
  simp [wsO, e', fst]
end K07
set_option Elab.async false
set_option linter.all false
set_option maxRecDepth 100000
set_option maxHeartbeats 4000000
namespace K07
open PySem PySem.Spec PyProof.Rows L2 Mi
theorem Core.mono {n m l lc lt : Nat} {cs : List IV} {st : Sto} (h : Core n l lc lt cs st) (hm : n ≤ m) : Core m l lc lt cs st := ⟨h.c, h.t, h.b.mono hm⟩
section
variable {cs : List IV} {W : List Str} {z : Str} {gs : List (Nat × List Nat)} {x0 x1 x2 x3 x5 x6 x7 x8 x9 x11 x12 x13 x15 x16 x17 : Option SV} {lt lp : Nat} {st : Sto} {D : Post}
theorem toldV_or : (∃ o : Int, toldV cs W gs z = .lst [.int o]) ∨ ∃ J : Str, toldV cs W gs z = .str J := by
  unfold toldV
  cases rsT cs W with
  | stuck j => exact .inl ⟨_, rfl⟩
  | done its j =>
    simp only
    split
    · exact .inl ⟨_, rfl⟩
    · exact .inr ⟨_, rfl⟩
theorem tell_ok (ht : TabAt lt cs st) (g : Good cs) (h0 : 0 < cs.length) (hz : TxtG z W gs) (hT : Toks W)
    (k : ∀ a16 st', (∀ i, i < st.length → st'[i]? = st[i]?) → D.nx [x0, x1, x2, x3, some (.v (.ref lt)), x5, x6, x7, x8, x9, some (.v (.str z)), x11, x12, x13, some (.v (toldV cs W gs z)), x15, a16, x17] st') :
    (L_law_1 [x0, x1, x2, x3, some (.v (.ref lt)), x5, x6, x7, x8, x9, some (.v (.str z)), x11, x12, x13, some (.v (toldV cs W gs z)), x15, x16, x17] st).wp D := by
  simp [L_law_1]
  refine told_v ht g h0 hz hT fun st' hk _ => ?_
  have kk := fun a16 => k a16 st' hk
  rcases toldV_or (cs := cs) (W := W) (gs := gs) (z := z) with ⟨o, e⟩ | ⟨J, e⟩
  · rw [e] at kk ⊢
    have e1 : ∀ st, gNe (.lst [.int o]) (.lst [.int o]) st = .ok (.bl false) st := fun st => ne_self (n := 1) rfl (by decide)
    simp [e1, askT, isSubB]
    exact kk _
  · rw [e] at kk ⊢
    simp [askT, isSubB]
    exact kk _
theorem places_lenP : ∀ {its : List (Nat × List Nat)} {off : Nat}, (places its off).length = its.length
  | [], _ => rfl
  | (g, t) :: r, off => by rw [places, List.length_cons, List.length_cons, places_lenP]
theorem off_at {j : Nat} (hz : TxtG z W gs) (hj : j < W.length) : (offsV gs)[j]? = some (.int (offT gs z j)) := by
  have el : gs.length = W.length := by
    have := congrArg List.length hz.w
    simpa using this
  have pl : j < (places gs 0).length := by rw [places_lenP]; omega
  unfold offsV offT
  rw [List.getElem?_map, List.getElem?_eq_getElem pl]
  rfl
theorem off_end {j : Nat} (hz : TxtG z W gs) (hj : ¬ j < W.length) : offT gs z j = z.length := by
  have el : gs.length = W.length := by
    have := congrArg List.length hz.w
    simpa using this
  unfold offT
  rw [List.getElem?_eq_none (by rw [places_lenP]; omega)]
def LI (x0 x1 x2 x3 x5 x6 x7 x8 x9 x10 x11 x12 x13 x14 x17 : Option SV) (lt : Nat) (st : Sto) (_ : Nat) (ρ : Slots) (st' : Sto) : Prop := ∃ a15 a16, ρ = [x0, x1, x2, x3, some (.v (.ref lt)), x5, x6, x7, x8, x9, x10, x11, x12, x13, x14, a15, a16, x17] ∧ (∀ i, i < st.length → st'[i]? = st[i]?) ∧ st.length ≤ st'.length
/-- one turn of seven -/
theorem turn_ok {n l lc : Nat} (hn : n < 10000000000000) (K : Core n l lc lt cs st) (g : Good cs) (h0 : 0 < cs.length) (d1 : lc ≠ l) (d2 : lt ≠ l)
    (k : ∀ a9 a10 a11 a12 a13 a14 a15 a16 st', Core (n + 54) l lc lt cs st' → D.nx [x0, x1, some (.v (.ref l)), some (.v (.ref lc)), some (.v (.ref lt)), some (.v (.lst ((wsO cs).map .str))), x6, x7, x8, a9, a10, a11, a12, a13, a14, a15, a16, x17] st') :
    (L_law_2 [x0, x1, some (.v (.ref l)), some (.v (.ref lc)), some (.v (.ref lt)), some (.v (.lst ((wsO cs).map .str))), x6, x7, x8, x9, x11, x12, x13, x15, x16, x2, x3, x17] st).wp D := by
  have gl := g.len
  simp [L_law_2]
  refine lsets_ok (by omega) K.b K.c d1 g h0 fun its li st1 hne hok hnd hli hle hb1 hk1 => ?_
  have K1 := K.keep hk1 d1 d2 hb1
  have few : its.length ≤ 3 := by
    have := few_of_sub (xs := its.map (·.1)) (ys := List.range cs.length) hnd fun x hx => by
      obtain ⟨p, hp, rfl⟩ := List.mem_map.mp hx
      exact List.mem_range.mpr (hok p hp).lt
    simp at this; omega
  simp
  refine set_tokens_ok hli K1.c g hok few ?_
  simp
  refine odd_ok K1.c g fun odd ho1 ho2 ol => ?_
  simp
  obtain ⟨ts, tl, _⟩ := setW_ts g hok
  refine spoilt_ok (by omega) K1.b ts (by omega) ho1 ol (by omega) fun W st2 hT hA hb2 hu2 => ?_
  have K2 := K1.keep (Keep2.of hu2) d1 d2 hb2
  simp
  refine spread_ok (by omega) K2.b hT fun z gs ge lp st3 z1 z2 z3 z4 hb3 hk3 hlp => ?_
  have K3 := K2.keep hk3 d1 d2 hb3
  have hz : TxtG z W gs := ⟨⟨_, z1⟩, z2, z3, z4⟩
  have fewW := hT.few
  have hres := walk_rs g (f := 4) (used := []) (W := W) (n := 0) (by decide) (by simpa using h0) (by simp) (by simp)
  have w1 := walk_le (ws := wsO cs) (W := W) (s := "column") (used := []) (n := 0)
  rw [List.map_nil] at hres
  have q := fun (P : IV → Sto → Prop) (E : Str → List (Str × IV) → Sto → Prop) => @walk_ok (wsO cs) W st3 P E (ws_ne g) (by omega) (fun w hw => by have := hT.len w hw; omega)
  generalize walkS (wsO cs) W "column" [] 0 = res at q hres w1
  have hrs : res = endOf (rsT cs W) := hres
  simp
  show (F_walk_sets _ st3).wp _ _
  generalize hA' : F_walk_sets [IV.lst (List.map IV.str W), IV.int 0, IV.lst (List.map IV.str (wsO cs))] st3 = A at q ⊢
  apply q
  intro st4 hk4
  clear q hA'
  have K4 := K3.pre hk4
  have hlp4 := (hk4 lp (List.getElem?_eq_some_iff.mp hlp).1).trans hlp
  have lt4 := (List.getElem?_eq_some_iff.mp K4.t).1
  have jw := joinW (st := st4) hT
  have zl := hz.len
  simp [jw]
  have loop : ∀ V, V = toldV cs W gs z → (forL none (rngI 0 2) (tgName 15) L_law_1 (rngI 0 2) [x0, x1, some (.v (.ref l)), some (.v (.ref lc)), some (.v (.ref lt)), some (.v (.lst ((wsO cs).map .str))), x6, x7, x8, some (.v (.lst (W.map .str))), some (.v (.str z)), some (.v (.ref lp)), some (.v (.bl res.1)), some (.v (.int res.2)), some (.v V), x2, x3, x17] st4).wp D := fun V hV => by
    subst hV
    refine wp_for (LI x0 x1 _ _ _ x6 x7 x8 _ _ _ _ _ _ x17 lt st4) ⟨_, _, rfl, fun _ _ => rfl, Nat.le_refl _⟩ ?_ ?_
    · rintro i x ρ st5 hx ⟨a15, a16, rfl, hk, hl⟩
      refine ⟨rfl, ?_⟩
      simp
      refine tell_ok ((hk lt lt4).trans K4.t) g h0 hz hT fun b16 st6 hk6 => ⟨_, _, rfl, fun i hi => ?_, ?_⟩
      · rw [hk6 i (by omega), hk i hi]
      · have := len_of hk6; omega
    · rintro ρ st5 ⟨a15, a16, rfl, hk, hl⟩
      exact ⟨rfl, k _ _ _ _ _ _ _ _ _ ((K4.pre hk).mono (by omega))⟩
  simp only [wps_q] at loop
  have ix : ∀ j : Nat, j < W.length → atI (offsV gs) (j : Int) = some (.int (offT gs z j)) := fun j hj => atI_at (off_at hz hj)
  cases q : rsT cs W with
  | stuck j =>
    have tv : toldV cs W gs z = .lst [.int (offT gs z j)] := by unfold toldV; rw [q]
    rw [q] at hrs
    have r1 : res = (false, j) := hrs
    subst r1
    simp at loop ⊢
    by_cases cj : j < W.length
    · simp [cj, ix_ref hlp4, ix j cj]
      exact tv ▸ loop
    · rw [off_end hz cj] at tv
      simp [cj]
      exact ⟨by omega, tv ▸ loop⟩
  | done its j =>
    rw [q] at hrs
    have r1 : res = (true, j) := hrs
    subst r1
    simp at loop w1 ⊢
    by_cases cj : j < W.length
    · have tv : toldV cs W gs z = .lst [.int (offT gs z j)] := by unfold toldV; rw [q]; simp [cj]
      simp [cj, ix_ref hlp4, ix j cj]
      exact tv ▸ loop
    · have tv : toldV cs W gs z = .str (Txt.join " " W) := by unfold toldV; rw [q]; simp [cj]
      simp [cj]
      exact tv ▸ loop
end
def OI (ns : List Int) (_ : Nat) (ρ : Slots) (_ : Sto) : Prop := ∃ a1 a2 a3 a4 a5 a6 a7 a8 a9 a10 a11 a12 a13 a14 a15 a16 a17, ρ = [some (.v (.lst (ns.map .int))), a1, a2, a3, a4, a5, a6, a7, a8, a9, a10, a11, a12, a13, a14, a15, a16, a17]
def TInv (ns : List Int) (i0 l lc lt : Nat) (cs : List IV) (i : Nat) (ρ : Slots) (st : Sto) : Prop := ∃ a6 a7 a8 a9 a10 a11 a12 a13 a14 a15 a16 a17, ρ = [some (.v (.lst (ns.map .int))), some (.v (.int i0)), some (.v (.ref l)), some (.v (.ref lc)), some (.v (.ref lt)), some (.v (.lst ((wsO cs).map .str))), a6, a7, a8, a9, a10, a11, a12, a13, a14, a15, a16, a17] ∧ Core (40 + 60 * i) l lc lt cs st
theorem eq_cps : ("=0" : Str).cps.toList = [61, 48] ∧ ("=" : Str).cps.toList = [61] ∧ ("0" : Str).cps.toList = [48] ∧ (" = 0" : Str).cps.toList = [32, 61, 32, 48] ∧ (" " : Str).cps.toList = [32] := by decide +kernel
theorem three_txt {w : Str} (hw : wOk w = true) : TxtG (w ++ "=0") [w, "=", "0"] [(0, w.cps.toList), (0, ("=" : Str).cps.toList), (0, ("0" : Str).cps.toList)] ∧ Toks [w, "=", "0"] := by
  have wl := word_len hw
  obtain ⟨tk, mf⟩ := word_tok hw
  refine ⟨⟨⟨0, ?_⟩, rfl, ?_, ?_⟩, ⟨fun s hs => ?_, fun s hs => ?_, by simp⟩⟩
  · rw [build_flat, cps_app, eq_cps.1, eq_cps.2.1, eq_cps.2.2.1]
    simp [flatI']
  · refine fits_of (fun p hp => ?_) fun i p q hp hq => ?_
    · simp only [List.mem_cons, List.not_mem_nil, or_false] at hp
      rcases hp with rfl | rfl | rfl
      · exact tk
      · decide +kernel
      · decide +kernel
    · match i with
      | 0 =>
        simp at hp hq
        obtain ⟨rfl, rfl⟩ := And.intro hp hq
        exact .inr ⟨61, [], eq_cps.2.1, mf 61 (by decide +kernel)⟩
      | 1 =>
        simp at hp hq
        obtain ⟨rfl, rfl⟩ := And.intro hp hq
        exact .inr ⟨48, [], eq_cps.2.2.1, by decide +kernel⟩
      | i + 2 => simp at hq
  · rw [Str.length_append, show ("=0" : Str).length = 2 by decide +kernel]; omega
  · simp only [List.mem_cons, List.not_mem_nil, or_false] at hs
    rcases hs with rfl | rfl | rfl
    · exact tk
    · decide +kernel
    · decide +kernel
  · simp only [List.mem_cons, List.not_mem_nil, or_false] at hs
    rcases hs with rfl | rfl | rfl
    · exact wl
    · decide +kernel
    · decide +kernel
theorem three_join {w : Str} : Txt.join " " [w, "=", "0"] = w ++ " = 0" := by
  rw [join_cons (by simp), join_cons (by simp), join_one]
  exact cps_ext (by simp only [cps_app, eq_cps.1, eq_cps.2.1, eq_cps.2.2.1, eq_cps.2.2.2.1, eq_cps.2.2.2.2]; simp)
theorem three_rs {cs : List IV} (g : Good cs) (h0 : 0 < cs.length) : rsT cs [wd cs 0, "=", "0"] = .done [(0, "=", false, 0)] 3 := by
  have c0 : colIx cs (wd cs 0) = some 0 := by
    cases q : colIx cs (wd cs 0) with
    | none =>
      exact absurd (mem_ws.mpr ⟨0, h0, rfl⟩) (ws_col.mp q)
    | some k =>
      obtain ⟨hk, e⟩ := colIx_some q
      rw [wd_inj g hk h0 e]
  have c1 : colIx cs "0" = none := ws_col.mpr fun h => by
    obtain ⟨k, hk, e⟩ := mem_ws.mp h
    have := wd_wOk g hk
    rw [e] at this
    exact absurd this (by decide +kernel)
  have c2 : numO "0" = some 0 := by decide +kernel
  have c3 : ("=" : Str) ∈ sgS := by decide +kernel
  have c4 : ¬ (("" : Str) = ",") := tne.1
  unfold rsT
  simp [rsO, c0, c3, termO, termT, c1, c2, c4]
theorem law_true (ns : List Int) (hns : ns.length ≤ 63) : ∃ st', F_law [.lst (ns.map .int)] [] = .ok (.bl true) st' := by
  have main : (F_law [.lst (ns.map .int)] []).wp (fun v _ => v = .bl true) nE := by
    simp [F_law, B_law]
    refine ⟨by omega, ?_⟩
    refine wp_for (OI ns) ⟨_, _, _, _, _, _, _, _, _, _, _, _, _, _, _, _, _, rfl⟩ ?_ ?_
    · rintro i x ρ st hx ⟨a1, a2, a3, a4, a5, a6, a7, a8, a9, a10, a11, a12, a13, a14, a15, a16, a17, rfl⟩
      obtain ⟨hi, rfl⟩ := rngI_get hx
      refine ⟨rfl, ?_⟩
      simp [L_law_3]
      refine bag_ok (by omega) fun o hb => ?_
      generalize st.length = l at hb ⊢
      generalize st ++ [o] = st1 at hb ⊢
      simp
      refine columns_ok (by decide) hb fun cs st2 g h0 hm hc hb2 hl2 hk2 => ?_
      generalize hlc : st1.length = lc at hc hl2 ⊢
      have hll : l < lc := by obtain ⟨_, _, _, _, e, _⟩ := hb; rw [← hlc]; exact (List.getElem?_eq_some_iff.mp e).1
      simp [list_ref hc]
      have N3 : (st2 ++ [Mi.IO.ins "Table" []])[st2.length]? = some (.ins "Table" []) := by simp
      have C3 : (st2 ++ [Mi.IO.ins "Table" []])[lc]? = some (.lst cs) := by rw [List.getElem?_append_left (by omega)]; exact hc
      have B3 : BagAt 34 l (st2 ++ [Mi.IO.ins "Table" []]) := by
        obtain ⟨g, a, b, c, e, r⟩ := hb2
        exact ⟨g, a, b, c, by rw [List.getElem?_append_left (by omega)]; exact e, by simpa using r⟩
      have e2 : st2.length = lc + 2 := hl2
      generalize hlt : st2.length = lt at N3 e2 ⊢
      generalize st2 ++ [Mi.IO.ins "Table" []] = st3 at N3 C3 B3 ⊢
      refine tabl g h0 hm N3 fun st4 ht4 hu4 => ⟨rfl, ?_⟩
      have C4 := (hu4.get lc (by omega)).trans C3
      have K4 : Core 34 l lc lt cs st4 := ⟨C4, ht4, by
        obtain ⟨g, a, b, c, e, r⟩ := B3
        exact ⟨g, a, b, c, (hu4.get _ (by omega)).trans e, r⟩⟩
      have e1 : cs.filterMap fstV = (wsO cs).map .str := fst_ws g
      simp [items_ref C4]
      have hg4 : gokB (some (lc, cs)) st4 cs = true := gokB_some C4
      refine wp_lcL fstV hg4 (fun x hx => ?_) (by simp; have := g.len; omega) ?_
      · obtain ⟨w, t, rfl, t1, t5, hw⟩ := col_shape (g.col x hx)
        simp [wipeI, fstV]
      rw [List.nil_append, e1]
      simp
      refine wp_for (TInv ns i l lc lt cs) ⟨_, _, _, _, _, _, _, _, _, _, _, _, rfl, K4.mono (by omega)⟩ ?_ ?_
      · rintro j x ρ st5 hx5 ⟨a6, a7, a8, a9, a10, a11, a12, a13, a14, a15, a16, a17, rfl, K5⟩
        obtain ⟨hj, rfl⟩ := rngI_get hx5
        refine ⟨rfl, ?_⟩
        simp
        refine turn_ok (n := 40 + 60 * j) (by omega) K5 g h0 (by omega) (by omega) fun b9 b10 b11 b12 b13 b14 b15 b16 st6 K6 => ?_
        exact ⟨_, _, _, _, _, _, _, _, _, _, _, _, rfl, K6.mono (by omega)⟩
      · rintro ρ st5 ⟨a6, a7, a8, a9, a10, a11, a12, a13, a14, a15, a16, a17, rfl, K5⟩
        refine ⟨rfl, ?_⟩
        rw [rngI_len] at K5
        have wk := wd_wOk g h0
        have wl := word_len wk
        have hw0 : atI ((wsO cs).map IV.str) 0 = some (.str (wd cs 0)) := by
          refine atI_at (i := 0) ?_
          rw [List.getElem?_map]
          unfold wsO
          rw [List.getElem?_map, List.getElem?_range h0]; rfl
        have l4 : (" = 0" : Str).length = 4 := by decide +kernel
        have l2 : ("=0" : Str).length = 2 := by decide +kernel
        simp [hw0, l4]
        refine ⟨by omega, ?_⟩
        refine pick_ok (by simp) (by simp) (by omega) K5.b fun x st6 hx hb6 hu6 => ?_
        have K6 := K5.keep (Keep2.of hu6) (by omega) (by omega) hb6
        have hx1 : (∀ st, gIsi [x, .ty "str"] st = .ok (.bl false) st) := by
          simp only [List.mem_cons, List.not_mem_nil, or_false] at hx
          rcases hx with rfl | rfl | rfl | rfl | rfl | rfl | rfl <;> intro st <;> rfl
        have t0 : TxtG "" [] [] := ⟨⟨0, rfl⟩, rfl, rfl, by decide +kernel⟩
        have k0 : Toks [] := ⟨by simp, by simp, by simp⟩
        have v0 : toldV cs [] [] "" = .lst [.int 0] := by
          have c0 : colIx cs "" = none := ws_col.mpr (ws_ne g)
          have : rsT cs [] = .stuck 0 := by unfold rsT; simp [rsO, c0]
          unfold toldV
          rw [this]; rfl
        obtain ⟨t3, k3⟩ := three_txt wk
        have v3 : toldV cs [wd cs 0, "=", "0"] [(0, (wd cs 0).cps.toList), (0, ("=" : Str).cps.toList), (0, ("0" : Str).cps.toList)] (wd cs 0 ++ "=0") = .str (wd cs 0 ++ " = 0") := by
          unfold toldV
          rw [three_rs g h0]
          simp [three_join]
        have en : ∀ (o : Int) st, gNe (.lst [.int o]) (.lst [.int o]) st = .ok (.bl false) st := fun o st => ne_self (n := 1) rfl (by decide)
        simp
        refine told_odd hx1 fun st7 hk7 => ?_
        have K7 := K6.pre hk7
        simp [en]
        refine told_v K7.t g h0 t0 k0 fun st8 hk8 _ => ?_
        have K8 := K7.pre hk8
        rw [v0]
        simp [en, hw0, l2, l4]
        refine ⟨by omega, ?_⟩
        refine told_v K8.t g h0 t3 k3 fun st9 hk9 _ => ?_
        rw [v3]
        simp [hw0, l4]
        refine ⟨by omega, ?_⟩
        exact ⟨_, _, _, _, _, _, _, _, _, _, _, _, _, _, _, _, _, rfl⟩
    · rintro ρ st ⟨a1, a2, a3, a4, a5, a6, a7, a8, a9, a10, a11, a12, a13, a14, a15, a16, a17, rfl⟩
      refine ⟨rfl, ?_⟩
      simp
  obtain ⟨v, st', e, h⟩ := of_wp main
  rw [h] at e
  exact ⟨st', e⟩
end K07
open PySem PySem.W PyProof.Rows
set_option Elab.async false
set_option maxRecDepth 100000 in
set_option maxHeartbeats 0 in
theorem PySem.Challenge.cw_heldcursors_k07_sets_refused_holds : PySem.Challenge.rw_heldcursors_k07_sets_refused.Holds := by
  w_on; o_law; k_head; (case hw => w_witness2)
  k_fill
  refine L2.walk_of (l := PySem.Challenge.rw_heldcursors_k07_sets_refused) (n := 63) (k := 9) (x := "_law_script") (CX := fun w => L2.CX PySem.Challenge.rw_heldcursors_k07_sets_refused.prog w) (sp := fun w => Mi.spLaw _) rfl (by decide) rfl ⟨rfl, by decide, by decide⟩ (fun w h Y => PySem.W.kIn_of Y) ?F (fun _ _ a ns hl _ hS => ⟨a, ns, rfl, hS, hl, fun _ => rfl⟩) (fun _ _ _ _ _ h => by obtain ⟨_, _, _, _, _, _, _, _, _, _, _, _, z⟩ := h; exact z.elim)
  case F =>
    intro w mg fa h KX G hmg
    refine' K07.all_mk KX G hmg ?z_abs ?z_bool ?z_enumerate ?z_int ?z_isinstance ?z_len ?z_list ?z_max ?z_min ?z_range ?z_str ?z_tuple ?n_DIGITS ?n_KEPT ?l_KEPT ?d_KEPT ?n_LETTERS ?n_MOST_VALUES ?n_PAIRS ?l_PAIRS ?d_PAIRS ?n_Table ?n_Sets ?n_BadTable ?n_BadSets ?n_Stuck ?pg_Table ?hd_Table ?po_Table ?sa_Table ?pg_Sets ?hd_Sets ?po_Sets ?sa_Sets ?mk_Sets ?kc_Sets ?mk_Table ?kc_Table ?na_Sets_columns ?na_Sets_results ?na_Sets_table ?na_Sets_text ?na_Table_columns ?na_Table_every ?na_Table_tops ?xL_BadTable ?xr_BadTable ?xs_BadTable ?xe_BadTable ?xt_BadTable ?xk_BadTable ?xg_BadTable ?xh_BadTable ?xd_BadTable ?xn_BadTable ?xc_BadTable ?xu_BadTable ?xi_BadTable ?xf_BadTable ?l_BadTable_init ?c_BadTable_init ?k_BadTable_init ?xL_BadSets ?xr_BadSets ?xs_BadSets ?xe_BadSets ?xt_BadSets ?xk_BadSets ?xg_BadSets ?xh_BadSets ?xd_BadSets ?xn_BadSets ?xc_BadSets ?xu_BadSets ?xi_BadSets ?xf_BadSets ?l_BadSets_init ?c_BadSets_init ?k_BadSets_init ?xL_Stuck ?xr_Stuck ?xs_Stuck ?xe_Stuck ?xt_Stuck ?xk_Stuck ?xg_Stuck ?xh_Stuck ?xd_Stuck ?xn_Stuck ?xc_Stuck ?xu_Stuck ?xi_Stuck ?xf_Stuck ?l_Stuck_init ?c_Stuck_init ?k_Stuck_init ?a_bag ?l_bag ?c_bag ?k_bag ?a_draw ?l_draw ?c_draw ?k_draw ?a_kept ?l_kept ?c_kept ?k_kept ?a_word ?l_word ?c_word ?k_word ?a_columns ?l_columns ?c_columns ?k_columns ?a_P_is_column ?l_P_is_column ?c_P_is_column ?k_P_is_column ?a_P_Table_init ?i_P_Table_init ?l_P_Table_init ?c_P_Table_init ?k_P_Table_init ?a_pick ?l_pick ?c_pick ?k_pick ?a_spoilt ?l_spoilt ?c_spoilt ?k_spoilt ?a_set_tokens ?l_set_tokens ?c_set_tokens ?k_set_tokens ?a_number ?l_number ?c_number ?k_number ?a_sets ?l_sets ?c_sets ?k_sets ?a_odd ?l_odd ?c_odd ?k_odd ?a_sort ?l_sort ?c_sort ?k_sort ?a_spread ?l_spread ?c_spread ?k_spread ?a_is_number ?l_is_number ?c_is_number ?k_is_number ?a_walk_sets ?l_walk_sets ?c_walk_sets ?k_walk_sets ?a_P_token_end ?l_P_token_end ?c_P_token_end ?k_P_token_end ?a_P_tokens_of ?l_P_tokens_of ?c_P_tokens_of ?k_P_tokens_of ?a_P_passed ?l_P_passed ?c_P_passed ?k_P_passed ?a_P_read_column ?l_P_read_column ?c_P_read_column ?k_P_read_column ?a_P_read_number ?l_P_read_number ?c_P_read_number ?k_P_read_number ?a_P_read_term ?l_P_read_term ?c_P_read_term ?k_P_read_term ?a_P_read_sets ?l_P_read_sets ?c_P_read_sets ?k_P_read_sets ?a_P_spaced ?l_P_spaced ?c_P_spaced ?k_P_spaced ?a_P_Table_all_values ?i_P_Table_all_values ?l_P_Table_all_values ?c_P_Table_all_values ?k_P_Table_all_values ?a_P_term_value ?l_P_term_value ?c_P_term_value ?k_P_term_value ?a_P_new_values ?l_P_new_values ?c_P_new_values ?k_P_new_values ?a_P_Sets_init ?i_P_Sets_init ?l_P_Sets_init ?c_P_Sets_init ?k_P_Sets_init ?a_P_Sets_str ?i_P_Sets_str ?l_P_Sets_str ?c_P_Sets_str ?k_P_Sets_str ?a_told ?l_told ?c_told ?k_told ?a_law ?l_law ?c_law ?k_law ?hF
    (case z_abs => k_is); (case z_bool => k_is); (case z_enumerate => k_is); (case z_int => k_is)
    (case z_isinstance => k_is); (case z_len => k_is); (case z_list => k_is); (case z_max => k_is)
    (case z_min => k_is); (case z_range => k_is); (case z_str => k_is); (case z_tuple => k_is)
    (case n_DIGITS => k_is); (case n_KEPT => k_is); (case l_KEPT => k_is); (case d_KEPT => exact ⟨rfl, _, _, rfl, by decide, rfl⟩)
    (case n_LETTERS => k_is); (case n_MOST_VALUES => k_is); (case n_PAIRS => k_is); (case l_PAIRS => k_is)
    (case d_PAIRS => exact ⟨rfl, _, _, rfl, by decide, rfl⟩); (case n_Table => k_is); (case n_Sets => k_is); (case n_BadTable => k_is)
    (case n_BadSets => k_is); (case n_Stuck => k_is); (case pg_Table => k_is); (case hd_Table => k_is)
    (case po_Table => k_is); (case sa_Table => k_is); (case pg_Sets => k_is); (case hd_Sets => k_is)
    (case po_Sets => k_is); (case sa_Sets => k_is); (case mk_Sets => k_is); (case kc_Sets => k_is)
    (case mk_Table => k_is); (case kc_Table => k_is); (case na_Sets_columns => k_is); (case na_Sets_results => k_is)
    (case na_Sets_table => k_is); (case na_Sets_text => k_is); (case na_Table_columns => k_is); (case na_Table_every => k_is)
    (case na_Table_tops => k_is); (case xL_BadTable => k_is); (case xr_BadTable => rfl); (case xs_BadTable => k_is)
    (case xe_BadTable => k_is); (case xt_BadTable => k_is); (case xk_BadTable => k_is); (case xg_BadTable => k_is)
    (case xh_BadTable => k_is); (case xd_BadTable => k_is); (case xn_BadTable => k_is); (case xc_BadTable => k_is)
    (case xu_BadTable => first | rfl | k_is); (case xi_BadTable => k_is); (case xf_BadTable => k_is); (case l_BadTable_init => k_is)
    (case c_BadTable_init => k_is); (case k_BadTable_init => k_is); (case xL_BadSets => k_is); (case xr_BadSets => rfl)
    (case xs_BadSets => k_is); (case xe_BadSets => k_is); (case xt_BadSets => k_is); (case xk_BadSets => k_is)
    (case xg_BadSets => k_is); (case xh_BadSets => k_is); (case xd_BadSets => k_is); (case xn_BadSets => k_is)
    (case xc_BadSets => k_is); (case xu_BadSets => first | rfl | k_is); (case xi_BadSets => k_is); (case xf_BadSets => k_is)
    (case l_BadSets_init => k_is); (case c_BadSets_init => k_is); (case k_BadSets_init => k_is); (case xL_Stuck => k_is)
    (case xr_Stuck => rfl); (case xs_Stuck => k_is); (case xe_Stuck => k_is); (case xt_Stuck => k_is)
    (case xk_Stuck => k_is); (case xg_Stuck => k_is); (case xh_Stuck => k_is); (case xd_Stuck => k_is)
    (case xn_Stuck => k_is); (case xc_Stuck => k_is); (case xu_Stuck => first | rfl | k_is); (case xi_Stuck => k_is)
    (case xf_Stuck => k_is); (case l_Stuck_init => k_is); (case c_Stuck_init => k_is); (case k_Stuck_init => k_is)
    (case a_bag => k_is); (case l_bag => k_is); (case c_bag => k_is); (case k_bag => k_is)
    (case a_draw => k_is); (case l_draw => k_is); (case c_draw => k_is); (case k_draw => k_is)
    (case a_kept => k_is); (case l_kept => k_is); (case c_kept => k_is); (case k_kept => k_is)
    (case a_word => k_is); (case l_word => k_is); (case c_word => k_is); (case k_word => k_is)
    (case a_columns => k_is); (case l_columns => k_is); (case c_columns => k_is); (case k_columns => k_is)
    (case a_P_is_column => k_is); (case l_P_is_column => k_is); (case c_P_is_column => k_is); (case k_P_is_column => k_is)
    (case a_P_Table_init => k_is); (case i_P_Table_init => k_is); (case l_P_Table_init => k_is); (case c_P_Table_init => k_is)
    (case k_P_Table_init => k_is); (case a_pick => k_is); (case l_pick => k_is); (case c_pick => k_is)
    (case k_pick => k_is); (case a_spoilt => k_is); (case l_spoilt => k_is); (case c_spoilt => k_is)
    (case k_spoilt => k_is); (case a_set_tokens => k_is); (case l_set_tokens => k_is); (case c_set_tokens => k_is)
    (case k_set_tokens => k_is); (case a_number => k_is); (case l_number => k_is); (case c_number => k_is)
    (case k_number => k_is); (case a_sets => k_is); (case l_sets => k_is); (case c_sets => k_is)
    (case k_sets => k_is); (case a_odd => k_is); (case l_odd => k_is); (case c_odd => k_is)
    (case k_odd => k_is); (case a_sort => k_is); (case l_sort => k_is); (case c_sort => k_is)
    (case k_sort => k_is); (case a_spread => k_is); (case l_spread => k_is); (case c_spread => k_is)
    (case k_spread => k_is); (case a_is_number => k_is); (case l_is_number => k_is); (case c_is_number => k_is)
    (case k_is_number => k_is); (case a_walk_sets => k_is); (case l_walk_sets => k_is); (case c_walk_sets => k_is)
    (case k_walk_sets => k_is); (case a_P_token_end => k_is); (case l_P_token_end => k_is); (case c_P_token_end => k_is)
    (case k_P_token_end => k_is); (case a_P_tokens_of => k_is); (case l_P_tokens_of => k_is); (case c_P_tokens_of => k_is)
    (case k_P_tokens_of => k_is); (case a_P_passed => k_is); (case l_P_passed => k_is); (case c_P_passed => k_is)
    (case k_P_passed => k_is); (case a_P_read_column => k_is); (case l_P_read_column => k_is); (case c_P_read_column => k_is)
    (case k_P_read_column => k_is); (case a_P_read_number => k_is); (case l_P_read_number => k_is); (case c_P_read_number => k_is)
    (case k_P_read_number => k_is); (case a_P_read_term => k_is); (case l_P_read_term => k_is); (case c_P_read_term => k_is)
    (case k_P_read_term => k_is); (case a_P_read_sets => k_is); (case l_P_read_sets => k_is); (case c_P_read_sets => k_is)
    (case k_P_read_sets => k_is); (case a_P_spaced => k_is); (case l_P_spaced => k_is); (case c_P_spaced => k_is)
    (case k_P_spaced => k_is); (case a_P_Table_all_values => k_is); (case i_P_Table_all_values => k_is); (case l_P_Table_all_values => k_is)
    (case c_P_Table_all_values => k_is); (case k_P_Table_all_values => k_is); (case a_P_term_value => k_is); (case l_P_term_value => k_is)
    (case c_P_term_value => k_is); (case k_P_term_value => k_is); (case a_P_new_values => k_is); (case l_P_new_values => k_is)
    (case c_P_new_values => k_is); (case k_P_new_values => k_is); (case a_P_Sets_init => k_is); (case i_P_Sets_init => k_is)
    (case l_P_Sets_init => k_is); (case c_P_Sets_init => k_is); (case k_P_Sets_init => k_is); (case a_P_Sets_str => k_is)
    (case i_P_Sets_str => k_is); (case l_P_Sets_str => k_is); (case c_P_Sets_str => k_is); (case k_P_Sets_str => k_is)
    (case a_told => k_is); (case l_told => k_is); (case c_told => k_is); (case k_told => k_is)
    (case a_law => k_is); (case l_law => k_is); (case c_law => k_is); (case k_law => k_is)
    (case hF => exact K07.law_true)
