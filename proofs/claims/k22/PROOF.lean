import PyProof.Rows.All
import Wide.All
import OpenK.AllK
import Wide.FinOn
import KE.KStateDown
import HandS.ForMost
import HandS.Defaults
import HandS.Head0
import HandS.Head1
import HandS.Head2
import HandS.HeadEnd
import HandS.HeadHook1
import HandS.HeadHook2
import PySem.Challenge.RW_heldcursors_k22_rows_and_puts
import HandS.ForExc
import HandS.CallSlots
import HandS.SetKeys
import HandS.DictComp
import KE.KDictCopyH
import HandS.TupAny
import HandS.Wide
import HandS.IsInst
import HandS.FStr
import HandS.RaiseMore
import HandS.Flow
import HandS.ExcInit
import HandS.ExcField
import HandS.Zip
import HandS.Style
import HandS.OwnEq
import PyProof.InstNe
import HandS.Text
import HandS.Strs
import HandS.ClsMeth
import KE.DataCmp
import HandS.MakeKw
import HandS.SuiteRaise
import HandS.RaiseFrom
import HandS.ExcInitHot
import HandS.Finally
import KE.GoesEnum
import KE.GoesMore
import PyProof.Draws
import HandS.DictEq
import KE.KCallOwn
import PyProof.RulesMatch
import HandS.Deep
import KE.KOpsOwn
import PyProof.EqKinds
import PyProof.StrLawsTight
import PyProof.StrLawsChain
import HandS.Small
import HandS.Conv
import HandS.WordsDict
import HandS.SortInts
import HandS.MakeKwOnly
import HandS.Iter
import HandS.Property
import KE.SortData
import HandS.NoneIn
import PyProof.NeKinds
import HandS.TupLe
import HandS.SetFor
import HandS.TryMany
import HandS.ExcOwn
import KE.KExcIs
import PyProof.ReprRoads
import PyProof.ReprLen
set_option Elab.async false
set_option linter.all false
set_option maxRecDepth 100000
set_option maxHeartbeats 4000000
namespace Mi
open PySem PySem.Spec PyProof.Rows L2
inductive DC | non | bl (b : Bool) | int (i : Int) | str (s : Str)
def dcB : DC → Value → Bool
  | .non, .none => true
  | .bl b, .bool c => b == c
  | .int i, .int j _ => i == j
  | .str i, .str j _ => decide (i = j)
  | _, _ => false
def dcsB : List DC → List Value → Bool
  | [], [] => true
  | d :: ds, u :: us => dcB d u && dcsB ds us
  | _, _ => false
end Mi
namespace Mh
open PySem PySem.Spec PyProof.Rows L2 Mi
abbrev Fg := PySem.W.Frag
def glA (K : Fg) (x : Str) : Addr := match PySem.W.nsIn K mainGlobals x with
  | some (some (.ref a)) => a
  | _ => 0
def atA (K : Fg) (C : Addr) (m : Str) : Addr := match PySem.W.findIn K (.ref C) m with
  | some (some (.ref a)) => a
  | _ => 0
def tyV (K : Fg) (C : Addr) : Value := (PySem.W.typeIn K (.ref C)).getD .none
def intT (K : Fg) (x : Str) (i : Int) : Bool := match PySem.W.nsIn K mainGlobals x with
  | some (some (.int j _)) => decide (j = i)
  | _ => false
theorem intT_ok {K : Fg} {x : Str} {i : Int} (h : intT K x i = true) : ∃ t, PySem.W.nsIn K mainGlobals x = some (some (.int i t)) := by
  unfold intT at h
  split at h
  · rename_i j t e; rw [of_decide_eq_true h] at e; exact ⟨t, e⟩
  · cases h
def strT (K : Fg) (x z : Str) : Bool := match PySem.W.nsIn K mainGlobals x with
  | some (some (.str y _)) => decide (y = z)
  | _ => false
theorem strT_ok {K : Fg} {x z : Str} (h : strT K x z = true) : ∃ t, PySem.W.nsIn K mainGlobals x = some (some (.str z t)) := by
  unfold strT at h
  split at h
  · rename_i j t e; rw [of_decide_eq_true h] at e; exact ⟨t, e⟩
  · cases h
def tupT (K : Fg) (a : Addr) (ds : List DC) : Bool := match K.lookup a with
  | some ⟨.type c, _, .seq its _, _⟩ => decide (c = "tuple") && (decide (its.size ≤ 1000) && dcsB ds its.toList)
  | _ => false
theorem tupT_ok {K : Fg} {a : Addr} {ds : List DC} (h : tupT K a ds = true) : ∃ o, K.lookup a = some o ∧ o.cls = .type "tuple" ∧ ∃ (its : Array Value) (n : Nat), o.data = .seq its n ∧ its.size ≤ 1000 ∧ dcsB ds its.toList = true := by
  unfold tupT at h
  split at h
  · rename_i c d its n sl e
    obtain ⟨h1, h2⟩ := Bool.and_eq_true_iff.mp h
    obtain ⟨h2, h3⟩ := Bool.and_eq_true_iff.mp h2
    exact ⟨_, e, by rw [of_decide_eq_true h1], its, n, rfl, of_decide_eq_true h2, h3⟩
  · cases h
def excT (K : Fg) (C : Addr) : Bool := match K.lookup C with
  | some ⟨.type "type", _, .cls cd, sl⟩ => (match cd.mro, sl.toList with
    | .ref C' :: bm, [_, _, _, _, some (.builtin n), _] => decide (C' = C) && (decide (n = "ValueError.__new__") && (cd.hasDict && (!cd.hasDel && PySem.HandSPX.refsVE bm)))
    | _, _ => false)
  | _ => false
theorem excT_ok {K : Fg} {C : Addr} (h : excT K C = true) : ∃ (nm q : Str) (N : Addr) (bs bm : List Value) (sn : List Str) (sub : List Value) (ab : Bool) (col : Option Bool) (dd : Option Addr) (m0 m1 m2 m3 m5 : Option Value),
    K.lookup C = some (excClassObj nm q C N bs bm true sn sub ab col dd m0 m1 m2 m3 m5 "ValueError.__new__") ∧ PySem.HandSPX.refsVE bm = true := by
  unfold excT at h
  split at h
  · rename_i d cd sl e
    split at h
    · rename_i C' bm m0 m1 m2 m3 n m5 e1 e2
      obtain ⟨h1, h⟩ := Bool.and_eq_true_iff.mp h
      obtain ⟨h2, h⟩ := Bool.and_eq_true_iff.mp h
      obtain ⟨h3, h⟩ := Bool.and_eq_true_iff.mp h
      obtain ⟨h4, h5⟩ := Bool.and_eq_true_iff.mp h
      obtain ⟨nm, bs, mro, ns, q, hd, sn, sub, ab, col, hdel⟩ := cd
      have h1 := of_decide_eq_true h1
      have h2 := of_decide_eq_true h2
      have h6 : hdel = false := by cases hdel <;> simp_all
      simp only at e1 h3
      subst h1; subst h2; subst h3; subst h6; subst e1
      have es : sl = #[m0, m1, m2, m3, some (.builtin "ValueError.__new__"), m5] := by
        rw [← Array.toArray_toList (xs := sl), e2]
      subst es
      exact ⟨nm, q, ns, bs, bm, sn, sub, ab, col, d, m0, m1, m2, m3, m5, e, h5⟩
    · cases h
  · cases h
abbrev FnW : Type := Option (Str × Str × Arguments × FuncBody × Scope × Addr × List (Str × Addr) × Addr)
def fnAt (K : Fg) (a : Addr) : FnW := match K.lookup a with
  | some ⟨_, _, .func fd, _⟩ => some (fd.name, fd.qualname, fd.params, fd.body, fd.scope, fd.globals, fd.closure, fd.builtins)
  | _ => none
def fnV (x q : Str) (st : Stmt) : FnW := some (x, q, defArgs st, .stmts (defBody st), defScope st, mainGlobals, [], builtinsNs)
def dflT (K : Fg) (dV : Value) (ds : List DC) : Bool := match ds, dV with
  | [], .none => true
  | _ :: _, .ref T => (match K.lookup T with
    | some ⟨_, _, .seq its _, _⟩ => dcsB ds its.toList
    | _ => false)
  | _, _ => false
def kwdT (K : Fg) (kV : Value) (ks : List (Str × DC)) : Bool := match ks, kV with
  | [], _ => true
  | _ :: _, .ref D => ks.all fun q => (match PySem.W.nsIn K D q.1 with
    | some (some u) => dcB q.2 u
    | _ => false)
  | _, _ => false
def fnT (K : Fg) (a : Addr) (q : Str) (ds : List DC) (ks : List (Str × DC)) : Bool := PySem.W.keepIn K (.ref a) && (match K.lookup a with
  | some ⟨_, _, .func fd, _⟩ => PySem.W.codeIn K fd.code q && (dflT K fd.defaults ds && kwdT K fd.kwdefaults ks)
  | _ => false)
theorem ZuX {K : Fg} {a : Addr} {x q : Str} {st : Stmt} {ds : List DC} {ks : List (Str × DC)} (e : fnAt K a = fnV x q st) (c : fnT K a q ds ks = true) :
    ∃ (oc : Value) (od an : Option Addr) (sl : Array (Option Value)) (dV kV dc pm cd ct : Value), K.lookup a = some ⟨oc, od, .func (PySem.W.fnOf x q (defArgs st) (defBody st) (defScope st) dV kV dc pm an cd ct), sl⟩ ∧ PySem.W.codeIn K cd q = true ∧ PySem.W.keepIn K (.ref a) = true ∧ dflT K dV ds = true ∧ kwdT K kV ks = true := by
  unfold fnT at c
  obtain ⟨kp, c⟩ := Bool.and_eq_true_iff.mp c
  unfold fnAt at e
  cases g : K.lookup a with
  | none => rw [g] at c; cases c
  | some o =>
    obtain ⟨oc, od, dt, osl⟩ := o
    rw [g] at c e
    cases dt with
    | func fd =>
      obtain ⟨n1, n2, n3, n4, n5, n6, n7, n8, n9, n10, n11, n12, n13, n14, n15⟩ := fd
      have e2 : (some (n1, n2, n3, n4, n5, n6, n7, n15) : FnW) = some (x, q, defArgs st, .stmts (defBody st), defScope st, mainGlobals, [], builtinsNs) := e
      simp only [Option.some.injEq, Prod.mk.injEq] at e2
      obtain ⟨h1, h2, h3, h4, h5, h6, h7, h8⟩ := e2
      subst h1 h2 h3 h4 h5 h6 h7 h8
      have c3 : (PySem.W.codeIn K n13 n2 && (dflT K n8 ds && kwdT K n9 ks)) = true := c
      obtain ⟨k1, k2⟩ := Bool.and_eq_true_iff.mp c3
      obtain ⟨k3, k4⟩ := Bool.and_eq_true_iff.mp k2
      exact ⟨_, _, _, _, _, _, _, _, _, _, rfl, k1, kp, k3, k4⟩
    | _ => cases c
theorem fn_none {K : Fg} {a : Addr} {x q : Str} {st : Stmt} (e : fnAt K a = fnV x q st) (c : fnT K a q [] [] = true) :
    ∃ (oc : Value) (od an : Option Addr) (sl : Array (Option Value)) (kV dc pm cd ct : Value), K.lookup a = some ⟨oc, od, .func (PySem.W.fnOf x q (defArgs st) (defBody st) (defScope st) .none kV dc pm an cd ct), sl⟩ ∧ PySem.W.codeIn K cd q = true ∧ PySem.W.keepIn K (.ref a) = true := by
  obtain ⟨oc, od, an, sl, dV, kV, dc, pm, cd, ct, h1, h2, h3, h4, h5⟩ := ZuX e c
  have : dV = .none := by cases dV <;> first | rfl | cases h4
  subst this
  exact ⟨oc, od, an, sl, kV, dc, pm, cd, ct, h1, h2, h3⟩
abbrev Al : Type := Bool × List FnW
def obsX (ts : Fg → Bool) (ps : List (Fg → Addr)) (K : Fg) : Al := (ts K, ps.map fun p => fnAt K (p K))
def obsG (n : Nat) (ts : Fg → Bool) (ps : List (Fg → Addr)) (g : Addr → Option Obj) : Al := obsX ts ps (He.frG g (List.range n))
def hookX (n : Nat) (ts : Fg → Bool) (ps : List (Fg → Addr)) (vs : List FnW) : PySem.W.Hook where
  α := Al
  obs := fun s => obsG n ts ps s.heap.get?
  val := fun _ => (true, vs)
  says := fun _ h => ∃ K : Fg, K.In h ∧ obsX ts ps K = (true, vs)
  of := fun _ _ e => ⟨_, He.frG_in, e⟩
  keeps := fun _ _ _ ⟨K, hK, c⟩ k => ⟨K, PySem.W.Frag.In.keeps hK k, c⟩
theorem obsG_eq {n : Nat} {ts : Fg → Bool} {ps : List (Fg → Addr)} {vs : List FnW} {g : Addr → Option Obj} {s : Shared} (h : ∀ a, g a = s.heap.get? a) : obsG n ts ps g = (hookX n ts ps vs).obs s := by
  have e : g = s.heap.get? := funext h
  rw [e] <;> rfl
theorem obs_at {ts : Fg → Bool} {ps : List (Fg → Addr)} {vs : List FnW} {K : Fg} (c : obsX ts ps K = (true, vs)) (i : Nat) {p : Fg → Addr} {v : FnW} (hp : ps[i]? = some p := by rfl) (hv : vs[i]? = some v := by rfl) : fnAt K (p K) = v := by
  have e : ps.map (fun p => fnAt K (p K)) = vs := congrArg Prod.snd c
  have e2 : (ps.map fun p => fnAt K (p K))[i]? = vs[i]? := by rw [e]
  rw [List.getElem?_map, hp, hv] at e2
  exact Option.some.inj e2
theorem obs_ts {ts : Fg → Bool} {ps : List (Fg → Addr)} {vs : List FnW} {K : Fg} (c : obsX ts ps K = (true, vs)) : ts K = true := congrArg Prod.fst c
end Mh
namespace K22
open PySem PySem.Spec PyProof.Rows L2 Mi
def top (i : Nat) : Stmt := PySem.Challenge.pw_heldcursors_k22_rows_and_puts.main.body.getD i (.Pass ⟨0, 0, 0, 0⟩)
abbrev Z4s : Stmt := top 19
abbrev Z49 : Stmt := top 20
abbrev Z1S : Stmt := top 21
abbrev Z10 : Stmt := top 15
abbrev Zz : Stmt := inClass (top 16) 0
abbrev Z3n : Stmt := top 23
abbrev Z21 : Stmt := top 22
abbrev Z3A : Stmt := top 24
abbrev Zv : Stmt := inClass (top 16) 3
abbrev ZS : Stmt := top 10
abbrev ZB : Stmt := inClass (top 11) 1
abbrev ZC : Stmt := inClass (top 11) 0
abbrev Zu : Stmt := inClass (top 11) 4
abbrev Zr : Stmt := inClass (top 11) 7
abbrev ZF : Stmt := inClass (top 11) 9
abbrev s_put : Stmt := top 27
abbrev Z1o : Stmt := top 25
abbrev ZG : Stmt := inClass (top 11) 2
abbrev Zm : Stmt := inClass (top 11) 3
abbrev ZH : Stmt := inClass (top 11) 5
abbrev Z4t : Stmt := top 26
abbrev Z18 : Stmt := inClass (top 16) 4
abbrev Z3g : Stmt := top 28
abbrev Z2m : Stmt := top 18
abbrev s_law : Stmt := top 29
abbrev ZW : Stmt := inClass (top 3) 0
abbrev Z14 : Stmt := inClass (top 4) 0
abbrev Z1q : Stmt := inClass (top 6) 0
abbrev ZP : Stmt := inClass (top 5) 0
abbrev Z1F : Stmt := inClass (top 7) 0
def ts_0 (K : Mh.Fg) : Bool := decide (PySem.W.nsIn K mainGlobals "abs" = some none) && (decide (PySem.W.nsIn K mainGlobals "bool" = some none) && (decide (PySem.W.nsIn K mainGlobals "dict" = some none) && (decide (PySem.W.nsIn K mainGlobals "enumerate" = some none) && (decide (PySem.W.nsIn K mainGlobals "int" = some none) && (decide (PySem.W.nsIn K mainGlobals "isinstance" = some none) && (decide (PySem.W.nsIn K mainGlobals "len" = some none) && (decide (PySem.W.nsIn K mainGlobals "list" = some none) && (decide (PySem.W.nsIn K mainGlobals "max" = some none) && (decide (PySem.W.nsIn K mainGlobals "min" = some none) && (decide (PySem.W.nsIn K mainGlobals "range" = some none) && (decide (PySem.W.nsIn K mainGlobals "repr" = some none) && (decide (PySem.W.nsIn K mainGlobals "set" = some none) && (decide (PySem.W.nsIn K mainGlobals "sorted" = some none) && (decide (PySem.W.nsIn K mainGlobals "str" = some none) && (decide (PySem.W.nsIn K mainGlobals "tuple" = some none) && (decide (PySem.W.nsIn K mainGlobals "zip" = some none) && (decide (PySem.W.nsIn K mainGlobals "KEPT" = some (some (.ref (Mh.glA K "KEPT")))) && (Mh.tupT K (Mh.glA K "KEPT") [.str "add", .str "all", .str "and", .str "by", .str "change", .str "check", .str "copied", .str "cursor", .str "desc", .str "false", .str "hold", .str "in", .str "keep", .str "key", .str "kept", .str "live", .str "locked", .str "name", .str "none", .str "not", .str "or", .str "place", .str "reach", .str "remove", .str "shut", .str "true", .str "values", .str "version", .str "where", .str "when", .str "backward", .str "refused", .str "again", .str "skip"] && (Mh.strT K "LETTERS" "abcdefghijklmnopqrstuvwxyz")))))))))))))))))))
def ts_1 (K : Mh.Fg) : Bool := Mh.intT K "MOST_VALUES" 36 && (decide (PySem.W.nsIn K mainGlobals "Table" = some (some (.ref (Mh.glA K "Table")))) && (decide (PySem.W.nsIn K mainGlobals "Database" = some (some (.ref (Mh.glA K "Database")))) && (decide (PySem.W.nsIn K mainGlobals "BadTable" = some (some (.ref (Mh.glA K "BadTable")))) && (decide (PySem.W.nsIn K mainGlobals "BadRows" = some (some (.ref (Mh.glA K "BadRows")))) && (decide (PySem.W.nsIn K mainGlobals "NoRow" = some (some (.ref (Mh.glA K "NoRow")))) && (decide (PySem.W.nsIn K mainGlobals "BadValues" = some (some (.ref (Mh.glA K "BadValues")))) && (decide (PySem.W.nsIn K mainGlobals "Held" = some (some (.ref (Mh.glA K "Held")))) && (decide (PySem.W.nsIn K mainGlobals "HeldcursorsError" = some (some (.ref (Mh.glA K "HeldcursorsError")))) && (((PySem.W.clsIn K (Mh.glA K "NoRow")).isSome) && (decide (PySem.W.findIn K (.ref (Mh.glA K "NoRow")) "__getattribute__" = some (some (.builtin "BaseException.__getattribute__"))) && (decide (PySem.W.findIn K (.ref (Mh.glA K "NoRow")) "__getattr__" = some none) && (decide (PySem.W.subIn K (.ref (Mh.glA K "NoRow")) (.type "BaseException") = some true) && (decide (PySem.W.findIn K (.ref (Mh.glA K "NoRow")) "__class__" = some (some (.builtin "object.__class__"))) && (decide (PySem.W.mroIn K (Mh.glA K "NoRow") (.type "object") = some true) && (decide (PySem.W.specialIn K (.builtin "object.__class__") "__get__" = some (some (.builtin "getset_descriptor.__get__"))) && (decide (PySem.W.takesIn K (.builtin "object.__class__") = some true) && (decide (PySem.W.kitOne K (.ref (Mh.glA K "NoRow")) (.ref (Mh.glA K "Held")) = some false) && (decide (PySem.W.kitOne K (.ref (Mh.glA K "NoRow")) (.ref (Mh.glA K "HeldcursorsError")) = some true) && ((PySem.W.plainGet K (Mh.glA K "Table") Str.empty))))))))))))))))))))
def ts_2 (K : Mh.Fg) : Bool := (PySem.W.hasDictIn K (Mh.glA K "Table")) && ((PySem.W.plainOver K (Mh.glA K "Table")) && (decide (PySem.W.findIn K (.ref (Mh.glA K "Table")) "__setattr__" = some (some (.builtin "object.__setattr__"))) && ((PySem.W.plainGet K (Mh.glA K "Database") Str.empty) && ((PySem.W.hasDictIn K (Mh.glA K "Database")) && ((PySem.W.plainOver K (Mh.glA K "Database")) && (decide (PySem.W.findIn K (.ref (Mh.glA K "Database")) "__setattr__" = some (some (.builtin "object.__setattr__"))) && ((PySem.W.makesIn K (Mh.glA K "Database")) && ((PySem.W.keepIn K (.ref (Mh.glA K "Database"))) && ((PySem.W.makesIn K (Mh.glA K "Table")) && ((PySem.W.keepIn K (.ref (Mh.glA K "Table"))) && (decide (PySem.W.findIn K (.ref (Mh.glA K "Database")) "begun_at" = some none) && (decide (PySem.W.findIn K (.ref (Mh.glA K "Database")) "cursors" = some none) && (decide (PySem.W.findIn K (.ref (Mh.glA K "Database")) "events" = some none) && (decide (PySem.W.findIn K (.ref (Mh.glA K "Database")) "kept_rows" = some none) && (decide (PySem.W.findIn K (.ref (Mh.glA K "Database")) "points" = some none) && (decide (PySem.W.findIn K (.ref (Mh.glA K "Database")) "table" = some none) && (decide (PySem.W.findIn K (.ref (Mh.glA K "Database")) "written" = some none) && (decide (PySem.W.findIn K (.ref (Mh.glA K "Table")) "columns" = some none) && (decide (PySem.W.findIn K (.ref (Mh.glA K "Table")) "every" = some none))))))))))))))))))))
def ts_3 (K : Mh.Fg) : Bool := decide (PySem.W.findIn K (.ref (Mh.glA K "Table")) "tops" = some none) && (decide (PySem.W.subIn K (.type "NoneType") (.ref (Mh.glA K "Table")) = some false) && (decide (PySem.W.subIn K (.type "bool") (.ref (Mh.glA K "Table")) = some false) && (decide (PySem.W.subIn K (.type "int") (.ref (Mh.glA K "Table")) = some false) && (decide (PySem.W.subIn K (.type "str") (.ref (Mh.glA K "Table")) = some false) && (decide (PySem.W.subIn K (.type "tuple") (.ref (Mh.glA K "Table")) = some false) && (decide (PySem.W.subIn K (.type "list") (.ref (Mh.glA K "Table")) = some false) && (decide (PySem.W.subIn K (.type "dict") (.ref (Mh.glA K "Table")) = some false) && (decide (PySem.W.mroIn K (Mh.glA K "Table") (.type "object") = some true) && (decide (PySem.W.findIn K (.ref (Mh.glA K "Table")) "__ne__" = some (some (.builtin "object.__ne__"))) && ((PySem.W.isClsIn K (Mh.glA K "Table")) && (decide (PySem.W.typeIn K (.ref (Mh.glA K "Table")) = some (.type "type")) && (decide (PySem.W.findIn K (.ref (Mh.glA K "Table")) "__class__" = some (some (.builtin "object.__class__"))) && (decide (PySem.W.specialIn K (.builtin "object.__class__") "__get__" = some (some (.builtin "getset_descriptor.__get__"))) && (decide (PySem.W.takesIn K (.builtin "object.__class__") = some true) && (Mh.excT K (Mh.glA K "BadTable") && (decide (PySem.W.findIn K (.ref (Mh.glA K "BadTable")) "__setattr__" = some (some (.builtin "object.__setattr__"))) && (decide (PySem.W.subIn K (.ref (Mh.glA K "BadTable")) (.type "BaseException") = some true) && (decide (PySem.W.typeIn K (.ref (Mh.glA K "BadTable")) = some (.type "type")) && ((PySem.W.keepIn K (.ref (Mh.glA K "BadTable"))))))))))))))))))))))
def ts_4 (K : Mh.Fg) : Bool := decide (PySem.W.findIn K (.ref (Mh.glA K "BadTable")) "__getattribute__" = some (some (.builtin "BaseException.__getattribute__"))) && (decide (PySem.W.findIn K (.ref (Mh.glA K "BadTable")) "__getattr__" = some none) && ((PySem.W.hasDictIn K (Mh.glA K "BadTable")) && (decide (PySem.W.findIn K (.ref (Mh.glA K "BadTable")) "at" = some none) && ((PySem.W.isClsIn K (Mh.glA K "BadTable")) && (decide (PySem.W.subIn K (.ref (Mh.glA K "BadTable")) (.ref (Mh.glA K "BadTable")) = some true) && (decide (PySem.W.findIn K (.ref (Mh.glA K "BadTable")) "__init__" = some (some (.ref (Mh.atA K (Mh.glA K "BadTable") "__init__")))) && (decide (PySem.W.typeIn K (.ref (Mh.atA K (Mh.glA K "BadTable") "__init__")) = some (.type "function")) && (Mh.fnT K (Mh.atA K (Mh.glA K "BadTable") "__init__") "BadTable.__init__" [] [] && (Mh.excT K (Mh.glA K "BadRows") && (decide (PySem.W.findIn K (.ref (Mh.glA K "BadRows")) "__setattr__" = some (some (.builtin "object.__setattr__"))) && (decide (PySem.W.subIn K (.ref (Mh.glA K "BadRows")) (.type "BaseException") = some true) && (decide (PySem.W.typeIn K (.ref (Mh.glA K "BadRows")) = some (.type "type")) && ((PySem.W.keepIn K (.ref (Mh.glA K "BadRows"))) && (decide (PySem.W.findIn K (.ref (Mh.glA K "BadRows")) "__getattribute__" = some (some (.builtin "BaseException.__getattribute__"))) && (decide (PySem.W.findIn K (.ref (Mh.glA K "BadRows")) "__getattr__" = some none) && ((PySem.W.hasDictIn K (Mh.glA K "BadRows")) && (decide (PySem.W.findIn K (.ref (Mh.glA K "BadRows")) "at" = some none) && ((PySem.W.isClsIn K (Mh.glA K "BadRows")) && (decide (PySem.W.subIn K (.ref (Mh.glA K "BadRows")) (.ref (Mh.glA K "BadRows")) = some true))))))))))))))))))))
def ts_5 (K : Mh.Fg) : Bool := decide (PySem.W.findIn K (.ref (Mh.glA K "BadRows")) "__init__" = some (some (.ref (Mh.atA K (Mh.glA K "BadRows") "__init__")))) && (decide (PySem.W.typeIn K (.ref (Mh.atA K (Mh.glA K "BadRows") "__init__")) = some (.type "function")) && (Mh.fnT K (Mh.atA K (Mh.glA K "BadRows") "__init__") "BadRows.__init__" [] [] && (Mh.excT K (Mh.glA K "NoRow") && (decide (PySem.W.findIn K (.ref (Mh.glA K "NoRow")) "__setattr__" = some (some (.builtin "object.__setattr__"))) && (decide (PySem.W.subIn K (.ref (Mh.glA K "NoRow")) (.type "BaseException") = some true) && (decide (PySem.W.typeIn K (.ref (Mh.glA K "NoRow")) = some (.type "type")) && ((PySem.W.keepIn K (.ref (Mh.glA K "NoRow"))) && (decide (PySem.W.findIn K (.ref (Mh.glA K "NoRow")) "__getattribute__" = some (some (.builtin "BaseException.__getattribute__"))) && (decide (PySem.W.findIn K (.ref (Mh.glA K "NoRow")) "__getattr__" = some none) && ((PySem.W.hasDictIn K (Mh.glA K "NoRow")) && (decide (PySem.W.findIn K (.ref (Mh.glA K "NoRow")) "name" = some none) && ((PySem.W.isClsIn K (Mh.glA K "NoRow")) && (decide (PySem.W.subIn K (.ref (Mh.glA K "NoRow")) (.ref (Mh.glA K "NoRow")) = some true) && (decide (PySem.W.findIn K (.ref (Mh.glA K "NoRow")) "__init__" = some (some (.ref (Mh.atA K (Mh.glA K "NoRow") "__init__")))) && (decide (PySem.W.typeIn K (.ref (Mh.atA K (Mh.glA K "NoRow") "__init__")) = some (.type "function")) && (Mh.fnT K (Mh.atA K (Mh.glA K "NoRow") "__init__") "NoRow.__init__" [] [] && (Mh.excT K (Mh.glA K "BadValues") && (decide (PySem.W.findIn K (.ref (Mh.glA K "BadValues")) "__setattr__" = some (some (.builtin "object.__setattr__"))) && (decide (PySem.W.subIn K (.ref (Mh.glA K "BadValues")) (.type "BaseException") = some true))))))))))))))))))))
def ts_6 (K : Mh.Fg) : Bool := decide (PySem.W.typeIn K (.ref (Mh.glA K "BadValues")) = some (.type "type")) && ((PySem.W.keepIn K (.ref (Mh.glA K "BadValues"))) && (decide (PySem.W.findIn K (.ref (Mh.glA K "BadValues")) "__getattribute__" = some (some (.builtin "BaseException.__getattribute__"))) && (decide (PySem.W.findIn K (.ref (Mh.glA K "BadValues")) "__getattr__" = some none) && ((PySem.W.hasDictIn K (Mh.glA K "BadValues")) && (decide (PySem.W.findIn K (.ref (Mh.glA K "BadValues")) "given" = some none) && ((PySem.W.isClsIn K (Mh.glA K "BadValues")) && (decide (PySem.W.subIn K (.ref (Mh.glA K "BadValues")) (.ref (Mh.glA K "BadValues")) = some true) && (decide (PySem.W.findIn K (.ref (Mh.glA K "BadValues")) "__init__" = some (some (.ref (Mh.atA K (Mh.glA K "BadValues") "__init__")))) && (decide (PySem.W.typeIn K (.ref (Mh.atA K (Mh.glA K "BadValues") "__init__")) = some (.type "function")) && (Mh.fnT K (Mh.atA K (Mh.glA K "BadValues") "__init__") "BadValues.__init__" [] [] && (Mh.excT K (Mh.glA K "Held") && (decide (PySem.W.findIn K (.ref (Mh.glA K "Held")) "__setattr__" = some (some (.builtin "object.__setattr__"))) && (decide (PySem.W.subIn K (.ref (Mh.glA K "Held")) (.type "BaseException") = some true) && (decide (PySem.W.typeIn K (.ref (Mh.glA K "Held")) = some (.type "type")) && ((PySem.W.keepIn K (.ref (Mh.glA K "Held"))) && (decide (PySem.W.findIn K (.ref (Mh.glA K "Held")) "__getattribute__" = some (some (.builtin "BaseException.__getattribute__"))) && (decide (PySem.W.findIn K (.ref (Mh.glA K "Held")) "__getattr__" = some none) && ((PySem.W.hasDictIn K (Mh.glA K "Held")) && (decide (PySem.W.findIn K (.ref (Mh.glA K "Held")) "name" = some none))))))))))))))))))))
def ts_7 (K : Mh.Fg) : Bool := (PySem.W.isClsIn K (Mh.glA K "Held")) && (decide (PySem.W.subIn K (.ref (Mh.glA K "Held")) (.ref (Mh.glA K "Held")) = some true) && (decide (PySem.W.findIn K (.ref (Mh.glA K "Held")) "__init__" = some (some (.ref (Mh.atA K (Mh.glA K "Held") "__init__")))) && (decide (PySem.W.typeIn K (.ref (Mh.atA K (Mh.glA K "Held") "__init__")) = some (.type "function")) && (Mh.fnT K (Mh.atA K (Mh.glA K "Held") "__init__") "Held.__init__" [] [] && (decide (PySem.W.nsIn K mainGlobals "_law_draw" = some (some (.ref (Mh.glA K "_law_draw")))) && (Mh.fnT K (Mh.glA K "_law_draw") "_law_draw" [] [] && (decide (PySem.W.nsIn K mainGlobals "_law_pick" = some (some (.ref (Mh.glA K "_law_pick")))) && (Mh.fnT K (Mh.glA K "_law_pick") "_law_pick" [] [] && (decide (PySem.W.nsIn K mainGlobals "_law_columns" = some (some (.ref (Mh.glA K "_law_columns")))) && (Mh.fnT K (Mh.glA K "_law_columns") "_law_columns" [] [] && (decide (PySem.W.nsIn K mainGlobals "is_column" = some (some (.ref (Mh.glA K "is_column")))) && (Mh.fnT K (Mh.glA K "is_column") "is_column" [] [] && (decide (PySem.W.findIn K (.ref (Mh.glA K "Table")) "__init__" = some (some (.ref (Mh.atA K (Mh.glA K "Table") "__init__")))) && ((PySem.W.isFn K (.ref (Mh.atA K (Mh.glA K "Table") "__init__"))) && (Mh.fnT K (Mh.atA K (Mh.glA K "Table") "__init__") "Table.__init__" [] [] && (decide (PySem.W.nsIn K mainGlobals "_law_names" = some (some (.ref (Mh.glA K "_law_names")))) && (Mh.fnT K (Mh.glA K "_law_names") "_law_names" [] [] && (decide (PySem.W.nsIn K mainGlobals "_law_values" = some (some (.ref (Mh.glA K "_law_values")))) && (Mh.fnT K (Mh.glA K "_law_values") "_law_values" [] [])))))))))))))))))))
def ts_8 (K : Mh.Fg) : Bool := decide (PySem.W.nsIn K mainGlobals "_law_rows" = some (some (.ref (Mh.glA K "_law_rows")))) && (Mh.fnT K (Mh.glA K "_law_rows") "_law_rows" [] [] && (decide (PySem.W.findIn K (.ref (Mh.glA K "Table")) "__contains__" = some (some (.ref (Mh.atA K (Mh.glA K "Table") "__contains__")))) && ((PySem.W.isFn K (.ref (Mh.atA K (Mh.glA K "Table") "__contains__"))) && (Mh.fnT K (Mh.atA K (Mh.glA K "Table") "__contains__") "Table.__contains__" [] [] && (decide (PySem.W.nsIn K mainGlobals "check_rows" = some (some (.ref (Mh.glA K "check_rows")))) && (Mh.fnT K (Mh.glA K "check_rows") "check_rows" [] [] && (decide (PySem.W.findIn K (.ref (Mh.glA K "Database")) "give" = some (some (.ref (Mh.atA K (Mh.glA K "Database") "give")))) && ((PySem.W.isFn K (.ref (Mh.atA K (Mh.glA K "Database") "give"))) && (Mh.fnT K (Mh.atA K (Mh.glA K "Database") "give") "Database.give" [] [] && (decide (PySem.W.findIn K (.ref (Mh.glA K "Database")) "__init__" = some (some (.ref (Mh.atA K (Mh.glA K "Database") "__init__")))) && ((PySem.W.isFn K (.ref (Mh.atA K (Mh.glA K "Database") "__init__"))) && (Mh.fnT K (Mh.atA K (Mh.glA K "Database") "__init__") "Database.__init__" [] [] && (decide (PySem.W.findIn K (.ref (Mh.glA K "Database")) "rows" = some (some (.ref (Mh.atA K (Mh.glA K "Database") "rows")))) && ((PySem.W.isFn K (.ref (Mh.atA K (Mh.glA K "Database") "rows"))) && (Mh.fnT K (Mh.atA K (Mh.glA K "Database") "rows") "Database.rows" [] [] && (decide (PySem.W.findIn K (.ref (Mh.glA K "Database")) "is_held" = some (some (.ref (Mh.atA K (Mh.glA K "Database") "is_held")))) && ((PySem.W.isFn K (.ref (Mh.atA K (Mh.glA K "Database") "is_held"))) && (Mh.fnT K (Mh.atA K (Mh.glA K "Database") "is_held") "Database.is_held" [] [] && (decide (PySem.W.findIn K (.ref (Mh.glA K "Database")) "put" = some (some (.ref (Mh.atA K (Mh.glA K "Database") "put")))))))))))))))))))))))
def ts_9 (K : Mh.Fg) : Bool := (PySem.W.isFn K (.ref (Mh.atA K (Mh.glA K "Database") "put"))) && (Mh.fnT K (Mh.atA K (Mh.glA K "Database") "put") "Database.put" [] [] && (decide (PySem.W.nsIn K mainGlobals "_law_put" = some (some (.ref (Mh.glA K "_law_put")))) && (Mh.fnT K (Mh.glA K "_law_put") "_law_put" [] [] && (decide (PySem.W.nsIn K mainGlobals "_law_ascending" = some (some (.ref (Mh.glA K "_law_ascending")))) && (Mh.fnT K (Mh.glA K "_law_ascending") "_law_ascending" [] [] && (decide (PySem.W.findIn K (.ref (Mh.glA K "Database")) "__len__" = some (some (.ref (Mh.atA K (Mh.glA K "Database") "__len__")))) && ((PySem.W.isFn K (.ref (Mh.atA K (Mh.glA K "Database") "__len__"))) && (Mh.fnT K (Mh.atA K (Mh.glA K "Database") "__len__") "Database.__len__" [] [] && (decide (PySem.W.findIn K (.ref (Mh.glA K "Database")) "__contains__" = some (some (.ref (Mh.atA K (Mh.glA K "Database") "__contains__")))) && ((PySem.W.isFn K (.ref (Mh.atA K (Mh.glA K "Database") "__contains__"))) && (Mh.fnT K (Mh.atA K (Mh.glA K "Database") "__contains__") "Database.__contains__" [] [] && (decide (PySem.W.findIn K (.ref (Mh.glA K "Database")) "row" = some (some (.ref (Mh.atA K (Mh.glA K "Database") "row")))) && ((PySem.W.isFn K (.ref (Mh.atA K (Mh.glA K "Database") "row"))) && (Mh.fnT K (Mh.atA K (Mh.glA K "Database") "row") "Database.row" [] [] && (decide (PySem.W.nsIn K mainGlobals "_law_same" = some (some (.ref (Mh.glA K "_law_same")))) && (Mh.fnT K (Mh.glA K "_law_same") "_law_same" [] [] && (decide (PySem.W.findIn K (.ref (Mh.glA K "Table")) "__eq__" = some (some (.ref (Mh.atA K (Mh.glA K "Table") "__eq__")))) && ((PySem.W.isFn K (.ref (Mh.atA K (Mh.glA K "Table") "__eq__"))) && (Mh.fnT K (Mh.atA K (Mh.glA K "Table") "__eq__") "Table.__eq__" [] [])))))))))))))))))))
def ts_10 (K : Mh.Fg) : Bool := decide (PySem.W.nsIn K mainGlobals "_law_right" = some (some (.ref (Mh.glA K "_law_right")))) && (Mh.fnT K (Mh.glA K "_law_right") "_law_right" [] [] && (decide (PySem.W.nsIn K mainGlobals "_law_spring" = some (some (.ref (Mh.glA K "_law_spring")))) && (Mh.fnT K (Mh.glA K "_law_spring") "_law_spring" [] [] && (decide (PySem.W.nsIn K mainGlobals "law" = some (some (.ref (Mh.glA K "law")))) && (Mh.fnT K (Mh.glA K "law") "law" [] [])))))
def tg_0 (K : Mh.Fg) : Bool := ts_0 K && (ts_1 K && (ts_2 K && (ts_3 K)))
def tg_1 (K : Mh.Fg) : Bool := ts_4 K && (ts_5 K && (ts_6 K && (ts_7 K)))
def tg_2 (K : Mh.Fg) : Bool := ts_8 K && (ts_9 K && (ts_10 K))
def ts (K : Mh.Fg) : Bool := tg_0 K && (tg_1 K && (tg_2 K))
def hps_0 : List (Mh.Fg → Addr) := [fun K => (Mh.atA K (Mh.glA K "BadTable") "__init__"), fun K => (Mh.atA K (Mh.glA K "BadRows") "__init__"), fun K => (Mh.atA K (Mh.glA K "NoRow") "__init__"), fun K => (Mh.atA K (Mh.glA K "BadValues") "__init__"), fun K => (Mh.atA K (Mh.glA K "Held") "__init__"), fun K => (Mh.glA K "_law_draw"), fun K => (Mh.glA K "_law_pick"), fun K => (Mh.glA K "_law_columns"), fun K => (Mh.glA K "is_column"), fun K => (Mh.atA K (Mh.glA K "Table") "__init__"), fun K => (Mh.glA K "_law_names"), fun K => (Mh.glA K "_law_values"), fun K => (Mh.glA K "_law_rows"), fun K => (Mh.atA K (Mh.glA K "Table") "__contains__"), fun K => (Mh.glA K "check_rows")]
def hps_1 : List (Mh.Fg → Addr) := [fun K => (Mh.atA K (Mh.glA K "Database") "give"), fun K => (Mh.atA K (Mh.glA K "Database") "__init__"), fun K => (Mh.atA K (Mh.glA K "Database") "rows"), fun K => (Mh.atA K (Mh.glA K "Database") "is_held"), fun K => (Mh.atA K (Mh.glA K "Database") "put"), fun K => (Mh.glA K "_law_put"), fun K => (Mh.glA K "_law_ascending"), fun K => (Mh.atA K (Mh.glA K "Database") "__len__"), fun K => (Mh.atA K (Mh.glA K "Database") "__contains__"), fun K => (Mh.atA K (Mh.glA K "Database") "row"), fun K => (Mh.glA K "_law_same"), fun K => (Mh.atA K (Mh.glA K "Table") "__eq__"), fun K => (Mh.glA K "_law_right"), fun K => (Mh.glA K "_law_spring"), fun K => (Mh.glA K "law")]
def hps : List (Mh.Fg → Addr) := hps_0 ++ (hps_1)
def hvs_0 : List Mh.FnW := [Mh.fnV "__init__" "BadTable.__init__" ZW, Mh.fnV "__init__" "BadRows.__init__" Z14, Mh.fnV "__init__" "NoRow.__init__" Z1q, Mh.fnV "__init__" "BadValues.__init__" ZP, Mh.fnV "__init__" "Held.__init__" Z1F, Mh.fnV "_law_draw" "_law_draw" Z4s, Mh.fnV "_law_pick" "_law_pick" Z49, Mh.fnV "_law_columns" "_law_columns" Z1S, Mh.fnV "is_column" "is_column" Z10, Mh.fnV "__init__" "Table.__init__" Zz, Mh.fnV "_law_names" "_law_names" Z3n, Mh.fnV "_law_values" "_law_values" Z21, Mh.fnV "_law_rows" "_law_rows" Z3A, Mh.fnV "__contains__" "Table.__contains__" Zv, Mh.fnV "check_rows" "check_rows" ZS]
def hvs_1 : List Mh.FnW := [Mh.fnV "give" "Database.give" ZB, Mh.fnV "__init__" "Database.__init__" ZC, Mh.fnV "rows" "Database.rows" Zu, Mh.fnV "is_held" "Database.is_held" Zr, Mh.fnV "put" "Database.put" ZF, Mh.fnV "_law_put" "_law_put" s_put, Mh.fnV "_law_ascending" "_law_ascending" Z1o, Mh.fnV "__len__" "Database.__len__" ZG, Mh.fnV "__contains__" "Database.__contains__" Zm, Mh.fnV "row" "Database.row" ZH, Mh.fnV "_law_same" "_law_same" Z4t, Mh.fnV "__eq__" "Table.__eq__" Z18, Mh.fnV "_law_right" "_law_right" Z3g, Mh.fnV "_law_spring" "_law_spring" Z2m, Mh.fnV "law" "law" s_law]
def hvs : List Mh.FnW := hvs_0 ++ (hvs_1)
def Zqr : List PySem.Str := [.ofString "_wall", .ofString "HeldcursorsError", .ofString "BadTable", .ofString "BadRows", .ofString "BadValues", .ofString "NoRow", .ofString "Held", .ofString "LETTERS", .ofString "check_rows", .ofString "Database", .ofString "KEPT", .ofString "MOST_VALUES", .ofString "is_column", .ofString "Table", .ofString "_law_spring"]
def Zr6 : List PySem.Str := [.ofString "_law_draw", .ofString "_law_pick", .ofString "_law_columns", .ofString "_law_values", .ofString "_law_names", .ofString "_law_rows", .ofString "_law_ascending", .ofString "_law_same", .ofString "_law_put", .ofString "_law_right"]
def hnames : List PySem.Str := Zqr ++ (Zr6)
def hpg_0 : List (Mh.Fg → Addr) := hps_0 ++ (hps_1)
def hvg_0 : List Mh.FnW := hvs_0 ++ (hvs_1)
abbrev hR : PySem.W.OpenRow := PySem.W.OpenLaw.row PySem.Challenge.rw_heldcursors_k22_rows_and_puts
abbrev hq : Program := PySem.W.view hR.prog [29]
abbrev hk : PySem.W.Hook := Mh.hookX 2048 ts hps hvs
def hob (s : PySem.W.SharedT) : Mh.Al := Mh.obsG 2048 ts hps (HandSHeadRun.getT s)
theorem hob_eq (s : PySem.W.SharedT) : hob s = hk.obs s.abs := Mh.obsG_eq (HandSHeadRun.getT_eq s)
noncomputable abbrev hE (w : World) (os : OsState) : Option PySem.W.SharedT := HandSHeadRun.endF (HandSHeadRun.stepQ (HandSHeadRun.denQ HandSHeadRun.tabQ) hR.prog w) 40000 hR.prog w os
abbrev hKt (s : PySem.W.SharedT) : Mh.Fg := He.frG (HandSHeadRun.getT s) (List.range 2048)
set_option maxHeartbeats 0 in
theorem hr_a (w : World) : ∀ os : OsState, ((hE w os).map fun s => (HandSHeadRun.looksF hR.prog (PySem.W.boot_heap w.params) s.abs, HandSHeadRun.seenQ hq hnames (importedModules hR.prog.main.body) (fun s => PySem.W.xlAt hq [] s && PySem.W.recOk hR.toRowW.records s) s.abs)) = some (true, PySem.W.openGood hq hnames) := by
  intro os
  kernel_rfl
set_option maxHeartbeats 0 in
theorem hr_t0 (w : World) : ∀ os : OsState, ((hE w os).map fun s => tg_0 (hKt s) && tg_1 (hKt s)) = some true := by
  intro os
  kernel_rfl
set_option maxHeartbeats 0 in
theorem hr_t1 (w : World) : ∀ os : OsState, ((hE w os).map fun s => tg_2 (hKt s)) = some true := by
  intro os
  kernel_rfl
set_option maxHeartbeats 0 in
theorem hr_p0 (w : World) : ∀ os : OsState, ((hE w os).map fun s => (hpg_0.map (fun p => Mh.fnAt (hKt s) (p (hKt s))))) = some (hvg_0) := by
  intro os
  kernel_rfl
theorem hrun (w : World) : HandSHeadRun.RunEq hR hq hk hob 40000 hnames w := by
  intro os
  have ha := hr_a w os
  have hg0 := hr_t0 w os
  have hg1 := hr_t1 w os
  have hq0 := hr_p0 w os
  show (hE w os).map _ = _
  generalize hE w os = r at ha hg0 hg1 hq0 ⊢
  cases r with
  | none => cases ha
  | some s =>
    simp only [Option.map_some, Option.some.injEq, Prod.mk.injEq, Bool.and_eq_true] at ha hg0 hg1 hq0
    obtain ⟨ht0, ht1⟩ := hg0
    have ht2 := hg1
    have hp0 := hq0
    have e1 : ts (hKt s) = true := by unfold ts; rw [ht0, ht1, ht2]; rfl
    have e2 : hps.map (fun p => Mh.fnAt (hKt s) (p (hKt s))) = hvs := by
      have x : hps = hpg_0 := rfl
      have y : hvs = hvg_0 := rfl
      rw [x, y]; rw [hp0]
    have e3 : hob s = (true, hvs) := by
      show (ts (hKt s), hps.map fun p => Mh.fnAt (hKt s) (p (hKt s))) = (true, hvs)
      rw [e1, e2]
    show some (HandSHeadRun.looksF hR.prog (PySem.W.boot_heap w.params) s.abs, HandSHeadRun.seenQ hq hnames (importedModules hR.prog.main.body) (fun s => PySem.W.xlAt hq [] s && PySem.W.recOk hR.toRowW.records s) s.abs, hob s) = some (true, PySem.W.openGood hq hnames, (true, hvs))
    rw [ha.1, ha.2, e3]
end K22
set_option maxHeartbeats 2000000
namespace Mi
open PySem PySem.Spec PyProof.Rows L2
inductive IV where
  | non | bl (b : Bool) | int (i : Int) | str (x : Str) | ty (n : String)
  | ref (l : Nat) | tup (xs : List IV) | lst (xs : List IV) | ptp (xs : List IV)
inductive IO where
  | dead | lst (xs : List IV) | ins (c : Str) (fs : List (Str × IV)) | dic (kvs : List (Key × IV)) | xd (fs : List (Str × IV)) | dct (kvs : List (List Key × IV)) | set (ks : List Key) | nod (x : IV) | fdic (kvs : List (Key × IV))
inductive SV where
  | v (x : IV) | own (xs : List IV) | exn (l : Nat)
abbrev Sto := List IO
abbrev Slots := List (Option SV)
structure Gd where
  K : PySem.W.Frag
  mg : Str → Option Value
  P : Program
  w : World
abbrev gd (X : Cx) : Gd := ⟨X.K, X.mg, X.prog, X.w⟩
def kI : Key → IV
  | .inl i => .int i
  | .inr x => .str x
def DHo (P : Program) (w : World) (a : Addr) (xs : List (List Key × Addr × Value)) : HO := .ext fun h => ∃ o es ep, h.get? a = some o ∧ o.ExactDict ∧ o.data = .dict es ep ∧ es.toList = xs.map (entryOfKey (tupleKind (mixKind P w))) ∧ (xs.map (·.1)).Nodup
def NHo (P : Program) (w : World) (a : Addr) (u : Value) : HO := .ext fun h => h.DictOf (leafKind P w) a [(Leaf.none, u)]
@[simp] def IO.frz : IO → Bool
  | .dead => true
  | .fdic _ => true
  | _ => false
@[simp] def ND (o : IO) : Prop := o.frz = true → False
def Lv (m : List Addr) (st : Sto) (a : Addr) : Prop := ∃ (l : Nat) (o : IO), m[l]? = some a ∧ st[l]? = some o ∧ ND o
def Fz (m bs : List Addr) (st : Sto) (a : Addr) : Prop := ¬ Lv m st a ∧ a ∉ bs
def H0 : Hp := fun _ => none
def TupAt (G : Gd) (m bs : List Addr) (st : Sto) (H : Hp) (a : Addr) (vs : List V) : Prop := (Rd H a (.tup vs) ∧ Fz m bs st a) ∨ SqT G.K H0 a vs
def LstAt (G : Gd) (m bs : List Addr) (st : Sto) (H : Hp) (a : Addr) (vs : List V) : Prop := (Rd H a (.lst vs) ∧ Fz m bs st a) ∨ SqL G.K H0 a vs
def PtAt (m bs : List Addr) (st : Sto) (H : Hp) (a : Addr) (vs : List V) : Prop := ∃ o, H a = some (.frz o (.tup vs)) ∧ o.dict = none ∧ Fz m bs st a
mutual
def RV (G : Gd) (m bs : List Addr) (st : Sto) (H : Hp) : IV → V → Prop
  | .non, v => v = .non
  | .bl b, v => v = .bl b
  | .int i, v => v = .int i
  | .str x, v => v = .str x
  | .ty n, v => v = .ty n
  | .ref l, v => ∃ a, v = .ref a ∧ m[l]? = some a
  | .tup xs, v => ∃ a vs, v = .ref a ∧ TupAt G m bs st H a vs ∧ RVs G m bs st H xs vs
  | .lst xs, v => ∃ a vs, v = .ref a ∧ LstAt G m bs st H a vs ∧ RVs G m bs st H xs vs
  | .ptp xs, v => ∃ a vs, v = .ref a ∧ PtAt m bs st H a vs ∧ RVs G m bs st H xs vs
def RVs (G : Gd) (m bs : List Addr) (st : Sto) (H : Hp) : List IV → List V → Prop
  | [], vs => vs = []
  | x :: xs, vs => ∃ v r, vs = v :: r ∧ RV G m bs st H x v ∧ RVs G m bs st H xs r
end
theorem h0_rd {a : Addr} {u : HO} : ¬ Rd H0 a u := fun h => by
  rcases h with h | ⟨o, h⟩ <;> cases h
theorem sqt0 {K : PySem.W.Frag} {H : Hp} {a : Addr} {vs : List V} (h : SqT K H0 a vs) : SqT K H a vs := by
  rcases h with h | h
  · exact (h0_rd h).elim
  · exact .inr h
theorem sql0 {K : PySem.W.Frag} {H : Hp} {a : Addr} {vs : List V} (h : SqL K H0 a vs) : SqL K H a vs := by
  rcases h with h | h
  · exact (h0_rd h).elim
  · exact .inr h
theorem Zpm {K : PySem.W.Frag} {H : Hp} {a : Addr} {vs : List V} (h : SqL K H a vs) : Rd H a (.lst vs) ∨ SqL K H0 a vs := by
  rcases h with h | h
  · exact .inl h
  · exact .inr (.inr h)
theorem TupAt.sq {G : Gd} {m bs : List Addr} {st : Sto} {H : Hp} {a : Addr} {vs : List V} (h : TupAt G m bs st H a vs) : SqT G.K H a vs := by
  rcases h with ⟨h, _⟩ | h
  · exact .inl h
  · exact sqt0 h
theorem LstAt.sq {G : Gd} {m bs : List Addr} {st : Sto} {H : Hp} {a : Addr} {vs : List V} (h : LstAt G m bs st H a vs) : SqL G.K H a vs := by
  rcases h with ⟨h, _⟩ | h
  · exact .inl h
  · exact sql0 h
def NX (o : HO) : Prop := ∀ fs, o ≠ .xd fs
theorem nxl {xs : List V} : NX (.lst xs) := fun _ h => by cases h
theorem nxt {xs : List V} : NX (.tup xs) := fun _ h => by cases h
theorem nxf {o : Obj} {u : HO} : NX (.frz o u) := fun _ h => by cases h
structure Grow (m : List Addr) (st : Sto) (os : List Addr) (H : Hp) (m' : List Addr) (st' : Sto) (os' : List Addr) (H' : Hp) : Prop where
  pre : m <+: m'
  keep : ∀ a o, H a = some o → ¬ Lv m st a → a ∉ os → NX o → H' a = some o ∧ ¬ Lv m' st' a ∧ a ∉ os'
  stay : ∀ a, H' a = none → H a = none
theorem Grow.refl {m st os H} : Grow m st os H m st os H := ⟨List.prefix_refl _, fun _ _ h n q _ => ⟨h, n, q⟩, fun _ h => h⟩
theorem Grow.trans {m st os H m1 st1 os1 H1 m2 st2 os2 H2} (a : Grow m st os H m1 st1 os1 H1) (b : Grow m1 st1 os1 H1 m2 st2 os2 H2) : Grow m st os H m2 st2 os2 H2 :=
  ⟨a.pre.trans b.pre, fun x o h n q nx => let ⟨h1, n1, q1⟩ := a.keep x o h n q nx; b.keep x o h1 n1 q1 nx, fun x h => a.stay x (b.stay x h)⟩
abbrev GrowE (m : List Addr) (st : Sto) (H : Hp) (m' : List Addr) (st' : Sto) (H' : Hp) : Prop := Grow m st [] H m' st' [] H'
theorem Grow.ofE {m st H m' st' H'} {os : List Addr} (g : GrowE m st H m' st' H') : Grow m st os H m' st' os H' :=
  ⟨g.pre, fun a o h n q nx => let ⟨h1, n1, _⟩ := g.keep a o h n (by simp) nx; ⟨h1, n1, q⟩, g.stay⟩
theorem Grow.at {m st os H m' st' os' H'} (g : Grow m st os H m' st' os' H') {l : Nat} {a : Addr} (h : m[l]? = some a) : m'[l]? = some a := by
  obtain ⟨t, e⟩ := g.pre
  rw [← e]
  have hl : l < m.length := (List.getElem?_eq_some_iff.mp h).1
  rw [List.getElem?_append_left hl]; exact h
section
variable {G : Gd} {m m' bs os os' rs : List Addr} {st st' : Sto} {H H' : Hp}
theorem Znq {a : Addr} {u : HO} (nx : NX u) (g : Grow m st os H m' st' os' H') (n : ¬ Lv m st a) (q : a ∉ os) (h : Rd H a u) : Rd H' a u ∧ ¬ Lv m' st' a ∧ a ∉ os' := by
  rcases h with h | ⟨o, h⟩
  · obtain ⟨h1, n1, q1⟩ := g.keep a _ h n q nx; exact ⟨.inl h1, n1, q1⟩
  · obtain ⟨h1, n1, q1⟩ := g.keep a _ h n q nxf; exact ⟨.inr ⟨o, h1⟩, n1, q1⟩
theorem ZnP {a : Addr} {vs : List V} (g : Grow m st os H m' st' os' H') (h : TupAt G m (os ++ rs) st H a vs) : TupAt G m' (os' ++ rs) st' H' a vs := by
  rcases h with ⟨h, n, q⟩ | h
  · obtain ⟨h1, n1, q1⟩ := Znq nxt g n (fun z => q (List.mem_append_left _ z)) h
    refine .inl ⟨h1, n1, fun z => ?_⟩
    rcases List.mem_append.mp z with z | z
    · exact q1 z
    · exact q (List.mem_append_right _ z)
  · exact .inr h
theorem Zog {a : Addr} {vs : List V} (g : Grow m st os H m' st' os' H') (h : LstAt G m (os ++ rs) st H a vs) : LstAt G m' (os' ++ rs) st' H' a vs := by
  rcases h with ⟨h, n, q⟩ | h
  · obtain ⟨h1, n1, q1⟩ := Znq nxl g n (fun z => q (List.mem_append_left _ z)) h
    refine .inl ⟨h1, n1, fun z => ?_⟩
    rcases List.mem_append.mp z with z | z
    · exact q1 z
    · exact q (List.mem_append_right _ z)
  · exact .inr h
structure Fits0 (G : Gd) (m bs : List Addr) (st : Sto) (H : Hp) (m' bs' : List Addr) (st' : Sto) (H' : Hp) : Prop where
  at_ : ∀ (l : Nat) a, m[l]? = some a → m'[l]? = some a
  tup : ∀ a vs, TupAt G m bs st H a vs → TupAt G m' bs' st' H' a vs
  lst : ∀ a vs, LstAt G m bs st H a vs → LstAt G m' bs' st' H' a vs
  ptp : ∀ a vs, PtAt m bs st H a vs → PtAt m' bs' st' H' a vs
structure Fits (G : Gd) (m bs : List Addr) (st : Sto) (H : Hp) (m' bs' : List Addr) (st' : Sto) (H' : Hp) : Prop where
  at_ : ∀ (l : Nat) a, m[l]? = some a → m'[l]? = some a
  tup : ∀ a vs, TupAt G m bs st H a vs → TupAt G m' bs' st' H' a vs
  lst : ∀ a vs, LstAt G m bs st H a vs → LstAt G m' bs' st' H' a vs
  frz : ∀ a (o : Obj) (u : HO), H a = some (.frz o u) ∧ Fz m bs st a → H' a = some (.frz o u) ∧ Fz m' bs' st' a
theorem Fits.ptp {bs' : List Addr} (f : Fits G m bs st H m' bs' st' H') (a : Addr) (vs : List V) (h : PtAt m bs st H a vs) : PtAt m' bs' st' H' a vs := by
  obtain ⟨o, h, d, n⟩ := h
  obtain ⟨h, n⟩ := f.frz a o _ ⟨h, n⟩
  exact ⟨o, h, d, n⟩
theorem Fits.z {bs' : List Addr} (f : Fits G m bs st H m' bs' st' H') : Fits0 G m bs st H m' bs' st' H' := ⟨f.at_, f.tup, f.lst, f.ptp⟩
mutual
theorem RV.fits0 {bs' : List Addr} (f : Fits0 G m bs st H m' bs' st' H') : ∀ (x : IV) (v : V), RV G m bs st H x v → RV G m' bs' st' H' x v
  | .non, v, h => by simp only [RV] at h ⊢; exact h
  | .bl b, v, h => by simp only [RV] at h ⊢; exact h
  | .int i, v, h => by simp only [RV] at h ⊢; exact h
  | .str x, v, h => by simp only [RV] at h ⊢; exact h
  | .ty n, v, h => by simp only [RV] at h ⊢; exact h
  | .ref l, v, h => by
    simp only [RV] at h ⊢
    obtain ⟨a, e, h⟩ := h
    exact ⟨a, e, f.at_ l a h⟩
  | .tup xs, v, h => by
    simp only [RV] at h ⊢
    obtain ⟨a, vs, e, h, r⟩ := h
    exact ⟨a, vs, e, f.tup a vs h, RVs.fits0 f xs vs r⟩
  | .lst xs, v, h => by
    simp only [RV] at h ⊢
    obtain ⟨a, vs, e, h, r⟩ := h
    exact ⟨a, vs, e, f.lst a vs h, RVs.fits0 f xs vs r⟩
  | .ptp xs, v, h => by
    simp only [RV] at h ⊢
    obtain ⟨a, vs, e, h, r⟩ := h
    exact ⟨a, vs, e, f.ptp a vs h, RVs.fits0 f xs vs r⟩
theorem RVs.fits0 {bs' : List Addr} (f : Fits0 G m bs st H m' bs' st' H') : ∀ (xs : List IV) (vs : List V), RVs G m bs st H xs vs → RVs G m' bs' st' H' xs vs
  | [], vs, h => by simp only [RVs] at h ⊢; exact h
  | x :: xs, vs, h => by
    simp only [RVs] at h ⊢
    obtain ⟨v, r, e, h1, h2⟩ := h
    exact ⟨v, r, e, RV.fits0 f x v h1, RVs.fits0 f xs r h2⟩
end
theorem RV.fits {bs' : List Addr} (f : Fits G m bs st H m' bs' st' H') (x : IV) (v : V) (h : RV G m bs st H x v) : RV G m' bs' st' H' x v := RV.fits0 f.z x v h
theorem RVs.fits {bs' : List Addr} (f : Fits G m bs st H m' bs' st' H') (x : List IV) (v : List V) (h : RVs G m bs st H x v) : RVs G m' bs' st' H' x v := RVs.fits0 f.z x v h
theorem Zom {a : Addr} {o : Obj} {u : HO} (g : Grow m st os H m' st' os' H') (h : H a = some (.frz o u) ∧ Fz m (os ++ rs) st a) : H' a = some (.frz o u) ∧ Fz m' (os' ++ rs) st' a := by
  obtain ⟨h, n, q⟩ := h
  obtain ⟨h1, n1, q1⟩ := g.keep a _ h n (fun z => q (List.mem_append_left _ z)) nxf
  refine ⟨h1, n1, fun z => ?_⟩
  rcases List.mem_append.mp z with z | z
  · exact q1 z
  · exact q (List.mem_append_right _ z)
theorem Grow.fits (g : Grow m st os H m' st' os' H') : Fits G m (os ++ rs) st H m' (os' ++ rs) st' H' :=
  ⟨fun l a h => g.at h, fun a vs => ZnP g, fun a vs => Zog g, fun a o u => Zom g⟩
theorem Grow.fitsE (g : GrowE m st H m' st' H') : Fits G m bs st H m' bs st' H' := Grow.fits (os := []) (os' := []) (rs := bs) g
def RFs (G : Gd) (m bs : List Addr) (st : Sto) (H : Hp) : List (Str × IV) → List (Str × V) → Prop
  | [], gs => gs = []
  | (f, x) :: r, gs => ∃ v t, gs = (f, v) :: t ∧ RV G m bs st H x v ∧ RFs G m bs st H r t
def RKs (G : Gd) (m bs : List Addr) (st : Sto) (H : Hp) : List (Key × IV) → List (Key × V) → Prop
  | [], gs => gs = []
  | (f, x) :: r, gs => ∃ v t, gs = (f, v) :: t ∧ RV G m bs st H x v ∧ RKs G m bs st H r t
def RDs (G : Gd) (m bs : List Addr) (st : Sto) (H : Hp) : List (List Key × IV) → List (List Key × Addr × Value) → Prop
  | [], gs => gs = []
  | (k, x) :: r, gs => ∃ b u v t, gs = (k, b, u) :: t ∧ RV G m bs st H (.tup (k.map kI)) (.ref b) ∧ RelV v u ∧ RV G m bs st H x v ∧ RDs G m bs st H r t
def OR (G : Gd) (m bs : List Addr) (st : Sto) (H : Hp) : IO → Addr → Prop
  | .dead, a => ∃ u, H a = some u
  | .lst xs, a => ∃ vs, H a = some (.lst vs) ∧ RVs G m bs st H xs vs
  | .ins c fs, a => ∃ C dx gs, G.mg c = some (.ref C) ∧ H a = some (.ins C dx gs) ∧ RFs G m bs st H fs gs
  | .dic kvs, a => ∃ ws, H a = some (.dK ws) ∧ RKs G m bs st H kvs ws
  | .xd fs, a => ∃ gs, H a = some (.xd gs) ∧ RFs G m bs st H fs gs
  | .dct kvs, a => (a == sysModules) = false ∧ kvs.length ≤ 100000 ∧ ∃ xs, H a = some (DHo G.P G.w a xs) ∧ RDs G m bs st H kvs xs
  | .set ks, a => ∃ S n, H a = some (SetK G.P G.w a S n) ∧ n ≤ ks.length ∧ ∀ k, S k = true ↔ k ∈ ks
  | .nod x, a => (a == sysModules) = false ∧ ∃ u v, H a = some (NHo G.P G.w a u) ∧ RelV v u ∧ RV G m bs st H x v
  | .fdic kvs, a => ∃ od ws, H a = some (.frz od (.dK ws)) ∧ RKs G m bs st H kvs ws
theorem RFs.fits0 {bs' : List Addr} (f : Fits0 G m bs st H m' bs' st' H') : ∀ (fs : List (Str × IV)) (gs : List (Str × V)), RFs G m bs st H fs gs → RFs G m' bs' st' H' fs gs
  | [], gs, h => h
  | (n, x) :: r, gs, h => by
    obtain ⟨v, t, e, h1, h2⟩ := h
    exact ⟨v, t, e, RV.fits0 f x v h1, RFs.fits0 f r t h2⟩
theorem RFs.fits {bs' : List Addr} (f : Fits G m bs st H m' bs' st' H') : ∀ (fs : List (Str × IV)) (gs : List (Str × V)), RFs G m bs st H fs gs → RFs G m' bs' st' H' fs gs
  | fs, gs, h => RFs.fits0 f.z fs gs h
theorem RKs.fits0 {bs' : List Addr} (f : Fits0 G m bs st H m' bs' st' H') : ∀ (fs : List (Key × IV)) (gs : List (Key × V)), RKs G m bs st H fs gs → RKs G m' bs' st' H' fs gs
  | [], gs, h => h
  | (n, x) :: r, gs, h => by
    obtain ⟨v, t, e, h1, h2⟩ := h
    exact ⟨v, t, e, RV.fits0 f x v h1, RKs.fits0 f r t h2⟩
theorem RKs.fits {bs' : List Addr} (f : Fits G m bs st H m' bs' st' H') : ∀ (fs : List (Key × IV)) (gs : List (Key × V)), RKs G m bs st H fs gs → RKs G m' bs' st' H' fs gs
  | fs, gs, h => RKs.fits0 f.z fs gs h
theorem RDs.fits0 {bs' : List Addr} (f : Fits0 G m bs st H m' bs' st' H') : ∀ (fs : List (List Key × IV)) (gs : List (List Key × Addr × Value)), RDs G m bs st H fs gs → RDs G m' bs' st' H' fs gs
  | [], gs, h => h
  | (n, x) :: r, gs, h => by
    obtain ⟨b, u, v, t, e, h0, h1, h2, h3⟩ := h
    exact ⟨b, u, v, t, e, RV.fits0 f _ _ h0, h1, RV.fits0 f x v h2, RDs.fits0 f r t h3⟩
theorem RDs.fits {bs' : List Addr} (f : Fits G m bs st H m' bs' st' H') : ∀ (fs : List (List Key × IV)) (gs : List (List Key × Addr × Value)), RDs G m bs st H fs gs → RDs G m' bs' st' H' fs gs
  | fs, gs, h => RDs.fits0 f.z fs gs h
structure Rel (G : Gd) (m bs : List Addr) (st : Sto) (H : Hp) : Prop where
  len : m.length = st.length
  nd : ∀ (i j : Nat) a, m[i]? = some a → m[j]? = some a → i = j
  obj : ∀ (l : Nat) o a, st[l]? = some o → m[l]? = some a → OR G m bs st H o a
  bsd : ∀ a ∈ bs, a ∉ m ∧ ∃ o, H a = some o
theorem OR.has {o : IO} {a : Addr} (h : OR G m bs st H o a) : ∃ u, H a = some u := by
  cases o with
  | dead => exact h
  | lst xs => obtain ⟨vs, e, _⟩ := h; exact ⟨_, e⟩
  | ins c fs => obtain ⟨C, dx, gs, _, e, _⟩ := h; exact ⟨_, e⟩
  | dic kvs => obtain ⟨ws, e, _⟩ := h; exact ⟨_, e⟩
  | xd fs => obtain ⟨ws, e, _⟩ := h; exact ⟨_, e⟩
  | dct fs => obtain ⟨_, _, ws, e, _⟩ := h; exact ⟨_, e⟩
  | set fs => obtain ⟨S, n, e, _⟩ := h; exact ⟨_, e⟩
  | nod x => obtain ⟨_, u, v, e, _⟩ := h; exact ⟨_, e⟩
  | fdic kvs => obtain ⟨_, ws, e, _⟩ := h; exact ⟨_, e⟩
theorem Rel.has (R : Rel G m bs st H) {l : Nat} {a : Addr} (h : m[l]? = some a) : ∃ u, H a = some u := by
  have hl : l < st.length := by rw [← R.len]; exact (List.getElem?_eq_some_iff.mp h).1
  exact (R.obj l _ a (List.getElem?_eq_getElem hl) h).has
theorem Rel.fresh (R : Rel G m bs st H) {p : Addr} (h : H p = none) : p ∉ m ∧ p ∉ bs := by
  refine ⟨fun z => ?_, fun z => ?_⟩
  · obtain ⟨l, hl, e⟩ := List.mem_iff_getElem.mp z
    obtain ⟨u, q⟩ := R.has (l := l) (a := p) (by rw [List.getElem?_eq_getElem hl, e])
    rw [h] at q; cases q
  · obtain ⟨_, o, q⟩ := R.bsd p z
    rw [h] at q; cases q
theorem Lv.mem {a : Addr} (h : Lv m st a) : a ∈ m := by
  obtain ⟨l, o, h1, _⟩ := h
  exact List.mem_of_getElem? h1
theorem Rel.fz (R : Rel G m bs st H) {p : Addr} (h : H p = none) : Fz m bs st p := ⟨fun z => (R.fresh h).1 z.mem, (R.fresh h).2⟩
theorem OR.fits0 {bs' : List Addr} (f : Fits0 G m bs st H m' bs' st' H') {o : IO} {a : Addr} (k : ∀ u, H a = some u → H' a = some u) (h : OR G m bs st H o a) : OR G m' bs' st' H' o a := by
  cases o with
  | dead => obtain ⟨u, e⟩ := h; exact ⟨u, k u e⟩
  | lst xs => obtain ⟨vs, e, r⟩ := h; exact ⟨vs, k _ e, RVs.fits0 f _ _ r⟩
  | ins c fs => obtain ⟨C, dx, gs, q, e, r⟩ := h; exact ⟨C, dx, gs, q, k _ e, RFs.fits0 f _ _ r⟩
  | dic kvs => obtain ⟨ws, e, r⟩ := h; exact ⟨ws, k _ e, RKs.fits0 f _ _ r⟩
  | xd fs => obtain ⟨ws, e, r⟩ := h; exact ⟨ws, k _ e, RFs.fits0 f _ _ r⟩
  | dct fs => obtain ⟨z1, z2, ws, e, r⟩ := h; exact ⟨z1, z2, ws, k _ e, RDs.fits0 f _ _ r⟩
  | set fs => obtain ⟨S, n, e, r⟩ := h; exact ⟨S, n, k _ e, r⟩
  | nod x => obtain ⟨z, u, v, e, r1, r2⟩ := h; exact ⟨z, u, v, k _ e, r1, RV.fits0 f _ _ r2⟩
  | fdic kvs => obtain ⟨od, ws, e, r⟩ := h; exact ⟨od, ws, k _ e, RKs.fits0 f _ _ r⟩
theorem OR.fits {bs' : List Addr} (f : Fits G m bs st H m' bs' st' H') {o : IO} {a : Addr} (k : ∀ u, H a = some u → H' a = some u) (h : OR G m bs st H o a) : OR G m' bs' st' H' o a := OR.fits0 f.z k h
theorem Z2q {p a : Addr} {u : HO} (e : upd H p u a = none) : H a = none := by
  by_cases h : a = p
  · rw [h, upd_same] at e; cases e
  · rw [upd_ne h] at e; exact e
theorem Z13 {p : Addr} {u : HO} (h : H p = none) : GrowE m st H m st (upd H p u) :=
  ⟨List.prefix_refl _, fun a o e n q _ => ⟨by rw [upd_ne (ne_of_none e h)]; exact e, n, q⟩, fun a e => Z2q e⟩
theorem Rel.new (R : Rel G m bs st H) {p : Addr} {u : HO} (h : H p = none) : Rel G m bs st (upd H p u) := by
  have g : GrowE m st H m st (upd H p u) := Z13 h
  refine ⟨R.len, R.nd, fun l o a e1 e2 => (R.obj l o a e1 e2).fits g.fitsE fun w e => ?_, fun a z => ⟨(R.bsd a z).1, ?_⟩⟩
  · rw [upd_ne (ne_of_none e h)]; exact e
  · obtain ⟨o, e⟩ := (R.bsd a z).2
    exact ⟨o, by rw [upd_ne (ne_of_none e h)]; exact e⟩
theorem ZiL (R : Rel G m bs st H) {p : Addr} {vs : List V} (h : H p = none) : TupAt G m bs st (upd H p (.tup vs)) p vs := .inl ⟨.inl upd_same, R.fz h⟩
theorem ZoV (R : Rel G m bs st H) {p : Addr} {vs : List V} (h : H p = none) : LstAt G m bs st (upd H p (.lst vs)) p vs := .inl ⟨.inl upd_same, R.fz h⟩
theorem getElem?_snoc {α : Type} {l : List α} {x : α} {i : Nat} {y : α} (h : (l ++ [x])[i]? = some y) : l[i]? = some y ∨ (i = l.length ∧ y = x) := by
  by_cases hi : i < l.length
  · rw [List.getElem?_append_left hi] at h; exact .inl h
  · rw [List.getElem?_append_right (by omega)] at h
    have : i - l.length = 0 := by
      cases q : i - l.length with
      | zero => rfl
      | succ n => rw [q] at h; simp at h
    rw [this] at h
    have e : x = y := by simpa using h
    exact .inr ⟨by omega, e.symm⟩
theorem Z2A (hl : m.length = st.length) {p a : Addr} {o : IO} (h : Lv (m ++ [p]) (st ++ [o]) a) : Lv m st a ∨ a = p := by
  obtain ⟨l, u, h1, h2, h3⟩ := h
  rcases getElem?_snoc h1 with h1 | ⟨_, e⟩
  · have hlt : l < st.length := by rw [← hl]; exact (List.getElem?_eq_some_iff.mp h1).1
    rw [List.getElem?_append_left hlt] at h2
    exact .inl ⟨l, u, h1, h2, h3⟩
  · exact .inr e
theorem Z5T (R : Rel G m bs st H) {p : Addr} {u : HO} {o : IO} (h : H p = none) : GrowE m st H (m ++ [p]) (st ++ [o]) (upd H p u) :=
  ⟨List.prefix_append _ _, fun a w e n q _ => ⟨by rw [upd_ne (ne_of_none e h)]; exact e, fun z => (Z2A R.len z).elim n (fun z => by rw [z, h] at e; cases e), q⟩, fun a e => Z2q e⟩
theorem Rel.live (R : Rel G m bs st H) {p : Addr} {u : HO} {o : IO} (h : H p = none) (ho : OR G (m ++ [p]) bs (st ++ [o]) (upd H p u) o p) : Rel G (m ++ [p]) bs (st ++ [o]) (upd H p u) := by
  have g : GrowE m st H (m ++ [p]) (st ++ [o]) (upd H p u) := Z5T R h
  have hp := R.fresh h
  refine ⟨by simp [R.len], fun i j a e1 e2 => ?_, fun l w a e1 e2 => ?_, fun a z => ⟨fun y => ?_, ?_⟩⟩
  · rcases getElem?_snoc e1 with e1 | ⟨i1, e1⟩
    · rcases getElem?_snoc e2 with e2 | ⟨i2, e2⟩
      · exact R.nd i j a e1 e2
      · exact absurd (List.mem_of_getElem? e1) (by rw [e2]; exact hp.1)
    · rcases getElem?_snoc e2 with e2 | ⟨i2, e2⟩
      · exact absurd (List.mem_of_getElem? e2) (by rw [e1]; exact hp.1)
      · omega
  · rcases getElem?_snoc e2 with e2 | ⟨i2, e2⟩
    · have hlt : l < st.length := by rw [← R.len]; exact (List.getElem?_eq_some_iff.mp e2).1
      rw [List.getElem?_append_left hlt] at e1
      refine (R.obj l w a e1 e2).fits g.fitsE fun w e => ?_
      rw [upd_ne (ne_of_none e h)]; exact e
    · subst e2
      rw [R.len] at i2; subst i2
      rw [List.getElem?_append_right (Nat.le_refl _)] at e1
      have e : o = w := by simpa using e1
      rw [← e]; exact ho
  · rcases List.mem_append.mp y with y | y
    · exact (R.bsd a z).1 y
    · have : a = p := by simpa using y
      exact hp.2 (this ▸ z)
  · obtain ⟨o, e⟩ := (R.bsd a z).2
    exact ⟨o, by rw [upd_ne (ne_of_none e h)]; exact e⟩
theorem Zvo {l : Nat} {o : IO} {a : Addr} (hl : ∃ u, st[l]? = some u ∧ ND u) : Lv m (st.set l o) a → Lv m st a := fun ⟨i, u, h1, h2, h3⟩ => by
  by_cases e : l = i
  · subst e
    obtain ⟨w, e1, e2⟩ := hl
    exact ⟨l, w, h1, e1, e2⟩
  · rw [List.getElem?_set_ne e] at h2
    exact ⟨i, u, h1, h2, h3⟩
theorem Z2e {l : Nat} {p : Addr} {u : HO} {o o' : IO} (hm : m[l]? = some p) (hs : st[l]? = some o) (hd : ND o) : GrowE m st H m (st.set l o') (upd H p u) :=
  ⟨List.prefix_refl _, fun a w e n q _ => by
    have ne : a ≠ p := fun z => n ⟨l, o, by rw [z]; exact hm, hs, hd⟩
    exact ⟨by rw [upd_ne ne]; exact e, fun z => n (Zvo ⟨o, hs, hd⟩ z), q⟩, fun a e => Z2q e⟩
theorem Rel.set (R : Rel G m bs st H) {l : Nat} {p : Addr} {u : HO} {o o' : IO} (hm : m[l]? = some p) (hs : st[l]? = some o) (hd : ND o) (ho : OR G m bs (st.set l o') (upd H p u) o' p) : Rel G m bs (st.set l o') (upd H p u) := by
  have g : GrowE m st H m (st.set l o') (upd H p u) := Z2e hm hs hd
  refine ⟨by simp [R.len], R.nd, fun i w a e1 e2 => ?_, fun a z => ⟨(R.bsd a z).1, ?_⟩⟩
  · by_cases e : l = i
    · subst e
      have ea : p = a := Option.some.inj (hm.symm.trans e2)
      subst ea
      rw [List.getElem?_set_self (List.getElem?_eq_some_iff.mp hs).1] at e1
      have ew : o' = w := by simpa using e1
      rw [← ew]; exact ho
    · rw [List.getElem?_set_ne e] at e1
      have ne : a ≠ p := fun z => e (R.nd _ _ _ hm (by rw [← z]; exact e2))
      refine (R.obj i w a e1 e2).fits g.fitsE fun w e => ?_
      rw [upd_ne ne]; exact e
  · obtain ⟨o, e⟩ := (R.bsd a z).2
    by_cases e' : a = p
    · exact ⟨u, by rw [e']; exact upd_same⟩
    · exact ⟨o, by rw [upd_ne e']; exact e⟩
theorem Zti {l : Nat} {a : Addr} : Lv m (st.set l .dead) a → Lv m st a := fun ⟨i, u, h1, h2, h3⟩ => by
  by_cases e : l = i
  · subst e
    by_cases hl : l < st.length
    · rw [List.getElem?_set_self hl] at h2
      rw [← Option.some.inj h2] at h3; exact absurd rfl h3
    · rw [List.getElem?_eq_none (by simpa using hl)] at h2; cases h2
  · rw [List.getElem?_set_ne e] at h2
    exact ⟨i, u, h1, h2, h3⟩
theorem Z1x {l : Nat} : GrowE m st H m (st.set l .dead) H := ⟨List.prefix_refl _, fun a w e n q _ => ⟨e, fun z => n (Zti z), q⟩, fun _ h => h⟩
theorem Rel.kill (R : Rel G m bs st H) {l : Nat} : Rel G m bs (st.set l .dead) H := by
  have g : GrowE m st H m (st.set l .dead) H := Z1x
  refine ⟨by simp [R.len], R.nd, fun i w a e1 e2 => ?_, R.bsd⟩
  by_cases e : l = i
  · subst e
    by_cases hl : l < st.length
    · rw [List.getElem?_set_self hl] at e1
      have ew : IO.dead = w := by simpa using e1
      rw [← ew]; exact R.has e2
    · rw [List.getElem?_eq_none (by simpa using hl)] at e1; cases e1
  · rw [List.getElem?_set_ne e] at e1
    exact (R.obj i w a e1 e2).fits g.fitsE fun w e => e
end
end Mi
namespace Mi
open PySem PySem.Spec PyProof.Rows L2
inductive R (α : Type) where
  | ok (a : α) (st : Sto) | exc (c : Str) (fs : List (Str × IV)) (st : Sto) | bad
def R.bind {α β : Type} : R α → (α → Sto → R β) → R β
  | .ok a st, k => k a st
  | .exc c fs st, _ => .exc c fs st
  | .bad, _ => .bad
inductive RS where
  | nx (ρ : Slots) (st : Sto) | rt (v : IV) (st : Sto) | bk (ρ : Slots) (st : Sto) | ct (ρ : Slots) (st : Sto) | exc (c : Str) (fs : List (Str × IV)) (ρ : Slots) (st : Sto) | bad
abbrev IE := Slots → Sto → R IV
abbrev IT := Slots → Sto → R Bool
abbrev IA := Slots → Sto → R (List IV)
abbrev IS := Slots → Sto → RS
abbrev Xa := Option (Addr × Addr)
def XR (G : Gd) (m bs : List Addr) (st : Sto) (H : Hp) (c : Str) (fs : List (Str × IV)) (cls : Value) (d : Option Addr) : Prop :=
  ∃ C, (G.mg c = some (.ref C) ∧ (fs = [] → d = none)) ∧ cls = .ref C ∧ (fs = [] ∨ ∃ dd gs, d = some dd ∧ H dd = some (.xd gs) ∧ dd ∉ m ∧ dd ∉ bs ∧ RFs G m bs st H fs gs)
def RE1 (G : Gd) (m bs : List Addr) (st : Sto) (H : Hp) (xa : Xa) : SV → V → Prop
  | .v x, v => RV G m bs st H x v
  | .own xs, v => ∃ a vs, v = .ref a ∧ H a = some (.lst vs) ∧ RVs G m bs st H xs vs ∧ a ∈ bs
  | .exn l, v => ∃ a d, xa = some (a, d) ∧ v = .ref a ∧ m[l]? = some d
structure RE (G : Gd) (m os rs : List Addr) (st : Sto) (H : Hp) (xa : Xa) (ρ : Slots) (σ : L2.St) : Prop where
  len : ρ.length = σ.length
  at_ : ∀ (i : Nat) x, ρ[i]? = some (some x) → ∃ v, σ[i]? = some (some v) ∧ RE1 G m (os ++ rs) st H xa x v
  own : ∀ (i : Nat) xs, ρ[i]? = some (some (.own xs)) → ∃ a, σ[i]? = some (some (.ref a)) ∧ a ∈ os ∧ a ∉ rs
  uniq : ∀ (i j : Nat) xs ys v, ρ[i]? = some (some (.own xs)) → ρ[j]? = some (some (.own ys)) → σ[i]? = some (some v) → σ[j]? = some (some v) → i = j
structure Pre (G : Gd) (xa : Xa) (σ : L2.St) (H : Hp) (m os rs : List Addr) (ρ : Slots) (st : Sto) : Prop where
  rel : Rel G m (os ++ rs) st H
  re : RE G m os rs st H xa ρ σ
def Pst {α : Type} (G : Gd) (m bs : List Addr) (st : Sto) (H : Hp) (W : Value → Option Addr → Hp → Prop) (r : R α) (P : α → List Addr → Sto → Hp → Prop) : Prop :=
  match r with
  | .ok a st' => ∀ m' H', GrowE m st H m' st' H' → Rel G m' bs st' H' → P a m' st' H'
  | .exc c fs st' => ∀ m' H' cls d, GrowE m st H m' st' H' → Rel G m' bs st' H' → XR G m' bs st' H' c fs cls d → W cls d H'
  | .bad => False
section
variable {G : Gd} {m os rs bs : List Addr} {st : Sto} {H : Hp} {xa : Xa} {σ : L2.St} {ρ : Slots} {W W' : Value → Option Addr → Hp → Prop} {α β : Type}
theorem Pst.mono {r : R α} {P P' : α → List Addr → Sto → Hp → Prop} (h : Pst G m bs st H W r P) (k : ∀ a m' st' H', GrowE m st H m' st' H' → Rel G m' bs st' H' → P a m' st' H' → P' a m' st' H') : Pst G m bs st H W r P' := by
  cases r with
  | ok a st' => exact fun m' H' g R => k a m' st' H' g R (h m' H' g R)
  | exc c fs st' => exact h
  | bad => exact h
theorem Pst.shift {r : R α} {P : α → List Addr → Sto → Hp → Prop} {m1 : List Addr} {st1 : Sto} {H1 : Hp} (g : GrowE m st H m1 st1 H1) (h : Pst G m bs st H W r P) : Pst G m1 bs st1 H1 W r P := by
  cases r with
  | ok a st' => exact fun m' H' g' R => h m' H' (g.trans g') R
  | exc c fs st' => exact fun m' H' cls d g' R x => h m' H' cls d (g.trans g') R x
  | bad => exact h
theorem Pst.bind {r : R α} {k : α → Sto → R β} {P : β → List Addr → Sto → Hp → Prop} (h : Pst G m bs st H W (r.bind k) P) : Pst G m bs st H W r (fun a m1 st1 H1 => Pst G m1 bs st1 H1 W (k a st1) P) := by
  cases r with
  | ok a st' =>
    have h' : Pst G m bs st H W (k a st') P := h
    exact fun m' H' g R => h'.shift g
  | exc c fs st' => exact h
  | bad => exact h
theorem Pst.ok {a : α} {P : α → List Addr → Sto → Hp → Prop} (R : Rel G m bs st H) (h : Pst G m bs st H W (.ok a st) P) : P a m st H := h m H .refl R
theorem RE1.grow {x : SV} {v : V} {m' : List Addr} {st' : Sto} {H' : Hp} (R : Rel G m bs st H) (g : GrowE m st H m' st' H') (h : RE1 G m bs st H xa x v) : RE1 G m' bs st' H' xa x v := by
  cases x with
  | v x => exact RV.fits g.fitsE _ _ h
  | own xs =>
    obtain ⟨a, vs, e, ha, r, hb⟩ := h
    exact ⟨a, vs, e, (g.keep a _ ha (fun z => (R.bsd a hb).1 z.mem) (by simp) nxl).1, RVs.fits g.fitsE _ _ r, hb⟩
  | exn l =>
    obtain ⟨a, d, e, e2, e3⟩ := h
    exact ⟨a, d, e, e2, g.at e3⟩
theorem Pre.grow {m' : List Addr} {st' : Sto} {H' : Hp} (P : Pre G xa σ H m os rs ρ st) (g : GrowE m st H m' st' H') (R : Rel G m' (os ++ rs) st' H') : Pre G xa σ H' m' os rs ρ st' :=
  ⟨R, P.re.len, fun i x e => let ⟨v, e1, r⟩ := P.re.at_ i x e; ⟨v, e1, r.grow P.rel g⟩, P.re.own, P.re.uniq⟩
end
def rd {α β : Type} (rv : List Addr → List Addr → Sto → Hp → α → β → Prop) (G : Gd) (W : WX) (xa : Xa) (A : Slots → Sto → R α) : L2.St → Hp → (β → Hp → Prop) → Prop := fun σ H Q =>
  ∃ m os rs ρ st, Pre G xa σ H m os rs ρ st ∧ Pst G m (os ++ rs) st H (fun cls d H' => W cls d σ H') (A ρ st) (fun v m' st' H' => ∀ u, rv m' (os ++ rs) st' H' v u → Q u H')
abbrev teOf (G : Gd) (W : WX) (xa : Xa) (A : IE) : TE := rd (RV G) G W xa A
abbrev ttOf (G : Gd) (W : WX) (xa : Xa) (A : IT) : TT := rd (fun _ _ _ _ a b => a = b) G W xa A
abbrev taOf (G : Gd) (W : WX) (xa : Xa) (A : IA) : TA := rd (RVs G) G W xa A
abbrev ME (X : Cx) (W : WX) (xa : Xa) (e : Expr) (A : IE) : Prop := PE X e (teOf (gd X) W xa A)
abbrev MT (X : Cx) (W : WX) (xa : Xa) (e : Expr) (A : IT) : Prop := PT X e (ttOf (gd X) W xa A)
abbrev MA (X : Cx) (W : WX) (xa : Xa) (es : List Expr) (A : IA) : Prop := PA X es (taOf (gd X) W xa A)
theorem PE.weak {X : Cx} {e : Expr} {t t' : TE} (h : PE X e t) (k : ∀ σ H Q, t' σ H Q → t σ H Q) : PE X e t' := ⟨fun pins s σ H Q I q => h.run pins s σ H Q I (k σ H Q q)⟩
theorem PT.weak {X : Cx} {e : Expr} {t t' : TT} (h : PT X e t) (k : ∀ σ H Q, t' σ H Q → t σ H Q) : PT X e t' := ⟨fun pins s σ H Q I q => h.run pins s σ H Q I (k σ H Q q)⟩
theorem PW.weak {X : Cx} {e : Expr} {t t' : TT} (h : PW X e t) (k : ∀ σ H Q, t' σ H Q → t σ H Q) : PW X e t' := ⟨fun wh pins s σ H Q I q => h.run wh pins s σ H Q I (k σ H Q q)⟩
theorem PA.weak {X : Cx} {e : List Expr} {t t' : TA} (h : PA X e t) (k : ∀ σ H Q, t' σ H Q → t σ H Q) : PA X e t' := ⟨fun pos pins s σ H Q I q => h.run pos pins s σ H Q I (k σ H Q q)⟩
theorem PS.weak {X : Cx} {e : Stmt} {t t' : TS} (h : PS X e t) (k : ∀ D σ H, t' D σ H → t D σ H) : PS X e t' := ⟨fun pins s σ H D I q => h.run pins s σ H D I (k D σ H q)⟩
theorem PSs.weak {X : Cx} {e : List Stmt} {t t' : TS} (h : PSs X e t) (k : ∀ D σ H, t' D σ H → t D σ H) : PSs X e t' := ⟨fun pins s σ H D I q => h.run pins s σ H D I (k D σ H q)⟩
theorem PG.weak {X : Cx} {e : Expr} {t t' : TG} (h : PG X e t) (k : ∀ v σ H Q, t' v σ H Q → t v σ H Q) : PG X e t' := ⟨fun pins s σ H v u Q I r q => h.run pins s σ H v u Q I r (k v σ H Q q)⟩
theorem PI.weak {X : Cx} {tg e : Expr} {t t' : TI} (h : PI X tg e t) (k : ∀ σ H Q, t' σ H Q → t σ H Q) : PI X tg e t' := ⟨fun pins s σ H Q I q => h.run pins s σ H Q I (k σ H Q q)⟩
section
variable {X : Cx} {W : WX} {xa : Xa} {a b e : Expr} {A B : IE} {pos : Pos}
def iVar (i : Nat) : IE := fun ρ st => match ρ[i]? with
  | some (some (.v x)) => .ok x st
  | _ => .bad
def iC (x : IV) : IE := fun _ st => .ok x st
theorem Z1 {i : Nat} (h : PE X e (tVar i)) : ME X W xa e (iVar i) := by
  refine PE.weak h fun σ H Q h => ?_
  obtain ⟨m, os, rs, ρ, st, P, h⟩ := h
  unfold iVar at h
  split at h
  · rename_i x e
    obtain ⟨v, e1, r⟩ := P.re.at_ _ _ e
    exact ⟨v, e1, h.ok P.rel v r⟩
  · exact h.elim
theorem me_c {x : IV} {v : V} (h : PE X e (tC v)) (hv : ∀ m bs st H, RV (gd X) m bs st H x v) : ME X W xa e (iC x) := by
  refine PE.weak h fun σ H Q h => ?_
  obtain ⟨m, os, rs, ρ, st, P, h⟩ := h
  exact Pst.ok P.rel h v (hv _ _ _ _)
theorem Z4 {i : Int} {j : Nat} : ME X W xa (.Constant (.int i) j pos) (iC (.int i)) := me_c pe_int fun _ _ _ _ => by simp only [RV]
theorem me_bl {b : Bool} {j : Nat} : ME X W xa (.Constant (.bool b) j pos) (iC (.bl b)) := me_c pe_bl fun _ _ _ _ => by simp only [RV]
theorem Z2d {j : Nat} : ME X W xa (.Constant .none j pos) (iC .non) := me_c pe_non fun _ _ _ _ => by simp only [RV]
theorem Z2Q {x : Str} {j : Nat} : ME X W xa (.Constant (.str x) j pos) (iC (.str x)) := me_c pe_str fun _ _ _ _ => by simp only [RV]
def OpM (X : Cx) (f : Value → Value → Sem Value) (g : IV → IV → Sto → R IV) : Prop :=
  ∃ r, OpR X f r ∧ ∀ m bs st H x y x' y' (Q : VK) W, Rel (gd X) m bs st H → RV (gd X) m bs st H x x' → RV (gd X) m bs st H y y' →
    Pst (gd X) m bs st H W (g x y st) (fun v m' st' H' => ∀ u, RV (gd X) m' bs st' H' v u → Q u H') → r x' y' H Q
def iBin (g : IV → IV → Sto → R IV) (A B : IE) : IE := fun ρ st => (A ρ st).bind fun x st => (B ρ st).bind fun y st => g x y st
theorem Zj {op : Operator} {g : IV → IV → Sto → R IV} (ho : OpM X (binaryOp op) g) (ha : ME X W xa a A) (hb : ME X W xa b B) : ME X W xa (.BinOp a op b pos) (iBin g A B) := by
  obtain ⟨r, hr, k⟩ := ho
  refine PE.weak (pe_op hr ha hb) fun σ H Q h => ?_
  obtain ⟨m, os, rs, ρ, st, P, h⟩ := h
  exact ⟨m, os, rs, ρ, st, P, h.bind.mono fun x m1 st1 H1 g1 R1 h1 x' rx => ⟨m1, os, rs, ρ, st1, P.grow g1 R1, h1.bind.mono fun y m2 st2 H2 g2 R2 h2 y' ry =>
    k m2 _ st2 H2 x y x' y' Q _ R2 (RV.fits g2.fitsE _ _ rx) ry h2⟩⟩
theorem Z2U {op : CmpOp} {g : IV → IV → Sto → R IV} (ho : OpM X (compareOp op) g) (ha : ME X W xa a A) (hb : ME X W xa b B) (hm : behindInMarks op b = false) : ME X W xa (.Compare a [op] [b] pos) (iBin g A B) := by
  obtain ⟨r, hr, k⟩ := ho
  refine PE.weak (pe_cmpR hr ha hb hm) fun σ H Q h => ?_
  obtain ⟨m, os, rs, ρ, st, P, h⟩ := h
  exact ⟨m, os, rs, ρ, st, P, h.bind.mono fun x m1 st1 H1 g1 R1 h1 x' rx => ⟨m1, os, rs, ρ, st1, P.grow g1 R1, h1.bind.mono fun y m2 st2 H2 g2 R2 h2 y' ry =>
    k m2 _ st2 H2 x y x' y' Q _ R2 (RV.fits g2.fitsE _ _ rx) ry h2⟩⟩
def asB : IV → Sto → R Bool
  | .bl b, st => .ok b st
  | _, _ => .bad
def iTest (A : IE) : IT := fun ρ st => (A ρ st).bind asB
theorem Z22 {G : Gd} {m bs : List Addr} {st : Sto} {H : Hp} {W : Value → Option Addr → Hp → Prop} {x : IV} {x' : V} {Q : Bool → Hp → Prop} (R : Rel G m bs st H) (rx : RV G m bs st H x x')
    (h : Pst G m bs st H W (asB x st) (fun v m' st' H' => ∀ u, v = u → Q u H')) : ∃ c, x' = .bl c ∧ Q c H := by
  cases x with
  | bl b =>
    simp only [RV] at rx
    exact ⟨b, rx, h.ok R b rfl⟩
  | _ => exact h.elim
theorem Zq {op : CmpOp} {g : IV → IV → Sto → R IV} (ho : OpM X (compareOp op) g) (ha : ME X W xa a A) (hb : ME X W xa b B) (hm : behindInMarks op b = false) : MT X W xa (.Compare a [op] [b] pos) (iTest (iBin g A B)) := by
  obtain ⟨r, hr, k⟩ := ho
  refine PT.weak (pt_cmpR hr ha hb hm) fun σ H Q h => ?_
  obtain ⟨m, os, rs, ρ, st, P, h⟩ := h
  have h := h.bind
  exact ⟨m, os, rs, ρ, st, P, h.bind.mono fun x m1 st1 H1 g1 R1 h1 x' rx => ⟨m1, os, rs, ρ, st1, P.grow g1 R1, h1.bind.mono fun y m2 st2 H2 g2 R2 h2 y' ry =>
    k m2 _ st2 H2 x y x' y' _ _ R2 (RV.fits g2.fitsE _ _ rx) ry (h2.mono fun v m3 st3 H3 g3 R3 h3 u ru => Z22 R3 ru h3)⟩⟩
theorem Z1A (he : ME X W xa e A) (hs : ∀ whole, isTrue e X.env whole = (do let v ← whole; standAt e.pos; holding [v] (truthy v)) := by intro _; rfl) : MT X W xa e (iTest A) := by
  refine PT.weak (pt_val he hs) fun σ H Q h => ?_
  obtain ⟨m, os, rs, ρ, st, P, h⟩ := h
  exact ⟨m, os, rs, ρ, st, P, h.bind.mono fun v m3 st3 H3 g3 R3 h3 u ru => Z22 R3 ru h3⟩
def Z3v (g g' : IV → IV → Sto → R IV) (A B C : IE) : IE := fun ρ st => (A ρ st).bind fun x st => (B ρ st).bind fun y st => (g x y st).bind fun z st => (asB z st).bind fun k st => if k = true then (C ρ st).bind fun c st => g' y c st else .ok (.bl false) st
end
end Mi
set_option maxHeartbeats 4000000
namespace Mi
open PySem PySem.Spec PyProof.Rows L2
theorem szl {n : Nat} (h : n ≤ 100000) : n ≤ sizeLine := Nat.le_trans h (by decide)
theorem szlt {n : Nat} (h : n < 100000) : n < sizeLine := Nat.lt_of_lt_of_le h (by decide)
def asL (st : Sto) : IV → Option (List IV)
  | .lst xs => some xs
  | .ref l => match st[l]? with
    | some (.lst xs) => some xs
    | _ => none
  | _ => none
def asT : IV → Option (List IV)
  | .tup xs => some xs
  | _ => none
def asS (st : Sto) : IV → Option (List IV)
  | .tup xs => some xs
  | x => asL st x
section
variable {G : Gd} {m bs : List Addr} {st : Sto} {H : Hp}
theorem Z2N (R : Rel G m bs st H) {x : IV} {v : V} {xs : List IV} (e : asL st x = some xs) (r : RV G m bs st H x v) : ∃ a vs, v = .ref a ∧ SqL G.K H a vs ∧ RVs G m bs st H xs vs := by
  cases x with
  | lst ys =>
    cases e
    simp only [RV] at r
    obtain ⟨a, vs, e, h, r⟩ := r
    exact ⟨a, vs, e, h.sq, r⟩
  | ref l =>
    simp only [RV] at r
    obtain ⟨a, ea, h⟩ := r
    simp only [asL] at e
    split at e
    · rename_i ys e1
      cases e
      obtain ⟨vs, e2, r2⟩ := R.obj l _ a e1 h
      exact ⟨a, vs, ea, .of e2, r2⟩
    · cases e
  | _ => cases e
theorem Z4a {x : IV} {v : V} {xs : List IV} (e : asT x = some xs) (r : RV G m bs st H x v) : ∃ a vs, v = .ref a ∧ SqT G.K H a vs ∧ RVs G m bs st H xs vs := by
  cases x with
  | tup ys =>
    cases e
    simp only [RV] at r
    obtain ⟨a, vs, e, h, r⟩ := r
    exact ⟨a, vs, e, h.sq, r⟩
  | _ => cases e
theorem Zaz (R : Rel G m bs st H) {x : IV} {v : V} {xs : List IV} (e : asS st x = some xs) (r : RV G m bs st H x v) : ∃ a vs, v = .ref a ∧ (SqL G.K H a vs ∨ SqT G.K H a vs) ∧ RVs G m bs st H xs vs := by
  cases x with
  | tup ys =>
    obtain ⟨a, vs, e, h, r⟩ := Z4a (x := .tup ys) e r
    exact ⟨a, vs, e, .inr h, r⟩
  | lst ys =>
    obtain ⟨a, vs, e, h, r⟩ := Z2N (x := .lst ys) R e r
    exact ⟨a, vs, e, .inl h, r⟩
  | ref l =>
    obtain ⟨a, vs, e, h, r⟩ := Z2N (x := .ref l) R e r
    exact ⟨a, vs, e, .inl h, r⟩
  | _ => cases e
theorem RVs.length : ∀ {xs : List IV} {vs : List V}, RVs G m bs st H xs vs → xs.length = vs.length
  | [], vs, h => by simp only [RVs] at h; rw [h]; rfl
  | x :: xs, vs, h => by
    simp only [RVs] at h
    obtain ⟨v, r, e, _, h⟩ := h
    rw [e, List.length_cons, List.length_cons, RVs.length h]
theorem RVs.get : ∀ {xs : List IV} {vs : List V} {i : Nat} {x : IV}, RVs G m bs st H xs vs → xs[i]? = some x → ∃ v, vs[i]? = some v ∧ RV G m bs st H x v
  | [], vs, i, x, h, e => by simp at e
  | y :: xs, vs, 0, x, h, e => by
    simp only [RVs] at h
    obtain ⟨v, r, e1, h1, h⟩ := h
    have : y = x := by simpa using e
    subst this
    exact ⟨v, by rw [e1]; rfl, h1⟩
  | y :: xs, vs, i + 1, x, h, e => by
    simp only [RVs] at h
    obtain ⟨v, r, e1, h1, h⟩ := h
    obtain ⟨w, e2, h2⟩ := RVs.get (i := i) (x := x) h (by simpa using e)
    exact ⟨w, by rw [e1]; simpa using e2, h2⟩
theorem RVs.append : ∀ {xs ys : List IV} {vs ws : List V}, RVs G m bs st H xs vs → RVs G m bs st H ys ws → RVs G m bs st H (xs ++ ys) (vs ++ ws)
  | [], ys, vs, ws, h, h' => by simp only [RVs] at h; rw [h]; exact h'
  | x :: xs, ys, vs, ws, h, h' => by
    simp only [RVs] at h
    obtain ⟨v, r, e, h1, h⟩ := h
    rw [e]
    simp only [List.cons_append, RVs]
    exact ⟨v, _, rfl, h1, RVs.append h h'⟩
theorem RVs.take : ∀ {xs : List IV} {vs : List V} (n : Nat), RVs G m bs st H xs vs → RVs G m bs st H (xs.take n) (vs.take n)
  | _, _, 0, _ => by simp [RVs]
  | [], vs, n + 1, h => by simp only [RVs] at h; rw [h]; simp [RVs]
  | x :: xs, vs, n + 1, h => by
    simp only [RVs] at h
    obtain ⟨v, r, e, h1, h⟩ := h
    rw [e]
    simp only [List.take_succ_cons, RVs]
    exact ⟨v, _, rfl, h1, RVs.take n h⟩
theorem RVs.drop : ∀ {xs : List IV} {vs : List V} (n : Nat), RVs G m bs st H xs vs → RVs G m bs st H (xs.drop n) (vs.drop n)
  | _, _, 0, h => by simpa using h
  | [], vs, n + 1, h => by simp only [RVs] at h; rw [h]; simp [RVs]
  | x :: xs, vs, n + 1, h => by
    simp only [RVs] at h
    obtain ⟨v, r, e, h1, h⟩ := h
    rw [e]
    simpa using RVs.drop n h
theorem RVs.set : ∀ {xs : List IV} {vs : List V} (n : Nat) {x : IV} {v : V}, RVs G m bs st H xs vs → RV G m bs st H x v → RVs G m bs st H (xs.set n x) (vs.set n v)
  | [], vs, n, _, _, h, _ => by simp only [RVs] at h; rw [h]; simp [RVs]
  | y :: xs, vs, 0, x, v, h, q => by
    simp only [RVs] at h
    obtain ⟨w, r, e, h1, h⟩ := h
    rw [e]
    simp only [List.set_cons_zero, RVs]
    exact ⟨v, r, rfl, q, h⟩
  | y :: xs, vs, n + 1, x, v, h, q => by
    simp only [RVs] at h
    obtain ⟨w, r, e, h1, h⟩ := h
    rw [e]
    simp only [List.set_cons_succ, RVs]
    exact ⟨w, _, rfl, h1, RVs.set n h q⟩
theorem RVs.eraseIdx : ∀ {xs : List IV} {vs : List V} (n : Nat), RVs G m bs st H xs vs → RVs G m bs st H (xs.eraseIdx n) (vs.eraseIdx n)
  | [], vs, n, h => by simp only [RVs] at h; rw [h]; simp [RVs]
  | x :: xs, vs, 0, h => by
    simp only [RVs] at h
    obtain ⟨v, r, e, h1, h⟩ := h
    rw [e]; exact h
  | x :: xs, vs, n + 1, h => by
    simp only [RVs] at h
    obtain ⟨v, r, e, h1, h⟩ := h
    rw [e]
    simp only [List.eraseIdx_cons_succ, RVs]
    exact ⟨v, _, rfl, h1, RVs.eraseIdx n h⟩
theorem RVs.nil_iff {xs : List IV} {vs : List V} (h : RVs G m bs st H xs vs) : vs = [] ↔ xs = [] := by
  have e := RVs.length h
  cases xs <;> cases vs <;> simp at e ⊢
theorem Pst.newT {W : Value → Option Addr → Hp → Prop} {xs : List IV} {vs : List V} {Q : VK} (R : Rel G m bs st H) (r : RVs G m bs st H xs vs) (h : Pst G m bs st H W (.ok (.tup xs) st) (fun v m' st' H' => ∀ u, RV G m' bs st' H' v u → Q u H'))
    {p : Addr} (hp : H p = none) : Q (.ref p) (upd H p (.tup vs)) := by
  refine h m _ (Z13 hp) (R.new hp) (.ref p) ?_
  simp only [RV]
  exact ⟨p, vs, rfl, ZiL R hp, RVs.fits (Z13 hp).fitsE _ _ r⟩
theorem Pst.newL {W : Value → Option Addr → Hp → Prop} {xs : List IV} {vs : List V} {Q : VK} (R : Rel G m bs st H) (r : RVs G m bs st H xs vs) (h : Pst G m bs st H W (.ok (.lst xs) st) (fun v m' st' H' => ∀ u, RV G m' bs st' H' v u → Q u H'))
    {p : Addr} (hp : H p = none) : Q (.ref p) (upd H p (.lst vs)) := by
  refine h m _ (Z13 hp) (R.new hp) (.ref p) ?_
  simp only [RV]
  exact ⟨p, vs, rfl, ZoV R hp, RVs.fits (Z13 hp).fitsE _ _ r⟩
theorem Pst.v {W : Value → Option Addr → Hp → Prop} {x : IV} {v : V} {Q : VK} (R : Rel G m bs st H) (r : RV G m bs st H x v) (h : Pst G m bs st H W (.ok x st) (fun v m' st' H' => ∀ u, RV G m' bs st' H' v u → Q u H')) : Q v H := h.ok R v r
end
def gAdd : IV → IV → Sto → R IV
  | .int i, .int j, st => .ok (.int (i + j)) st
  | .str i, .str j, st => if i.length + j.length ≤ 100000 then .ok (.str (i ++ j)) st else .bad
  | .tup xs, .tup ys, st => if xs.length + ys.length ≤ 100000 then .ok (.tup (xs ++ ys)) st else .bad
  | x, y, st => match asL st x, asL st y with
    | some xs, some ys => if xs.length + ys.length ≤ 100000 then .ok (.lst (xs ++ ys)) st else .bad
    | _, _ => .bad
def gMul : IV → IV → Sto → R IV
  | .int i, .int j, st => if i.natAbs < 18446744073709551616 ∨ j.natAbs < 18446744073709551616 then .ok (.int (i * j)) st else .bad
  | _, _, _ => .bad
def gDiv : IV → IV → Sto → R IV
  | .int i, .int j, st => if 0 < j ∧ j ≤ 10000000000000000000000000000000000000000 then .ok (.int (i / j)) st else .bad
  | _, _, _ => .bad
def gMod : IV → IV → Sto → R IV
  | .int i, .int j, st => if 0 < j then .ok (.int (i % j)) st else .bad
  | _, _, _ => .bad
def gPow : IV → IV → Sto → R IV
  | .int i, .int j, st => if 0 ≤ j ∧ j ≤ 1000000 ∧ i.natAbs < 18446744073709551616 then .ok (.int (i ^ j.toNat)) st else .bad
  | _, _, _ => .bad
section
variable {X : Cx}
theorem OpM.eq {f : Value → Value → Sem Value} {g g' : IV → IV → Sto → R IV} (h : OpM X f g) (e : ∀ x y st, g x y st = g' x y st) : OpM X f g' := by
  have : g = g' := funext fun x => funext fun y => funext fun st => e x y st
  rw [← this]; exact h
def rCatL (K : PySem.W.Frag) : R2 := fun x y H Q => ∃ l b xs zs, x = .ref l ∧ y = .ref b ∧ SqL K H l xs ∧ SqL K H b zs ∧ xs.length + zs.length ≤ sizeLine ∧ ∀ p, H p = none → Q (.ref p) (upd H p (.lst (xs ++ zs)))
theorem ZtY : OpR X (binaryOp .Add) (rCatL X.K) := by
  intro pins s σ H x y v u Q I rx ry h
  obtain ⟨l, b, xs, zs, rfl, rfl, hH, hB, hz, q⟩ := h
  cases rx
  cases ry
  obtain ⟨its, r, ⟨o, n, e, c, d, dd⟩, _⟩ := I.list hH
  obtain ⟨its2, r2, ⟨o2, n2, e2, c2, d2, dd2⟩, _⟩ := I.list hB
  obtain ⟨oc, od, dt, sl⟩ := o
  obtain ⟨oc2, od2, dt2, sl2⟩ := o2
  simp only at c d dd c2 d2 dd2
  subst c d dd c2 d2 dd2
  have l1 := r.length
  have l2 := r2.length
  have ea : its.toArray ++ its2.toArray = (its ++ its2).toArray := by simp
  refine concat_meets ⟨_, e, rfl⟩ ⟨_, e2, rfl⟩ noFill_list_add seq_list_add PySem.F.slot_list_add PySem.F.entry_list_add (PySem.F.args_list_add_2 _ _) (list_addW l b its.toArray its2.toArray n n2 none none sl sl2 (by rw [List.size_toArray, List.size_toArray]; omega)) ⟨e, e2, ?_⟩
  rw [ea]
  exact ⟨.ref _, _, I.lnew (t' := s.toks) (r.append r2) (by rw [List.length_append]; omega), rfl, q _ I.fresh⟩
theorem Z1b : OpM X (binaryOp .Add) gAdd := by
  refine ⟨_, op_add.or (op_add_str.or (op_catA.or ZtY)), fun m bs st H x y x' y' Q W R rx ry h => ?_⟩
  unfold gAdd at h
  split at h
  · simp only [RV] at rx ry
    exact .inl ⟨_, _, rx, ry, h.v R (by simp only [RV])⟩
  · simp only [RV] at rx ry
    split at h
    · rename_i c
      exact .inr (.inl ⟨_, _, rx, ry, szl c, h.v R (by simp only [RV])⟩)
    · exact h.elim
  · split at h
    · rename_i xs ys c
      obtain ⟨a, vs, ea, h1, r1⟩ := Z4a (x := .tup xs) rfl rx
      obtain ⟨b, ws, eb, h2, r2⟩ := Z4a (x := .tup ys) rfl ry
      refine .inr (.inr (.inl ⟨a, b, vs, ws, ea, eb, h1, h2, by rw [← r1.length, ← r2.length]; exact szl c, fun z => ?_, fun z1 z2 => ?_, fun z1 z2 p hp => ?_⟩))
      · have e := r1.nil_iff.mp z
        subst e
        rw [← eb]
        exact h.v R ry
      · have e := r2.nil_iff.mp z2
        subst e
        rw [List.append_nil] at h
        rw [← ea]
        exact h.v R rx
      · exact h.newT R (r1.append r2) hp
    · exact h.elim
  · split at h
    · rename_i xs ys e1 e2
      split at h
      · rename_i c
        obtain ⟨a, vs, ea, h1, r1⟩ := Z2N R e1 rx
        obtain ⟨b, ws, eb, h2, r2⟩ := Z2N R e2 ry
        exact .inr (.inr (.inr ⟨a, b, vs, ws, ea, eb, h1, h2, by rw [← r1.length, ← r2.length]; exact szl c, fun p hp => h.newL R (r1.append r2) hp⟩))
      · exact h.elim
    · exact h.elim
theorem Z3i : OpM X (binaryOp .Mult) gMul := by
  refine ⟨_, op_mul, fun m bs st H x y x' y' Q W R rx ry h => ?_⟩
  unfold gMul at h
  split at h
  · simp only [RV] at rx ry
    split at h
    · rename_i c
      refine ⟨_, _, rx, ry, ?_, h.v R (by simp only [RV])⟩
      have e : (2 : Int) ^ 64 = 18446744073709551616 := by decide
      unfold CMul
      rw [e]
      rcases c with c | c
      · exact .inl (by omega)
      · exact .inr (by omega)
    · exact h.elim
  · exact h.elim
theorem ZqZ {j : Int} (h0 : 0 < j) (h : j ≤ 10000000000000000000000000000000000000000) : CDivW 0 j :=
  wide_div (b := 140) h0 (by have : (2 : Nat) ^ 140 = 1393796574908163946345982392040522594123776 := by decide +kernel
                             omega) (by decide) (by decide)
theorem Znl : OpM X (binaryOp .FloorDiv) gDiv := by
  refine ⟨_, op_fdivW, fun m bs st H x y x' y' Q W R rx ry h => ?_⟩
  unfold gDiv at h
  split at h
  · simp only [RV] at rx ry
    split at h
    · rename_i c
      exact ⟨_, _, rx, ry, ZqZ c.1 c.2, h.v R (by simp only [RV])⟩
    · exact h.elim
  · exact h.elim
theorem Z6L : OpM X (binaryOp .Mod) gMod := by
  refine ⟨_, op_mod, fun m bs st H x y x' y' Q W R rx ry h => ?_⟩
  unfold gMod at h
  split at h
  · simp only [RV] at rx ry
    split at h
    · rename_i c
      exact ⟨_, _, rx, ry, c, h.v R (by simp only [RV])⟩
    · exact h.elim
  · exact h.elim
theorem Z7c : OpM X (binaryOp .Pow) gPow := by
  refine ⟨_, op_pow, fun m bs st H x y x' y' Q W R rx ry h => ?_⟩
  unfold gPow at h
  split at h
  · simp only [RV] at rx ry
    split at h
    · rename_i c
      refine ⟨_, _, rx, ry, ⟨c.1, c.2.1, ?_⟩, h.v R (by simp only [RV])⟩
      have e : (2 : Nat) ^ 64 = 18446744073709551616 := by decide
      rw [e]; exact c.2.2
    · exact h.elim
  · exact h.elim
def gRel (p : Int → Int → Bool) : IV → IV → Sto → R IV
  | .int i, .int j, st => .ok (.bl (p i j)) st
  | _, _, _ => .bad
theorem ZbB {op : CmpOp} {p : Int → Int → Bool} (ho : OpR X (compareOp op) (rI0 fun i j => .bl (p i j))) : OpM X (compareOp op) (gRel p) := by
  refine ⟨_, ho, fun m bs st H x y x' y' Q W R rx ry h => ?_⟩
  unfold gRel at h
  split at h
  · simp only [RV] at rx ry
    exact ⟨_, _, rx, ry, h.v R (by simp only [RV])⟩
  · exact h.elim
abbrev gLt := gRel fun i j => decide (i < j)
abbrev gLe := gRel fun i j => decide (i ≤ j)
abbrev gGt := gRel fun i j => decide (j < i)
abbrev gGe := gRel fun i j => decide (j ≤ i)
theorem Zki : OpM X (compareOp .Lt) gLt := ZbB op_lt
theorem Z4k : OpM X (compareOp .LtE) gLe := ZbB op_le
theorem ZoT : OpM X (compareOp .Gt) gGt := ZbB op_gt
theorem Zvu : OpM X (compareOp .GtE) gGe := ZbB op_ge
mutual
def toD0 : IV → Option PyData
  | .non => some .none
  | .bl b => some (.bool b)
  | .int i => some (.int i)
  | .str x => some (.str x)
  | .tup xs => (toD0s xs).map .tuple
  | .lst xs => (toD0s xs).map .list
  | _ => none
def toD0s : List IV → Option (List PyData)
  | [] => some []
  | x :: xs => (toD0 x).bind fun d => (toD0s xs).map fun ds => d :: ds
end
def toD (st : Sto) : IV → Option PyData
  | .ref l => match st[l]? with
    | some (.lst xs) => (toD0s xs).map .list
    | _ => none
  | x => toD0 x
mutual
theorem Zn7 {G : Gd} {m bs : List Addr} {st : Sto} {H : Hp} : ∀ (x : IV) (v : V) (d : PyData), toD0 x = some d → RV G m bs st H x v → Dp G.K H v d
  | .non, v, d, e, r => by simp only [RV] at r; simp only [toD0] at e; cases e; rw [r]; exact .non
  | .bl b, v, d, e, r => by simp only [RV] at r; simp only [toD0] at e; cases e; rw [r]; exact .bl b
  | .int i, v, d, e, r => by simp only [RV] at r; simp only [toD0] at e; cases e; rw [r]; exact .int i
  | .str x, v, d, e, r => by simp only [RV] at r; simp only [toD0] at e; cases e; rw [r]; exact .str x
  | .ty n, v, d, e, r => by simp [toD0] at e
  | .ref l, v, d, e, r => by simp [toD0] at e
  | .ptp l, v, d, e, r => by simp [toD0] at e
  | .tup xs, v, d, e, r => by
    simp only [toD0, Option.map_eq_some_iff] at e
    obtain ⟨ds, e1, e2⟩ := e
    subst e2
    simp only [RV] at r
    obtain ⟨a, vs, ea, h, r⟩ := r
    rw [ea]
    exact .tup h.sq (toD0s_dp xs vs ds e1 r)
  | .lst xs, v, d, e, r => by
    simp only [toD0, Option.map_eq_some_iff] at e
    obtain ⟨ds, e1, e2⟩ := e
    subst e2
    simp only [RV] at r
    obtain ⟨a, vs, ea, h, r⟩ := r
    rw [ea]
    exact .lst h.sq (toD0s_dp xs vs ds e1 r)
theorem toD0s_dp {G : Gd} {m bs : List Addr} {st : Sto} {H : Hp} : ∀ (xs : List IV) (vs : List V) (ds : List PyData), toD0s xs = some ds → RVs G m bs st H xs vs → DpAll G.K H vs ds
  | [], vs, ds, e, r => by simp only [RVs] at r; simp only [toD0s] at e; cases e; rw [r]; exact .nil
  | x :: xs, vs, ds, e, r => by
    simp only [toD0s, Option.bind_eq_some_iff, Option.map_eq_some_iff] at e
    obtain ⟨d, e1, ds', e2, e3⟩ := e
    subst e3
    simp only [RVs] at r
    obtain ⟨v, t, ev, r1, r2⟩ := r
    rw [ev]
    exact .cons (Zn7 x v d e1 r1) (toD0s_dp xs t ds' e2 r2)
end
theorem ZaE {G : Gd} {m bs : List Addr} {st : Sto} {H : Hp} (R : Rel G m bs st H) {x : IV} {v : V} {d : PyData} (e : toD st x = some d) (r : RV G m bs st H x v) : Dp G.K H v d := by
  unfold toD at e
  split at e
  · rename_i l
    split at e
    · rename_i xs e1
      obtain ⟨a, vs, ea, h1, r1⟩ := Z2N (x := .ref l) (xs := xs) R (by simp only [asL, e1]) r
      simp only [Option.map_eq_some_iff] at e
      obtain ⟨ds, e2, e3⟩ := e
      subst e3
      rw [ea]
      exact .lst h1 (toD0s_dp xs vs ds e2 r1)
    · cases e
  · exact Zn7 _ _ _ e r
def eqB (st : Sto) (x y : IV) : Option Bool := match x, y with
  | .int i, .int j => some (decide (i = j))
  | .str i, .str j => some (decide (i = j))
  | x, y => match toD st x, toD st y with
    | some d, some e => if SeqAt.shaped d = true ∧ SeqAt.shaped e = true then some (PyData.eqv d e) else none
    | _, _ => none
def gEq : IV → IV → Sto → R IV := fun x y st => match eqB st x y with
  | some b => .ok (.bl b) st
  | none => .bad
def gNe : IV → IV → Sto → R IV := fun x y st => match eqB st x y with
  | some b => .ok (.bl (!b)) st
  | none => .bad
theorem Z6S (hu : X.A.units + 64 < cLine) : OpM X (compareOp .Eq) gEq := by
  refine ⟨_, op_eq.or (op_eqD hu), fun m bs st H x y x' y' Q W R rx ry h => ?_⟩
  unfold gEq at h
  split at h
  · rename_i b e
    unfold eqB at e
    split at e
    · cases e
      simp only [RV] at rx ry
      subst rx ry
      refine .inl ⟨rfl, ?_⟩
      rename_i i j
      have := h.v R (v := .bl (decide (i = j))) (by simp only [RV])
      simpa using this
    · cases e
      simp only [RV] at rx ry
      subst rx ry
      refine .inl ⟨rfl, ?_⟩
      rename_i i j
      have := h.v R (v := .bl (decide (i = j))) (by simp only [RV])
      simpa using this
    · split at e
      · rename_i d e' h1 h2
        split at e
        · rename_i c
          cases e
          exact .inr ⟨d, e', ZaE R h1 rx, ZaE R h2 ry, c.1, c.2, h.v R (by simp only [RV])⟩
        · cases e
      · cases e
  · exact h.elim
theorem Z4p (hu : X.A.units + 64 < cLine) : OpM X (compareOp .NotEq) gNe := by
  refine ⟨_, op_ne.or (op_neD hu), fun m bs st H x y x' y' Q W R rx ry h => ?_⟩
  unfold gNe at h
  split at h
  · rename_i b e
    unfold eqB at e
    split at e
    · cases e
      simp only [RV] at rx ry
      subst rx ry
      refine .inl ⟨rfl, ?_⟩
      rename_i i j
      have := h.v R (v := .bl (!decide (i = j))) (by simp only [RV])
      simpa using this
    · cases e
      simp only [RV] at rx ry
      subst rx ry
      refine .inl ⟨rfl, ?_⟩
      rename_i i j
      have := h.v R (v := .bl (!decide (i = j))) (by simp only [RV])
      simpa using this
    · split at e
      · rename_i d e' h1 h2
        split at e
        · rename_i c
          cases e
          exact .inr ⟨d, e', ZaE R h1 rx, ZaE R h2 ry, c.1, c.2, h.v R (by simp only [RV])⟩
        · cases e
      · cases e
  · exact h.elim
def isNon : IV → Bool
  | .non => true
  | _ => false
def gIsN (neg : Bool) : IV → IV → Sto → R IV
  | x, .non, st => .ok (.bl (neg != (isNon x))) st
  | _, _, _ => .bad
theorem ZpZ {G : Gd} {m bs : List Addr} {st : Sto} {H : Hp} {x : IV} {v : V} (r : RV G m bs st H x v) : decide (v = .non) = (isNon x) := by
  cases x <;> simp only [RV] at r
  · rw [r]; rfl
  · rw [r]; rfl
  · rw [r]; rfl
  · rw [r]; rfl
  · rw [r]; rfl
  · obtain ⟨a, e, _⟩ := r; rw [e]; rfl
  · obtain ⟨a, _, e, _⟩ := r; rw [e]; rfl
  · obtain ⟨a, _, e, _⟩ := r; rw [e]; rfl
  · obtain ⟨a, _, e, _⟩ := r; rw [e]; rfl
theorem Zni : OpM X (compareOp .Is) (gIsN false) := by
  refine ⟨_, op_isN, fun m bs st H x y x' y' Q W R rx ry h => ?_⟩
  cases y with
  | non =>
    simp only [gIsN] at h
    simp only [RV] at ry
    refine ⟨ry, ?_⟩
    rw [ZpZ rx]
    have := h.v R (v := .bl (false != isNon x)) (by simp only [RV])
    simpa using this
  | _ => exact h.elim
theorem Z7L : OpM X (compareOp .IsNot) (gIsN true) := by
  refine ⟨_, op_notN, fun m bs st H x y x' y' Q W R rx ry h => ?_⟩
  cases y with
  | non =>
    simp only [gIsN] at h
    simp only [RV] at ry
    refine ⟨ry, ?_⟩
    rw [ZpZ rx]
    have := h.v R (v := .bl (true != isNon x)) (by simp only [RV])
    simpa using this
  | _ => exact h.elim
def flatI : IV → Bool
  | .non => true
  | .bl _ => true
  | .int _ => true
  | .str _ => true
  | _ => false
def eqI : IV → IV → Bool
  | .non, .non => true
  | .bl a, .bl b => a == b
  | .bl a, .int b => (if a then 1 else 0) == b
  | .int a, .bl b => a == (if b then 1 else 0)
  | .int a, .int b => a == b
  | .str a, .str b => a == b
  | _, _ => false
def inI (x : IV) (xs : List IV) : Bool := xs.any fun y => eqI y x
def vOf : IV → V
  | .bl a => .bl a
  | .int a => .int a
  | .str a => .str a
  | _ => .non
theorem Zbu {G : Gd} {m bs : List Addr} {st : Sto} {H : Hp} {x : IV} {v : V} (f : flatI x = true) (r : RV G m bs st H x v) : v = vOf x ∧ flatV v = true := by
  cases x <;> simp only [RV] at r <;> first | (subst r; exact ⟨rfl, rfl⟩) | cases f
theorem Z8b {G : Gd} {m bs : List Addr} {st : Sto} {H : Hp} : ∀ {xs : List IV} {vs : List V}, xs.all flatI = true → RVs G m bs st H xs vs → vs = xs.map vOf ∧ vs.all flatV = true
  | [], vs, f, r => by simp only [RVs] at r; subst r; exact ⟨rfl, rfl⟩
  | x :: xs, vs, f, r => by
    simp only [RVs] at r
    obtain ⟨v, t, e, r1, r2⟩ := r
    rw [List.all_cons, Bool.and_eq_true] at f
    obtain ⟨e1, f1⟩ := Zbu f.1 r1
    obtain ⟨e2, f2⟩ := Z8b f.2 r2
    subst e
    exact ⟨by rw [List.map_cons, e1, e2], by rw [List.all_cons, f1, f2]; rfl⟩
theorem ZuE {x y : IV} (fx : flatI x = true) (fy : flatI y = true) : eqV (vOf y) (vOf x) = eqI y x := by
  cases x <;> cases y <;> first | rfl | (simp [flatI] at fx; done) | (simp [flatI] at fy; done)
theorem ZgX {x : IV} (fx : flatI x = true) : ∀ {xs : List IV}, xs.all flatI = true → inV (vOf x) (xs.map vOf) = inI x xs
  | [], _ => rfl
  | y :: ys, f => by
    rw [List.all_cons, Bool.and_eq_true] at f
    have ih := ZgX fx f.2
    unfold inV inI at ih ⊢
    rw [List.map_cons, List.any_cons, List.any_cons, ih, ZuE fx f.1]
def inB (st : Sto) (x y : IV) : Option Bool := match x, y with
  | .str c, .str z => match c.cps.toList with
    | [k] => some (decide (k ∈ z.cps.toList))
    | _ => none
  | x, y => match asS st y with
    | some ys => if flatI x = true ∧ ys.all flatI = true then some (inI x ys) else none
    | none => none
def gIn (neg : Bool) : IV → IV → Sto → R IV := fun x y st => match inB st x y with
  | some b => .ok (.bl (if neg then !b else b)) st
  | none => .bad
theorem Znu {c : Str} {k : Nat} (h : c.cps.toList = [k]) : c = ⟨#[k]⟩ := by
  obtain ⟨a⟩ := c
  have : a = #[k] := by
    apply Array.toList_inj.mp
    simpa using h
  rw [this]
theorem ZvW : OpM X (compareOp .In) (gIn false) := by
  refine ⟨_, op_in_sign.or op_in_seq, fun m bs st H x y x' y' Q W R rx ry h => ?_⟩
  unfold gIn at h
  split at h
  · rename_i b e
    unfold inB at e
    split at e
    · split at e
      · rename_i _ c z _ k hk
        cases e
        simp only [RV] at rx ry
        rw [Znu hk] at rx
        exact .inl ⟨k, z, rx, ry, h.v R (by simp only [RV]; rfl)⟩
      · cases e
    · split at e
      · rename_i ys hy
        split at e
        · rename_i c
          cases e
          obtain ⟨a, vs, ea, hs, r⟩ := Zaz R hy ry
          obtain ⟨ex, fx⟩ := Zbu c.1 rx
          obtain ⟨ev, fv⟩ := Z8b c.2 r
          refine .inr ⟨a, vs, ea, hs, fx, fv, ?_⟩
          rw [ex, ev, ZgX c.1 c.2]
          exact h.v R (by simp only [RV])
        · cases e
      · cases e
  · exact h.elim
theorem ZpQ : OpM X (compareOp .NotIn) (gIn true) := by
  refine ⟨_, op_notIn_sign.or op_notIn_seq, fun m bs st H x y x' y' Q W R rx ry h => ?_⟩
  unfold gIn at h
  split at h
  · rename_i b e
    unfold inB at e
    split at e
    · split at e
      · rename_i _ c z _ k hk
        cases e
        simp only [RV] at rx ry
        rw [Znu hk] at rx
        exact .inl ⟨k, z, rx, ry, h.v R (by simp only [RV]; rfl)⟩
      · cases e
    · split at e
      · rename_i ys hy
        split at e
        · rename_i c
          cases e
          obtain ⟨a, vs, ea, hs, r⟩ := Zaz R hy ry
          obtain ⟨ex, fx⟩ := Zbu c.1 rx
          obtain ⟨ev, fv⟩ := Z8b c.2 r
          refine .inr ⟨a, vs, ea, hs, fx, fv, ?_⟩
          rw [ex, ev, ZgX c.1 c.2]
          exact h.v R (by simp only [RV])
        · cases e
      · cases e
  · exact h.elim
end
end Mi
namespace Mi
open PySem PySem.Spec PyProof.Rows L2
section
variable {X : Cx} {W : WX} {xa : Xa} {a b c e : Expr} {A B C : IE} {S T : IT} {pos : Pos} {es rest : List Expr} {As : IA}
theorem ZqY {op op' : CmpOp} {g g' : IV → IV → Sto → R IV} (ho : OpM X (compareOp op) g) (ho' : OpM X (compareOp op') g') (ha : ME X W xa a A) (hb : ME X W xa b B) (hc : ME X W xa c C)
    (hm : lastMarks [op, op'] [b, c] = false := by with_unfolding_all rfl) : ME X W xa (.Compare a [op, op'] [b, c] pos) (Z3v g g' A B C) := by
  obtain ⟨r, hr, k⟩ := ho
  obtain ⟨r', hr', k'⟩ := ho'
  refine PE.weak (pe_chain hr hr' ha hb hc hm) fun σ H Q h => ?_
  obtain ⟨m, os, rs, ρ, st, P, h⟩ := h
  refine ⟨m, os, rs, ρ, st, P, h.bind.mono fun x m1 st1 H1 g1 R1 h1 x' rx => ⟨m1, os, rs, ρ, st1, P.grow g1 R1, h1.bind.mono fun y m2 st2 H2 g2 R2 h2 y' ry =>
    k m2 _ st2 H2 x y x' y' _ _ R2 (RV.fits g2.fitsE _ _ rx) ry (h2.bind.mono fun z m3 st3 H3 g3 R3 h3 z' rz => Z22 (Q := fun k H3 => if k = true then teOf (gd X) W xa C σ H3 fun w' H4 => r' y' w' H4 Q else Q (.bl false) H3) R3 rz (h3.bind.mono fun q m4 st4 H4 g4 R4 h4 q' e => ?_))⟩⟩
  subst e
  cases q with
  | false => exact h4.v R4 (by simp only [RV])
  | true => exact ⟨m4, os, rs, ρ, st4, ((P.grow g1 R1).grow g2 R2 |>.grow g3 R3).grow g4 R4, Pst.mono (Pst.bind h4) fun w m5 st5 H5 g5 R5 h5 w' rw' =>
      k' m5 _ st5 H5 y w y' w' Q _ R5 (RV.fits (((g3.trans g4).trans g5)).fitsE _ _ ry) rw' h5⟩
theorem ZeL {op op' : CmpOp} {g g' : IV → IV → Sto → R IV} (ho : OpM X (compareOp op) g) (ho' : OpM X (compareOp op') g') (ha : ME X W xa a A) (hb : ME X W xa b B) (hc : ME X W xa c C)
    (hm : lastMarks [op, op'] [b, c] = false := by with_unfolding_all rfl) : MT X W xa (.Compare a [op, op'] [b, c] pos) (iTest (Z3v g g' A B C)) := by
  obtain ⟨r, hr, k⟩ := ho
  obtain ⟨r', hr', k'⟩ := ho'
  refine PT.weak (pt_chain hr hr' ha hb hc hm) fun σ H Q h => ?_
  obtain ⟨m, os, rs, ρ, st, P, h⟩ := h
  have h := h.bind
  refine ⟨m, os, rs, ρ, st, P, h.bind.mono fun x m1 st1 H1 g1 R1 h1 x' rx => ⟨m1, os, rs, ρ, st1, P.grow g1 R1, h1.bind.mono fun y m2 st2 H2 g2 R2 h2 y' ry =>
    k m2 _ st2 H2 x y x' y' _ _ R2 (RV.fits g2.fitsE _ _ rx) ry (h2.bind.mono fun z m3 st3 H3 g3 R3 h3 z' rz => Z22 (Q := fun k H3 => if k = true then teOf (gd X) W xa C σ H3 fun w' H4 => r' y' w' H4 fun x H' => ∃ k, x = V.bl k ∧ Q k H' else (fun x H' => ∃ k, x = V.bl k ∧ Q k H') (.bl false) H3) R3 rz (h3.bind.mono fun q m4 st4 H4 g4 R4 h4 q' e => ?_))⟩⟩
  subst e
  cases q with
  | false =>
    show ∃ k, V.bl false = V.bl k ∧ Q k H4
    exact Z22 R4 (x := .bl false) (by simp only [RV]) (h4.ok R4)
  | true => exact ⟨m4, os, rs, ρ, st4, ((P.grow g1 R1).grow g2 R2 |>.grow g3 R3).grow g4 R4, Pst.mono (Pst.bind h4) fun w m5 st5 H5 g5 R5 h5 w' rw' =>
      k' m5 _ st5 H5 y w y' w' _ _ R5 (RV.fits (((g3.trans g4).trans g5)).fitsE _ _ ry) rw' (h5.mono fun v m6 st6 H6 g6 R6 h6 u ru => Z22 R6 ru h6)⟩
abbrev MW (X : Cx) (W : WX) (xa : Xa) (e : Expr) (A : IT) : Prop := PW X e (ttOf (gd X) W xa A)
def iAnd (S T : IT) : IT := fun ρ st => (S ρ st).bind fun c st => if c = true then T ρ st else .ok false st
def iOr (S T : IT) : IT := fun ρ st => (S ρ st).bind fun c st => if c = true then .ok true st else T ρ st
def iNot (S : IT) : IT := fun ρ st => (S ρ st).bind fun c st => .ok (!c) st
theorem Znh (h : MT X W xa a S) : MW X W xa (.BoolOp .And [a] pos) S := pw_and1 h
theorem Z3q (h : MT X W xa a S) : MW X W xa (.BoolOp .Or [a] pos) S := pw_or1 h
theorem ZoW (ha : MT X W xa a S) (hb : MW X W xa (.BoolOp .And (b :: rest) pos) T) : MW X W xa (.BoolOp .And (a :: b :: rest) pos) (iAnd S T) := by
  refine PW.weak (pw_and ha hb) fun σ H Q h => ?_
  obtain ⟨m, os, rs, ρ, st, P, h⟩ := h
  refine ⟨m, os, rs, ρ, st, P, h.bind.mono fun x m1 st1 H1 g1 R1 h1 x' e => ?_⟩
  subst e
  cases x with
  | true => exact ⟨m1, os, rs, ρ, st1, P.grow g1 R1, h1⟩
  | false => exact h1.ok R1 _ rfl
theorem mw_or (ha : MT X W xa a S) (hb : MW X W xa (.BoolOp .Or (b :: rest) pos) T) : MW X W xa (.BoolOp .Or (a :: b :: rest) pos) (iOr S T) := by
  refine PW.weak (pw_or ha hb) fun σ H Q h => ?_
  obtain ⟨m, os, rs, ρ, st, P, h⟩ := h
  refine ⟨m, os, rs, ρ, st, P, h.bind.mono fun x m1 st1 H1 g1 R1 h1 x' e => ?_⟩
  subst e
  cases x with
  | true => exact h1.ok R1 _ rfl
  | false => exact ⟨m1, os, rs, ρ, st1, P.grow g1 R1, h1⟩
theorem MW.pt (h : MW X W xa e S) : MT X W xa e S := PW.pt h
theorem Z1z (ha : MT X W xa a S) : MT X W xa (.UnaryOp .Not a pos) (iNot S) := by
  refine PT.weak (pt_not ha) fun σ H Q h => ?_
  obtain ⟨m, os, rs, ρ, st, P, h⟩ := h
  refine ⟨m, os, rs, ρ, st, P, h.bind.mono fun x m1 st1 H1 g1 R1 h1 x' e => ?_⟩
  subst e
  exact h1.ok R1 _ rfl
def iAndV (A B : IE) : IE := fun ρ st => (A ρ st).bind fun x st => (asB x st).bind fun c st => if c = true then B ρ st else .ok (.bl false) st
def iNotV (A : IE) : IE := fun ρ st => (A ρ st).bind fun x st => (asB x st).bind fun c st => .ok (.bl (!c)) st
theorem Zkm {op} (h : ME X W xa a A) : ME X W xa (.BoolOp op [a] pos) A := pe_one h
theorem Za8 (ha : ME X W xa a A) (hb : ME X W xa (.BoolOp .And (b :: rest) pos) B) : ME X W xa (.BoolOp .And (a :: b :: rest) pos) (iAndV A B) := by
  refine PE.weak (pe_and ha hb) fun σ H Q h => ?_
  obtain ⟨m, os, rs, ρ, st, P, h⟩ := h
  refine ⟨m, os, rs, ρ, st, P, h.bind.mono fun x m1 st1 H1 g1 R1 h1 x' rx => Z22 (Q := fun c H1 => if c = true then teOf (gd X) W xa B σ H1 Q else Q (.bl false) H1) R1 rx (h1.bind.mono fun c m2 st2 H2 g2 R2 h2 c' e => ?_)⟩
  subst e
  cases c with
  | true => exact ⟨m2, os, rs, ρ, st2, (P.grow g1 R1).grow g2 R2, h2⟩
  | false => exact h2.v R2 (by simp only [RV])
theorem ZvI (ha : ME X W xa a A) : ME X W xa (.UnaryOp .Not a pos) (iNotV A) := by
  refine PE.weak (pe_not ha) fun σ H Q h => ?_
  obtain ⟨m, os, rs, ρ, st, P, h⟩ := h
  refine ⟨m, os, rs, ρ, st, P, h.bind.mono fun x m1 st1 H1 g1 R1 h1 x' rx => Z22 R1 rx (h1.bind.mono fun c m2 st2 H2 g2 R2 h2 c' e => ?_)⟩
  subst e
  exact h2.v R2 (by simp only [RV])
def iNeg (A : IE) : IE := fun ρ st => (A ρ st).bind fun x st => match x with | .int i => .ok (.int (-i)) st | _ => .bad
theorem ZfG (ha : ME X W xa a A) : ME X W xa (.UnaryOp .USub a pos) (iNeg A) := by
  refine PE.weak (pe_un un_neg ha) fun σ H Q h => ?_
  obtain ⟨m, os, rs, ρ, st, P, h⟩ := h
  refine ⟨m, os, rs, ρ, st, P, h.bind.mono fun x m1 st1 H1 g1 R1 h1 x' rx => ?_⟩
  cases x with
  | int i =>
    simp only [RV] at rx
    exact ⟨i, rx, h1.v R1 (by simp only [RV])⟩
  | _ => exact h1.elim
def iIf (S : IT) (A B : IE) : IE := fun ρ st => (S ρ st).bind fun c st => if c = true then A ρ st else B ρ st
theorem me_if (hc : MT X W xa c S) (ha : ME X W xa a A) (hb : ME X W xa b B) : ME X W xa (.IfExp c a b pos) (iIf S A B) := by
  refine PE.weak (pe_ifExp hc ha hb) fun σ H Q h => ?_
  obtain ⟨m, os, rs, ρ, st, P, h⟩ := h
  refine ⟨m, os, rs, ρ, st, P, h.bind.mono fun x m1 st1 H1 g1 R1 h1 x' e => ?_⟩
  subst e
  cases x with
  | true => exact ⟨m1, os, rs, ρ, st1, P.grow g1 R1, h1⟩
  | false => exact ⟨m1, os, rs, ρ, st1, P.grow g1 R1, h1⟩
def iNil : IA := fun _ st => .ok [] st
def iCons (A : IE) (As : IA) : IA := fun ρ st => (A ρ st).bind fun x st => (As ρ st).bind fun xs st => .ok (x :: xs) st
theorem Z2 : MA X W xa [] iNil := by
  refine PA.weak pa_nil fun σ H Q h => ?_
  obtain ⟨m, os, rs, ρ, st, P, h⟩ := h
  exact Pst.ok P.rel h [] (by simp only [RVs])
theorem Z0 (ha : ME X W xa a A) (hr : MA X W xa es As) (hs : starEach (a :: es) X.env = (false, eval a X.env) :: starEach es X.env := by rfl) : MA X W xa (a :: es) (iCons A As) := by
  refine PA.weak (pa_cons ha hr hs) fun σ H Q h => ?_
  obtain ⟨m, os, rs, ρ, st, P, h⟩ := h
  refine ⟨m, os, rs, ρ, st, P, h.bind.mono fun x m1 st1 H1 g1 R1 h1 x' rx => ⟨m1, os, rs, ρ, st1, P.grow g1 R1, h1.bind.mono fun xs m2 st2 H2 g2 R2 h2 xs' rxs => ?_⟩⟩
  refine h2.ok R2 _ ?_
  simp only [RVs]
  exact ⟨x', xs', rfl, RV.fits g2.fitsE _ _ rx, rxs⟩
def iTup (As : IA) : IE := fun ρ st => (As ρ st).bind fun xs st => if xs.length ≤ 100000 then .ok (.tup xs) st else .bad
def iLst (As : IA) : IE := fun ρ st => (As ρ st).bind fun xs st => if xs.length ≤ 100000 then .ok (.lst xs) st else .bad
def iLstS (As : IA) : IE := fun ρ st => (As ρ st).bind fun xs st => if xs.length ≤ 100000 then .ok (.ref st.length) (st ++ [.lst xs]) else .bad
theorem ZN {k : Nat} (h : MA X W xa es As) : ME X W xa (.Tuple es k pos) (iTup As) := by
  refine PE.weak (pe_tup h) fun σ H Q h => ?_
  obtain ⟨m, os, rs, ρ, st, P, h⟩ := h
  refine ⟨m, os, rs, ρ, st, P, h.bind.mono fun xs m1 st1 H1 g1 R1 h1 xs' rx => ?_⟩
  split at h1
  · rename_i c
    exact ⟨by rw [← rx.length]; exact szl c, fun p hp => h1.newT R1 rx hp⟩
  · exact h1.elim
theorem Z2S (h : MA X W xa es As) : ME X W xa (.List es pos) (iLst As) := by
  refine PE.weak (pe_lst h) fun σ H Q h => ?_
  obtain ⟨m, os, rs, ρ, st, P, h⟩ := h
  refine ⟨m, os, rs, ρ, st, P, h.bind.mono fun xs m1 st1 H1 g1 R1 h1 xs' rx => ?_⟩
  split at h1
  · rename_i c
    exact ⟨by rw [← rx.length]; exact szl c, fun p hp => h1.newL R1 rx hp⟩
  · exact h1.elim
theorem Pst.newS {G : Gd} {m bs : List Addr} {st : Sto} {H : Hp} {W : Value → Option Addr → Hp → Prop} {o : IO} {u : HO} {Q : VK} (R : Rel G m bs st H) {p : Addr} (hp : H p = none)
    (r : ∀ m' st' H', GrowE m st H m' st' H' → H' p = some u → OR G m' bs st' H' o p)
    (h : Pst G m bs st H W (.ok (.ref st.length) (st ++ [o])) (fun v m' st' H' => ∀ u, RV G m' bs st' H' v u → Q u H')) : Q (.ref p) (upd H p u) := by
  refine h (m ++ [p]) _ (Z5T R hp) (R.live hp (r _ _ _ (Z5T R hp) upd_same)) (.ref p) ?_
  simp only [RV]
  exact ⟨p, rfl, by rw [← R.len, List.getElem?_append_right (Nat.le_refl _)]; simp⟩
theorem Z2v (h : MA X W xa es As) : ME X W xa (.List es pos) (iLstS As) := by
  refine PE.weak (pe_lst h) fun σ H Q h => ?_
  obtain ⟨m, os, rs, ρ, st, P, h⟩ := h
  refine ⟨m, os, rs, ρ, st, P, h.bind.mono fun xs m1 st1 H1 g1 R1 h1 xs' rx => ?_⟩
  split at h1
  · rename_i c
    exact ⟨by rw [← rx.length]; exact szl c, fun p hp => h1.newS (o := .lst xs) R1 hp fun m' st' H' g e => ⟨_, e, RVs.fits g.fitsE _ _ rx⟩⟩
  · exact h1.elim
def CallM (X : Cx) (f : Value) (g : List IV → Sto → R IV) : Prop :=
  ∃ r, CallR X f r ∧ ∀ m bs st H xs xs' (Q : VK) W, Rel (gd X) m bs st H → RVs (gd X) m bs st H xs xs' → Pst (gd X) m bs st H W (g xs st) (fun v m' st' H' => ∀ u, RV (gd X) m' bs st' H' v u → Q u H') → r xs' H Q
def Ze (g : List IV → Sto → R IV) (As : IA) : IE := fun ρ st => (As ρ st).bind g
theorem Zg {g : List IV → Sto → R IV} {id : String} {x : Str} {p : Pos} (hc : CallM X (.builtin id) g) (hg : Gl X x) (hm : X.mg x = none) (hv : bootBuiltins x = some (.builtin id)) (ha : MA X W xa (e :: es) As)
    (hn : x ≠ "__name__" := by decide) (hdb : (x == ("__debug__" : Str)) = false := by decide) (he : starEach (e :: es) X.env = (false, eval e X.env) :: starEach es X.env := by rfl) (hpl : (backTo pos (starEach es X.env)).any (·.1) = false := by rfl) :
    ME X W xa (.Call (.Name x p) (e :: es) [] pos) (Ze g As) := by
  obtain ⟨r, hr, k⟩ := hc
  refine PE.weak (pe_callB hr hg hm hv ha hn hdb he hpl) fun σ H Q h => ?_
  obtain ⟨m, os, rs, ρ, st, P, h⟩ := h
  exact ⟨m, os, rs, ρ, st, P, h.bind.mono fun xs m1 st1 H1 g1 R1 h1 xs' rx => k m1 _ st1 H1 xs xs' Q _ R1 rx h1⟩
theorem Z17 {g : List IV → Sto → R IV} {T : String} {x : Str} {p : Pos} (hc : CallM X (.type T) g) (hg : Gl X x) (hm : X.mg x = none) (hv : bootBuiltins x = some (.type T)) (ha : MA X W xa (e :: es) As)
    (hn : x ≠ "__name__" := by decide) (hdb : (x == ("__debug__" : Str)) = false := by decide) (he : starEach (e :: es) X.env = (false, eval e X.env) :: starEach es X.env := by rfl) (hpl : (backTo pos (starEach es X.env)).any (·.1) = false := by rfl) :
    ME X W xa (.Call (.Name x p) (e :: es) [] pos) (Ze g As) := by
  obtain ⟨r, hr, k⟩ := hc
  refine PE.weak (pe_callTy hr hg hm hv ha hn hdb he hpl) fun σ H Q h => ?_
  obtain ⟨m, os, rs, ρ, st, P, h⟩ := h
  exact ⟨m, os, rs, ρ, st, P, h.bind.mono fun xs m1 st1 H1 g1 R1 h1 xs' rx => k m1 _ st1 H1 xs xs' Q _ R1 rx h1⟩
theorem rvs1 {G : Gd} {m bs : List Addr} {st : Sto} {H : Hp} {x : IV} {vs : List V} (r : RVs G m bs st H [x] vs) : ∃ v, vs = [v] ∧ RV G m bs st H x v := by
  simp only [RVs] at r
  obtain ⟨v, t, e, h, e2⟩ := r
  subst e2
  exact ⟨v, e, h⟩
theorem rvs2 {G : Gd} {m bs : List Addr} {st : Sto} {H : Hp} {x y : IV} {vs : List V} (r : RVs G m bs st H [x, y] vs) : ∃ v w, vs = [v, w] ∧ RV G m bs st H x v ∧ RV G m bs st H y w := by
  simp only [RVs] at r
  obtain ⟨v, t, e, h, w, t2, e2, h2, e3⟩ := r
  subst e3 e2
  exact ⟨v, w, e, h, h2⟩
def gAbs : List IV → Sto → R IV
  | [.int i], st => .ok (.int i.natAbs) st
  | _, _ => .bad
theorem ZoM : CallM X (.builtin "abs") gAbs := by
  refine ⟨_, call_abs, fun m bs st H xs xs' Q W R rx h => ?_⟩
  unfold gAbs at h
  split at h
  · rename_i i
    obtain ⟨v, e, r⟩ := rvs1 rx
    simp only [RV] at r
    subst r
    refine ⟨i, e, ?_⟩
    have e : (if i < 0 then -i else i) = (i.natAbs : Int) := by split <;> omega
    rw [e]
    exact h.v R (by simp only [RV])
  · exact h.elim
def gMax : List IV → Sto → R IV
  | [.int i, .int j], st => .ok (.int (max i j)) st
  | _, _ => .bad
def gMin : List IV → Sto → R IV
  | [.int i, .int j], st => .ok (.int (min i j)) st
  | _, _ => .bad
theorem Zvj (hc : X.calm = true) : CallM X (.builtin "max") gMax := by
  refine ⟨_, call_max2 hc, fun m bs st H xs xs' Q W R rx h => ?_⟩
  unfold gMax at h
  split at h
  · rename_i i j
    obtain ⟨v, w, e, r1, r2⟩ := rvs2 rx
    simp only [RV] at r1 r2
    subst r1 r2
    refine ⟨i, j, e, ?_⟩
    have e : (if j > i then j else i) = max i j := by split <;> omega
    rw [e]
    exact h.v R (by simp only [RV])
  · exact h.elim
theorem Zvr (hc : X.calm = true) : CallM X (.builtin "min") gMin := by
  refine ⟨_, call_min2 hc, fun m bs st H xs xs' Q W R rx h => ?_⟩
  unfold gMin at h
  split at h
  · rename_i i j
    obtain ⟨v, w, e, r1, r2⟩ := rvs2 rx
    simp only [RV] at r1 r2
    subst r1 r2
    refine ⟨i, j, e, ?_⟩
    have e : (if j < i then j else i) = min i j := by split <;> omega
    rw [e]
    exact h.v R (by simp only [RV])
  · exact h.elim
def gInt : List IV → Sto → R IV
  | [.int i], st => .ok (.int i) st
  | [.bl b], st => .ok (.int (if b then 1 else 0)) st
  | _, _ => .bad
theorem Za2 : CallM X (.type "int") gInt := by
  refine ⟨_, call_int1, fun m bs st H xs xs' Q W R rx h => ?_⟩
  unfold gInt at h
  split at h
  · obtain ⟨v, e, r⟩ := rvs1 rx
    simp only [RV] at r
    subst r
    exact .inl ⟨_, e, h.v R (by simp only [RV])⟩
  · obtain ⟨v, e, r⟩ := rvs1 rx
    simp only [RV] at r
    subst r
    exact .inr ⟨_, e, h.v R (by simp only [RV])⟩
  · exact h.elim
theorem Zqv {i : Int} (h : i.natAbs ≤ 10000000000000000000000000000000000000000000000000000000000000000) : i.natAbs.log2 < 1920 := by
  have h2 : i.natAbs < 2 ^ 250 := Nat.lt_of_le_of_lt h (by decide +kernel)
  exact Nat.lt_of_lt_of_le (PySem.Flt.log2_lt_of (by decide) h2) (by decide)
def gLen : List IV → Sto → R IV
  | [.str x], st => if x.length ≤ 100000 then .ok (.int x.length) st else .bad
  | [x], st => match asS st x with
    | some xs => .ok (.int xs.length) st
    | none => .bad
  | _, _ => .bad
theorem Z25 : CallM X (.builtin "len") gLen := by
  refine ⟨_, call_len_str.or call_len_seq, fun m bs st H xs xs' Q W R rx h => ?_⟩
  unfold gLen at h
  split at h
  · obtain ⟨v, e, r⟩ := rvs1 rx
    simp only [RV] at r
    subst r
    split at h
    · rename_i c
      exact .inl ⟨_, e, szl c, h.v R (by simp only [RV])⟩
    · exact h.elim
  · split at h
    · rename_i ys hy
      obtain ⟨v, e, r⟩ := rvs1 rx
      obtain ⟨a, vs, ea, hs, r2⟩ := Zaz R hy r
      subst ea
      refine .inr ⟨a, vs, e, hs, ?_⟩
      rw [← r2.length]
      exact h.v R (by simp only [RV])
    · exact h.elim
  · exact h.elim
def gList : List IV → Sto → R IV
  | [x], st => match asS st x with
    | some xs => .ok (.lst xs) st
    | none => .bad
  | _, _ => .bad
theorem Zsm : CallM X (.type "list") gList := by
  refine ⟨_, call_list_of, fun m bs st H xs xs' Q W R rx h => ?_⟩
  unfold gList at h
  split at h
  · split at h
    · rename_i ys hy
      obtain ⟨v, e, r⟩ := rvs1 rx
      obtain ⟨a, vs, ea, hs, r2⟩ := Zaz R hy r
      subst ea
      exact ⟨a, vs, e, hs, fun l hl => h.newL R r2 hl⟩
    · exact h.elim
  · exact h.elim
def Z55 : List IV → Sto → R IV
  | [x], st => match asS st x with
    | some xs => .ok (.tup xs) st
    | none => .bad
  | _, _ => .bad
theorem Zfh : CallM X (.type "tuple") Z55 := by
  refine ⟨_, call_tuple_of, fun m bs st H xs xs' Q W R rx h => ?_⟩
  unfold Z55 at h
  split at h
  · rename_i x
    split at h
    · rename_i ys hy
      obtain ⟨v, e, r⟩ := rvs1 rx
      cases x with
      | tup zs =>
        cases hy
        obtain ⟨a, vs, ea, hs, r'⟩ := Z4a (x := .tup ys) rfl r
        subst ea
        exact ⟨a, vs, e, .inr ⟨hs, h.v R r⟩⟩
      | lst zs =>
        obtain ⟨a, vs, ea, hs, r'⟩ := Z2N (x := .lst zs) R hy r
        subst ea
        exact ⟨a, vs, e, .inl ⟨hs, fun l hl => h.newT R r' hl⟩⟩
      | ref l =>
        obtain ⟨a, vs, ea, hs, r'⟩ := Z2N (x := .ref l) R hy r
        subst ea
        exact ⟨a, vs, e, .inl ⟨hs, fun l hl => h.newT R r' hl⟩⟩
      | _ => cases hy
    · exact h.elim
  · exact h.elim
def gIx : IV → IV → Sto → R IV
  | x, .int i, st => match x with
    | .str z => if z.length ≤ 100000 then (match atI z.cps.toList i with | some c => .ok (.str ⟨#[c]⟩) st | none => .bad) else .bad
    | x => match asS st x with
      | some xs => (match atI xs i with | some v => .ok v st | none => .bad)
      | none => .bad
  | _, _, _ => .bad
theorem Zst {G : Gd} {m bs : List Addr} {st : Sto} {H : Hp} {xs : List IV} {vs : List V} {i : Int} {x : IV} (r : RVs G m bs st H xs vs) (e : atI xs i = some x) : ∃ v, atI vs i = some v ∧ RV G m bs st H x v := by
  unfold atI at e ⊢
  rw [← r.length]
  cases hn : ixN xs.length i with
  | none => rw [hn] at e; cases e
  | some j =>
    rw [hn] at e
    exact r.get e
def iIx (A B : IE) : IE := fun ρ st => (A ρ st).bind fun x st => (B ρ st).bind fun y st => gIx x y st
theorem me_ix (ha : ME X W xa a A) (hb : ME X W xa b B) (hs : PlainIx b := by exact fun _ _ => rfl) : ME X W xa (.Subscript a b pos) (iIx A B) := by
  refine PE.weak (pe_ix ix_seq ha hb hs) fun σ H Q h => ?_
  obtain ⟨m, os, rs, ρ, st, P, h⟩ := h
  refine ⟨m, os, rs, ρ, st, P, h.bind.mono fun x m1 st1 H1 g1 R1 h1 x' rx => ⟨m1, os, rs, ρ, st1, P.grow g1 R1, h1.bind.mono fun y m2 st2 H2 g2 R2 h2 y' ry => ?_⟩⟩
  have rx := RV.fits g2.fitsE _ _ rx
  unfold gIx at h2
  split at h2
  · simp only [RV] at ry
    split at h2
    · simp only [RV] at rx
      split at h2
      · rename_i c
        split at h2
        · rename_i k hk
          exact .inr (.inr ⟨_, _, k, rx, ry, szl c, hk, h2.v R2 (by simp only [RV])⟩)
        · exact h2.elim
      · exact h2.elim
    · split at h2
      · rename_i xs hx
        split at h2
        · rename_i v hv
          obtain ⟨p, vs, ep, hs, r⟩ := Zaz R2 hx rx
          obtain ⟨w, e1, e2⟩ := Zst r hv
          rcases hs with hs | hs
          · exact .inl ⟨p, vs, _, w, ep, ry, hs, e1, h2.v R2 e2⟩
          · exact .inr (.inl ⟨p, vs, _, w, ep, ry, hs, e1, h2.v R2 e2⟩)
        · exact h2.elim
      · exact h2.elim
  · exact h2.elim
abbrev IO' := Slots → Sto → R (Option Int)
def iPart (A : IE) : IO' := fun ρ st => (A ρ st).bind fun x st => match x with | .int i => .ok (some i) st | _ => .bad
abbrev MO (X : Cx) (W : WX) (xa : Xa) (e : Option Expr) (A : IO') : Prop := PO X e (rd (fun _ _ _ _ a b => a = b) (gd X) W xa A)
theorem PO.weak {X : Cx} {e : Option Expr} {t t' : TO} (h : PO X e t) (k : ∀ σ H Q, t' σ H Q → t σ H Q) : PO X e t' := ⟨fun pins s σ H Q I q => h.run pins s σ H Q I (k σ H Q q)⟩
theorem Znt (ha : ME X W xa a A) : MO X W xa (some a) (iPart A) := by
  refine PO.weak (po_some ha) fun σ H Q h => ?_
  obtain ⟨m, os, rs, ρ, st, P, h⟩ := h
  refine ⟨m, os, rs, ρ, st, P, h.bind.mono fun x m1 st1 H1 g1 R1 h1 x' rx => ?_⟩
  cases x with
  | int i =>
    simp only [RV] at rx
    exact ⟨i, rx, h1.ok R1 _ rfl⟩
  | _ => exact h1.elim
def cutI {α : Type} (xs : List α) (lo hi : Option Int) : List α := (xs.drop (HT.sIx xs.length 0 lo)).take (HT.sIx xs.length xs.length hi - HT.sIx xs.length 0 lo)
theorem ZkQ {G : Gd} {m bs : List Addr} {st : Sto} {H : Hp} {xs : List IV} {vs : List V} (r : RVs G m bs st H xs vs) (lo hi : Option Int) : RVs G m bs st H (cutI xs lo hi) (cutV vs lo hi) := by
  unfold cutI cutV
  rw [← r.length]
  exact (r.drop _).take _
def gCut : IV → Option Int → Option Int → Sto → R IV
  | .str z, lo, hi, st => if z.length ≤ 100000 then .ok (.str (cutS z lo hi)) st else .bad
  | .tup xs, lo, hi, st => .ok (.tup (cutI xs lo hi)) st
  | x, lo, hi, st => match asL st x with
    | some xs => .ok (.lst (cutI xs lo hi)) st
    | none => .bad
def iCut (A : IE) (L U : IO') : IE := fun ρ st => (A ρ st).bind fun x st => (L ρ st).bind fun lo st => (U ρ st).bind fun hi st => gCut x lo hi st
theorem Zuu {lo hi : Option Expr} {L U : IO'} {p2 : Pos} (ha : ME X W xa a A) (hl : MO X W xa lo L) (hh : MO X W xa hi U) : ME X W xa (.Subscript a (.Slice lo hi none p2) pos) (iCut A L U) := by
  refine PE.weak (pe_slice (sl_str.or (sl_tupA.or sl_list)) ha hl hh) fun σ H Q h => ?_
  obtain ⟨m, os, rs, ρ, st, P, h⟩ := h
  refine ⟨m, os, rs, ρ, st, P, h.bind.mono fun x m1 st1 H1 g1 R1 h1 x' rx => ⟨m1, os, rs, ρ, st1, P.grow g1 R1, h1.bind.mono fun l m2 st2 H2 g2 R2 h2 l' el =>
    ⟨m2, os, rs, ρ, st2, (P.grow g1 R1).grow g2 R2, h2.bind.mono fun u m3 st3 H3 g3 R3 h3 u' eu => ?_⟩⟩⟩
  subst el eu
  have rx := RV.fits (g2.trans g3).fitsE _ _ rx
  have fin : ∀ {xs : List IV}, asL st3 x = some xs → Pst (gd X) m3 (os ++ rs) st3 H3 (fun cls d H' => W cls d σ H') (.ok (.lst (cutI xs l u)) st3) (fun v m' st' H' => ∀ u, RV (gd X) m' (os ++ rs) st' H' v u → Q u H') → rSlL X.K x' l u H3 Q := fun {xs} hx h3 => by
    obtain ⟨p, vs, ep, hs, r⟩ := Z2N R3 hx rx
    exact ⟨p, vs, ep, hs, fun p hp => h3.newL R3 (ZkQ r _ _) hp⟩
  cases x with
  | str z =>
    simp only [gCut] at h3
    simp only [RV] at rx
    split at h3
    · rename_i c
      exact .inl ⟨_, rx, szl c, h3.v R3 (by simp only [RV])⟩
    · exact h3.elim
  | tup xs =>
    simp only [gCut] at h3
    obtain ⟨p, vs, ep, hs, r⟩ := Z4a (x := .tup xs) rfl rx
    refine .inr (.inl ⟨p, vs, ep, hs, fun z => ?_, fun z p hp => h3.newT R3 (ZkQ r _ _) hp⟩)
    have e : cutI xs l u = xs := by
      unfold cutI
      rw [r.length, z.1, z.2, List.drop_zero, Nat.sub_zero, ← r.length, List.take_length]
    rw [e] at h3
    rw [← ep]
    exact h3.v R3 rx
  | lst ys => exact .inr (.inr (fin rfl h3))
  | ref n =>
    simp only [gCut] at h3
    split at h3
    · rename_i xs hx
      exact .inr (.inr (fin hx h3))
    · exact h3.elim
  | _ => exact h3.elim
end
end Mi
namespace Mi
open PySem PySem.Spec PyProof.Rows L2
def RS.ofR {α : Type} (r : R α) (ρ : Slots) (k : α → Sto → RS) : RS := match r with
  | .ok a st => k a st
  | .exc c fs st => .exc c fs ρ st
  | .bad => .bad
def RS.seq (r : RS) (B : IS) : RS := match r with
  | .nx ρ st => B ρ st
  | r => r
def PstS (G : Gd) (xa : Xa) (m os rs : List Addr) (st : Sto) (H : Hp) (W : WX) (D : Ends) (r : RS) : Prop := match r with
  | .nx ρ' st' => ∀ m' os' H' σ', Grow m st os H m' st' os' H' → Pre G xa σ' H' m' os' rs ρ' st' → D.nx σ' H'
  | .bk ρ' st' => ∀ m' os' H' σ', Grow m st os H m' st' os' H' → Pre G xa σ' H' m' os' rs ρ' st' → D.bk σ' H'
  | .ct ρ' st' => ∀ m' os' H' σ', Grow m st os H m' st' os' H' → Pre G xa σ' H' m' os' rs ρ' st' → D.ct σ' H'
  | .rt v st' => ∀ m' os' H' u, Grow m st os H m' st' os' H' → Rel G m' (os' ++ rs) st' H' → RV G m' (os' ++ rs) st' H' v u → D.rt u H'
  | .exc c fs ρ' st' => ∀ m' os' H' σ' cls d, Grow m st os H m' st' os' H' → Pre G xa σ' H' m' os' rs ρ' st' → XR G m' (os' ++ rs) st' H' c fs cls d → W cls d σ' H'
  | .bad => False
def tsOf (G : Gd) (W : WX) (xa : Xa) (A : IS) : TS := fun D σ H => ∃ m os rs ρ st, Pre G xa σ H m os rs ρ st ∧ PstS G xa m os rs st H W D (A ρ st)
abbrev MS (X : Cx) (W : WX) (xa : Xa) (s : Stmt) (A : IS) : Prop := PS X s (tsOf (gd X) W xa A)
abbrev MSs (X : Cx) (W : WX) (xa : Xa) (s : List Stmt) (A : IS) : Prop := PSs X s (tsOf (gd X) W xa A)
section
variable {G : Gd} {xa : Xa} {m os rs bs : List Addr} {st : Sto} {H : Hp} {W W' : WX} {D D' : Ends} {σ : L2.St} {ρ : Slots} {α : Type}
theorem PstS.shift {r : RS} {m1 os1 : List Addr} {st1 : Sto} {H1 : Hp} (g : Grow m st os H m1 st1 os1 H1) (h : PstS G xa m os rs st H W D r) : PstS G xa m1 os1 rs st1 H1 W D r := by
  cases r with
  | nx ρ' st' => exact fun m' os' H' σ' g' P => h m' os' H' σ' (g.trans g') P
  | bk ρ' st' => exact fun m' os' H' σ' g' P => h m' os' H' σ' (g.trans g') P
  | ct ρ' st' => exact fun m' os' H' σ' g' P => h m' os' H' σ' (g.trans g') P
  | rt v st' => exact fun m' os' H' u g' R r => h m' os' H' u (g.trans g') R r
  | exc c fs ρ' st' => exact fun m' os' H' σ' cls d g' P x => h m' os' H' σ' cls d (g.trans g') P x
  | bad => exact h
theorem PstS.mono {r : RS} (h : PstS G xa m os rs st H W D r) (hn : ∀ σ H, D.nx σ H → D'.nx σ H) (hr : ∀ v H, D.rt v H → D'.rt v H) (hb : ∀ σ H, D.bk σ H → D'.bk σ H) (hc : ∀ σ H, D.ct σ H → D'.ct σ H) : PstS G xa m os rs st H W D' r := by
  cases r with
  | nx ρ' st' => exact fun m' os' H' σ' g' P => hn _ _ (h m' os' H' σ' g' P)
  | bk ρ' st' => exact fun m' os' H' σ' g' P => hb _ _ (h m' os' H' σ' g' P)
  | ct ρ' st' => exact fun m' os' H' σ' g' P => hc _ _ (h m' os' H' σ' g' P)
  | rt v st' => exact fun m' os' H' u g' R r => hr _ _ (h m' os' H' u g' R r)
  | exc c fs ρ' st' => exact h
  | bad => exact h
theorem PstS.ofR {r : R α} {k : α → Sto → RS} (P : Pre G xa σ H m os rs ρ st) (h : PstS G xa m os rs st H W D (RS.ofR r ρ k)) :
    Pst G m (os ++ rs) st H (fun cls d H' => W cls d σ H') r (fun a m1 st1 H1 => PstS G xa m1 os rs st1 H1 W D (k a st1)) := by
  cases r with
  | ok a st' =>
    have h' : PstS G xa m os rs st H W D (k a st') := h
    exact fun m' H' g R => h'.shift (.ofE g)
  | exc c fs st' => exact fun m' H' cls d g R x => h m' os H' σ cls d (.ofE g) (P.grow g R) x
  | bad => exact h
theorem PstS.here {ρ' : Slots} {σ' : L2.St} (h : PstS G xa m os rs st H W D (.nx ρ' st)) (P : Pre G xa σ' H m os rs ρ' st) : D.nx σ' H := h m os H σ' .refl P
theorem Pre.set {x : IV} {v : V} {i : Nat} (P : Pre G xa σ H m os rs ρ st) (r : RV G m (os ++ rs) st H x v) : Pre G xa (σ.set i (some v)) H m os rs (ρ.set i (some (.v x))) st := by
  refine ⟨P.rel, by simp [P.re.len], fun j y e => ?_, fun j xs e => ?_, fun j k xs ys w e1 e2 e3 e4 => ?_⟩
  · by_cases hj : i = j
    · subst hj
      have hl : i < ρ.length := by
        have := (List.getElem?_eq_some_iff.mp e).1
        simpa using this
      rw [List.getElem?_set_self hl] at e
      cases e
      exact ⟨v, by rw [List.getElem?_set_self (by rw [← P.re.len]; exact hl)], r⟩
    · rw [List.getElem?_set_ne hj] at e
      obtain ⟨w, e1, r1⟩ := P.re.at_ j y e
      exact ⟨w, by rw [List.getElem?_set_ne hj]; exact e1, r1⟩
  · by_cases hj : i = j
    · subst hj
      have hl : i < ρ.length := by
        have := (List.getElem?_eq_some_iff.mp e).1
        simpa using this
      rw [List.getElem?_set_self hl] at e
      cases e
    · rw [List.getElem?_set_ne hj] at e
      obtain ⟨a, e1, r1⟩ := P.re.own j xs e
      exact ⟨a, by rw [List.getElem?_set_ne hj]; exact e1, r1⟩
  · have key : ∀ {j : Nat} {xs : List IV}, (ρ.set i (some (.v x)))[j]? = some (some (.own xs)) → i ≠ j := fun {j xs} e hj => by
      subst hj
      have hl : i < ρ.length := by
        have := (List.getElem?_eq_some_iff.mp e).1
        simpa using this
      rw [List.getElem?_set_self hl] at e
      cases e
    have n1 := key e1
    have n2 := key e2
    rw [List.getElem?_set_ne n1] at e1 e3
    rw [List.getElem?_set_ne n2] at e2 e4
    exact P.re.uniq j k xs ys w e1 e2 e3 e4
theorem Pre.setN {i : Nat} (P : Pre G xa σ H m os rs ρ st) {w : Option V} : Pre G xa (σ.set i w) H m os rs (ρ.set i none) st := by
  have key : ∀ {j : Nat} {y : SV}, (ρ.set i none)[j]? = some (some y) → i ≠ j := fun {j y} e hj => by
    subst hj
    have hl : i < ρ.length := by
      have := (List.getElem?_eq_some_iff.mp e).1
      simpa using this
    rw [List.getElem?_set_self hl] at e
    cases e
  refine ⟨P.rel, by simp [P.re.len], fun j y e => ?_, fun j xs e => ?_, fun j k xs ys w e1 e2 e3 e4 => ?_⟩
  · have hj := key e
    rw [List.getElem?_set_ne hj] at e
    obtain ⟨w, e1, r1⟩ := P.re.at_ j y e
    exact ⟨w, by rw [List.getElem?_set_ne hj]; exact e1, r1⟩
  · have hj := key e
    rw [List.getElem?_set_ne hj] at e
    obtain ⟨a, e1, r1⟩ := P.re.own j xs e
    exact ⟨a, by rw [List.getElem?_set_ne hj]; exact e1, r1⟩
  · have n1 := key e1
    have n2 := key e2
    rw [List.getElem?_set_ne n1] at e1 e3
    rw [List.getElem?_set_ne n2] at e2 e4
    exact P.re.uniq j k xs ys _ e1 e2 e3 e4
end
section
variable {X : Cx} {W : WX} {xa : Xa} {a b c e : Expr} {A B C : IE} {S T : IT} {pos : Pos} {es rest : List Expr} {As : IA} {s : Stmt} {ss us : List Stmt} {I J : IS}
def iSkip : IS := fun ρ st => .nx ρ st
def iSeq (I J : IS) : IS := fun ρ st => (I ρ st).seq J
theorem Zp : MSs X W xa [] iSkip := by
  refine PSs.weak pss_nil fun D σ H h => ?_
  obtain ⟨m, os, rs, ρ, st, P, h⟩ := h
  exact h.here P
theorem Zqa {D : Ends} {σ : L2.St} {H : Hp} (h : tsOf (gd X) W xa (iSeq I J) D σ H) : tsOf (gd X) W xa I { D with nx := tsOf (gd X) W xa J D } σ H := by
  obtain ⟨m, os, rs, ρ, st, P, h⟩ := h
  refine ⟨m, os, rs, ρ, st, P, ?_⟩
  unfold iSeq RS.seq at h
  cases r : I ρ st with
  | nx ρ' st' =>
    rw [r] at h
    exact fun m' os' H' σ' g P' => ⟨m', os', rs, ρ', st', P', PstS.shift g h⟩
  | bk ρ' st' => rw [r] at h; exact h
  | ct ρ' st' => rw [r] at h; exact h
  | rt v st' => rw [r] at h; exact h
  | exc c fs ρ' st' => rw [r] at h; exact h
  | bad => rw [r] at h; exact h
theorem Z3 (h1 : MS X W xa s I) (h2 : MSs X W xa ss J) : MSs X W xa (s :: ss) (iSeq I J) := PSs.weak (pss_cons h1 h2) fun D σ H h => Zqa h
theorem Z7 (h1 : MS X W xa s I) : MSs X W xa [s] I := pss_one h1
def iDrop (A : IE) : IS := fun ρ st => RS.ofR (A ρ st) ρ fun _ st => .nx ρ st
theorem Z1w (ha : ME X W xa a A) (hs : swapsWith a none pos.line X.env = pure false := by rfl) : MS X W xa (.Expr a pos) (iDrop A) := by
  refine PS.weak (ps_expr ha hs) fun D σ H h => ?_
  obtain ⟨m, os, rs, ρ, st, P, h⟩ := h
  exact ⟨m, os, rs, ρ, st, P, (h.ofR P).mono fun v m1 st1 H1 g1 R1 h1 u ru => h1.here (P.grow g1 R1)⟩
def iRet (A : IE) : IS := fun ρ st => RS.ofR (A ρ st) ρ fun v st => .rt v st
theorem Zi (ha : ME X W xa a A) : MS X W xa (.Return (some a) pos) (iRet A) := by
  refine PS.weak (ps_ret ha) fun D σ H h => ?_
  obtain ⟨m, os, rs, ρ, st, P, h⟩ := h
  exact ⟨m, os, rs, ρ, st, P, (h.ofR P).mono fun v m1 st1 H1 g1 R1 h1 u ru => h1 m1 os H1 u .refl R1 ru⟩
def iIfS (S : IT) (I J : IS) : IS := fun ρ st => RS.ofR (S ρ st) ρ fun b st => if b = true then I ρ st else J ρ st
theorem ms_if (hc : MT X W xa c S) (h1 : MSs X W xa ss I) (h2 : MSs X W xa us J) : MS X W xa (.If c ss us pos) (iIfS S I J) := by
  refine PS.weak (ps_if hc h1 h2) fun D σ H h => ?_
  obtain ⟨m, os, rs, ρ, st, P, h⟩ := h
  refine ⟨m, os, rs, ρ, st, P, (h.ofR P).mono fun b m1 st1 H1 g1 R1 h1 b' e => ?_⟩
  subst e
  cases b with
  | true => exact ⟨m1, os, rs, ρ, st1, P.grow g1 R1, h1⟩
  | false => exact ⟨m1, os, rs, ρ, st1, P.grow g1 R1, h1⟩
def iSet (i : Nat) (A : IE) : IS := fun ρ st => RS.ofR (A ρ st) ρ fun v st => .nx (ρ.set i (some (.v v))) st
theorem Zln {i : Nat} {D : Ends} {σ : L2.St} {H : Hp} (h : tsOf (gd X) W xa (iSet i A) D σ H) : tAsg (teOf (gd X) W xa A) (gName i) D σ H := by
  obtain ⟨m, os, rs, ρ, st, P, h⟩ := h
  exact ⟨m, os, rs, ρ, st, P, (h.ofR P).mono fun v m1 st1 H1 g1 R1 h1 u ru => h1.here ((P.grow g1 R1).set ru)⟩
theorem ZX {i : Nat} {x : Str} {pos' : Pos} (hN : X.N.Nodup) (hi : X.N[i]? = some x) (hx : Loc X.env.scope x) (ha : ME X W xa a A) (hs : swapsWith a (some (.Name x pos')) pos.line X.env = pure false := by rfl)
    (hf : X.fn x = true ∨ X.env.scope.names.lookup x = some .local := by first | exact .inl rfl | exact .inr rfl | assumption) : MS X W xa (.Assign [.Name x pos'] a pos) (iSet i A) :=
  PS.weak (ps_set hN hi hx ha hs hf) fun D σ H h => Zln h
abbrev ITg := IV → Slots → Sto → RS
abbrev ITgs := List IV → Slots → Sto → RS
def tgOf (G : Gd) (xa : Xa) (T : ITg) : TG := fun v σ H Q => ∃ m os rs ρ st x, Pre G xa σ H m os rs ρ st ∧ RV G m (os ++ rs) st H x v ∧ PstS G xa m os rs st H (fun _ _ _ _ => False) ⟨Q, fun _ _ => False, fun _ _ => False, fun _ _ => False⟩ (T x ρ st)
def tgsOf (G : Gd) (xa : Xa) (T : ITgs) : TGs := fun v σ H Q => ∃ m os rs ρ st x, Pre G xa σ H m os rs ρ st ∧ RVs G m (os ++ rs) st H x v ∧ PstS G xa m os rs st H (fun _ _ _ _ => False) ⟨Q, fun _ _ => False, fun _ _ => False, fun _ _ => False⟩ (T x ρ st)
abbrev MG (X : Cx) (xa : Xa) (t : Expr) (T : ITg) : Prop := PG X t (tgOf (gd X) xa T)
abbrev MGs (X : Cx) (xa : Xa) (t : List Expr) (T : ITgs) : Prop := PGs X t (tgsOf (gd X) xa T)
theorem PGs.weak {X : Cx} {e : List Expr} {t t' : TGs} (h : PGs X e t) (k : ∀ v σ H Q, t' v σ H Q → t v σ H Q) : PGs X e t' := ⟨fun pins s σ H v u Q I r q => h.run pins s σ H v u Q I r (k v σ H Q q)⟩
def Zf (i : Nat) : ITg := fun x ρ st => .nx (ρ.set i (some (.v x))) st
def tgNil : ITgs := fun xs ρ st => match xs with | [] => .nx ρ st | _ => .bad
def Zo (T : ITg) (Ts : ITgs) : ITgs := fun xs ρ st => match xs with | x :: r => (T x ρ st).seq (Ts r) | _ => .bad
def tgTup (n : Nat) (Ts : ITgs) : ITg := fun x ρ st => match x with | .tup xs => if xs.length = n then Ts xs ρ st else .bad | _ => .bad
theorem Zl {i : Nat} {x : Str} (hN : X.N.Nodup) (hi : X.N[i]? = some x) (hx : Loc X.env.scope x) (hf : X.fn x = true ∨ X.env.scope.names.lookup x = some .local := by first | exact .inl rfl | exact .inr rfl | assumption) : MG X xa (.Name x pos) (Zf i) := by
  refine PG.weak (pg_name hN hi hx hf) fun v σ H Q h => ?_
  obtain ⟨m, os, rs, ρ, st, x, P, r, h⟩ := h
  exact h.here (P.set r)
theorem Z3P : MGs X xa [] tgNil := by
  refine PGs.weak pgs_nil fun v σ H Q h => ?_
  obtain ⟨m, os, rs, ρ, st, xs, P, r, h⟩ := h
  cases xs with
  | nil =>
    simp only [RVs] at r
    exact ⟨r, h.here P⟩
  | cons _ _ => exact h.elim
theorem ZV {T : ITg} {Ts : ITgs} (h1 : MG X xa e T) (h2 : MGs X xa es Ts) (hs : (assignEach (e :: es) X.env).map (·.2) = assign e X.env :: (assignEach es X.env).map (·.2) := by rfl) : MGs X xa (e :: es) (Zo T Ts) := by
  refine PGs.weak (pgs_cons h1 h2 hs) fun v σ H Q h => ?_
  obtain ⟨m, os, rs, ρ, st, xs, P, r, h⟩ := h
  cases xs with
  | nil => exact h.elim
  | cons x xs =>
    simp only [RVs] at r
    obtain ⟨u, t, e, r1, r2⟩ := r
    refine ⟨u, t, e, m, os, rs, ρ, st, x, P, r1, ?_⟩
    unfold Zo RS.seq at h
    cases q : T x ρ st with
    | nx ρ' st' =>
      simp only [q] at h
      exact fun m' os' H' σ' g P' => ⟨m', os', rs, ρ', st', xs, P', RVs.fits g.fits _ _ r2, PstS.shift g h⟩
    | bk ρ' st' => simp only [q] at h; exact fun _ _ _ _ g P' => (h _ _ _ _ g P').elim
    | ct ρ' st' => simp only [q] at h; exact fun _ _ _ _ g P' => (h _ _ _ _ g P').elim
    | rt v st' => simp only [q] at h; exact fun _ _ _ _ g P' r => (h _ _ _ _ g P' r).elim
    | exc c fs ρ' st' => simp only [q] at h; exact fun _ _ _ _ _ _ g P' x => (h _ _ _ _ _ _ g P' x).elim
    | bad => simp only [q] at h; exact h
theorem Z5v {Ts : ITgs} {k n : Nat} (hc : X.calm = true) (h : MGs X xa es Ts) (hn : (assignEach es X.env).length = n := by rfl) (hst : (assignEach es X.env).findIdx? (·.1) = none := by rfl) : MG X xa (.Tuple es k pos) (tgTup n Ts) := by
  refine PG.weak (pg_tup hc h hn hst) fun v σ H Q h => ?_
  obtain ⟨m, os, rs, ρ, st, x, P, r, h⟩ := h
  cases x with
  | tup xs =>
    simp only [tgTup] at h
    split at h
    · rename_i hl
      obtain ⟨p, vs, ep, hs, r2⟩ := Z4a (x := .tup xs) rfl r
      exact ⟨p, vs, ep, hs, by rw [← r2.length]; exact hl, m, os, rs, ρ, st, xs, P, r2, h⟩
    · exact h.elim
  | _ => exact h.elim
def iAsg (A : IE) (T : ITg) : IS := fun ρ st => RS.ofR (A ρ st) ρ fun v st => T v ρ st
theorem Z4b {t : Expr} {T : ITg} (ha : ME X W xa a A) (hg : MG X xa t T) (hs : swapsWithSole [t] a pos.line X.env = pure false := by rfl) (hw : swappedStores [t] a X.env = pure none := by rfl)
    (h1 : (assignEach [t] X.env).map (·.2) = [assign t X.env] := by rfl) (hT : ∀ x ρ st, match T x ρ st with | .nx _ _ => True | .bad => True | _ => False) : MS X W xa (.Assign [t] a pos) (iAsg A T) := by
  refine PS.weak (ps_asg ha hg hs hw h1) fun D σ H h => ?_
  obtain ⟨m, os, rs, ρ, st, P, h⟩ := h
  refine ⟨m, os, rs, ρ, st, P, (h.ofR P).mono fun v m1 st1 H1 g1 R1 h1 u ru => ⟨m1, os, rs, ρ, st1, v, P.grow g1 R1, ru, ?_⟩⟩
  have z := hT v ρ st1
  cases q : T v ρ st1 with
  | nx ρ' st' => rw [q] at h1; exact h1
  | bad => rw [q] at h1; exact h1
  | _ => rw [q] at z; exact z.elim
def gSetL : IV → IV → IV → Sto → Option Sto
  | .ref l, .int i, x, st => match st[l]? with
    | some (.lst xs) => (ixN xs.length i).map fun j => st.set l (.lst (xs.set j x))
    | _ => none
  | _, _, _, _ => none
def tgSub (A B : IE) : ITg := fun x ρ st => match A ρ st with
  | .ok o st1 => match B ρ st1 with
    | .ok i st2 => match gSetL o i x st2 with
      | some st3 => .nx ρ st3
      | none => .bad
    | _ => .bad
  | _ => .bad
theorem ZkL {o i : Expr} (ho : ME X (fun _ _ _ _ => False) xa o A) (hi : ME X (fun _ _ _ _ => False) xa i B)
    (ha : ∀ v, assign (.Subscript o i pos) X.env v = (do
      let ov ← holding [v] (eval o X.env)
      let iv ← holding [v, ov] (eval i X.env)
      standAt pos
      holding [v, ov, iv] (setItem ov iv v)
      release [v, ov, iv] []) := by intro _; rfl) : MG X xa (.Subscript o i pos) (tgSub A B) := by
  refine PG.weak (pg_sub ho hi set_list ha) fun v σ H Q h => ?_
  obtain ⟨m, os, rs, ρ, st, x, P, r, h⟩ := h
  refine ⟨m, os, rs, ρ, st, P, ?_⟩
  unfold tgSub at h
  cases q1 : A ρ st with
  | ok o st1 =>
    simp only [q1] at h
    intro m1 H1 g1 R1 u1 ru1
    refine ⟨m1, os, rs, ρ, st1, P.grow g1 R1, ?_⟩
    cases q2 : B ρ st1 with
    | ok i st2 =>
      simp only [q2] at h
      intro m2 H2 g2 R2 u2 ru2
      cases q3 : gSetL o i x st2 with
      | none => simp only [q3] at h; exact h.elim
      | some st3 =>
        simp only [q3] at h
        unfold gSetL at q3
        split at q3
        · rename_i l k
          split at q3
          · rename_i xs hx
            simp only [Option.map_eq_some_iff] at q3
            obtain ⟨j, hj, e3⟩ := q3
            subst e3
            simp only [RV] at ru1 ru2
            obtain ⟨p, ep, hp⟩ := ru1
            have hp2 := g2.at hp
            obtain ⟨vs, hv, rv⟩ := R2.obj l _ p hx hp2
            refine ⟨p, vs, k, j, ep, ru2, hv, by rw [← rv.length]; exact hj, ?_⟩
            have g3 : GrowE m2 st2 H2 m2 (st2.set l (.lst (xs.set j x))) (upd H2 p (.lst (vs.set j v))) := Z2e hp2 hx (by simp)
            have R3 := R2.set (o' := .lst (xs.set j x)) (u := .lst (vs.set j v)) hp2 hx (by simp) ⟨_, upd_same, RVs.fits g3.fitsE _ _ (rv.set j (RV.fits (g1.trans g2).fitsE _ _ r))⟩
            exact h m2 os _ σ (.ofE ((g1.trans g2).trans g3)) (((P.grow g1 R1).grow g2 R2).grow g3 R3)
          · cases q3
        · cases q3
    | exc c fs st2 => simp only [q2] at h; exact h.elim
    | bad => simp only [q2] at h; exact h.elim
  | exc c fs st1 => simp only [q1] at h; exact h.elim
  | bad => simp only [q1] at h; exact h.elim
end
end Mi
namespace Mi
open PySem PySem.Spec PyProof.Rows L2
def RS.plain : RS → Bool
  | .nx _ _ => true
  | .bad => true
  | _ => false
def TgOk (T : ITg) : Prop := ∀ x ρ st, (T x ρ st).plain = true
def TgsOk (T : ITgs) : Prop := ∀ x ρ st, (T x ρ st).plain = true
theorem TgOk.use {T : ITg} (h : TgOk T) : ∀ x ρ st, match T x ρ st with | .nx _ _ => True | .bad => True | _ => False := fun x ρ st => by
  have z := h x ρ st
  cases q : T x ρ st <;> first | exact trivial | (rw [q] at z; cases z)
theorem Z3o {i : Nat} : TgOk (Zf i) := fun _ _ _ => rfl
theorem Zas : TgsOk tgNil := fun x _ _ => by cases x <;> rfl
theorem Z2z {T : ITg} {Ts : ITgs} (h : TgOk T) (h2 : TgsOk Ts) : TgsOk (Zo T Ts) := fun x ρ st => by
  cases x with
  | nil => rfl
  | cons y r =>
    have z := h y ρ st
    unfold Zo RS.seq
    cases q : T y ρ st with
    | nx ρ' st' => simp only [q]; exact h2 r ρ' st'
    | bad => simp only [q]; rfl
    | _ => rw [q] at z; cases z
theorem ZdM {n : Nat} {Ts : ITgs} (h : TgsOk Ts) : TgOk (tgTup n Ts) := fun x ρ st => by
  cases x with
  | tup xs =>
    by_cases hl : xs.length = n
    · simp only [tgTup, hl, if_true]; exact h xs ρ st
    · simp only [tgTup, hl, if_false]; rfl
  | _ => rfl
theorem ZeT {A B : IE} : TgOk (tgSub A B) := fun x ρ st => by
  unfold tgSub
  cases A ρ st with
  | ok o st1 =>
    cases q : B ρ st1 with
    | ok i st2 =>
      simp only [q]
      cases gSetL o i x st2 <;> rfl
    | _ => simp only [q]; rfl
  | _ => rfl
abbrev Fn := List IV → Sto → R IV
def spOf (G : Gd) (n : Nat) (F : Fn) : Sp := fun vs H Q E => vs.length = n ∧ ∃ m bs st args, Rel G m bs st H ∧ RVs G m bs st H args vs ∧ Pst G m bs st H E (F args st) (fun v m' st' H' => ∀ u, RV G m' bs st' H' v u → Q u H')
def fnOf (k : Nat) (B : IS) : Fn := fun args st => match B (args.map (fun x => some (.v x)) ++ List.replicate k none) st with
  | .nx _ st' => .ok .non st'
  | .rt v st' => .ok v st'
  | .exc c fs _ st' => .exc c fs st'
  | _ => .bad
theorem Rel.less {G : Gd} {m os rs : List Addr} {st : Sto} {H : Hp} (R : Rel G m (os ++ rs) st H) : Rel G m rs st H := by
  have f : Fits G m (os ++ rs) st H m rs st H := ⟨fun _ _ h => h, fun a vs h => by
    rcases h with ⟨h, n, q⟩ | h
    · exact .inl ⟨h, n, fun z => q (List.mem_append_right _ z)⟩
    · exact .inr h, fun a vs h => by
    rcases h with ⟨h, n, q⟩ | h
    · exact .inl ⟨h, n, fun z => q (List.mem_append_right _ z)⟩
    · exact .inr h, fun a o u h => by
    obtain ⟨h, n, q⟩ := h
    exact ⟨h, n, fun z => q (List.mem_append_right _ z)⟩⟩
  exact ⟨R.len, R.nd, fun l o a e1 e2 => (R.obj l o a e1 e2).fits f fun _ e => e, fun a h => R.bsd a (List.mem_append_right _ h)⟩
theorem Z9J {G : Gd} {m os rs : List Addr} {st : Sto} {H : Hp} : Fits G m (os ++ rs) st H m rs st H := ⟨fun _ _ h => h, fun a vs h => by
    rcases h with ⟨h, n, q⟩ | h
    · exact .inl ⟨h, n, fun z => q (List.mem_append_right _ z)⟩
    · exact .inr h, fun a vs h => by
    rcases h with ⟨h, n, q⟩ | h
    · exact .inl ⟨h, n, fun z => q (List.mem_append_right _ z)⟩
    · exact .inr h, fun a o u h => by
    obtain ⟨h, n, q⟩ := h
    exact ⟨h, n, fun z => q (List.mem_append_right _ z)⟩⟩
theorem XR.less {G : Gd} {m os rs : List Addr} {st : Sto} {H : Hp} {c : Str} {fs : List (Str × IV)} {cls : Value} {d : Option Addr} (h : XR G m (os ++ rs) st H c fs cls d) : XR G m rs st H c fs cls d := by
  obtain ⟨C, h1, h2, h3⟩ := h
  refine ⟨C, h1, h2, ?_⟩
  rcases h3 with h3 | ⟨dd, gs, e1, e2, e3, e4, r⟩
  · exact .inl h3
  · exact .inr ⟨dd, gs, e1, e2, e3, fun z => e4 (List.mem_append_right _ z), RFs.fits Z9J _ _ r⟩
theorem Grow.toE {m st H m' st' os' H'} (g : Grow m st [] H m' st' os' H') : GrowE m st H m' st' H' := ⟨g.pre, fun a o h n q nx => let ⟨h1, n1, _⟩ := g.keep a o h n q nx; ⟨h1, n1, by simp⟩, g.stay⟩
theorem Zm6 {G : Gd} {m bs : List Addr} {st : Sto} {H : Hp} {args : List IV} {vs : List V} {N : List Str} {k : Nat} (R : Rel G m bs st H) (r : RVs G m bs st H args vs) (hk : N.length - vs.length = k) :
    Pre G none (L2.start N vs) H m [] bs (args.map (fun x => some (.v x)) ++ List.replicate k none) st := by
  have key : ∀ (i : Nat) y, (args.map (fun x => some (SV.v x)) ++ List.replicate k none)[i]? = some (some y) → ∃ x, y = .v x ∧ args[i]? = some x := fun i y e => by
    by_cases hi : i < args.length
    · rw [List.getElem?_append_left (by simpa using hi), List.getElem?_map, List.getElem?_eq_getElem hi] at e
      simp at e
      exact ⟨args[i], e.symm, List.getElem?_eq_getElem hi⟩
    · rw [List.getElem?_append_right (by simpa using hi), List.getElem?_replicate] at e
      split at e <;> simp at e
  refine ⟨R, by simp [L2.start, r.length, hk], fun i y e => ?_, fun i xs e => ?_, fun i j xs ys v e1 e2 e3 e4 => ?_⟩
  · obtain ⟨x, rfl, e1⟩ := key i y e
    obtain ⟨v, e2, r2⟩ := r.get e1
    refine ⟨v, ?_, r2⟩
    unfold L2.start
    rw [List.getElem?_append_left (by simpa using (List.getElem?_eq_some_iff.mp e2).1), List.getElem?_map, e2]; rfl
  · obtain ⟨x, h, _⟩ := key i _ e; cases h
  · obtain ⟨x, h, _⟩ := key i _ e1; cases h
section
variable {P : Program} {w : World} {K : PySem.W.Frag} {mg : Str → Option Value} {base : Heap}
theorem fn_ok {x qual : Str} {st : Stmt} {f : Addr} {fd : FuncData} {N ps : List Str} {k j : Nat} {B : IS} (F : L2.Fun K x qual st f fd) (S : FnScope N ps (defScope st)) (hj : N.length - ps.length = j)
    (hb : ∀ (cdv : Value) (A : Around) (outer : List Env) (s : Shared) (H : Hp) (E : XK), Room k (A.deeper (envOfC qual (defScope st) s.heap.objs.size f cdv)) →
      MSs (cxOf (L2.CX P w) P w K mg base N qual (defScope st) f cdv A outer s H E) (fun cls d _ H => E cls d H) none (defBody st) B) : FnOk P w K mg base (L2.CX P w) (k + 1) f fd ps (spOf ⟨K, mg, P, w⟩ ps.length (fnOf j B)) := by
  refine F.okX S (fun vs H Q E h => h.1) (fun cdv A outer s H vs Q E hr h => ⟨_, hb cdv A outer s H E hr, ?_⟩)
  obtain ⟨hl, m, bs, st, args, R, r, h⟩ := h
  have P0 := Zm6 (k := j) (N := N) R r (by rw [hl, hj])
  show tsOf ⟨K, mg, P, w⟩ (fun cls d _ H => E cls d H) none B _ _ _
  refine ⟨m, [], bs, _, st, P0, ?_⟩
  unfold fnOf at h
  cases q : B (args.map (fun x => some (.v x)) ++ List.replicate j none) st with
  | nx ρ' st' =>
    rw [q] at h
    exact fun m' os' H' σ' g P' => h m' H' g.toE P'.rel.less .non (by simp only [RV])
  | rt v st' =>
    rw [q] at h
    exact fun m' os' H' u g R' ru => h m' H' g.toE R'.less u (RV.fits Z9J _ _ ru)
  | exc c fs ρ' st' =>
    rw [q] at h
    exact fun m' os' H' σ' cls d g P' x => h m' H' cls d g.toE P'.rel.less x.less
  | bk ρ' st' => rw [q] at h; exact h.elim
  | ct ρ' st' => rw [q] at h; exact h.elim
  | bad => rw [q] at h; exact h.elim
def FnM (P : Program) (w : World) (K : PySem.W.Frag) (mg : Str → Option Value) (base : Heap) (x : Str) (k n : Nat) (F : Fn) : Prop :=
  ∃ f fd ps, mg x = some (.ref f) ∧ PySem.W.keepIn K (.ref f) = true ∧ Binds K fd ps [] ∧ FnOk P w K mg base (L2.CX P w) k f fd ps (spOf ⟨K, mg, P, w⟩ n F)
end
section
variable {X : Cx} {W : WX} {xa : Xa} {a b c e o : Expr} {A B C : IE} {S T : IT} {pos p apos : Pos} {es rest : List Expr} {As : IA} {k n : Nat} {F : Fn} {x : Str}
def iCall (F : Fn) (As : IA) : IE := fun ρ st => (As ρ st).bind F
theorem Z7s (tk : Takes X W) (σ : L2.St) : PassesAt (L2.CX X.prog X.w) X σ (fun cls d H => W cls d σ H) := passAt tk σ
theorem RVs.len_eq {G : Gd} {m bs : List Addr} {st : Sto} {H : Hp} {xs : List IV} {vs : List V} {n : Nat} (r : RVs G m bs st H xs vs) (h : xs.length = n) : vs.length = n := by rw [← r.length]; exact h
def arity (n : Nat) (F : Fn) : Fn := fun args st => if args.length = n then F args st else .bad
theorem Zt (h : FnM X.prog X.w X.K X.mg X.base x k n F) (hr : Room k X.A) (tk : Takes X W) (hg : Gl X x) (ha : MA X W xa (e :: es) As)
    (hdb : (x == ("__debug__" : Str)) = false := by decide) (he : starEach (e :: es) X.env = (false, eval e X.env) :: starEach es X.env := by rfl) (hpl : (backTo pos (starEach es X.env)).any (·.1) = false := by rfl) :
    ME X W xa (.Call (.Name x p) (e :: es) [] pos) (iCall (arity n F) As) := by
  obtain ⟨f, fd, ps, hm, hk, hb, hf⟩ := h
  refine PE.weak (pe_callSD hf hr hg hm hk hb .nil (E := fun σ cls d H => W cls d σ H) (fun σ => Z7s tk σ) ha hdb he hpl) fun σ H Q h => ?_
  obtain ⟨m, os, rs, ρ, st, P, h⟩ := h
  refine ⟨m, os, rs, ρ, st, P, h.bind.mono fun args m1 st1 H1 g1 R1 h1 vs rv => ?_⟩
  unfold arity at h1
  split at h1
  · rename_i hl
    rw [List.append_nil]
    exact ⟨rv.len_eq hl, m1, _, st1, args, R1, rv, h1⟩
  · exact h1.elim
end
end Mi
namespace Mi
open PySem PySem.Spec PyProof.Rows L2
mutual
def IV.beq : IV → IV → Bool
  | .non, .non => true
  | .bl a, .bl b => a == b
  | .int a, .int b => a == b
  | .str a, .str b => decide (a = b)
  | .ty a, .ty b => a == b
  | .ref a, .ref b => a == b
  | .tup a, .tup b => IVs.beq a b
  | .lst a, .lst b => IVs.beq a b
  | .ptp a, .ptp b => IVs.beq a b
  | _, _ => false
def IVs.beq : List IV → List IV → Bool
  | [], [] => true
  | x :: xs, y :: ys => IV.beq x y && IVs.beq xs ys
  | _, _ => false
end
mutual
theorem IV.beq_eq : ∀ {a b : IV}, IV.beq a b = true → a = b
  | .non, b, h => by cases b <;> simp [IV.beq] at h <;> rfl
  | .bl _, b, h => by cases b <;> simp [IV.beq] at h; rw [h]
  | .int _, b, h => by cases b <;> simp [IV.beq] at h; rw [h]
  | .str _, b, h => by cases b <;> simp [IV.beq] at h; rw [h]
  | .ty _, b, h => by cases b <;> simp [IV.beq] at h; rw [h]
  | .ref _, b, h => by cases b <;> simp [IV.beq] at h; rw [h]
  | .tup xs, b, h => by cases b <;> simp [IV.beq] at h; rw [IVs.beq_eq h]
  | .lst xs, b, h => by cases b <;> simp [IV.beq] at h; rw [IVs.beq_eq h]
  | .ptp xs, b, h => by cases b <;> simp [IV.beq] at h; rw [IVs.beq_eq h]
theorem IVs.beq_eq : ∀ {a b : List IV}, IVs.beq a b = true → a = b
  | [], b, h => by cases b <;> simp [IVs.beq] at h <;> rfl
  | x :: xs, b, h => by
    cases b with
    | nil => simp [IVs.beq] at h
    | cons y ys =>
      simp [IVs.beq] at h
      rw [IV.beq_eq h.1, IVs.beq_eq h.2]
end
mutual
theorem IV.beq_refl : ∀ a : IV, IV.beq a a = true
  | .non => rfl
  | .bl _ => by simp [IV.beq]
  | .int _ => by simp [IV.beq]
  | .str _ => by simp [IV.beq]
  | .ty _ => by simp [IV.beq]
  | .ref _ => by simp [IV.beq]
  | .tup xs => by simp [IV.beq, IVs.beq_refl xs]
  | .lst xs => by simp [IV.beq, IVs.beq_refl xs]
  | .ptp xs => by simp [IV.beq, IVs.beq_refl xs]
theorem IVs.beq_refl : ∀ a : List IV, IVs.beq a a = true
  | [] => rfl
  | x :: xs => by simp [IVs.beq, IV.beq_refl x, IVs.beq_refl xs]
end
abbrev GI := Option (Nat × List IV)
def gokB (g : GI) (st : Sto) (_xs : List IV) : Bool := match g with
  | none => true
  | some (l, xs) => match st[l]? with
    | some (.lst ys) => IVs.beq ys xs
    | _ => false
theorem Z1U {l : Nat} {st : Sto} {xs zs : List IV} (h : st[l]? = some (.lst xs)) : gokB (some (l, xs)) st zs = true := by
  simp [gokB, h, IVs.beq_refl]
theorem Zn8 {l : Nat} {st : Sto} {xs zs : List IV} (h : gokB (some (l, xs)) st zs = true) : st[l]? = some (.lst xs) := by
  simp only [gokB] at h
  split at h
  · rename_i ys e; rw [e, IVs.beq_eq h]
  · cases h
abbrev IIt := Slots → Sto → R (List IV × GI)
def Walks (G : Gd) (m0 bs0 : List Addr) (st0 : Sto) (H0 : Hp) (xs : List IV) (g : GI) (J : It) : Prop :=
  ∀ (i : Nat) m bs st H, Fits G m0 bs0 st0 H0 m bs st H → Rel G m bs st H → gokB g st xs = true →
    (∀ x, xs[i]? = some x → J.go i H ∧ ∀ v H', J.yld i H v H' → GrowE m st H m st H' ∧ Rel G m bs st H' ∧ RV G m bs st H' x v) ∧ (xs.length ≤ i → J.stop i H)
def tiOf (G : Gd) (W : WX) (xa : Xa) (A : IIt) : TI := fun σ H R => ∃ m os rs ρ st, Pre G xa σ H m os rs ρ st ∧
  Pst G m (os ++ rs) st H (fun cls d H' => W cls d σ H') (A ρ st) (fun p m' st' H' => ∀ J, Walks G m' (os ++ rs) st' H' p.1 p.2 J → R J H')
abbrev MI (X : Cx) (W : WX) (xa : Xa) (tg e : Expr) (A : IIt) : Prop := PI X tg e (tiOf (gd X) W xa A)
section
variable {X : Cx} {tg l : Expr} {tl : TE} {pins : List (Addr × Obj)} {s : Shared} {σ : L2.St} {H : Hp} {R : It → Hp → Prop} {E : Value → Shared → Prop}
theorem ZiP (I1 : L2.Inv X pins σ H s) {a : Addr} {xs : List V} (hq : SqL X.K H a xs) (q : R (Itl X.K a) H) : wpAny (model X.prog X.w) X.A (pyIter (.ref a)) (PIE X pins σ tg R) E s := by
  obtain ⟨its, rv, p, hz⟩ := I1.list hq
  refine wpAny_pyIter_list p.isList ?_
  refine ⟨s.heap.objs.size, [s.heap.objs.size], _, _, H, rfl, I1.kept (t' := s.toks) fun b o e => Heap.get?_push_of_some _ e, turn_list a _, ⟨_, Heap.get?_push_size _ rfl, rfl, rfl⟩, fun b hb => ?_, q⟩
  have e : b = s.heap.objs.size := by simpa using hb
  subst e
  exact I1.fpOk (Nat.le_refl _) (I1.hok.fresh (Nat.le_refl _))
theorem ZqR (I1 : L2.Inv X pins σ H s) {a : Addr} {xs : List V} (hq : SqT X.K H a xs) (q : R (Itt X.K a) H) : wpAny (model X.prog X.w) X.A (pyIter (.ref a)) (PIE X pins σ tg R) E s := by
  obtain ⟨its, rv, p, hz⟩ := I1.tuple hq
  refine wpAny_pyIter_tuple (show s.heap.IsTuple a its.toArray from p) ?_
  refine ⟨s.heap.objs.size, [s.heap.objs.size], _, _, H, rfl, I1.kept (t' := s.toks) fun b o e => Heap.get?_push_of_some _ e, turn_tuple a _, ⟨_, Heap.get?_push_size _ rfl, rfl, rfl⟩, fun b hb => ?_, q⟩
  have e : b = s.heap.objs.size := by simpa using hb
  subst e
  exact I1.fpOk (Nat.le_refl _) (I1.hok.fresh (Nat.le_refl _))
theorem ZrL (I1 : L2.Inv X pins σ H s) {x : Str} {t : Tok} (q : R (Its x) H) : wpAny (model X.prog X.w) X.A (pyIter (.str x t)) (PIE X pins σ tg R) E s := by
  cases ha : x.cps.all (· < 128)
  · exact wpAny_pyIter_wide ha (pi_one (tk := s.toks) I1 _ (turn_str _ x t "str_iterator" (.inr rfl)) ⟨_, Heap.get?_push_size _ rfl, rfl, rfl⟩ q)
  · exact wpAny_pyIter_ascii ha (pi_one (tk := s.toks) I1 _ (turn_str _ x t "str_ascii_iterator" (.inl rfl)) ⟨_, Heap.get?_push_size _ rfl, rfl, rfl⟩ q)
end
def Z27 (st : Sto) : IV → Option (List IV × GI)
  | .tup xs => some (xs, none)
  | .lst xs => some (xs, none)
  | .ref l => match st[l]? with
    | some (.lst xs) => some (xs, some (l, xs))
    | _ => none
  | .str x => some (x.cps.toList.map fun c => .str ⟨#[c]⟩, none)
  | _ => none
def iOver (A : IE) : IIt := fun ρ st => (A ρ st).bind fun x st => match Z27 st x with | some p => .ok p st | none => .bad
section
variable {G : Gd} {m0 bs0 : List Addr} {st0 : Sto} {H0 : Hp}
theorem ZsZ {a : Addr} {vs : List V} {xs : List IV} (h : LstAt G m0 bs0 st0 H0 a vs) (r : RVs G m0 bs0 st0 H0 xs vs) : Walks G m0 bs0 st0 H0 xs none (Itl G.K a) := by
  intro i m bs st H g R _
  have h1 := (g.lst _ _ h).sq
  have r1 := RVs.fits g _ _ r
  refine ⟨fun x hx => ?_, fun hl => ⟨vs, h1, by rw [← r.length]; exact hl⟩⟩
  obtain ⟨v, hv, rv⟩ := r1.get hx
  exact ⟨⟨vs, v, h1, hv⟩, fun w H' y => by
    obtain ⟨e, y⟩ := y
    subst e
    have : w = v := Option.some.inj ((y vs h1).symm.trans hv)
    subst this
    exact ⟨.refl, R, rv⟩⟩
theorem ZsN {a : Addr} {vs : List V} {xs : List IV} (h : TupAt G m0 bs0 st0 H0 a vs) (r : RVs G m0 bs0 st0 H0 xs vs) : Walks G m0 bs0 st0 H0 xs none (Itt G.K a) := by
  intro i m bs st H g R _
  have h1 := (g.tup _ _ h).sq
  have r1 := RVs.fits g _ _ r
  refine ⟨fun x hx => ?_, fun hl => ⟨vs, h1, by rw [← r.length]; exact hl⟩⟩
  obtain ⟨v, hv, rv⟩ := r1.get hx
  exact ⟨⟨vs, v, h1, hv⟩, fun w H' y => by
    obtain ⟨e, y⟩ := y
    subst e
    have : w = v := Option.some.inj ((y vs h1).symm.trans hv)
    subst this
    exact ⟨.refl, R, rv⟩⟩
theorem ZtU {x : Str} : Walks G m0 bs0 st0 H0 (x.cps.toList.map fun c => .str ⟨#[c]⟩) none (Its x) := by
  intro i m os st H g R _
  refine ⟨fun y hy => ?_, fun hl => ?_⟩
  · rw [List.getElem?_map, Option.map_eq_some_iff] at hy
    obtain ⟨c, hc, e⟩ := hy
    subst e
    refine ⟨?_, fun w H' z => ?_⟩
    · have := (List.getElem?_eq_some_iff.mp hc).1
      show i < x.cps.size
      simpa using this
    · obtain ⟨e, c', h1, h2⟩ := z
      subst e
      have e : c' = c := by
        have h3 : x.cps.toList[i]? = some c' := by simpa using h1
        rw [hc] at h3
        exact (Option.some.inj h3).symm
      subst e
      exact ⟨.refl, R, by simp only [RV]; exact h2⟩
  · show x.cps.size ≤ i
    simpa using hl
end
section
variable {X : Cx} {W : WX} {xa : Xa} {tg e : Expr} {A : IE} {G : Gd}
theorem Z1P (he : ME X W xa e A) : MI X W xa tg e (iOver A) := by
  refine ⟨fun pins s σ H R I h => ?_⟩
  obtain ⟨m, os, rs, ρ, st, P, h⟩ := h
  refine thn (he.run pins s σ H (fun u H1 => ∃ m1 st1 x, GrowE m st H m1 st1 H1 ∧ Rel (gd X) m1 (os ++ rs) st1 H1 ∧ RV (gd X) m1 (os ++ rs) st1 H1 x u ∧
    Pst (gd X) m1 (os ++ rs) st1 H1 (fun cls d H' => W cls d σ H') (match Z27 st1 x with | some p => .ok p st1 | none => .bad) (fun p m' st' H' => ∀ J, Walks (gd X) m' (os ++ rs) st' H' p.1 p.2 J → R J H')) I
    ⟨m, os, rs, ρ, st, P, h.bind.mono fun x m1 st1 H1 g1 R1 h1 u ru => ⟨m1, st1, x, g1, R1, ru, h1⟩⟩) fun u s1 ⟨v, H1, I1, rv, m1, st1, x, g1, R1, rx, h1⟩ => ?_
  cases x with
  | tup xs =>
    obtain ⟨a, vs, ea, ht, r⟩ := (show ∃ a vs, v = .ref a ∧ TupAt (gd X) m1 (os ++ rs) st1 H1 a vs ∧ RVs (gd X) m1 (os ++ rs) st1 H1 xs vs by simpa only [RV] using rx)
    subst ea
    cases rv
    exact ZqR I1 ht.sq (h1.ok R1 _ (ZsN ht r))
  | lst xs =>
    obtain ⟨a, vs, ea, ht, r⟩ := (show ∃ a vs, v = .ref a ∧ LstAt (gd X) m1 (os ++ rs) st1 H1 a vs ∧ RVs (gd X) m1 (os ++ rs) st1 H1 xs vs by simpa only [RV] using rx)
    subst ea
    cases rv
    exact ZiP I1 ht.sq (h1.ok R1 _ (ZsZ ht r))
  | ref l =>
    obtain ⟨a, ea, hm⟩ := (show ∃ a, v = .ref a ∧ m1[l]? = some a by simpa only [RV] using rx)
    subst ea
    cases rv
    simp only [Z27] at h1
    cases q : st1[l]? with
    | none => rw [q] at h1; exact h1.elim
    | some o =>
      cases o with
      | lst xs =>
        rw [q] at h1
        obtain ⟨vs, hv, r⟩ := R1.obj l _ a q hm
        refine ZiP I1 (.of hv) (h1.ok R1 _ ?_)
        intro i m2 bs2 st2 H2 g R gk
        have hs := Zn8 gk
        have hm1 := g.at_ _ _ hm
        obtain ⟨vs, hv, rv⟩ := R.obj l _ a hs hm1
        refine ⟨fun x hx => ?_, fun hl => ⟨vs, .of hv, by rw [← rv.length]; exact hl⟩⟩
        obtain ⟨v, hv1, r1⟩ := rv.get hx
        exact ⟨⟨vs, v, .of hv, hv1⟩, fun w H' y => by
          obtain ⟨e, y⟩ := y
          subst e
          have : w = v := Option.some.inj ((y vs (.of hv)).symm.trans hv1)
          subst this
          exact ⟨.refl, R, r1⟩⟩
      | _ => rw [q] at h1; exact h1.elim
  | str z =>
    simp only [RV] at rx
    subst rx
    obtain ⟨t, rfl⟩ := rv
    exact ZrL I1 (h1.ok R1 _ ZtU)
  | _ => exact h1.elim
def rngI (lo : Int) (n : Nat) : List IV := (List.range n).map fun (i : Nat) => IV.int (lo + i)
theorem ZoX {m0 bs0 : List Addr} {st0 : Sto} {H0 : Hp} {lo : Int} {n : Nat} : Walks G m0 bs0 st0 H0 (rngI lo n) none (Itr lo n) := by
  intro i m os st H g R _
  refine ⟨fun y hy => ?_, fun hl => ?_⟩
  · unfold rngI at hy
    rw [List.getElem?_map, Option.map_eq_some_iff] at hy
    obtain ⟨c, hc, e⟩ := hy
    have hi := (List.getElem?_eq_some_iff.mp hc).1
    rw [List.length_range] at hi
    rw [List.getElem?_range hi] at hc
    cases hc
    subst e
    refine ⟨hi, fun w H' z => ?_⟩
    obtain ⟨e, h1⟩ := z
    subst e h1
    exact ⟨.refl, R, by simp only [RV]⟩
  · show n ≤ i
    simpa [rngI] using hl
def gRng1 : List IV → Sto → R (List IV × GI)
  | [.int j], st => if j ≤ 1000000000000000000 ∧ -1000000000000000000 ≤ j then .ok (rngI 0 j.toNat, none) st else .bad
  | _, _ => .bad
def iRng (g : List IV → Sto → R (List IV × GI)) (As : IA) : IIt := fun ρ st => (As ρ st).bind g
theorem PI.mi {tg e : Expr} {wi : TI} {A : IIt} (h : PI X tg e wi) (k : ∀ σ H R, tiOf (gd X) W xa A σ H R → wi σ H R) : MI X W xa tg e A := ⟨fun pins s σ H R I q => h.run pins s σ H R I (k σ H R q)⟩
theorem Z2k {a : Expr} {As : IA} {p pos : Pos} (hg : Gl X "range") (hm : X.mg "range" = none) (ha : MA X W xa [a] As) (hs : starEach [a] X.env = [(false, eval a X.env)] := by rfl) : MI X W xa tg (.Call (.Name "range" p) [a] [] pos) (iRng gRng1 As) := by
  refine PI.mi (pi_range1 hg hm ha hs) fun σ H R h => ?_
  obtain ⟨m, os, rs, ρ, st, P, h⟩ := h
  refine ⟨m, os, rs, ρ, st, P, h.bind.mono fun xs m1 st1 H1 g1 R1 h1 vs rv => ?_⟩
  unfold gRng1 at h1
  split at h1
  · split at h1
    · rename_i j c
      obtain ⟨v, e, r⟩ := rvs1 rv
      simp only [RV] at r
      subst r
      exact ⟨j, e, by omega, by omega, h1.ok R1 _ ZoX⟩
    · exact h1.elim
  · exact h1.elim
theorem Zby {m bs : List Addr} {st : Sto} {H : Hp} {x y : IV} {v w : V} {T : Addr} (R : Rel G m bs st H) (hT : H T = none) (rx : RV G m bs st H x v) (ry : RV G m bs st H y w) :
    GrowE m st H m st (upd H T (.tup [v, w])) ∧ Rel G m bs st (upd H T (.tup [v, w])) ∧ RV G m bs st (upd H T (.tup [v, w])) (.tup [x, y]) (.ref T) := by
  have g : GrowE m st H m st (upd H T (.tup [v, w])) := Z13 hT
  refine ⟨g, R.new hT, ?_⟩
  simp only [RV]
  exact ⟨T, _, rfl, ZiL R hT, by simp only [RVs]; exact ⟨v, _, rfl, RV.fits g.fitsE _ _ rx, w, _, rfl, RV.fits g.fitsE _ _ ry, rfl⟩⟩
def enumI (i : Nat) : List IV → List IV
  | [] => []
  | x :: xs => .tup [.int i, x] :: enumI (i + 1) xs
theorem enumI_len : ∀ (xs : List IV) (i : Nat), (enumI i xs).length = xs.length
  | [], _ => rfl
  | x :: xs, i => by simp [enumI, enumI_len xs]
theorem enumI_get : ∀ (xs : List IV) (k i : Nat) (y : IV), (enumI k xs)[i]? = some y → ∃ x, xs[i]? = some x ∧ y = .tup [.int ((k + i : Nat) : Int), x]
  | [], _, _, _, h => by simp [enumI] at h
  | x :: xs, k, 0, y, h => by simp [enumI] at h; exact ⟨x, rfl, h.symm⟩
  | x :: xs, k, i + 1, y, h => by
    simp only [enumI, List.getElem?_cons_succ] at h
    obtain ⟨z, e1, e2⟩ := enumI_get xs (k + 1) i y h
    exact ⟨z, by simpa using e1, by rw [e2]; congr 3; omega⟩
def gEnum : List IV → Sto → R (List IV × GI)
  | [.lst xs], st => .ok (enumI 0 xs, none) st
  | [.ref l], st => match st[l]? with
    | some (.lst xs) => .ok (enumI 0 xs, some (l, xs)) st
    | _ => .bad
  | _, _ => .bad
theorem ZnA {a : Expr} {As : IA} {p pos tpos : Pos} {elts : List Expr} {kk : Nat} (hg : Gl X "enumerate") (hm : X.mg "enumerate" = none) (ha : MA X W xa [a] As) (hs : starEach [a] X.env = [(false, eval a X.env)] := by rfl) :
    MI X W xa (.Tuple elts kk tpos) (.Call (.Name "enumerate" p) [a] [] pos) (iRng gEnum As) := by
  refine PI.mi (pi_enum hg hm ha hs) fun σ H R h => ?_
  obtain ⟨m, os, rs, ρ, st, P, h⟩ := h
  refine ⟨m, os, rs, ρ, st, P, h.bind.mono fun xs m1 st1 H1 g1 R1 h1 vs rv => ?_⟩
  unfold gEnum at h1
  split at h1
  · rename_i ys
    obtain ⟨v, e, r⟩ := rvs1 rv
    simp only [RV] at r
    obtain ⟨a, ws, ea, hl, rs1⟩ := r
    subst ea
    refine ⟨a, ws, e, hl.sq, h1.ok R1 _ ?_⟩
    intro i m2 bs2 st2 H2 g R _
    have hl1 := (g.lst _ _ hl).sq
    have r1 := RVs.fits g _ _ rs1
    refine ⟨fun x hx => ?_, fun hl => ⟨ws, hl1, by rw [← rs1.length]; simpa [enumI_len] using hl⟩⟩
    obtain ⟨z, hz, ez⟩ := enumI_get _ _ _ _ hx
    subst ez
    obtain ⟨v, hv, rv⟩ := r1.get hz
    refine ⟨⟨ws, v, hl1, hv⟩, fun w H' y => ?_⟩
    obtain ⟨T, u, e1, hT, e2, hu⟩ := y
    subst e1 e2
    have e : u = v := Option.some.inj ((hu ws hl1).symm.trans hv)
    subst e
    have := Zby (x := .int ((i : Nat) : Int)) (v := .int ((i : Nat) : Int)) R hT (by simp only [RV]) rv
    simpa using this
  · rename_i l
    split at h1
    · rename_i ys eo
      obtain ⟨v, e, r⟩ := rvs1 rv
      simp only [RV] at r
      obtain ⟨a, ea, hm1⟩ := r
      subst ea
      obtain ⟨ws, hw, rs1⟩ := R1.obj l _ a eo hm1
      refine ⟨a, ws, e, .of hw, h1.ok R1 _ ?_⟩
      intro i m2 bs2 st2 H2 g R gk
      have hs := Zn8 gk
      obtain ⟨ws, hw2, r1⟩ := R.obj l _ a hs (g.at_ _ _ hm1)
      refine ⟨fun x hx => ?_, fun hl => ⟨ws, .of hw2, by rw [← r1.length]; simpa [enumI_len] using hl⟩⟩
      obtain ⟨z, hz, ez⟩ := enumI_get _ _ _ _ hx
      subst ez
      obtain ⟨v, hv, rv⟩ := r1.get hz
      refine ⟨⟨ws, v, .of hw2, hv⟩, fun w H' y => ?_⟩
      obtain ⟨T, u, e1, hT, e2, hu⟩ := y
      subst e1 e2
      have e : u = v := Option.some.inj ((hu ws (.of hw2)).symm.trans hv)
      subst e
      have := Zby (x := .int ((i : Nat) : Int)) (v := .int ((i : Nat) : Int)) R hT (by simp only [RV]) rv
      simpa using this
    · exact h1.elim
  · exact h1.elim
def zipI : List IV → List IV → List IV
  | x :: xs, y :: ys => .tup [x, y] :: zipI xs ys
  | _, _ => []
theorem Z8i : ∀ (xs ys : List IV) (i : Nat) (z : IV), (zipI xs ys)[i]? = some z → ∃ x y, xs[i]? = some x ∧ ys[i]? = some y ∧ z = .tup [x, y]
  | [], _, _, _, h => by simp [zipI] at h
  | _ :: _, [], _, _, h => by simp [zipI] at h
  | x :: xs, y :: ys, 0, z, h => by simp [zipI] at h; exact ⟨x, y, rfl, rfl, h.symm⟩
  | x :: xs, y :: ys, i + 1, z, h => by
    simp only [zipI, List.getElem?_cons_succ] at h
    obtain ⟨u, v, e1, e2, e3⟩ := Z8i xs ys i z h
    exact ⟨u, v, by simpa using e1, by simpa using e2, e3⟩
theorem ZdP : ∀ (xs ys : List IV), (zipI xs ys).length = min xs.length ys.length
  | [], _ => by simp [zipI]
  | _ :: _, [] => by simp [zipI]
  | x :: xs, y :: ys => by simp [zipI, ZdP xs ys]
def gZip : List IV → Sto → R (List IV × GI)
  | [.lst xs, .lst ys], st => .ok (zipI xs ys, none) st
  | [.tup xs, .tup ys], st => .ok (zipI xs ys, none) st
  | _, _ => .bad
theorem Zv7 {a b : Expr} {As : IA} {p pos tpos : Pos} {elts : List Expr} {kk : Nat} (hg : Gl X "zip") (hm : X.mg "zip" = none) (ha : MA X W xa [a, b] As)
    (hs : starEach [a, b] X.env = (false, eval a X.env) :: starEach [b] X.env := by rfl) (hpl : (backTo pos (starEach [b] X.env)).any (·.1) = false := by rfl) :
    MI X W xa (.Tuple elts kk tpos) (.Call (.Name "zip" p) [a, b] [] pos) (iRng gZip As) := by
  refine PI.mi (RZ.pi_zipA hg hm ha hs hpl) fun σ H R h => ?_
  obtain ⟨m, os, rs, ρ, st, P, h⟩ := h
  refine ⟨m, os, rs, ρ, st, P, h.bind.mono fun xs m1 st1 H1 g1 R1 h1 vs rv => ?_⟩
  unfold gZip at h1
  split at h1
  · rename_i us ws
    obtain ⟨v, w, e, r, r'⟩ := rvs2 rv
    simp only [RV] at r r'
    obtain ⟨a, as, ea, hl, ra⟩ := r
    obtain ⟨b, bs, eb, hk, rb⟩ := r'
    subst ea eb
    refine ⟨a, b, as, bs, e, .inl ⟨hl.sq, hk.sq, h1.ok R1 _ ?_⟩⟩
    intro i m2 bs2 st2 H2 g R _
    have hl1 := (g.lst _ _ hl).sq
    have hk1 := (g.lst _ _ hk).sq
    have ra1 := RVs.fits g _ _ ra
    have rb1 := RVs.fits g _ _ rb
    refine ⟨fun x hx => ?_, fun hq => ⟨as, bs, hl1, hk1, ?_⟩⟩
    · obtain ⟨x1, y1, e1, e2, e3⟩ := Z8i _ _ _ _ hx
      subst e3
      obtain ⟨v1, f1, q1⟩ := ra1.get e1
      obtain ⟨v2, f2, q2⟩ := rb1.get e2
      refine ⟨⟨as, bs, v1, v2, hl1, hk1, f1, f2⟩, fun w H' y => ?_⟩
      obtain ⟨T, u1, u2, z1, hT, z2, z3, z4⟩ := y
      subst z1 z2
      have e : u1 = v1 := Option.some.inj ((z3 as hl1).symm.trans f1)
      have e' : u2 = v2 := Option.some.inj ((z4 bs hk1).symm.trans f2)
      subst e e'
      exact Zby R hT q1 q2
    · rw [ZdP, ra.length, rb.length] at hq
      omega
  · rename_i us ws
    obtain ⟨v, w, e, r, r'⟩ := rvs2 rv
    simp only [RV] at r r'
    obtain ⟨a, as, ea, hl, ra⟩ := r
    obtain ⟨b, bs, eb, hk, rb⟩ := r'
    subst ea eb
    refine ⟨a, b, as, bs, e, .inr ⟨hl.sq, hk.sq, h1.ok R1 _ ?_⟩⟩
    intro i m2 bs2 st2 H2 g R _
    have hl1 := (g.tup _ _ hl).sq
    have hk1 := (g.tup _ _ hk).sq
    have ra1 := RVs.fits g _ _ ra
    have rb1 := RVs.fits g _ _ rb
    refine ⟨fun x hx => ?_, fun hq => ⟨as, bs, hl1, hk1, ?_⟩⟩
    · obtain ⟨x1, y1, e1, e2, e3⟩ := Z8i _ _ _ _ hx
      subst e3
      obtain ⟨v1, f1, q1⟩ := ra1.get e1
      obtain ⟨v2, f2, q2⟩ := rb1.get e2
      refine ⟨⟨as, bs, v1, v2, hl1, hk1, f1, f2⟩, fun w H' y => ?_⟩
      obtain ⟨T, u1, u2, z1, hT, z2, z3, z4⟩ := y
      subst z1 z2
      have e : u1 = v1 := Option.some.inj ((z3 as hl1).symm.trans f1)
      have e' : u2 = v2 := Option.some.inj ((z4 bs hk1).symm.trans f2)
      subst e e'
      exact Zby R hT q1 q2
    · rw [ZdP, ra.length, rb.length] at hq
      omega
  · exact h1.elim
def forL (g : GI) (all : List IV) (T : ITg) (B : IS) : List IV → Slots → Sto → RS
  | [], ρ, st => if gokB g st all = true then .nx ρ st else .bad
  | x :: r, ρ, st => if gokB g st all = true then
      match T x ρ st with
      | .nx ρ1 st1 => match B ρ1 st1 with
        | .nx ρ2 st2 => forL g all T B r ρ2 st2
        | .ct ρ2 st2 => forL g all T B r ρ2 st2
        | .bk ρ2 st2 => .nx ρ2 st2
        | q => q
      | _ => .bad
    else .bad
def iFor (I : IIt) (T : ITg) (B : IS) : IS := fun ρ st => RS.ofR (I ρ st) ρ fun p st => forL p.2 p.1 T B p.1 ρ st
theorem Z1i {iter : Expr} {body : List Stmt} {I : IIt} {T : ITg} {B : IS} {pos : Pos} (hp : PassesOwn (model X.prog X.w) X.A X.env X.xe) (hc : X.calm = true) (hi : MI X W xa tg iter I) (hg : MG X xa tg T) (hb : MSs X W xa body B)
    (hs : ∀ x, foldedSetIterable iter X.env x = pure x := by intro _; rfl) : MS X W xa (.For tg iter body [] pos) (iFor I T B) := by
  refine PS.weak (ps_for hp hc hi hg hb hs) fun D σ H h => ?_
  obtain ⟨m, os, rs, ρ, st, P, h⟩ := h
  refine ⟨m, os, rs, ρ, st, P, (h.ofR P).mono fun p m1 st1 H1 g1 R1 h1 J hw => ?_⟩
  obtain ⟨xs, g⟩ := p
  refine ⟨fun i n σ H => n = xs.length - i ∧ i ≤ xs.length ∧ ∃ m os' ρ st, Grow m1 st1 os H1 m st os' H ∧ Pre (gd X) xa σ H m os' rs ρ st ∧ PstS (gd X) xa m os' rs st H W D (forL g xs T B (xs.drop i) ρ st),
    ⟨xs.length, by simp, Nat.zero_le _, m1, os, ρ, st1, .refl, P.grow g1 R1, by simpa using h1⟩, ?_⟩
  rintro i n σ2 H2 ⟨rfl, hi, m2, os2, ρ2, st2, g2, P2, h2⟩
  have w := hw i m2 _ st2 H2 g2.fits P2.rel
  by_cases hlt : i < xs.length
  · have ed : xs.drop i = xs[i] :: xs.drop (i + 1) := List.drop_eq_getElem_cons hlt
    rw [ed, forL] at h2
    split at h2
    · rename_i gk
      obtain ⟨w1, _⟩ := w gk
      obtain ⟨go, yl⟩ := w1 xs[i] (List.getElem?_eq_getElem hlt)
      refine .inr ⟨go, fun σ' H' => i + 1 ≤ xs.length ∧ ∃ m os' ρ st, Grow m1 st1 os H1 m st os' H' ∧ Pre (gd X) xa σ' H' m os' rs ρ st ∧ PstS (gd X) xa m os' rs st H' W D (forL g xs T B (xs.drop (i + 1)) ρ st), fun σ' H' q => ⟨xs.length - (i + 1), by omega, rfl, q⟩, fun v H3 y => ?_⟩
      obtain ⟨g3, R3, r3⟩ := yl v H3 y
      have P3 := P2.grow g3 R3
      refine ⟨m2, os2, rs, ρ2, st2, xs[i], P3, r3, ?_⟩
      cases q1 : T xs[i] ρ2 st2 with
      | nx ρ4 st4 =>
        simp only [q1] at h2
        intro m4 os4 H4 σ4 g4 P4
        refine ⟨m4, os4, rs, ρ4, st4, P4, ?_⟩
        have gg : Grow m1 st1 os H1 m4 st4 os4 H4 := (g2.trans (.ofE g3)).trans g4
        have sh : ∀ {r : RS}, PstS (gd X) xa m2 os2 rs st2 H2 W D r → PstS (gd X) xa m4 os4 rs st4 H4 W D r := fun h => h.shift ((Grow.ofE g3).trans g4)
        cases q2 : B ρ4 st4 with
        | nx ρ5 st5 =>
          simp only [q2] at h2
          exact fun m5 os5 H5 σ5 g5 P5 => ⟨hlt, m5, os5, ρ5, st5, gg.trans g5, P5, (sh h2).shift g5⟩
        | ct ρ5 st5 =>
          simp only [q2] at h2
          exact fun m5 os5 H5 σ5 g5 P5 => ⟨hlt, m5, os5, ρ5, st5, gg.trans g5, P5, (sh h2).shift g5⟩
        | bk ρ5 st5 =>
          simp only [q2] at h2
          exact sh h2
        | rt v st5 =>
          simp only [q2] at h2
          exact sh h2
        | exc c fs ρ5 st5 =>
          simp only [q2] at h2
          exact sh h2
        | bad => simp only [q2] at h2; exact h2.elim
      | _ => simp only [q1] at h2; exact h2.elim
    · exact h2.elim
  · have ei : i = xs.length := by omega
    rw [List.drop_eq_nil_of_le (by omega), forL] at h2
    split at h2
    · rename_i gk
      exact .inl ⟨(w gk).2 (by show xs.length ≤ i; omega), h2.here P2⟩
    · exact h2.elim
def Z4q (S : IT) (B : IS) : Nat → Slots → Sto → RS
  | 0, _, _ => .bad
  | n + 1, ρ, st => RS.ofR (S ρ st) ρ fun b st => if b = true then
      match B ρ st with
      | .nx ρ2 st2 => Z4q S B n ρ2 st2
      | .ct ρ2 st2 => Z4q S B n ρ2 st2
      | .bk ρ2 st2 => .nx ρ2 st2
      | q => q
    else .nx ρ st
def ZgH (n : Nat) (S : IT) (B : IS) : IS := fun ρ st => Z4q S B n ρ st
theorem Zqg {c : Expr} {body : List Stmt} {S : IT} {B : IS} {pos : Pos} {n : Nat} (hp : PassesOwn (model X.prog X.w) X.A X.env X.xe) (hc : MT X W xa c S) (hb : MSs X W xa body B) : MS X W xa (.While c body [] pos) (ZgH n S B) := by
  refine PS.weak (ps_while hp hc hb) fun D σ H h => ?_
  obtain ⟨m, os, rs, ρ, st, P, h⟩ := h
  refine ⟨fun k σ H => ∃ m os ρ st, Pre (gd X) xa σ H m os rs ρ st ∧ PstS (gd X) xa m os rs st H W D (Z4q S B k ρ st), ⟨n, m, os, ρ, st, P, h⟩, ?_⟩
  rintro k σ2 H2 ⟨m2, os2, ρ2, st2, P2, h2⟩
  cases k with
  | zero => exact h2.elim
  | succ k =>
    rw [Z4q] at h2
    refine ⟨m2, os2, rs, ρ2, st2, P2, (h2.ofR P2).mono fun b m3 st3 H3 g3 R3 h3 b' e => ?_⟩
    subst e
    cases b with
    | false => exact h3.here (P2.grow g3 R3)
    | true =>
      refine ⟨fun σ' H' => ∃ m os ρ st, Pre (gd X) xa σ' H' m os rs ρ st ∧ PstS (gd X) xa m os rs st H' W D (Z4q S B k ρ st), fun σ' H' q => ⟨k, Nat.lt_succ_self k, q⟩, m3, os2, rs, ρ2, st3, P2.grow g3 R3, ?_⟩
      simp only [if_true] at h3
      cases q2 : B ρ2 st3 with
      | nx ρ5 st5 =>
        simp only [q2] at h3
        exact fun m5 os5 H5 σ5 g5 P5 => ⟨m5, os5, ρ5, st5, P5, h3.shift g5⟩
      | ct ρ5 st5 =>
        simp only [q2] at h3
        exact fun m5 os5 H5 σ5 g5 P5 => ⟨m5, os5, ρ5, st5, P5, h3.shift g5⟩
      | bk ρ5 st5 => simp only [q2] at h3; exact h3
      | rt v st5 => simp only [q2] at h3; exact h3
      | exc c fs ρ5 st5 => simp only [q2] at h3; exact h3
      | bad => simp only [q2] at h3; exact h3.elim
end
end Mi
namespace Mi
open PySem PySem.Spec PyProof.Rows L2
section
variable {G : Gd} {m m' bs bs' bs'' os os' rs : List Addr} {st st' : Sto} {H H' H'' : Hp} {D : Addr}
theorem Fits.trans {m'' : List Addr} {st'' : Sto} (a : Fits G m bs st H m' bs' st' H') (b : Fits G m' bs' st' H' m'' bs'' st'' H'') : Fits G m bs st H m'' bs'' st'' H'' :=
  ⟨fun l x h => b.at_ l x (a.at_ l x h), fun x vs h => b.tup x vs (a.tup x vs h), fun x vs h => b.lst x vs (a.lst x vs h), fun x o u h => b.frz x o u (a.frz x o u h)⟩
theorem Z7N (h : ∀ a ∈ bs', a ∈ bs) : Fits G m bs st H m bs' st H := ⟨fun _ _ h => h, fun a vs x => by
    rcases x with ⟨x, n, q⟩ | x
    · exact .inl ⟨x, n, fun z => q (h a z)⟩
    · exact .inr x, fun a vs x => by
    rcases x with ⟨x, n, q⟩ | x
    · exact .inl ⟨x, n, fun z => q (h a z)⟩
    · exact .inr x, fun a o u x => by
    obtain ⟨x, n, q⟩ := x
    exact ⟨x, n, fun z => q (h a z)⟩⟩
theorem Rel.sub (R : Rel G m bs st H) (h : ∀ a ∈ bs', a ∈ bs) : Rel G m bs' st H :=
  ⟨R.len, R.nd, fun l o a e1 e2 => (R.obj l o a e1 e2).fits (Z7N h) fun _ e => e, fun a z => R.bsd a (h a z)⟩
theorem rd_ne {a : Addr} {u w : HO} (hD : H D = none) (h : Rd H a u) : a ≠ D ∧ Rd (upd H D w) a u := by
  rcases h with h | ⟨o, h⟩
  · have ne := ne_of_none h hD
    exact ⟨ne, .inl (by rw [upd_ne ne]; exact h)⟩
  · have ne := ne_of_none h hD
    exact ⟨ne, .inr ⟨o, by rw [upd_ne ne]; exact h⟩⟩
theorem Z4O {u : HO} (hD : H D = none) (h : ∀ a ∈ bs', a = D ∨ a ∈ bs) : Fits G m bs st H m bs' st (upd H D u) := ⟨fun _ _ h => h, fun a vs x => by
    rcases x with ⟨x, n, q⟩ | x
    · obtain ⟨ne, x⟩ := rd_ne (w := u) hD x
      exact .inl ⟨x, n, fun z => (h a z).elim ne q⟩
    · exact .inr x, fun a vs x => by
    rcases x with ⟨x, n, q⟩ | x
    · obtain ⟨ne, x⟩ := rd_ne (w := u) hD x
      exact .inl ⟨x, n, fun z => (h a z).elim ne q⟩
    · exact .inr x, fun a o u x => by
    obtain ⟨x, n, q⟩ := x
    have ne := ne_of_none x hD
    exact ⟨by rw [upd_ne ne]; exact x, n, fun z => (h a z).elim ne q⟩⟩
theorem Rel.block (R : Rel G m bs st H) {u : HO} (hD : H D = none) (h : ∀ a ∈ bs', a = D ∨ a ∈ bs) : Rel G m bs' st (upd H D u) := by
  refine ⟨R.len, R.nd, fun l o a e1 e2 => (R.obj l o a e1 e2).fits (Z4O hD h) fun w e => ?_, fun a z => ?_⟩
  · rw [upd_ne (ne_of_none e hD)]; exact e
  · rcases h a z with e | z
    · rw [e]; exact ⟨(R.fresh hD).1, _, upd_same⟩
    · obtain ⟨n, o, e⟩ := R.bsd a z
      exact ⟨n, o, by rw [upd_ne (ne_of_none e hD)]; exact e⟩
theorem Z8w {u : HO} (h : D ∈ bs) : Fits G m bs st H m bs st (upd H D u) := ⟨fun _ _ h => h, fun a vs x => by
    rcases x with ⟨x, n, q⟩ | x
    · have ne : a ≠ D := fun z => q (z ▸ h)
      exact .inl ⟨by rcases x with x | ⟨o, x⟩
                     · exact .inl (by rw [upd_ne ne]; exact x)
                     · exact .inr ⟨o, by rw [upd_ne ne]; exact x⟩, n, q⟩
    · exact .inr x, fun a vs x => by
    rcases x with ⟨x, n, q⟩ | x
    · have ne : a ≠ D := fun z => q (z ▸ h)
      exact .inl ⟨by rcases x with x | ⟨o, x⟩
                     · exact .inl (by rw [upd_ne ne]; exact x)
                     · exact .inr ⟨o, by rw [upd_ne ne]; exact x⟩, n, q⟩
    · exact .inr x, fun a o u x => by
    obtain ⟨x, n, q⟩ := x
    have ne : a ≠ D := fun z => q (z ▸ h)
    exact ⟨by rw [upd_ne ne]; exact x, n, q⟩⟩
theorem Rel.upd (R : Rel G m bs st H) {u : HO} (h : D ∈ bs) : Rel G m bs st (upd H D u) := by
  refine ⟨R.len, R.nd, fun l o a e1 e2 => (R.obj l o a e1 e2).fits (Z8w h) fun w e => ?_, fun a z => ?_⟩
  · have ne : a ≠ D := fun z => (R.bsd D h).1 (z ▸ List.mem_of_getElem? e2)
    rw [upd_ne ne]; exact e
  · obtain ⟨n, o, e⟩ := R.bsd a z
    by_cases ha : a = D
    · rw [ha]; exact ⟨(R.bsd D h).1, _, upd_same⟩
    · exact ⟨n, o, by rw [upd_ne ha]; exact e⟩
theorem Z8o (R : Rel G m' bs st' H') (g : GrowE m st H m' st' H') (R0 : Rel G m bs st H) {p : Addr} (h : H' p = none) : H p = none := g.stay p h
end
def PstF (G : Gd) (m bs : List Addr) (st : Sto) (H : Hp) (W : Value → Option Addr → Hp → Prop) (r : R (List IV)) (Q : VK) : Prop := match r with
  | .ok xs st' => ∀ m' H' D vs, H D = none → GrowE m st H m' st' H' → Rel G m' (D :: bs) st' H' → H' D = some (.lst vs) → RVs G m' (D :: bs) st' H' xs vs → Q (.ref D) H'
  | .exc c fs st' => ∀ m' H' cls d, GrowE m st H m' st' H' → Rel G m' bs st' H' → XR G m' bs st' H' c fs cls d → W cls d H'
  | .bad => False
def tfOf (G : Gd) (W : WX) (xa : Xa) (A : IA) : TE := fun σ H Q => ∃ m os rs ρ st, Pre G xa σ H m os rs ρ st ∧ PstF G m (os ++ rs) st H (fun cls d H' => W cls d σ H') (A ρ st) Q
abbrev MF (X : Cx) (W : WX) (xa : Xa) (e : Expr) (A : IA) : Prop := PE X e (tfOf (gd X) W xa A)
section
variable {X : Cx} {W : WX} {xa : Xa} {e a b : Expr} {A : IE} {As : IA} {pos : Pos} {es : List Expr}
def iF (As : IA) : IE := fun ρ st => (As ρ st).bind fun xs st => .ok (.lst xs) st
def iFS (As : IA) : IE := fun ρ st => (As ρ st).bind fun xs st => .ok (.ref st.length) (st ++ [.lst xs])
theorem ZoE {σ : L2.St} {H : Hp} {Q : VK} (h : teOf (gd X) W xa (iF As) σ H Q) : tfOf (gd X) W xa As σ H Q := by
  obtain ⟨m, os, rs, ρ, st, P, h⟩ := h
  refine ⟨m, os, rs, ρ, st, P, ?_⟩
  unfold iF at h
  cases q : As ρ st with
  | ok xs st' =>
    rw [q] at h
    intro m' H' D vs hD g R e r
    have sub : ∀ a ∈ os ++ rs, a ∈ D :: (os ++ rs) := fun a z => List.mem_cons_of_mem _ z
    refine h m' H' g (R.sub sub) (.ref D) ?_
    simp only [RV]
    have hn := R.bsd D List.mem_cons_self
    refine ⟨D, vs, rfl, .inl ⟨.inl e, fun z => hn.1 z.mem, fun z => ?_⟩, RVs.fits (Z7N sub) _ _ r⟩
    obtain ⟨_, o, e'⟩ := P.rel.bsd D z
    rw [hD] at e'; cases e'
  | exc c fs st' => rw [q] at h; exact h
  | bad => rw [q] at h; exact h
theorem Ztt {σ : L2.St} {H : Hp} {Q : VK} (h : teOf (gd X) W xa (iFS As) σ H Q) : tfOf (gd X) W xa As σ H Q := by
  obtain ⟨m, os, rs, ρ, st, P, h⟩ := h
  refine ⟨m, os, rs, ρ, st, P, ?_⟩
  unfold iFS at h
  cases q : As ρ st with
  | ok xs st' =>
    rw [q] at h
    intro m' H' D vs hD g R e r
    have sub : ∀ a ∈ os ++ rs, a ∈ D :: (os ++ rs) := fun a z => List.mem_cons_of_mem _ z
    have hn := R.bsd D List.mem_cons_self
    have nb : D ∉ os ++ rs := fun z => by
      obtain ⟨_, o, e'⟩ := P.rel.bsd D z
      rw [hD] at e'; cases e'
    have f : Fits (gd X) m' (D :: (os ++ rs)) st' H' (m' ++ [D]) (os ++ rs) (st' ++ [.lst xs]) H' := by
      refine ⟨fun l a h => ?_, fun a vs h => ?_, fun a vs h => ?_, fun a o u h => ?_⟩
      · rw [List.getElem?_append_left (List.getElem?_eq_some_iff.mp h).1]; exact h
      · rcases h with ⟨h, n, z⟩ | h
        · exact .inl ⟨h, fun y => (Z2A R.len y).elim n fun y => z (y ▸ List.mem_cons_self), fun y => z (sub a y)⟩
        · exact .inr h
      · rcases h with ⟨h, n, z⟩ | h
        · exact .inl ⟨h, fun y => (Z2A R.len y).elim n fun y => z (y ▸ List.mem_cons_self), fun y => z (sub a y)⟩
        · exact .inr h
      · obtain ⟨h, n, z⟩ := h
        exact ⟨h, fun y => (Z2A R.len y).elim n fun y => z (y ▸ List.mem_cons_self), fun y => z (sub a y)⟩
    have g2 : GrowE m st H (m' ++ [D]) (st' ++ [.lst xs]) H' := ⟨g.pre.trans (List.prefix_append _ _), fun a o ha na qa nx => by
      obtain ⟨h1, n1, _⟩ := g.keep a o ha na qa nx
      exact ⟨h1, fun y => (Z2A R.len y).elim n1 (fun y => by rw [y, hD] at ha; cases ha), qa⟩, g.stay⟩
    refine h (m' ++ [D]) H' g2 ⟨by simp [R.len], fun i j x e1 e2 => ?_, fun l w x e1 e2 => ?_, fun x z => ⟨fun y => ?_, (R.bsd x (sub x z)).2⟩⟩ (.ref D) ?_
    · rcases getElem?_snoc e1 with e1 | ⟨i1, e1⟩
      · rcases getElem?_snoc e2 with e2 | ⟨i2, e2⟩
        · exact R.nd i j x e1 e2
        · exact absurd (List.mem_of_getElem? e1) (by rw [e2]; exact hn.1)
      · rcases getElem?_snoc e2 with e2 | ⟨i2, e2⟩
        · exact absurd (List.mem_of_getElem? e2) (by rw [e1]; exact hn.1)
        · omega
    · rcases getElem?_snoc e2 with e2 | ⟨i2, e2⟩
      · have hlt : l < st'.length := by rw [← R.len]; exact (List.getElem?_eq_some_iff.mp e2).1
        rw [List.getElem?_append_left hlt] at e1
        exact (R.obj l w x e1 e2).fits f fun _ e => e
      · subst e2
        rw [R.len] at i2; subst i2
        rw [List.getElem?_append_right (Nat.le_refl _)] at e1
        have ew : IO.lst xs = w := by simpa using e1
        rw [← ew]; exact ⟨vs, e, RVs.fits f _ _ r⟩
    · rcases List.mem_append.mp y with y | y
      · exact (R.bsd x (sub x z)).1 y
      · have : x = D := by simpa using y
        exact nb (this ▸ z)
    · simp only [RV]
      exact ⟨D, rfl, by rw [← R.len, List.getElem?_append_right (Nat.le_refl _)]; simp⟩
  | exc c fs st' => rw [q] at h; exact h
  | bad => rw [q] at h; exact h
theorem me_F (h : MF X W xa e As) : ME X W xa e (iF As) := PE.weak h fun σ H Q h => ZoE h
theorem me_FS (h : MF X W xa e As) : ME X W xa e (iFS As) := PE.weak h fun σ H Q h => Ztt h
def Z4R (i : Nat) (As : IA) : IS := fun ρ st => RS.ofR (As ρ st) ρ fun xs st => if i < ρ.length then .nx (ρ.set i (some (.own xs))) st else .bad
theorem Zqq {i : Nat} {D0 : Ends} {σ : L2.St} {H : Hp} (h : tsOf (gd X) W xa (Z4R i As) D0 σ H) : tAsg (tfOf (gd X) W xa As) (gName i) D0 σ H := by
  obtain ⟨m, os, rs, ρ, st, P, h⟩ := h
  refine ⟨m, os, rs, ρ, st, P, ?_⟩
  unfold Z4R at h
  cases q : As ρ st with
  | ok xs st' =>
    rw [q] at h
    intro m' H' D vs hD g R e r
    simp only [RS.ofR] at h
    split at h
    · rename_i hi
      have hiσ : i < σ.length := by rw [← P.re.len]; exact hi
      have nr : D ∉ os ++ rs := fun z => by
        obtain ⟨_, o, e'⟩ := P.rel.bsd D z
        rw [hD] at e'; cases e'
      refine h m' (D :: os) H' (σ.set i (some (.ref D))) ⟨g.pre, fun a o ha n qa nx => ?_, g.stay⟩ ⟨R, by simp [P.re.len], fun j y e1 => ?_, fun j ys e1 => ?_, fun j k ys zs w e1 e2 e3 e4 => ?_⟩
      · obtain ⟨h1, n1, _⟩ := g.keep a o ha n (by simp) nx
        exact ⟨h1, n1, fun z => by
          rcases List.mem_cons.mp z with z | z
          · rw [z, hD] at ha; cases ha
          · exact qa z⟩
      · by_cases hj : i = j
        · subst hj
          rw [List.getElem?_set_self hi] at e1
          cases e1
          exact ⟨.ref D, by rw [List.getElem?_set_self hiσ], D, vs, rfl, e, r, List.mem_cons_self⟩
        · rw [List.getElem?_set_ne hj] at e1
          obtain ⟨v, e2, r2⟩ := P.re.at_ j y e1
          refine ⟨v, by rw [List.getElem?_set_ne hj]; exact e2, ?_⟩
          have R' : Rel (gd X) m' (os ++ rs) st' H' := R.sub fun a z => List.mem_cons_of_mem _ z
          cases y with
          | v x =>
            -- its places stood at the beginning
            have key : ∀ a o, H a = some o → ¬ Lv m st a → NX o → H' a = some o ∧ ¬ Lv m' st' a ∧ a ≠ D := fun a o ha na nx => by
              obtain ⟨h1, n1, _⟩ := g.keep a o ha na (by simp) nx
              exact ⟨h1, n1, fun z => by rw [z, hD] at ha; cases ha⟩
            have f : Fits (gd X) m (os ++ rs) st H m' (D :: (os ++ rs)) st' H' := by
              refine ⟨fun l a h => g.at h, fun a vs h => ?_, fun a vs h => ?_, fun a o u h => ?_⟩
              · rcases h with ⟨h, n, z⟩ | h
                · rcases h with h | ⟨o, h⟩
                  · obtain ⟨k1, k2, k3⟩ := key a _ h n nxt
                    exact .inl ⟨.inl k1, k2, fun y => (List.mem_cons.mp y).elim k3 z⟩
                  · obtain ⟨k1, k2, k3⟩ := key a _ h n nxf
                    exact .inl ⟨.inr ⟨o, k1⟩, k2, fun y => (List.mem_cons.mp y).elim k3 z⟩
                · exact .inr h
              · rcases h with ⟨h, n, z⟩ | h
                · rcases h with h | ⟨o, h⟩
                  · obtain ⟨k1, k2, k3⟩ := key a _ h n nxl
                    exact .inl ⟨.inl k1, k2, fun y => (List.mem_cons.mp y).elim k3 z⟩
                  · obtain ⟨k1, k2, k3⟩ := key a _ h n nxf
                    exact .inl ⟨.inr ⟨o, k1⟩, k2, fun y => (List.mem_cons.mp y).elim k3 z⟩
                · exact .inr h
              · obtain ⟨h, n, z⟩ := h
                obtain ⟨k1, k2, k3⟩ := key a _ h n nxf
                exact ⟨k1, k2, fun y => (List.mem_cons.mp y).elim k3 z⟩
            exact RV.fits f _ _ r2
          | own ys =>
            obtain ⟨a, ws, ea, ha, ra, hb⟩ := r2
            have key : ∀ a o, H a = some o → ¬ Lv m st a → NX o → H' a = some o ∧ ¬ Lv m' st' a ∧ a ≠ D := fun a o ha na nx => by
              obtain ⟨h1, n1, _⟩ := g.keep a o ha na (by simp) nx
              exact ⟨h1, n1, fun z => by rw [z, hD] at ha; cases ha⟩
            have f : Fits (gd X) m (os ++ rs) st H m' (D :: (os ++ rs)) st' H' := by
              refine ⟨fun l a h => g.at h, fun a vs h => ?_, fun a vs h => ?_, fun a o u h => ?_⟩
              · rcases h with ⟨h, n, z⟩ | h
                · rcases h with h | ⟨o, h⟩
                  · obtain ⟨k1, k2, k3⟩ := key a _ h n nxt
                    exact .inl ⟨.inl k1, k2, fun y => (List.mem_cons.mp y).elim k3 z⟩
                  · obtain ⟨k1, k2, k3⟩ := key a _ h n nxf
                    exact .inl ⟨.inr ⟨o, k1⟩, k2, fun y => (List.mem_cons.mp y).elim k3 z⟩
                · exact .inr h
              · rcases h with ⟨h, n, z⟩ | h
                · rcases h with h | ⟨o, h⟩
                  · obtain ⟨k1, k2, k3⟩ := key a _ h n nxl
                    exact .inl ⟨.inl k1, k2, fun y => (List.mem_cons.mp y).elim k3 z⟩
                  · obtain ⟨k1, k2, k3⟩ := key a _ h n nxf
                    exact .inl ⟨.inr ⟨o, k1⟩, k2, fun y => (List.mem_cons.mp y).elim k3 z⟩
                · exact .inr h
              · obtain ⟨h, n, z⟩ := h
                obtain ⟨k1, k2, k3⟩ := key a _ h n nxf
                exact ⟨k1, k2, fun y => (List.mem_cons.mp y).elim k3 z⟩
            exact ⟨a, ws, ea, (key a _ ha (fun z => (P.rel.bsd a hb).1 z.mem) nxl).1, RVs.fits f _ _ ra, List.mem_cons_of_mem _ hb⟩
          | exn l =>
            obtain ⟨a, d, e, e2, e3⟩ := r2
            exact ⟨a, d, e, e2, g.at e3⟩
      · by_cases hj : i = j
        · subst hj
          exact ⟨D, by rw [List.getElem?_set_self hiσ], List.mem_cons_self, fun z => nr (List.mem_append_right _ z)⟩
        · rw [List.getElem?_set_ne hj] at e1
          obtain ⟨a, e2, q2⟩ := P.re.own j ys e1
          exact ⟨a, by rw [List.getElem?_set_ne hj]; exact e2, List.mem_cons_of_mem _ q2.1, q2.2⟩
      · have other : ∀ {j : Nat} {ys : List IV}, i ≠ j → (ρ.set i (some (.own xs)))[j]? = some (some (.own ys)) → (σ.set i (some (.ref D)))[j]? ≠ some (some (.ref D)) := fun {j ys} hj e1 e3 => by
          rw [List.getElem?_set_ne hj] at e1 e3
          obtain ⟨a, e2, q2⟩ := P.re.own j ys e1
          rw [e3] at e2
          cases e2
          exact nr (List.mem_append_left _ q2.1)
        by_cases hj : i = j
        · subst hj
          by_cases hk : i = k
          · exact hk
          · rw [List.getElem?_set_self hiσ] at e3
            cases e3
            exact absurd e4 (other hk e2)
        · by_cases hk : i = k
          · subst hk
            rw [List.getElem?_set_self hiσ] at e4
            cases e4
            exact absurd e3 (other hj e1)
          · rw [List.getElem?_set_ne hj] at e1 e3
            rw [List.getElem?_set_ne hk] at e2 e4
            exact P.re.uniq j k ys zs w e1 e2 e3 e4
    · exact h.elim
  | exc c fs st' =>
    rw [q] at h
    exact fun m' H' cls d g R x => h m' os H' σ cls d (.ofE g) (P.grow g R) x
  | bad => rw [q] at h; exact h
theorem Zpk {i : Nat} {x : Str} {pos' : Pos} (hN : X.N.Nodup) (hi : X.N[i]? = some x) (hx : Loc X.env.scope x) (ha : MF X W xa a As) (hs : swapsWith a (some (.Name x pos')) pos.line X.env = pure false := by rfl)
    (hf : X.fn x = true ∨ X.env.scope.names.lookup x = some .local := by first | exact .inl rfl | exact .inr rfl | assumption) : MS X W xa (.Assign [.Name x pos'] a pos) (Z4R i As) :=
  PS.weak (ps_set hN hi hx ha hs hf) fun D σ H h => Zqq h
def iFew (As : IA) : IA := fun ρ st => (As ρ st).bind fun xs st => if xs.length ≤ 100000 then .ok xs st else .bad
theorem Zup {m bs : List Addr} {st : Sto} {H : Hp} {m1 : List Addr} {st1 : Sto} {H1 : Hp} {xs : List IV} {vs : List V} {W : Value → Option Addr → Hp → Prop} {Q : VK} (R0 : Rel (gd X) m bs st H) (g : GrowE m st H m1 st1 H1) (R : Rel (gd X) m1 bs st1 H1)
    (r : RVs (gd X) m1 bs st1 H1 xs vs) (h : PstF (gd X) m bs st H W (.ok xs st1) Q) {p : Addr} (hp : H1 p = none) : Q (.ref p) (upd H1 p (.lst vs)) := by
  have blk : ∀ a ∈ p :: bs, a = p ∨ a ∈ bs := fun a z => List.mem_cons.mp z
  exact h m1 _ p vs (Z8o R g R0 hp) (g.trans (Z13 hp)) (R.block hp blk) upd_same (RVs.fits (Z4O hp blk) _ _ r)
theorem Zv2 (h : MA X W xa es As) : MF X W xa (.List es pos) (iFew As) := by
  refine PE.weak (pe_lst h) fun σ H Q h => ?_
  obtain ⟨m, os, rs, ρ, st, P, h⟩ := h
  refine ⟨m, os, rs, ρ, st, P, ?_⟩
  unfold iFew at h
  cases q : As ρ st with
  | ok xs st1 =>
    rw [q] at h
    intro m1 H1 g1 R1 vs rv
    simp only [R.bind] at h
    split at h
    · rename_i c
      exact ⟨by rw [← rv.length]; exact szl c, fun p hp => Zup P.rel g1 R1 rv h hp⟩
    · exact h.elim
  | exc c fs st1 => rw [q] at h; exact h
  | bad => rw [q] at h; exact h
end
def wipeI (ρ : Slots) : List Nat → Slots
  | [] => ρ
  | v :: vs => (wipeI ρ vs).set v none
section
variable {G : Gd} {xa : Xa} {m os rs : List Addr} {st : Sto} {H : Hp} {σ : L2.St} {ρ : Slots}
theorem Pre.wipe (P : Pre G xa σ H m os rs ρ st) : ∀ vs : List Nat, Pre G xa (wipe σ vs) H m os rs (wipeI ρ vs) st
  | [] => P
  | v :: vs => by
    have h := Pre.wipe P vs
    show Pre G xa ((L2.wipe σ vs).set v none) H m os rs ((wipeI ρ vs).set v none) st
    exact h.setN
theorem Z56 {v : Nat} : ∀ {vs : List Nat}, v ∈ vs → ∀ (σ : L2.St) (x : Option V), wipe (σ.set v x) vs = wipe σ vs
  | [], h, _, _ => nomatch h
  | u :: vs, h, σ, x => by
    show ((L2.wipe (σ.set v x) vs).set u none) = (L2.wipe σ vs).set u none
    by_cases hm : v ∈ vs
    · rw [Z56 hm]
    · have hv : v = u := by
        rcases List.mem_cons.mp h with h | h
        · exact h
        · exact absurd h hm
      subst hv
      have : ∀ (vs : List Nat) (σ : L2.St) (x : Option V), v ∉ vs → L2.wipe (σ.set v x) vs = (L2.wipe σ vs).set v x := by
        intro vs
        induction vs with
        | nil => intro σ x _; rfl
        | cons w ws ih =>
          intro σ x hn
          show ((L2.wipe (σ.set v x) ws).set w none) = ((L2.wipe σ ws).set w none).set v x
          rw [ih σ x fun z => hn (List.mem_cons_of_mem _ z), List.set_comm _ _ (fun (z : w = v) => hn (by rw [z]; exact List.mem_cons_self))]
      rw [this vs σ x hm, List.set_set]
theorem Z46 : ∀ (vs : List Nat) (σ : L2.St), wipe (wipe σ vs) vs = wipe σ vs
  | [], _ => rfl
  | v :: vs, σ => by
    show (L2.wipe ((L2.wipe σ vs).set v none) vs).set v none = (L2.wipe σ vs).set v none
    by_cases hm : v ∈ vs
    · rw [Z56 hm, Z46 vs σ]
    · have : ∀ (vs : List Nat) (σ : L2.St) (x : Option V), v ∉ vs → L2.wipe (σ.set v x) vs = (L2.wipe σ vs).set v x := by
        intro vs
        induction vs with
        | nil => intro σ x _; rfl
        | cons w ws ih =>
          intro σ x hn
          show ((L2.wipe (σ.set v x) ws).set w none) = ((L2.wipe σ ws).set w none).set v x
          rw [ih σ x fun z => hn (List.mem_cons_of_mem _ z), List.set_comm _ _ (fun (z : w = v) => hn (by rw [z]; exact List.mem_cons_self))]
      rw [this vs _ none hm, Z46 vs σ, List.set_set]
def CTg (G : Gd) (xa : Xa) (vs : List Nat) (g : TG) (T : ITg) : Prop :=
  ∀ (v : V) (σ : L2.St) (H : Hp) (Q : L2.St → Hp → Prop) m os rs ρ st x, Pre G xa σ H m os rs ρ st → RV G m (os ++ rs) st H x v →
    (∃ ρ' , T x ρ st = .nx ρ' st ∧ ∀ σ2, Pre G xa σ2 H m os rs ρ' st → wipe σ2 vs = wipe σ vs → Q σ2 H) → g v σ H Q
theorem Z86 {vs : List Nat} {i : Nat} (h : i ∈ vs) : CTg G xa vs (gName i) (Zf i) := by
  intro v σ H Q m os rs ρ st x P r h'
  obtain ⟨ρ', e, k⟩ := h'
  cases e
  exact k _ (P.set r) (Z56 h σ _)
theorem Zm1 {vs : List Nat} {i j : Nat} (hi : i ∈ vs) (hj : j ∈ vs) : CTg G xa vs (gTup G.K 2 (gCons (gName i) (gCons (gName j) gNil))) (tgTup 2 (Zo (Zf i) (Zo (Zf j) tgNil))) := by
  intro v σ H Q m os rs ρ st x P r h'
  obtain ⟨ρ', e, k⟩ := h'
  cases x with
  | tup xs =>
    simp only [tgTup] at e
    split at e
    · rename_i hl
      obtain ⟨p, ws, ep, hs, r2⟩ := Z4a (x := .tup xs) rfl r
      refine ⟨p, ws, ep, hs, by rw [← r2.length]; exact hl, ?_⟩
      match xs, hl with
      | [y, z], _ =>
        obtain ⟨v1, v2, ev, r3, r4⟩ := rvs2 r2
        refine ⟨v1, [v2], ev, v2, [], rfl, rfl, ?_⟩
        simp only [Zo, Zf, RS.seq, tgNil] at e
        cases e
        exact k _ ((P.set r3).set r4) (by rw [Z56 hj, Z56 hi])
    · cases e
  | _ => cases e
end
def R.noE {α : Type} : R α → R α
  | .exc _ _ _ => .bad
  | r => r
theorem Pst.noE {α : Type} {G : Gd} {m bs : List Addr} {st : Sto} {H : Hp} {W W' : Value → Option Addr → Hp → Prop} {r : R α} {P : α → List Addr → Sto → Hp → Prop} (h : Pst G m bs st H W r.noE P) : Pst G m bs st H W' r P := by
  cases r with
  | ok a st' => exact h
  | exc c fs st' => exact h.elim
  | bad => exact h
theorem PstF.shift {G : Gd} {m bs : List Addr} {st : Sto} {H : Hp} {W : Value → Option Addr → Hp → Prop} {r : R (List IV)} {Q : VK} (R : Rel G m bs st H) {m1 : List Addr} {st1 : Sto} {H1 : Hp} (R1 : Rel G m1 bs st1 H1) (g : GrowE m st H m1 st1 H1) (h : PstF G m bs st H W r Q) : PstF G m1 bs st1 H1 W r Q := by
  cases r with
  | ok a st' => exact fun m' H' D vs hD g' R' e r => h m' H' D vs (Z8o R1 g R hD) (g.trans g') R' e r
  | exc c fs st' => exact fun m' H' cls d g' R' x => h m' H' cls d (g.trans g') R' x
  | bad => exact h
def lcL (g : GI) (all : List IV) (vs : List Nat) (T : ITg) (S : IT) (E : IE) (ρ : Slots) : List IV → Nat → List IV → Sto → R (List IV)
  | [], _, acc, st => if gokB g st all = true then .ok acc st else .bad
  | x :: r, n, acc, st => if gokB g st all = true ∧ acc.length < 100000 then
      match T x (wipeI ρ vs) st with
      | .nx ρ1 st1 => ((S ρ1 st1).noE).bind fun b st2 => if b = true then ((E ρ1 st2).noE).bind fun y st3 => lcL g all vs T S E ρ r (n + 1) (acc ++ [y]) st3 else lcL g all vs T S E ρ r (n + 1) acc st2
      | _ => .bad
    else .bad
def iLc (I : IIt) (vs : List Nat) (T : ITg) (S : IT) (E : IE) : IA := fun ρ st => (I ρ st).bind fun p st => lcL p.2 p.1 vs T S E ρ p.1 0 [] st
def iYes : IT := fun _ st => .ok true st
abbrev W0 : WX := fun _ _ _ _ => False
section
variable {X : Cx} {W : WX} {xa : Xa} {e a b : Expr} {A : IE} {As : IA} {pos : Pos} {es : List Expr}
def TtOk (G : Gd) (xa : Xa) (tt : TT) (S : IT) : Prop := ∀ σ H Q, ttOf G W0 xa S σ H Q → tt σ H Q
theorem Z3K {G : Gd} : TtOk G xa tYes iYes := fun σ H Q h => by
  obtain ⟨m, os, rs, ρ, st, P, h⟩ := h
  exact Pst.ok P.rel h true rfl
theorem Zsa {g : TG} {tt : TT} {I : IIt} {T : ITg} {S : IT} {E : IE} {vs : List Nat} (hT : CTg (gd X) xa vs g T) (hS : TtOk (gd X) xa tt S) (hpl : ∀ x ρ st, match T x ρ st with | .nx _ st' => st' = st | _ => True)
    {σ : L2.St} {H : Hp} {Q : VK} (h : tfOf (gd X) W xa (iLc I vs T S E) σ H Q) : tLc (tiOf (gd X) W xa I) g tt (teOf (gd X) W0 xa E) vs σ H Q := by
  obtain ⟨m, os, rs, ρ, st, P, h⟩ := h
  refine ⟨m, os, rs, ρ, st, P, ?_⟩
  unfold iLc at h
  cases q : I ρ st with
  | exc c fs st1 => rw [q] at h; exact h
  | bad => rw [q] at h; exact h
  | ok p st1 =>
    rw [q] at h
    intro m1 H1 g1 R1 J hw D hD
    obtain ⟨xs, gd0⟩ := p
    have h0 : PstF (gd X) m (os ++ rs) st H (fun cls d H' => W cls d σ H') (lcL gd0 xs vs T S E ρ xs 0 [] st1) Q := h
    have blk : ∀ a ∈ os ++ (D :: rs), a = D ∨ a ∈ os ++ rs := fun a z => by
      rcases List.mem_append.mp z with z | z
      · exact .inr (List.mem_append_left _ z)
      · rcases List.mem_cons.mp z with z | z
        · exact .inl z
        · exact .inr (List.mem_append_right _ z)
    have perm : ∀ a ∈ D :: (os ++ rs), a ∈ os ++ (D :: rs) := fun a z => by
      rcases List.mem_cons.mp z with z | z
      · rw [z]; exact List.mem_append_right _ List.mem_cons_self
      · rcases List.mem_append.mp z with z | z
        · exact List.mem_append_left _ z
        · exact List.mem_append_right _ (List.mem_cons_of_mem _ z)
    have Dm : D ∈ os ++ (D :: rs) := List.mem_append_right _ List.mem_cons_self
    have hD0 : H D = none := Z8o R1 g1 P.rel hD
    have P1 := P.grow g1 R1
    -- the relation with D blocked
    have f1 : Fits (gd X) m1 (os ++ rs) st1 H1 m1 (os ++ (D :: rs)) st1 (upd H1 D (.lst [])) := Z4O hD blk
    have Q1 : Pre (gd X) xa σ (upd H1 D (.lst [])) m1 os (D :: rs) ρ st1 := by
      refine ⟨P1.rel.block hD blk, P1.re.len, fun i x e => ?_, fun i xs e => let ⟨a, e1, e2, e3⟩ := P1.re.own i xs e; ⟨a, e1, e2, fun z => (List.mem_cons.mp z).elim (fun z => by obtain ⟨_, o, q⟩ := P1.rel.bsd a (List.mem_append_left _ e2); rw [z, hD] at q; cases q) e3⟩, P1.re.uniq⟩
      obtain ⟨v, e1, r⟩ := P1.re.at_ i x e
      refine ⟨v, e1, ?_⟩
      cases x with
      | v x => exact RV.fits f1 _ _ r
      | own xs =>
        obtain ⟨a, vs, ea, ha, ra, hb⟩ := r
        have ne : a ≠ D := ne_of_none ha hD
        refine ⟨a, vs, ea, by rw [upd_ne ne]; exact ha, RVs.fits f1 _ _ ra, ?_⟩
        rcases List.mem_append.mp hb with z | z
        · exact List.mem_append_left _ z
        · exact List.mem_append_right _ (List.mem_cons_of_mem _ z)
      | exn l => exact r
    refine ⟨fun i n H2 => n = xs.length - i ∧ i ≤ xs.length ∧ ∃ m2 st2 acc ws k, GrowE m st H m2 st2 H2 ∧ Fits (gd X) m1 (os ++ rs) st1 H1 m2 (os ++ (D :: rs)) st2 H2 ∧ Pre (gd X) xa σ H2 m2 os (D :: rs) ρ st2 ∧ H2 D = some (.lst ws) ∧ RVs (gd X) m2 (os ++ (D :: rs)) st2 H2 acc ws ∧
        PstF (gd X) m (os ++ rs) st H (fun cls d H' => W cls d σ H') (lcL gd0 xs vs T S E ρ (xs.drop i) k acc st2) Q,
      ⟨xs.length, by simp, Nat.zero_le _, m1, st1, [], [], 0, g1.trans (Z13 hD), f1, Q1, upd_same, by simp only [RVs], by simpa using h0⟩, ?_⟩
    rintro i n H2 ⟨rfl, hi, m2, st2, acc, ws, k, g2, f2, P2, eD, ra, h2⟩
    have w := hw i m2 _ st2 H2 f2 P2.rel
    by_cases hlt : i < xs.length
    · have ed : xs.drop i = xs[i] :: xs.drop (i + 1) := List.drop_eq_getElem_cons hlt
      rw [ed, lcL] at h2
      split at h2
      · rename_i gk
        obtain ⟨w1, _⟩ := w gk.1
        obtain ⟨go, yl⟩ := w1 xs[i] (List.getElem?_eq_getElem hlt)
        refine .inr ⟨go, fun H' => i + 1 ≤ xs.length ∧ ∃ m2 st2 acc ws k, GrowE m st H m2 st2 H' ∧ Fits (gd X) m1 (os ++ rs) st1 H1 m2 (os ++ (D :: rs)) st2 H' ∧ Pre (gd X) xa σ H' m2 os (D :: rs) ρ st2 ∧ H' D = some (.lst ws) ∧ RVs (gd X) m2 (os ++ (D :: rs)) st2 H' acc ws ∧
          PstF (gd X) m (os ++ rs) st H (fun cls d H' => W cls d σ H') (lcL gd0 xs vs T S E ρ (xs.drop (i + 1)) k acc st2) Q, fun H' q => ⟨xs.length - (i + 1), by omega, rfl, q⟩, fun v H3 y => ?_⟩
        obtain ⟨g3, R3, r3⟩ := yl v H3 y
        have P3 := (P2.grow g3 R3).wipe vs
        have hp := hpl xs[i] (wipeI ρ vs) st2
        cases q1 : T xs[i] (wipeI ρ vs) st2 with
        | nx ρ4 st4 =>
          rw [q1] at hp
          simp only at hp
          subst hp
          simp only [q1] at h2
          refine hT v (wipe σ vs) H3 _ m2 os (D :: rs) (wipeI ρ vs) st4 xs[i] P3 r3 ⟨ρ4, q1, fun σ2 P4 ew => ⟨by rw [ew, Z46], ?_⟩⟩
          have keepD : ∀ {m' : List Addr} {st' : Sto} {H' : Hp}, GrowE m2 st4 H2 m' st' H' → H' D = some (.lst ws) := fun {m' st' H'} g => (g.keep D _ eD (fun z => (P2.rel.bsd D Dm).1 z.mem) (by simp) nxl).1
          refine hS σ2 H3 _ ⟨m2, os, D :: rs, ρ4, st4, P4, ?_⟩
          cases q2 : S ρ4 st4 with
          | ok b st5 =>
            rw [q2] at h2
            intro m5 H5 g5 R5 b' eb
            subst eb
            have gg5 : GrowE m2 st4 H2 m5 st5 H5 := g3.trans g5
            cases b with
            | false =>
              simp only [R.noE, R.bind] at h2
              exact ⟨hlt, m5, st5, acc, ws, k + 1, g2.trans gg5, f2.trans gg5.fitsE, (P2.grow g3 R3).grow g5 R5, keepD gg5, RVs.fits gg5.fitsE _ _ ra, by simpa using h2⟩
            | true =>
              simp only [R.noE, R.bind, if_true] at h2
              refine ⟨m5, os, D :: rs, ρ4, st5, P4.grow g5 R5, ?_⟩
              cases q3 : E ρ4 st5 with
              | ok y st6 =>
                rw [q3] at h2
                intro m6 H6 g6 R6 u ru
                have gg6 : GrowE m2 st4 H2 m6 st6 H6 := gg5.trans g6
                have e6 := keepD gg6
                refine ⟨ws, e6, ?_, ?_⟩
                · rw [← ra.length]; exact szlt gk.2
                · have fu : Fits (gd X) m6 (os ++ (D :: rs)) st6 H6 m6 (os ++ (D :: rs)) st6 (upd H6 D (.lst (ws ++ [u]))) := Z8w Dm
                  have P6 := ((P2.grow g3 R3).grow g5 R5).grow g6 R6
                  have ra6 : RVs (gd X) m6 (os ++ (D :: rs)) st6 H6 (acc ++ [y]) (ws ++ [u]) := (RVs.fits gg6.fitsE _ _ ra).append (by simp only [RVs]; exact ⟨u, [], rfl, ru, rfl⟩)
                  refine ⟨hlt, m6, st6, acc ++ [y], ws ++ [u], k + 1, ?_, (f2.trans gg6.fitsE).trans fu, ⟨P6.rel.upd Dm, P6.re.len, fun j x e => ?_, P6.re.own, P6.re.uniq⟩, upd_same, RVs.fits fu _ _ ra6, h2⟩
                  · have gg := g2.trans gg6
                    exact ⟨gg.pre, fun a o ha na qa nx => by
                      obtain ⟨k1, k2, _⟩ := gg.keep a o ha na qa nx
                      exact ⟨by rw [upd_ne (ne_of_none ha hD0)]; exact k1, k2, qa⟩, fun a e => gg.stay a (Z2q e)⟩
                  · obtain ⟨v, e1, r⟩ := P6.re.at_ j x e
                    refine ⟨v, e1, ?_⟩
                    cases x with
                    | v x => exact RV.fits fu _ _ r
                    | own zs =>
                      obtain ⟨a, us, ea, ha, rz, hb⟩ := r
                      obtain ⟨a', e3, ho⟩ := P6.re.own j zs e
                      have ne : a ≠ D := by
                        intro z
                        rw [e1, ea] at e3
                        have z2 : a = a' := by cases e3; rfl
                        obtain ⟨_, o, e4⟩ := P.rel.bsd a' (List.mem_append_left _ ho.1)
                        rw [← z2, z, hD0] at e4; cases e4
                      exact ⟨a, us, ea, by rw [upd_ne ne]; exact ha, RVs.fits fu _ _ rz, hb⟩
                    | exn l => exact r
              | exc c fs st6 => rw [q3] at h2; exact h2.elim
              | bad => rw [q3] at h2; exact h2.elim
          | exc c fs st5 => rw [q2] at h2; exact h2.elim
          | bad => rw [q2] at h2; exact h2.elim
        | _ => simp only [q1] at h2; exact h2.elim
      · exact h2.elim
    · have ei : i = xs.length := by omega
      rw [List.drop_eq_nil_of_le (by omega), lcL] at h2
      split at h2
      · rename_i gk
        exact .inl ⟨(w gk).2 (by show xs.length ≤ i; omega), h2 m2 H2 D ws hD0 g2 (P2.rel.sub perm) eD (RVs.fits (Z7N perm) _ _ ra)⟩
      · exact h2.elim
theorem mf_lc {elt tg iter : Expr} {ifs : List Expr} {scope : Scope} {own : List (Str × Nat)} {g : TG} {tt : TT} {I : IIt} {T : ITg} {S : IT} {E : IE} (hc : X.calm = true) (hN : X.N.Nodup) (hi : MI X W xa tg iter I) (ok : BlkOk X.N X.env.scope scope own)
    (hg : ∀ (s : Shared) (H : Hp) (C : Addr) (cl : List (Str × Addr)) (fp : List Addr), PG (X.blk s H scope (compEnvC scope cl C X.env) fp) tg g) (hT : CTg (gd X) xa (own.map (·.2)) g T) (hpl : ∀ x ρ st, match T x ρ st with | .nx _ st' => st' = st | _ => True)
    (ht : ∀ (s : Shared) (H : Hp) (C : Addr) (cl : List (Str × Addr)) (fp : List Addr), PTs (X.blk s H scope (compEnvC scope cl C X.env) fp) ifs tt) (hS : TtOk (gd X) xa tt S)
    (he : ∀ (s : Shared) (H : Hp) (C : Addr) (cl : List (Str × Addr)) (fp : List Addr), PE (X.blk s H scope (compEnvC scope cl C X.env) fp) elt (teOf (gd X) W0 xa E)) (hs : ∀ x, foldedSetIterable iter X.env x = pure x := by intro _; rfl) :
    MF X W xa (.ListComp elt [⟨tg, iter, ifs, 0⟩] scope pos) (iLc I (own.map (·.2)) T S E) :=
  PE.weak (pe_lc hc hN hi ok hg ht he hs) fun σ H Q h => Zsa hT hS hpl h
theorem hw_in {i : Nat} : ∀ (D : Ends) (σ : L2.St) (H : Hp), tsOf (gd X) W xa (iSet i (iF As)) D σ H → tAsg (tfOf (gd X) W xa As) (gName i) D σ H := fun D σ H h => ZoE (Zln h)
theorem Z5Y {i : Nat} : ∀ x ρ st, match Zf i x ρ st with | .nx _ st' => st' = st | _ => True := fun _ _ _ => rfl
theorem ZiJ {i j : Nat} : ∀ x ρ st, match tgTup 2 (Zo (Zf i) (Zo (Zf j) tgNil)) x ρ st with | .nx _ st' => st' = st | _ => True := fun x ρ st => by
  cases x with
  | tup xs =>
    match xs with
    | [] => exact trivial
    | [_] => exact trivial
    | [_, _] => exact rfl
    | _ :: _ :: _ :: r => simp [tgTup]
  | _ => exact trivial
end
end Mi
namespace Mi
open PySem PySem.Spec PyProof.Rows L2
section
variable {X : Cx} {W : WX} {xa : Xa} {a b c e o : Expr} {A B C : IE} {pos p apos : Pos} {es : List Expr} {As : IA}
def ownAt (ρ : Slots) (i : Nat) : Option (List IV) := match ρ[i]? with
  | some (some (.own xs)) => some xs
  | _ => none
theorem Zeg {G : Gd} {m os rs : List Addr} {st : Sto} {H : Hp} {ρ : Slots} {σ : L2.St} {i : Nat} {xs : List IV} (P : Pre G xa σ H m os rs ρ st) (h : ownAt ρ i = some xs) :
    ∃ d vs, σ[i]? = some (some (.ref d)) ∧ H d = some (.lst vs) ∧ RVs G m (os ++ rs) st H xs vs ∧ d ∈ os ∧ d ∉ rs ∧ ρ[i]? = some (some (.own xs)) := by
  unfold ownAt at h
  split at h
  · rename_i ys e
    cases h
    obtain ⟨v, e1, d, vs, ev, hd, r, hb⟩ := P.re.at_ i _ e
    obtain ⟨d', e2, hd'⟩ := P.re.own i _ e
    subst ev
    rw [e1] at e2
    cases e2
    exact ⟨d, vs, e1, hd, r, hd'.1, hd'.2, e⟩
  · cases h
theorem Pre.own_keep {G : Gd} {m os rs : List Addr} {st : Sto} {H : Hp} {ρ : Slots} {σ : L2.St} {m1 : List Addr} {st1 : Sto} {H1 : Hp} {d : Addr} {us : List V} (P : Pre G xa σ H m os rs ρ st) (g : GrowE m st H m1 st1 H1) (h : H d = some (.lst us)) (hb : d ∈ os ++ rs) : H1 d = some (.lst us) :=
  (g.keep d _ h (fun z => (P.rel.bsd d hb).1 z.mem) (by simp) nxl).1
def Z7x (neg : Bool) (A : IE) (i : Nat) : IE := fun ρ st => match ownAt ρ i with
  | some xs => (A ρ st).bind fun y st => if flatI y = true ∧ xs.all flatI = true then .ok (.bl (if neg then !inI y xs else inI y xs)) st else .bad
  | none => .bad
theorem ZuD {i : Nat} {neg : Bool} {σ : L2.St} {H : Hp} {Q : VK} (h : teOf (gd X) W xa (Z7x neg A i) σ H Q) : tOp (rIn X.K neg) (teOf (gd X) W xa A) (tVar i) σ H Q := by
  obtain ⟨m, os, rs, ρ, st, P, h⟩ := h
  unfold Z7x at h
  split at h
  · rename_i xs e
    obtain ⟨d, vs, e1, hd, r, ho, _⟩ := Zeg P e
    refine ⟨m, os, rs, ρ, st, P, h.bind.mono fun y m1 st1 H1 g1 R1 h1 u ru => ?_⟩
    split at h1
    · rename_i c
      obtain ⟨ex, fx⟩ := Zbu c.1 ru
      obtain ⟨ev, fv⟩ := Z8b c.2 (RVs.fits g1.fitsE _ _ r)
      refine ⟨.ref d, e1, d, vs, rfl, .inl (.of (P.own_keep g1 hd (List.mem_append_left _ ho))), fx, fv, ?_⟩
      rw [ex, ev, ZgX c.1 c.2]
      exact h1.v R1 (by simp only [RV])
    · exact h1.elim
  · exact h.elim
theorem ZnY {t : TE} (h : PT X e (tTest t)) (k : ∀ σ H Q, teOf (gd X) W xa A σ H Q → t σ H Q) : MT X W xa e (iTest A) := by
  refine PT.weak h fun σ H Q h => ?_
  refine k σ H _ ?_
  obtain ⟨m, os, rs, ρ, st, P, h⟩ := h
  exact ⟨m, os, rs, ρ, st, P, h.bind.mono fun v m3 st3 H3 g3 R3 h3 u ru => Z22 R3 ru h3⟩
theorem Zrf {i : Nat} (ha : ME X W xa a A) (hv : PE X b (tVar i)) (hm : behindInMarks .In b = false) : MT X W xa (.Compare a [.In] [b] pos) (iTest (Z7x false A i)) := ZnY (pt_cmpR op_in_seq ha hv hm) fun σ H Q h => ZuD h
theorem Pre.ownSet {G : Gd} {m os rs : List Addr} {st : Sto} {H : Hp} {ρ : Slots} {σ : L2.St} {i : Nat} {xs ys : List IV} {d : Addr} {vs ws : List V} (P : Pre G xa σ H m os rs ρ st) (e : ownAt ρ i = some xs) (e1 : σ[i]? = some (some (.ref d))) (hd : H d = some (.lst vs)) (ho : d ∈ os) (hr : d ∉ rs) (r : RVs G m (os ++ rs) st H ys ws) :
    Grow m st os H m st os (upd H d (.lst ws)) ∧ Pre G xa σ (upd H d (.lst ws)) m os rs (ρ.set i (some (.own ys))) st := by
  have hb : d ∈ os ++ rs := List.mem_append_left _ ho
  have f : Fits G m (os ++ rs) st H m (os ++ rs) st (upd H d (.lst ws)) := Z8w hb
  have ei : ρ[i]? = some (some (.own xs)) := by
    unfold ownAt at e
    split at e
    · rename_i z q; cases e; exact q
    · cases e
  have hi : i < ρ.length := (List.getElem?_eq_some_iff.mp ei).1
  refine ⟨⟨List.prefix_refl _, fun a u q n ho' _ => ⟨by rw [upd_ne (fun (z : a = d) => ho' (by rw [z]; exact ho))]; exact q, n, ho'⟩, fun a e => Z2q e⟩, P.rel.upd hb, by simp [P.re.len], fun j y e2 => ?_, fun j zs e2 => ?_, fun j k zs us w q1 q2 q3 q4 => ?_⟩
  · by_cases hj : i = j
    · subst hj
      rw [List.getElem?_set_self hi] at e2
      cases e2
      exact ⟨.ref d, e1, d, ws, rfl, upd_same, RVs.fits f _ _ r, hb⟩
    · rw [List.getElem?_set_ne hj] at e2
      obtain ⟨v, e3, r3⟩ := P.re.at_ j y e2
      refine ⟨v, e3, ?_⟩
      cases y with
      | v x => exact RV.fits f _ _ r3
      | own zs =>
        obtain ⟨a, us, ea, ha, rz, hz⟩ := r3
        have ne : a ≠ d := fun z => by
          rw [ea, z] at e3
          exact hj (P.re.uniq i j xs zs _ ei e2 e1 e3)
        exact ⟨a, us, ea, by rw [upd_ne ne]; exact ha, RVs.fits f _ _ rz, hz⟩
      | exn l => exact r3
  · by_cases hj : i = j
    · subst hj
      exact ⟨d, e1, ho, hr⟩
    · rw [List.getElem?_set_ne hj] at e2
      exact P.re.own j zs e2
  · have back : ∀ {j : Nat} {zs : List IV}, (ρ.set i (some (.own ys)))[j]? = some (some (.own zs)) → ∃ zs', ρ[j]? = some (some (.own zs')) := fun {j zs} q => by
      by_cases hj : i = j
      · subst hj; exact ⟨xs, ei⟩
      · rw [List.getElem?_set_ne hj] at q; exact ⟨zs, q⟩
    obtain ⟨z1, q1⟩ := back q1
    obtain ⟨z2, q2⟩ := back q2
    exact P.re.uniq j k z1 z2 w q1 q2 q3 q4
def Z6O (i : Nat) (A : IE) : IS := fun ρ st => match ownAt ρ i with
  | some xs => RS.ofR (A ρ st) ρ fun y st => if xs.length < 100000 then .nx (ρ.set i (some (.own (xs ++ [y])))) st else .bad
  | none => .bad
theorem Zp2 {i : Nat} {y : Str} {p2 : Pos} (hv : PE X (.Name y p2) (tVar i)) (ha : ME X W xa a A) (hs : starEach [a] X.env = (false, eval a X.env) :: starEach [] X.env := by rfl)
    (hbase : attributeBase (.Name y p2) "append" X.env (eval (.Name y p2) X.env) = eval (.Name y p2) X.env := by rfl)
    (hfew : ((backTo p (starEach [a] X.env)).all (fun x => !x.1) && (backToKw p (keywordEach [] X.env)).all (fun x => x.1.isSome)
      && decide ([a].length + ([] : List Keyword).length + (if ([] : List Keyword).isEmpty then 0 else 1) < 30)) = true := by rfl)
    (hline : (apos.endLine == p.line) = true := by rfl) (hplain : (backTo p (starEach [] X.env)).any (·.1) = false := by rfl)
    (hsw : swapsWith (.Call (.Attribute (.Name y p2) "append" apos) [a] [] p) none pos.line X.env = pure false := by rfl) : MS X W xa (.Expr (.Call (.Attribute (.Name y p2) "append" apos) [a] [] p) pos) (Z6O i A) := by
  refine PS.weak (ps_expr (pe_bm PySem.F.plainAttrs_list PySem.F.slot_list_append PySem.F.type_list_append mt_append hv (pa_cons ha pa_nil hs) hbase hfew hline hs hplain) hsw) fun D σ H h => ?_
  obtain ⟨m, os, rs, ρ, st, P, h⟩ := h
  unfold Z6O at h
  split at h
  · rename_i xs e
    obtain ⟨d, vs, e1, hd, r, ho, hr, _⟩ := Zeg P e
    refine ⟨.ref d, e1, .inl ⟨rfl, vs, .of hd⟩, m, os, rs, ρ, st, P, (h.ofR P).mono fun y m1 st1 H1 g1 R1 h1 u ru => ?_⟩
    split at h1
    · rename_i c
      have hd1 := P.own_keep g1 hd (List.mem_append_left _ ho)
      have r1 := RVs.fits g1.fitsE _ _ r
      have P1 := P.grow g1 R1
      refine ⟨d, vs, u, rfl, rfl, hd1, by rw [← r.length]; exact szlt c, ?_⟩
      obtain ⟨g2, P2⟩ := P1.ownSet (ys := xs ++ [y]) (ws := vs ++ [u]) e e1 hd1 ho hr (r1.append (by simp only [RVs]; exact ⟨u, [], rfl, ru, rfl⟩))
      exact h1 m1 os _ σ g2 P2
    · exact h1.elim
  · exact h.elim
end
end Mi
namespace Mi
open PySem PySem.Spec PyProof.Rows L2
def putI (f : Str) (v : IV) : List (Str × IV) → List (Str × IV)
  | [] => [(f, v)]
  | (g, x) :: r => if g = f then (g, v) :: r else (g, x) :: putI f v r
section
variable {G : Gd} {m bs : List Addr} {st : Sto} {H : Hp}
theorem RFs.put {f : Str} {x : IV} {v : V} (rx : RV G m bs st H x v) : ∀ {fs : List (Str × IV)} {gs : List (Str × V)}, RFs G m bs st H fs gs → RFs G m bs st H (putI f x fs) (putF f v gs)
  | [], gs, h => by
    simp only [RFs] at h
    subst h
    exact ⟨v, [], rfl, rx, rfl⟩
  | (g, y) :: r, gs, h => by
    obtain ⟨w, t, e, h1, h2⟩ := h
    subst e
    unfold putI putF
    by_cases hg : g = f
    · rw [if_pos hg, if_pos hg]; exact ⟨v, t, rfl, rx, h2⟩
    · rw [if_neg hg, if_neg hg]; exact ⟨w, _, rfl, h1, RFs.put rx h2⟩
theorem RFs.look {f : Str} {x : IV} : ∀ {fs : List (Str × IV)} {gs : List (Str × V)}, RFs G m bs st H fs gs → fs.lookup f = some x → ∃ v, gs.lookup f = some v ∧ RV G m bs st H x v
  | [], gs, h, e => by cases e
  | (g, y) :: r, gs, h, e => by
    obtain ⟨w, t, eg, h1, h2⟩ := h
    subst eg
    by_cases hg : f = g
    · subst hg
      rw [List.lookup_cons_self] at e ⊢
      cases e
      exact ⟨w, rfl, h1⟩
    · have hb : (f == g) = false := by simpa using hg
      rw [List.lookup_cons, hb] at e ⊢
      exact RFs.look h2 e
theorem RFs.length : ∀ {fs : List (Str × IV)} {gs : List (Str × V)}, RFs G m bs st H fs gs → fs.length = gs.length
  | [], gs, h => by simp only [RFs] at h; subst h; rfl
  | (g, y) :: r, gs, h => by
    obtain ⟨w, t, e, _, h2⟩ := h
    subst e
    rw [List.length_cons, List.length_cons, RFs.length h2]
theorem RFs.look_none {f : Str} : ∀ {fs : List (Str × IV)} {gs : List (Str × V)}, RFs G m bs st H fs gs → fs.lookup f = none → gs.lookup f = none
  | [], gs, h, e => by simp only [RFs] at h; subst h; rfl
  | (g, y) :: r, gs, h, e => by
    obtain ⟨w, t, eg, h1, h2⟩ := h
    subst eg
    by_cases hg : f = g
    · subst hg
      rw [List.lookup_cons_self] at e; cases e
    · have hb : (f == g) = false := by simpa using hg
      rw [List.lookup_cons, hb] at e ⊢
      exact RFs.look_none h2 e
end
def FdM (K : PySem.W.Frag) (mg : Str → Option Value) (cs : List Str) (f : Str) : Prop := ∀ c ∈ cs, ∀ C, mg c = some (.ref C) → Cls K C ∧ NoAttr K C f
def insAt (st : Sto) (cs : List Str) : IV → Option (Nat × Str × List (Str × IV))
  | .ref l => match st[l]? with
    | some (.ins c fs) => if c ∈ cs then some (l, c, fs) else none
    | _ => none
  | _ => none
theorem Z5k {G : Gd} {m bs : List Addr} {st : Sto} {H : Hp} {cs : List Str} {x : IV} {v : V} {l : Nat} {c : Str} {fs : List (Str × IV)} (R : Rel G m bs st H) (e : insAt st cs x = some (l, c, fs)) (r : RV G m bs st H x v) :
    x = .ref l ∧ c ∈ cs ∧ st[l]? = some (.ins c fs) ∧ ∃ p C dx gs, v = .ref p ∧ m[l]? = some p ∧ G.mg c = some (.ref C) ∧ H p = some (.ins C dx gs) ∧ RFs G m bs st H fs gs := by
  unfold insAt at e
  split at e
  · rename_i k
    split at e
    · rename_i c' fs' e1
      split at e
      · rename_i hc
        cases e
        simp only [RV] at r
        obtain ⟨p, ev, hp⟩ := r
        obtain ⟨C, dx, gs, e2, e3, e4⟩ := R.obj _ _ p e1 hp
        exact ⟨rfl, hc, e1, p, C, dx, gs, ev, hp, e2, e3, e4⟩
      · cases e
    · cases e
  · cases e
section
variable {X : Cx} {W : WX} {xa : Xa} {a b c e o : Expr} {A B C : IE} {pos p apos : Pos} {es : List Expr} {As : IA} {f : Str} {cs : List Str}
def iFld (cs : List Str) (f : Str) (A : IE) : IE := fun ρ st => (A ρ st).bind fun x st => match insAt st cs x with
  | some (_, _, fs) => (match fs.lookup f with | some v => .ok v st | none => .bad)
  | none => .bad
theorem ZD (hf : FdM X.K X.mg cs f) (ha : ME X W xa a A) (hb : attributeBase a f X.env (eval a X.env) = eval a X.env := by rfl) : ME X W xa (.Attribute a f pos) (iFld cs f A) := by
  refine PE.weak (pe_fld ha hb) fun σ H Q h => ?_
  obtain ⟨m, os, rs, ρ, st, P, h⟩ := h
  refine ⟨m, os, rs, ρ, st, P, h.bind.mono fun x m1 st1 H1 g1 R1 h1 u ru => ?_⟩
  split at h1
  · rename_i l c fs e
    obtain ⟨_, hc, _, p, C, dx, gs, ev, _, hC, hH, rf⟩ := Z5k R1 e ru
    split at h1
    · rename_i v hv
      obtain ⟨w, e1, r1⟩ := rf.look hv
      obtain ⟨c1, c2⟩ := hf c hc C hC
      exact ⟨p, C, dx, gs, w, ev, hH, c1, c2, e1, h1.v R1 r1⟩
    · exact h1.elim
  · exact h1.elim
def Z1L (cs : List Str) (f : Str) (A B : IE) : IS := fun ρ st => RS.ofR ((B ρ st).bind fun y st => (A ρ st).bind fun x st => match insAt st cs x with
  | some (l, c, fs) => if fs.length < 1000 then .ok IV.non (st.set l (.ins c (putI f y fs))) else .bad
  | none => .bad) ρ fun _ st => .nx ρ st
theorem Z2P {pos' : Pos} (hf : FdM X.K X.mg cs f) (ha : ME X W xa o A) (hb : ME X W xa b B) (hs : swapsWith b (some (.Attribute o f pos')) pos.line X.env = pure false := by rfl) : MS X W xa (.Assign [.Attribute o f pos'] b pos) (Z1L cs f A B) := by
  refine PS.weak (ps_fld ha hb hs) fun D σ H h => ?_
  obtain ⟨m, os, rs, ρ, st, P, h⟩ := h
  refine ⟨m, os, rs, ρ, st, P, (h.ofR P).bind.mono fun y m1 st1 H1 g1 R1 h1 u ru => ⟨m1, os, rs, ρ, st1, P.grow g1 R1, h1.bind.mono fun x m2 st2 H2 g2 R2 h2 v rv => ?_⟩⟩
  split at h2
  · rename_i l c fs e
    obtain ⟨_, hc, hst, p, C, dx, gs, ev, hm, hC, hH, rf⟩ := Z5k R2 e rv
    split at h2
    · rename_i hl
      obtain ⟨c1, c2⟩ := hf c hc C hC
      refine ⟨p, C, dx, gs, ev, hH, c1, c2, by rw [← rf.length]; exact hl, ?_⟩
      have g3 : GrowE m2 st2 H2 m2 (st2.set l (.ins c (putI f y fs))) (upd H2 p (.ins C dx (putF f u gs))) := Z2e hm hst (by simp)
      have R3 := R2.set (o' := .ins c (putI f y fs)) (u := .ins C dx (putF f u gs)) hm hst (by simp) ⟨C, dx, _, hC, upd_same, RFs.fits g3.fitsE _ _ (rf.put (RV.fits g2.fitsE _ _ ru))⟩
      have h3 := h2 m2 _ g3 R3
      exact h3.here (((P.grow g1 R1).grow g2 R2).grow g3 R3)
    · exact h2.elim
  · exact h2.elim
def gApp : IV → List IV → Sto → R IV
  | .ref l, [y], st => match st[l]? with
    | some (.lst xs) => if xs.length < 100000 then .ok .non (st.set l (.lst (xs ++ [y]))) else .bad
    | _ => .bad
  | _, _, _ => .bad
def Zbg : IV → List IV → Sto → R IV
  | .ref l, [.int i], st => match st[l]? with
    | some (.lst xs) => if 0 ≤ i ∧ i ≤ 1000000 then (match xs[i.toNat]? with | some v => .ok v (st.set l (.lst (xs.eraseIdx i.toNat))) | none => .bad) else .bad
    | _ => .bad
  | _, _, _ => .bad
def Zbs : IV → List IV → Sto → R IV
  | .ref l, [], st => match st[l]? with
    | some (.lst xs) => .ok .non (st.set l (.lst []))
    | _ => .bad
  | _, _, _ => .bad
def MtdM (X : Cx) (id : String) (g : IV → List IV → Sto → R IV) : Prop :=
  ∃ r, MtR X id r ∧ ∀ m bs st H x xs x' xs' (Q : VK) W, Rel (gd X) m bs st H → RV (gd X) m bs st H x x' → RVs (gd X) m bs st H xs xs' → Pst (gd X) m bs st H W (g x xs st) (fun v m' st' H' => ∀ u, RV (gd X) m' bs st' H' v u → Q u H') → r x' xs' H Q
def isLst (st : Sto) : IV → Bool
  | .ref l => match st[l]? with | some (.lst _) => true | _ => false
  | _ => false
def iMtd (g : IV → List IV → Sto → R IV) (A : IE) (As : IA) : IE := fun ρ st => (A ρ st).bind fun x st => if isLst st x = true then (As ρ st).bind fun xs st => g x xs st else .bad
theorem Zk9 {G : Gd} {m bs : List Addr} {st : Sto} {H : Hp} {x : IV} {v : V} (R : Rel G m bs st H) (e : isLst st x = true) (r : RV G m bs st H x v) : tyV G.K "list" v H := by
  cases x with
  | ref l =>
    simp only [isLst] at e
    split at e
    · rename_i xs h
      simp only [RV] at r
      obtain ⟨p, ev, hp⟩ := r
      subst ev
      obtain ⟨vs, e1, _⟩ := R.obj _ _ p h hp
      exact .inl ⟨rfl, vs, .of e1⟩
    · cases e
  | _ => cases e
theorem Z51 {name : Str} {id : String} {g : IV → List IV → Sto → R IV} (hg : MtdM X id g) (slot : Slot "list" name id) (hty : typeOf (.builtin id) = pure (.type "method_descriptor")) (ho : ME X W xa o A) (ha : MA X W xa (e :: es) As)
    (hbase : attributeBase o name X.env (eval o X.env) = eval o X.env := by rfl)
    (hfew : ((backTo p (starEach (e :: es) X.env)).all (fun x => !x.1) && (backToKw p (keywordEach [] X.env)).all (fun x => x.1.isSome)
      && decide ((e :: es).length + ([] : List Keyword).length + (if ([] : List Keyword).isEmpty then 0 else 1) < 30)) = true := by rfl)
    (hline : (apos.endLine == p.line) = true := by rfl) (hs : starEach (e :: es) X.env = (false, eval e X.env) :: starEach es X.env := by rfl) (hplain : (backTo p (starEach es X.env)).any (·.1) = false := by rfl) :
    ME X W xa (.Call (.Attribute o name apos) (e :: es) [] p) (iMtd g A As) := by
  obtain ⟨r, hr, k⟩ := hg
  refine PE.weak (pe_bm PySem.F.plainAttrs_list slot hty hr ho ha hbase hfew hline hs hplain) fun σ H Q h => ?_
  obtain ⟨m, os, rs, ρ, st, P, h⟩ := h
  refine ⟨m, os, rs, ρ, st, P, h.bind.mono fun x m1 st1 H1 g1 R1 h1 u ru => ?_⟩
  split at h1
  · rename_i hl
    exact ⟨Zk9 R1 hl ru, m1, os, rs, ρ, st1, P.grow g1 R1, h1.bind.mono fun xs m2 st2 H2 g2 R2 h2 vs rv => k m2 _ st2 H2 x xs u vs Q _ R2 (RV.fits g2.fitsE _ _ ru) rv h2⟩
  · exact h1.elim
theorem Zt9 {name : Str} {id : String} {g : IV → List IV → Sto → R IV} (hg : MtdM X id g) (slot : Slot "list" name id) (hty : typeOf (.builtin id) = pure (.type "method_descriptor")) (ho : ME X W xa o A)
    (hbase : attributeBase o name X.env (eval o X.env) = eval o X.env := by rfl) (hline : (apos.endLine == p.line) = true := by rfl) :
    ME X W xa (.Call (.Attribute o name apos) [] [] p) (iMtd g A iNil) := by
  obtain ⟨r, hr, k⟩ := hg
  refine PE.weak (pe_bm0 PySem.F.plainAttrs_list slot hty hr ho hbase hline) fun σ H Q h => ?_
  obtain ⟨m, os, rs, ρ, st, P, h⟩ := h
  refine ⟨m, os, rs, ρ, st, P, h.bind.mono fun x m1 st1 H1 g1 R1 h1 u ru => ?_⟩
  split at h1
  · rename_i hl
    exact ⟨Zk9 R1 hl ru, k m1 _ st1 H1 x [] u [] Q _ R1 ru (by simp only [RVs]) h1⟩
  · exact h1.elim
theorem Zb0 {G : Gd} {m bs : List Addr} {st : Sto} {H : Hp} {l : Nat} {v : V} {xs : List IV} (R : Rel G m bs st H) (r : RV G m bs st H (.ref l) v) (e : st[l]? = some (.lst xs)) : ∃ p vs, v = .ref p ∧ m[l]? = some p ∧ H p = some (.lst vs) ∧ RVs G m bs st H xs vs := by
  simp only [RV] at r
  obtain ⟨p, ev, hp⟩ := r
  obtain ⟨vs, e1, r1⟩ := R.obj _ _ p e hp
  exact ⟨p, vs, ev, hp, e1, r1⟩
theorem ZbA {G : Gd} {m bs : List Addr} {st : Sto} {H : Hp} {l : Nat} {p : Addr} {xs ys : List IV} {ws : List V} (R : Rel G m bs st H) (hp : m[l]? = some p) (e : st[l]? = some (.lst xs)) (r : RVs G m bs st H ys ws) :
    GrowE m st H m (st.set l (.lst ys)) (upd H p (.lst ws)) ∧ Rel G m bs (st.set l (.lst ys)) (upd H p (.lst ws)) := by
  have g : GrowE m st H m (st.set l (.lst ys)) (upd H p (.lst ws)) := Z2e hp e (by simp)
  exact ⟨g, R.set hp e (by simp) ⟨ws, upd_same, RVs.fits g.fitsE _ _ r⟩⟩
theorem Z3C : MtdM X "list.append" gApp := by
  refine ⟨_, mt_append, fun m bs st H x xs x' xs' Q W R rx rxs h => ?_⟩
  unfold gApp at h
  split at h
  · rename_i l y
    split at h
    · rename_i zs hz
      split at h
      · rename_i c
        obtain ⟨p, vs, ev, hp, hH, r⟩ := Zb0 R rx hz
        obtain ⟨w, ew, rw'⟩ := rvs1 rxs
        obtain ⟨g, R'⟩ := ZbA (ys := zs ++ [y]) (ws := vs ++ [w]) R hp hz (r.append (by simp only [RVs]; exact ⟨w, [], rfl, rw', rfl⟩))
        exact ⟨p, vs, w, ev, ew, hH, by rw [← r.length]; exact szlt c, h m _ g R' .non (by simp only [RV])⟩
      · exact h.elim
    · exact h.elim
  · exact h.elim
theorem ZoS : MtdM X "list.pop" Zbg := by
  refine ⟨_, mt_popAt, fun m bs st H x xs x' xs' Q W R rx rxs h => ?_⟩
  unfold Zbg at h
  split at h
  · rename_i l i
    split at h
    · rename_i zs hz
      split at h
      · rename_i c
        split at h
        · rename_i v hv
          obtain ⟨p, vs, ev, hp, hH, r⟩ := Zb0 R rx hz
          obtain ⟨u, eu, ru⟩ := rvs1 rxs
          simp only [RV] at ru
          subst ru
          obtain ⟨w, e1, r1⟩ := r.get hv
          obtain ⟨g, R'⟩ := ZbA R hp hz (r.eraseIdx i.toNat)
          have hlt : i.toNat < vs.length := (List.getElem?_eq_some_iff.mp e1).1
          refine ⟨p, vs, i, i.toNat, w, ev, eu, hH, by omega, by omega, ?_, e1, h m _ g R' w (RV.fits g.fitsE _ _ r1)⟩
          have := (ixN_seq (n := vs.length) (i := i) (j := i.toNat) (by unfold ixN; rw [if_pos c.1, if_pos (by omega)])).1
          exact this
        · exact h.elim
      · exact h.elim
    · exact h.elim
  · exact h.elim
theorem Zpf : MtdM X "list.clear" Zbs := by
  refine ⟨_, mt_clear, fun m bs st H x xs x' xs' Q W R rx rxs h => ?_⟩
  unfold Zbs at h
  split at h
  · rename_i l
    split at h
    · rename_i zs hz
      obtain ⟨p, vs, ev, hp, hH, r⟩ := Zb0 R rx hz
      simp only [RVs] at rxs
      obtain ⟨g, R'⟩ := ZbA (ys := []) (ws := []) R hp hz (by simp only [RVs])
      exact ⟨p, vs, ev, rxs, hH, h m _ g R' .non (by simp only [RV])⟩
    · exact h.elim
  · exact h.elim
def Zx (st : Sto) : IV → Option String
  | .non => some "NoneType"
  | .bl _ => some "bool"
  | .int _ => some "int"
  | .str _ => some "str"
  | .tup _ => some "tuple"
  | .lst _ => some "list"
  | .ref l => match st[l]? with | some (.lst _) => some "list" | some (.dic _) => some "dict" | _ => none
  | _ => none
def ZT (a b : String) : Bool := a == b || (a == "bool" && b == "int")
def Z3w : List String := ["NoneType", "bool", "int", "str", "tuple", "list", "dict"]
def askT : List String := ["bool", "int", "str", "tuple", "list", "dict"]
theorem ZoQ : ∀ a ∈ Z3w, ∀ b ∈ askT, kitB a b = some (ZT a b) := by decide +kernel
def gIsi : List IV → Sto → R IV
  | [x, .ty b], st => match Zx st x with
    | some a => if b ∈ askT then .ok (.bl (ZT a b)) st else .bad
    | none => .bad
  | _, _ => .bad
theorem Zfg {G : Gd} {m bs : List Addr} {st : Sto} {H : Hp} {x : IV} {v : V} {t : String} (R : Rel G m bs st H) (e : Zx st x = some t) (r : RV G m bs st H x v) : TyX G.K H v (.type t) ∧ t ∈ Z3w := by
  cases x with
  | non => cases e; simp only [RV] at r; subst r; exact ⟨.base .non, by decide⟩
  | bl b => cases e; simp only [RV] at r; subst r; exact ⟨.base (.bl b), by decide⟩
  | int b => cases e; simp only [RV] at r; subst r; exact ⟨.base (.int b), by decide⟩
  | str b => cases e; simp only [RV] at r; subst r; exact ⟨.base (.str b), by decide⟩
  | ty n => cases e
  | ptp n => cases e
  | tup xs =>
    cases e
    simp only [RV] at r
    obtain ⟨a, vs, ev, h, _⟩ := r
    subst ev
    refine ⟨?_, by decide⟩
    rcases h with ⟨h | ⟨o, h⟩, _⟩ | h
    · exact .base (.tup h)
    · exact .fTuple h
    · rcases h with h | ⟨o, its, n, h1, h2, _⟩
      · exact (h0_rd h).elim
      · exact .kTuple h1 h2
  | lst xs =>
    cases e
    simp only [RV] at r
    obtain ⟨a, vs, ev, h, _⟩ := r
    subst ev
    refine ⟨?_, by decide⟩
    rcases h with ⟨h | ⟨o, h⟩, _⟩ | h
    · exact .base (.lst h)
    · exact .base (.frz h)
    · rcases h with h | ⟨o, its, n, h1, h2, _⟩
      · exact (h0_rd h).elim
      · exact .kList h1 h2
  | ref l =>
    simp only [Zx] at e
    split at e
    · rename_i xs h
      cases e
      obtain ⟨p, vs, ev, _, hH, _⟩ := Zb0 R r h
      subst ev
      exact ⟨.base (.lst hH), by decide⟩
    · rename_i kvs h
      cases e
      simp only [RV] at r
      obtain ⟨p, ev, hp⟩ := r
      subst ev
      obtain ⟨ws, hH, _⟩ := R.obj _ _ p h hp
      exact ⟨.base (.dK hH), by decide⟩
    · cases e
theorem Z2i : CallM X (.builtin "isinstance") gIsi := by
  refine ⟨_, call_isi, fun m bs st H xs xs' Q W R rx h => ?_⟩
  unfold gIsi at h
  split at h
  · rename_i x b
    split at h
    · rename_i t ht
      split at h
      · rename_i hb
        obtain ⟨v, w, e, r1, r2⟩ := rvs2 rx
        simp only [RV] at r2
        subst r2
        obtain ⟨tx, hm⟩ := Zfg R ht r1
        exact ⟨v, .ty b, _, _, _, e, .ty b, tx, kit_ty (ZoQ t hm b hb), h.v R (by simp only [RV])⟩
      · exact h.elim
    · exact h.elim
  · exact h.elim
theorem Z2t {n : String} {x : Str} (hg : Gl X x) (hm : X.mg x = none) (hv : bootBuiltins x = some (.type n)) (hn : x ≠ "__name__" := by decide) (hd : (x == ("__debug__" : Str)) = false := by decide) : ME X W xa (.Name x pos) (iC (.ty n)) :=
  me_c (pe_bltn (v := .ty n) hg hm hv rfl hn hd) fun _ _ _ _ => by simp only [RV]
end
end Mi
namespace Mi
open PySem PySem.Spec PyProof.Rows L2
section
variable {X : Cx} {CX : CXT} {k : Nat} {f C : Addr} {fd : FuncData} {ps : List Str} {sp : Sp} {dvs : List V} {ds : List Value} {E : L2.St → XK} {x m : Str} {p pos apos : Pos} {e o : Expr} {es : List Expr} {ta : TE} {t : TA}
def Zv5 (C : Addr) (sp : Sp) (E : L2.St → XK) (t : TA) : TE := fun σ H Q => t σ H fun vs H1 => ∀ x dx, H1 x = none → H1 dx = none → dx ≠ x →
  sp (.ref x :: vs) (upd (upd H1 dx (.own x)) x (.ins C dx [])) (fun v H2 => v = .non ∧ Q (.ref x) H2) (E σ)
theorem ZpS {pins : List (Addr × Obj)} {σ : L2.St} {H : Hp} {s : Shared} {Q : VK} {us : List Value} {vs : List V} (M : Mk X.K C f) (F : FnOk X.prog X.w X.K X.mg X.base CX k f fd ps sp) (hr : Room (k + 1) X.A) (hb : Binds X.K fd ps [])
    (hx : PassesAt CX X σ (E σ)) (I : L2.Inv X pins σ H s) (r : Vals vs us)
    (h : ∀ x dx, H x = none → H dx = none → dx ≠ x → sp (.ref x :: vs) (upd (upd H dx (.own x)) x (.ins C dx [])) (fun v H2 => v = .non ∧ Q (.ref x) H2) (E σ)) :
    wpAny (model X.prog X.w) X.A (call (.ref C) us) (EP X pins σ Q) X.xe s := by
  have hq := h (s.heap.objs.size + 1) s.heap.objs.size (I.hok.fresh (Nat.le_succ _)) (I.hok.fresh (Nat.le_refl _)) (Nat.ne_of_lt (Nat.lt_succ_self _))
  have I2 := L2.Inv.made (C := C) I
  have r2 : Vals (V.ref (s.heap.objs.size + 1) :: vs) (Value.ref (s.heap.objs.size + 1) :: us) := .cons rfl r
  have hl : (Value.ref (s.heap.objs.size + 1) :: us ++ []).length = ps.length := by
    have e := r2.length
    rw [F.len _ _ _ _ hq] at e
    rw [List.append_nil]
    exact e.symm
  have b := hb _ (Value.ref (s.heap.objs.size + 1) :: us) I2.kIn hl
  rw [List.append_nil] at b
  refine wpAny_call (make_map (f := f) I.kIn M.makes M.init (beq_iff_eq.mp M.fn) (codeAny_mono (F.run _ X.stack _ _ ⟨Value.ref (s.heap.objs.size + 1) :: us, []⟩ (Value.ref (s.heap.objs.size + 1) :: us) _ _ (E σ) (hr.make C us [])
    (I2.env0.make C us []) b r2 hq) fun r s' hq' => ?_))
  cases r with
  | error e => exact hx pins _ _ e s' I2 hq'
  | ok fl =>
    cases fl with
    | ret u =>
      obtain ⟨v, H', I3, rv, ev, q3⟩ := I2.after hq'
      subst ev
      exact ⟨rv, ⟨V.ref (s.heap.objs.size + 1), H', I3, rfl, q3⟩⟩
    | next => exact False.elim hq'
    | brk => exact False.elim hq'
    | cont => exact False.elim hq'
theorem ZqJ (M : Mk X.K C f) (F : FnOk X.prog X.w X.K X.mg X.base CX k f fd ps sp) (hr : Room (k + 1) X.A) (hg : Gl X x) (hm : X.mg x = some (.ref C)) (hb : Binds X.K fd ps []) (hx : ∀ σ, PassesAt CX X σ (E σ))
    (ha : PA X (e :: es) t) (hdb : (x == ("__debug__" : Str)) = false := by decide) (he : starEach (e :: es) X.env = (false, eval e X.env) :: starEach es X.env := by rfl) (hpl : (backTo pos (starEach es X.env)).any (·.1) = false := by rfl) :
    PE X (.Call (.Name x p) (e :: es) [] pos) (Zv5 C sp E t) := by
  refine ⟨fun pins s σ H Q I h => ?_⟩
  refine wpAny_Call_Name_kw (ld_glob I hg hm ?_ hdb)
  refine PySem.W.callWith_K (h₀ := X.base) I.ok.mod.kin M.kp (thn (ha.run pos pins s σ H _ I h) fun us s1 ⟨vs, H1, I1, r, q⟩ => ⟨I1.kIn, ?_⟩) he hpl
  exact ZpS M F hr hb (hx σ) I1 r q
def Zm9 (C : Addr) (m : Str) (sp : Sp) (E : L2.St → XK) (ta : TE) (t : TA) : TE := fun σ H Q => ta σ H fun x H1 => ∃ a dx fs, x = .ref a ∧ H1 a = some (.ins C dx fs) ∧ fs.lookup m = none ∧
  t σ H1 fun vs H2 => sp (x :: vs) H2 Q (E σ)
theorem ZpP {pl : Sem Bool} (he : PE X o ta) (c : Cls X.K C) (hm : Meth X.K C m f) (F : FnOk X.prog X.w X.K X.mg X.base CX k f fd ps sp) (hr : Room k X.A) (hb : Binds X.K fd ps []) (hx : ∀ σ, PassesAt CX X σ (E σ)) (ha : PA X (e :: es) t)
    (hst : starEach (e :: es) X.env = (false, eval e X.env) :: starEach es X.env := by rfl) (hpl : (backTo pos (starEach es X.env)).any (·.1) = false := by rfl)
    (ht : eval (.Call (.Attribute o m apos) (e :: es) [] pos) X.env = (do
      let ov ← eval o X.env
      standAt apos.atName
      let (f, first) ← holding [ov] (getMethod ov m pl)
      callWith pos f first (backTo pos (starEach (e :: es) X.env)) (backToKw pos (keywordEach [] X.env))) := by rfl) :
    PE X (.Call (.Attribute o m apos) (e :: es) [] pos) (Zm9 C m sp E ta t) := by
  refine ⟨fun pins s σ H Q I h => ?_⟩
  refine PySem.W.methodCall_KW (pl := pl) (thn (he.run pins s σ H _ I h) fun u s1 ⟨x, H1, I1, rx, a, dx, fs, ex, ea, l, q⟩ => ?_) ht
  subst ex
  obtain rfl : u = Value.ref a := rx
  refine getmeth_ok I1 ea c hm l ?_
  refine PySem.W.callWith_K (first := [.ref a]) (h₀ := X.base) I.ok.mod.kin hm.kp (thn (ha.run pos pins s1 σ H1 _ I1 q) fun us s2 ⟨vs, H2, I2, r, q2⟩ => ⟨I2.kIn, ?_⟩) hst hpl
  exact run_fnS (us := .ref a :: us) (vs := .ref a :: vs) F hr hb (hx σ) I2 (.cons rfl r) q2
theorem Zoj {pl : Sem Bool} (he : PE X o ta) (c : Cls X.K C) (hm : Meth X.K C m f) (F : FnOk X.prog X.w X.K X.mg X.base CX k f fd ps sp) (hr : Room k X.A) (hb : Binds X.K fd ps []) (hx : ∀ σ, PassesAt CX X σ (E σ))
    (ht : eval (.Call (.Attribute o m apos) [] [] pos) X.env = (do
      let ov ← eval o X.env
      standAt apos.atName
      let (f, first) ← holding [ov] (getMethod ov m pl)
      callWith pos f first (backTo pos (starEach [] X.env)) (backToKw pos (keywordEach [] X.env))) := by rfl) :
    PE X (.Call (.Attribute o m apos) [] [] pos) (Zm9 C m sp E ta tNil) := by
  refine ⟨fun pins s σ H Q I h => ?_⟩
  refine PySem.W.methodCall_KW (pl := pl) (thn (he.run pins s σ H _ I h) fun u s1 ⟨x, H1, I1, rx, a, dx, fs, ex, ea, l, q⟩ => ?_) ht
  subst ex
  obtain rfl : u = Value.ref a := rx
  refine getmeth_ok I1 ea c hm l ?_
  exact PySem.W.callWith_K0 (first := [.ref a]) I1.kIn hm.kp (run_fnS (us := [.ref a]) (vs := [.ref a]) F hr hb (hx σ) I1 (.cons rfl .nil) q)
end
section
variable {P : Program} {w : World} {K : PySem.W.Frag} {mg : Str → Option Value} {base : Heap}
def MkM (P : Program) (w : World) (K : PySem.W.Frag) (mg : Str → Option Value) (base : Heap) (c : Str) (k n : Nat) (F : Fn) : Prop :=
  ∃ C f fd ps, mg c = some (.ref C) ∧ Mk K C f ∧ Binds K fd ps [] ∧ FnOk P w K mg base (L2.CX P w) k f fd ps (spOf ⟨K, mg, P, w⟩ n F)
def MethM (P : Program) (w : World) (K : PySem.W.Frag) (mg : Str → Option Value) (base : Heap) (c m : Str) (k n : Nat) (F : Fn) : Prop :=
  ∃ C f fd ps, mg c = some (.ref C) ∧ Cls K C ∧ Meth K C m f ∧ Binds K fd ps [] ∧ FnOk P w K mg base (L2.CX P w) k f fd ps (spOf ⟨K, mg, P, w⟩ n F)
end
section
variable {X : Cx} {W : WX} {xa : Xa} {a b e o : Expr} {A B : IE} {pos p apos : Pos} {es : List Expr} {As : IA} {k n : Nat} {F : Fn} {x c m : Str}
def iMake (c : Str) (F : Fn) (As : IA) : IE := fun ρ st => (As ρ st).bind fun args st => (F (.ref st.length :: args) (st ++ [.ins c []])).bind fun v st' => match v with
  | .non => .ok (.ref st.length) st'
  | _ => .bad
theorem Zn6 (h : MkM X.prog X.w X.K X.mg X.base c k (n + 1) F) (hr : Room (k + 1) X.A) (tk : Takes X W) (hg : Gl X c) (ha : MA X W xa (e :: es) As)
    (hdb : (c == ("__debug__" : Str)) = false := by decide) (he : starEach (e :: es) X.env = (false, eval e X.env) :: starEach es X.env := by rfl) (hpl : (backTo pos (starEach es X.env)).any (·.1) = false := by rfl) :
    ME X W xa (.Call (.Name c p) (e :: es) [] pos) (iMake c (arity (n + 1) F) As) := by
  obtain ⟨C, f, fd, ps, hm, hM, hb, hf⟩ := h
  refine PE.weak (ZqJ hM hf hr hg hm hb (E := fun σ cls d H => W cls d σ H) (fun σ => Z7s tk σ) ha hdb he hpl) fun σ H Q h => ?_
  obtain ⟨m, os, rs, ρ, st, P, h⟩ := h
  refine ⟨m, os, rs, ρ, st, P, h.bind.mono fun args m1 st1 H1 g1 R1 h1 vs rv => fun x dx hx hdx ne => ?_⟩
  have hx2 : upd H1 dx (.own x) x = none := by rw [upd_ne (Ne.symm ne)]; exact hx
  have R2 : Rel (gd X) m1 (os ++ rs) st1 (upd H1 dx (.own x)) := R1.new hdx
  have g2 : GrowE m1 st1 H1 m1 st1 (upd H1 dx (.own x)) := Z13 hdx
  have g3 : GrowE m1 st1 (upd H1 dx (.own x)) (m1 ++ [x]) (st1 ++ [.ins c []]) (upd (upd H1 dx (.own x)) x (.ins C dx [])) := Z5T R2 hx2
  have R3 : Rel (gd X) (m1 ++ [x]) (os ++ rs) (st1 ++ [.ins c []]) (upd (upd H1 dx (.own x)) x (.ins C dx [])) := R2.live hx2 ⟨C, dx, [], hm, upd_same, rfl⟩
  have el : (m1 ++ [x])[st1.length]? = some x := by rw [← R1.len, List.getElem?_append_right (Nat.le_refl _)]; simp
  have h2 : Pst (gd X) (m1 ++ [x]) (os ++ rs) (st1 ++ [.ins c []]) (upd (upd H1 dx (.own x)) x (.ins C dx [])) (fun cls d H' => W cls d σ H') ((arity (n + 1) F (.ref st1.length :: args) (st1 ++ [.ins c []])).bind fun v st' => match v with
      | .non => .ok (.ref st1.length) st'
      | _ => .bad) (fun v m' st' H' => ∀ u, RV (gd X) m' (os ++ rs) st' H' v u → Q u H') := h1.shift (g2.trans g3)
  unfold arity at h2
  split at h2
  · rename_i hl
    refine ⟨by rw [List.length_cons, ← rv.length]; simpa using hl, m1 ++ [x], _, st1 ++ [.ins c []], .ref st1.length :: args, R3, ?_, h2.bind.mono fun v m4 st4 H4 g4 R4 h4 u ru => ?_⟩
    · simp only [RVs]
      exact ⟨.ref x, vs, rfl, by simp only [RV]; exact ⟨x, rfl, el⟩, RVs.fits (g2.trans g3).fitsE _ _ rv⟩
    · cases v with
      | non =>
        simp only [RV] at ru
        refine ⟨ru, h4.v R4 ?_⟩
        simp only [RV]
        exact ⟨x, rfl, g4.at el⟩
      | _ => exact h4.elim
  · exact h2.elim
def iMeth (c m : Str) (F : Fn) (A : IE) (As : IA) : IE := fun ρ st => (A ρ st).bind fun x st => match insAt st [c] x with
  | some (_, _, fs) => if (fs.lookup m).isNone = true then (As ρ st).bind fun args st => F (x :: args) st else .bad
  | none => .bad
theorem ZiV {C f : Addr} {fd : FuncData} {ps : List Str} {t : TA} {σ : L2.St} {H : Hp} {Q : VK} (hC : X.mg c = some (.ref C)) (ht : ∀ σ H Q, taOf (gd X) W xa As σ H Q → t σ H Q)
    (h : teOf (gd X) W xa (iMeth c m (arity (n + 1) F) A As) σ H Q) : Zm9 C m (spOf (gd X) (n + 1) F) (fun σ cls d H => W cls d σ H) (teOf (gd X) W xa A) t σ H Q := by
  obtain ⟨m0, os, rs, ρ, st, P, h⟩ := h
  refine ⟨m0, os, rs, ρ, st, P, h.bind.mono fun x m1 st1 H1 g1 R1 h1 u ru => ?_⟩
  split at h1
  · rename_i l c' fs e
    obtain ⟨ex, hc, _, p, C', dx, gs, ev, hm, hC', hH, rf⟩ := Z5k R1 e ru
    have ec : c' = c := by simpa using hc
    subst ec
    have hC2 : X.mg c' = some (.ref C') := hC'
    rw [hC] at hC2
    cases hC2
    split at h1
    · rename_i hn
      refine ⟨p, dx, gs, ev, hH, rf.look_none (by simpa using hn), ht _ _ _ ⟨m1, os, rs, ρ, st1, P.grow g1 R1, h1.bind.mono fun args m2 st2 H2 g2 R2 h2 vs rv => ?_⟩⟩
      unfold arity at h2
      split at h2
      · rename_i hl
        refine ⟨by rw [List.length_cons, ← rv.length]; simpa using hl, m2, _, st2, x :: args, R2, ?_, h2⟩
        simp only [RVs]
        exact ⟨u, vs, rfl, RV.fits g2.fitsE _ _ ru, rv⟩
      · exact h2.elim
    · exact h1.elim
  · exact h1.elim
theorem Z71 {pl : Sem Bool} (h : MethM X.prog X.w X.K X.mg X.base c m k (n + 1) F) (hr : Room k X.A) (tk : Takes X W) (ho : ME X W xa o A) (ha : MA X W xa (e :: es) As)
    (hst : starEach (e :: es) X.env = (false, eval e X.env) :: starEach es X.env := by rfl) (hpl : (backTo pos (starEach es X.env)).any (·.1) = false := by rfl)
    (ht : eval (.Call (.Attribute o m apos) (e :: es) [] pos) X.env = (do
      let ov ← eval o X.env
      standAt apos.atName
      let (f, first) ← holding [ov] (getMethod ov m pl)
      callWith pos f first (backTo pos (starEach (e :: es) X.env)) (backToKw pos (keywordEach [] X.env))) := by rfl) :
    ME X W xa (.Call (.Attribute o m apos) (e :: es) [] pos) (iMeth c m (arity (n + 1) F) A As) := by
  obtain ⟨C, f, fd, ps, hm, hC, hM, hb, hf⟩ := h
  exact PE.weak (ZpP ho hC hM hf hr hb (E := fun σ cls d H => W cls d σ H) (fun σ => Z7s tk σ) ha hst hpl ht) fun σ H Q h => ZiV (f := f) (fd := fd) (ps := ps) hm (fun _ _ _ h => h) h
theorem ZeB {pl : Sem Bool} (h : MethM X.prog X.w X.K X.mg X.base c m k 1 F) (hr : Room k X.A) (tk : Takes X W) (ho : ME X W xa o A)
    (ht : eval (.Call (.Attribute o m apos) [] [] pos) X.env = (do
      let ov ← eval o X.env
      standAt apos.atName
      let (f, first) ← holding [ov] (getMethod ov m pl)
      callWith pos f first (backTo pos (starEach [] X.env)) (backToKw pos (keywordEach [] X.env))) := by rfl) :
    ME X W xa (.Call (.Attribute o m apos) [] [] pos) (iMeth c m (arity 1 F) A iNil) := by
  obtain ⟨C, f, fd, ps, hm, hC, hM, hb, hf⟩ := h
  refine PE.weak (Zoj ho hC hM hf hr hb (E := fun σ cls d H => W cls d σ H) (fun σ => Z7s tk σ) ht) fun σ H Q h => ZiV (n := 0) (f := f) (fd := fd) (ps := ps) hm (fun σ H Q h => ?_) h
  obtain ⟨m, os, rs, ρ, st, P, h⟩ := h
  exact h.ok P.rel [] (by simp only [RVs])
def spI (K : PySem.W.Frag) (C : Addr) (f : Str) : Sp := fun vs H Q _ => ∃ a v, vs = [.ref a, v] ∧ H a = some (exo a C none) ∧ ∀ d, H d = none → d ≠ a → Q .non (upd (upd H d (exd d [(f, v)])) a (exo a C (some d)))
def ExcM (P : Program) (w : World) (K : PySem.W.Frag) (mg : Str → Option Value) (base : Heap) (c f : Str) (k : Nat) : Prop :=
  ∃ C fI fd ps, mg c = some (.ref C) ∧ OexC K C ∧ XfC K C ∧ PySem.W.findIn K (.ref C) f = some none ∧ PySem.W.findIn K (.ref C) "__init__" = some (some (.ref fI)) ∧ PySem.W.typeIn K (.ref fI) = some (.type "function") ∧
    Binds K fd ps [] ∧ FnOk P w K mg base (L2.CX P w) k fI fd ps (spI K C f)
def Z26 (c f : Str) (A : IE) : IS := fun ρ st => RS.ofR (A ρ st) ρ fun v st => .exc c [(f, v)] ρ st
theorem Z1Y {f : Str} (hc : X.calm = true) (h : ExcM X.prog X.w X.K X.mg X.base c f k) (hr : Room (k + 1) X.A) (tk : Takes X W) (hg : Gl X c) (ha : ME X W xa e A)
    (hs : starEach (e :: []) X.env = (false, eval e X.env) :: starEach [] X.env := by rfl) (hdb : (c == ("__debug__" : Str)) = false := by decide) (hpl : (backTo pos (starEach [] X.env)).any (·.1) = false := by rfl) :
    MS X W xa (.Raise (some (.Call (.Name c p) [e] [] pos)) none apos) (Z26 c f A) := by
  obtain ⟨C, fI, fd, ps, hC, hO, hX, hn, hI, hT, hb, hf⟩ := h
  refine PS.weak (ps_raise hc tk (pmk_oex hO hI hT hf hr hb .nil (fun _ _ _ _ _ _ _ z => by obtain ⟨_, _, _, _, _, _, _, _, _, _, _, _, z⟩ := z; exact z.elim) hg hC (pa_cons ha pa_nil hs) hdb hs hpl)) fun D σ H h => ?_
  obtain ⟨m, os, rs, ρ, st, P, h⟩ := h
  refine ⟨m, os, rs, ρ, st, P, (h.ofR P).mono fun v m1 st1 H1 g1 R1 h1 u ru => ⟨by show 1 ≤ 1000; decide, fun a ha => ⟨a, u, rfl, upd_same, fun d hd ne => ?_⟩⟩⟩
  have hd1 : H1 d = none := by rw [upd_ne ne] at hd; exact hd
  refine ⟨rfl, d, [(f, u)], upd_same, by rw [upd_ne ne, upd_same], hd1, ?_⟩
  have e : upd (del (upd (upd (upd H1 a (exo a C none)) d (exd d [(f, u)])) a (exo a C (some d))) a) d (.xd [(f, u)]) = upd H1 d (.xd [(f, u)]) := by
    funext b
    by_cases hb : b = d
    · rw [hb, upd_same, upd_same]
    · rw [upd_ne hb, upd_ne hb]
      by_cases hba : b = a
      · rw [hba, del_same, ha]
      · rw [del_ne hba, upd_ne hba, upd_ne hb, upd_ne hba]
  rw [e]
  have g2 : GrowE m1 st1 H1 m1 st1 (upd H1 d (.xd [(f, u)])) := Z13 hd1
  have R2 : Rel (gd X) m1 (os ++ rs) st1 (upd H1 d (.xd [(f, u)])) := R1.new hd1
  exact h1 m1 os _ σ _ _ (.ofE g2) ((P.grow g1 R1).grow g2 R2) ⟨C, ⟨hC, fun z => by cases z⟩, rfl, .inr ⟨d, _, rfl, upd_same, (R1.fresh hd1).1, (R1.fresh hd1).2, u, [], rfl, RV.fits g2.fitsE _ _ ru, rfl⟩⟩
def noExn (ρ : Slots) : Slots := ρ.map fun x => match x with
  | some (.exn _) => none
  | y => y
theorem Z57 {ρ : Slots} {i : Nat} {y : SV} (h : (noExn ρ)[i]? = some (some y)) : ρ[i]? = some (some y) ∧ ∀ l, y ≠ .exn l := by
  unfold noExn at h
  rw [List.getElem?_map, Option.map_eq_some_iff] at h
  obtain ⟨z, e, h⟩ := h
  cases z with
  | none => cases h
  | some z =>
    cases z with
    | exn l => cases h
    | v x => cases h; exact ⟨e, fun l q => by cases q⟩
    | own xs => cases h; exact ⟨e, fun l q => by cases q⟩
theorem Pre.noExn {G : Gd} {xa xa' : Xa} {σ : L2.St} {H : Hp} {m os rs : List Addr} {ρ : Slots} {st : Sto} (P : Pre G xa σ H m os rs ρ st) : Pre G xa' σ H m os rs (noExn ρ) st := by
  refine ⟨P.rel, by simp [Mi.noExn, P.re.len], fun i y e => ?_, fun i xs e => P.re.own i xs (Z57 e).1, fun i j xs ys v e1 e2 e3 e4 => P.re.uniq i j xs ys v (Z57 e1).1 (Z57 e2).1 e3 e4⟩
  obtain ⟨e1, ne⟩ := Z57 e
  obtain ⟨v, e2, r⟩ := P.re.at_ i y e1
  refine ⟨v, e2, ?_⟩
  cases y with
  | v x => exact r
  | own xs => exact r
  | exn l => exact absurd rfl (ne l)
def hEnd (i l : Nat) (r : RS) : RS := match r with
  | .nx ρ st => .nx (noExn (ρ.set i none)) (st.set l .dead)
  | .bk ρ st => .bk (noExn (ρ.set i none)) (st.set l .dead)
  | .ct ρ st => .ct (noExn (ρ.set i none)) (st.set l .dead)
  | .rt v st => .rt v (st.set l .dead)
  | _ => .bad
theorem ZoL {G : Gd} {xa xa' : Xa} {m os rs : List Addr} {st : Sto} {H : Hp} {W : WX} {D : Ends} {i l : Nat} {r : RS} (h : PstS G xa m os rs st H W D (hEnd i l r)) :
    PstS G xa' m os rs st H W0 { nx := fun σ' H' => D.nx (σ'.set i none) H', rt := D.rt, bk := fun σ' H' => D.bk (σ'.set i none) H', ct := fun σ' H' => D.ct (σ'.set i none) H' } r := by
  cases r with
  | nx ρ' st' => exact fun m' os' H' σ' g P => h m' os' H' _ (g.trans (.ofE Z1x)) (P.setN.noExn.grow Z1x P.rel.kill)
  | bk ρ' st' => exact fun m' os' H' σ' g P => h m' os' H' _ (g.trans (.ofE Z1x)) (P.setN.noExn.grow Z1x P.rel.kill)
  | ct ρ' st' => exact fun m' os' H' σ' g P => h m' os' H' _ (g.trans (.ofE Z1x)) (P.setN.noExn.grow Z1x P.rel.kill)
  | rt v st' => exact fun m' os' H' u g R r => h m' os' H' u (g.trans (.ofE Z1x)) R.kill (RV.fits (Z1x (m := m') (H := H')).fitsE _ _ r)
  | exc c fs ρ' st' => exact h.elim
  | bad => exact h
def Zaw (i : Nat) (M : Str → Option Bool) (B J : IS) : IS := fun ρ st => match B ρ st with
  | .exc c fs ρ1 st1 => (match M c with
    | some true => if fs.isEmpty = true ∨ ¬ i < ρ1.length then .bad else hEnd i st1.length (J ((noExn ρ1).set i (some (.exn st1.length))) (st1 ++ [.xd fs]))
    | some false => .exc c fs ρ1 st1
    | none => .bad)
  | r => r
theorem PSs.under {X : Cx} {st : List Stmt} {q : Prop} {t : TS} (h : q → PSs X st t) : PSs X st (fun D σ H => q ∧ t D σ H) := ⟨fun pins s σ H D I z => (h z.1).run pins s σ H D I z.2⟩
theorem Zrs {x n : Str} {cv : Value} {i : Nat} {body suite : List Stmt} {b₀ : Stmt} {np pos' : Pos} {M : Str → Option Bool} {B J : IS} {q : Value → Prop} (hs : X.stack = X.env :: X.outer) (hf : X.env.frame = some X.env.locals) (hN : X.N.Nodup) (hi : X.N[i]? = some n) (hln : X.env.kindOf n = some .local) (hc : Names X x cv) (tk : Takes X W)
    (hM : ∀ c k C, M c = some k → X.mg c = some (.ref C) → PySem.W.exmOne X.K (.ref C) cv = some k ∧ (k = true → q (.ref C)))
    (hb : ∀ (W : WX) (pn : List (Addr × Obj)) (xe : Value → Shared → Prop), Takes (X.tr pn xe) W → PassesOwn (model X.prog X.w) X.A X.env xe → MSs (X.tr pn xe) W xa body B)
    (hsu : ∀ (a : Addr) (oe : Obj) (cls : Value) (dd : Addr) (pn : List (Addr × Obj)), q cls → Zc cls (some dd) oe → (∃ vs, oe.data = .fields vs) → MSs (X.suite a ((a, oe) :: pn)) W0 (some (a, dd)) (b₀ :: suite) J) :
    MS X W xa (.Try body [.ExceptHandler (some (.Name x np)) (some n) (b₀ :: suite) pos'] [] [] pos) (Zaw i M B J) := by
  refine PS.weak (ps_try_as (tb := fun W => tsOf (gd X) W xa B) (ts := fun a cls d D σ H => (∃ dd, d = some dd ∧ q cls) ∧ tsOf (gd X) W0 (d.map fun dd => (a, dd)) J D σ H) hs hf hN hi hln hc tk hb (fun a oe cls d pn hz hd => PSs.under fun ⟨dd, ed, hq⟩ => by
    subst ed
    exact hsu a oe cls dd pn hq hz hd)) fun D σ H h => ?_
  obtain ⟨m, os, rs, ρ, st, P, h⟩ := h
  refine ⟨m, os, rs, ρ, st, P, ?_⟩
  unfold Zaw at h
  cases r : B ρ st with
  | exc c fs ρ1 st1 =>
    simp only [r] at h
    intro m1 os1 H1 σ1 cls d g1 P1 hx
    obtain ⟨C, hC, ecls, hxs⟩ := hx
    subst ecls
    cases k : M c with
    | none => rw [k] at h; exact h.elim
    | some kk =>
      rw [k] at h
      obtain ⟨e1, e2⟩ := hM c kk C k hC.1
      refine ⟨kk, e1, fun hk a ha => ?_, fun hk => ?_⟩
      · subst hk
        simp only at h
        split at h
        · exact h.elim
        · rename_i hne
          simp only [not_or, Decidable.not_not] at hne
          rcases hxs with hxs | ⟨dd, gs, ed, hH, hdm, hdb, rf⟩
          · rw [hxs] at hne; exact absurd rfl hne.1
          · subst ed
            refine ⟨⟨dd, rfl, e2 rfl⟩, ?_⟩
            have hlen := P1.rel.len
            -- the exception's own dict comes under the mirror
            have f : Fits (gd X) m1 (os1 ++ rs) st1 H1 (m1 ++ [dd]) (os1 ++ rs) (st1 ++ [.xd fs]) H1 := by
              have nt : ∀ {a : Addr} {vs : List V}, Rd H1 a (.tup vs) → a ≠ dd := fun {a vs} h z => by
                rcases h with h | ⟨o, h⟩ <;> (rw [z, hH] at h; cases h)
              have nl : ∀ {a : Addr} {vs : List V}, Rd H1 a (.lst vs) → a ≠ dd := fun {a vs} h z => by
                rcases h with h | ⟨o, h⟩ <;> (rw [z, hH] at h; cases h)
              refine ⟨fun l a h => ?_, fun a vs h => ?_, fun a vs h => ?_, fun a o u h => ?_⟩
              · rw [List.getElem?_append_left (List.getElem?_eq_some_iff.mp h).1]; exact h
              · rcases h with ⟨h, n, z⟩ | h
                · exact .inl ⟨h, fun y => (Z2A hlen y).elim n (nt h), z⟩
                · exact .inr h
              · rcases h with ⟨h, n, z⟩ | h
                · exact .inl ⟨h, fun y => (Z2A hlen y).elim n (nl h), z⟩
                · exact .inr h
              · obtain ⟨h, n, z⟩ := h
                exact ⟨h, fun y => (Z2A hlen y).elim n (fun y => by rw [y, hH] at h; cases h), z⟩
            have el : (m1 ++ [dd])[st1.length]? = some dd := by rw [← hlen, List.getElem?_append_right (Nat.le_refl _)]; simp
            have R2 : Rel (gd X) (m1 ++ [dd]) (os1 ++ rs) (st1 ++ [.xd fs]) H1 := by
              refine ⟨by simp [hlen], fun i j x e1 e2 => ?_, fun l w x e1 e2 => ?_, fun x z => ⟨fun y => ?_, (P1.rel.bsd x z).2⟩⟩
              · rcases getElem?_snoc e1 with e1 | ⟨i1, e1⟩
                · rcases getElem?_snoc e2 with e2 | ⟨i2, e2⟩
                  · exact P1.rel.nd i j x e1 e2
                  · exact absurd (List.mem_of_getElem? e1) (by rw [e2]; exact hdm)
                · rcases getElem?_snoc e2 with e2 | ⟨i2, e2⟩
                  · exact absurd (List.mem_of_getElem? e2) (by rw [e1]; exact hdm)
                  · omega
              · rcases getElem?_snoc e2 with e2 | ⟨i2, e2⟩
                · have hlt : l < st1.length := by rw [← hlen]; exact (List.getElem?_eq_some_iff.mp e2).1
                  rw [List.getElem?_append_left hlt] at e1
                  exact (P1.rel.obj l w x e1 e2).fits f fun _ e => e
                · subst e2
                  rw [hlen] at i2; subst i2
                  rw [List.getElem?_append_right (Nat.le_refl _)] at e1
                  have ew : IO.xd fs = w := by simpa using e1
                  rw [← ew]; exact ⟨gs, hH, RFs.fits f _ _ rf⟩
              · rcases List.mem_append.mp y with y | y
                · exact (P1.rel.bsd x z).1 y
                · have : x = dd := by simpa using y
                  exact hdb (this ▸ z)
            have hi1 : i < σ1.length := by rw [← P1.re.len]; exact hne.2
            have Q1 : Pre (gd X) (some (a, dd)) σ1 H1 m1 os1 rs (noExn ρ1) st1 := P1.noExn
            have hi2 : i < (noExn ρ1).length := by simpa [noExn] using hne.2
            have P2 : Pre (gd X) (some (a, dd)) (σ1.set i (some (.ref a))) H1 (m1 ++ [dd]) os1 rs ((noExn ρ1).set i (some (.exn st1.length))) (st1 ++ [.xd fs]) := by
              refine ⟨R2, by simp [Q1.re.len], fun j y e => ?_, fun j xs e => ?_, fun j k xs ys w q1 q2 q3 q4 => ?_⟩
              · by_cases hj : i = j
                · subst hj
                  rw [List.getElem?_set_self hi2] at e
                  cases e
                  exact ⟨.ref a, by rw [List.getElem?_set_self hi1], a, dd, rfl, rfl, el⟩
                · rw [List.getElem?_set_ne hj] at e
                  obtain ⟨v, e1, r⟩ := Q1.re.at_ j y e
                  refine ⟨v, by rw [List.getElem?_set_ne hj]; exact e1, ?_⟩
                  cases y with
                  | v x => exact RV.fits f _ _ r
                  | own xs => obtain ⟨b, vs, eb, hb, rb, hbb⟩ := r; exact ⟨b, vs, eb, hb, RVs.fits f _ _ rb, hbb⟩
                  | exn l => exact absurd rfl ((Z57 e).2 l)
              · have hj : i ≠ j := fun z => by
                  subst z
                  rw [List.getElem?_set_self hi2] at e
                  cases e
                rw [List.getElem?_set_ne hj] at e
                obtain ⟨b, e1, r⟩ := Q1.re.own j xs e
                exact ⟨b, by rw [List.getElem?_set_ne hj]; exact e1, r⟩
              · have key : ∀ {j : Nat} {xs : List IV}, ((noExn ρ1).set i (some (.exn st1.length)))[j]? = some (some (.own xs)) → i ≠ j := fun {j xs} e z => by
                  subst z
                  rw [List.getElem?_set_self hi2] at e
                  cases e
                have n1 := key q1
                have n2 := key q2
                rw [List.getElem?_set_ne n1] at q1 q3
                rw [List.getElem?_set_ne n2] at q2 q4
                exact Q1.re.uniq j k xs ys w q1 q2 q3 q4
            have g2 : Grow m1 st1 os1 H1 (m1 ++ [dd]) (st1 ++ [.xd fs]) os1 H1 := ⟨List.prefix_append _ _, fun b o hb nb qb nx => ⟨hb, fun z => (Z2A hlen z).elim nb (fun z => by rw [z, hH] at hb; cases hb; exact nx _ rfl), qb⟩, fun _ h => h⟩
            show tsOf (gd X) W0 (some (a, dd)) J _ _ _
            refine ⟨m1 ++ [dd], os1, rs, _, _, P2, ?_⟩
            exact ZoL ((PstS.shift g1 h).shift g2)
      · subst hk
        exact h m1 os1 H1 σ1 _ _ g1 P1 ⟨C, hC, rfl, hxs⟩
  | nx ρ1 st1 => simp only [r] at h; exact h
  | bk ρ1 st1 => simp only [r] at h; exact h
  | ct ρ1 st1 => simp only [r] at h; exact h
  | rt v st1 => simp only [r] at h; exact h
  | bad => simp only [r] at h; exact h
def iExf (i : Nat) (f : Str) : IE := fun ρ st => match ρ[i]? with
  | some (some (.exn l)) => (match st[l]? with
    | some (.xd fs) => (match fs.lookup f with | some v => .ok v st | none => .bad)
    | _ => .bad)
  | _ => .bad
theorem ZvX {a dd C : Addr} {oe : Obj} {cls : Value} {pn : List (Addr × Obj)} {i : Nat} {f y : Str} {p2 : Pos} (T : XfC X.K C) (hno : PySem.W.findIn X.K (.ref C) f = some none) (hcls : cls = .ref C)
    (hz : Zc cls (some dd) oe) (hf : ∃ vs, oe.data = .fields vs) (hv : PE (X.suite a ((a, oe) :: pn)) (.Name y p2) (tVar i)) (hb : attributeBase (.Name y p2) f X.env (eval (.Name y p2) X.env) = eval (.Name y p2) X.env := by rfl) :
    ME (X.suite a ((a, oe) :: pn)) W (some (a, dd)) (.Attribute (.Name y p2) f pos) (iExf i f) := by
  refine PE.weak (pe_xf T hno hz hf hv hb) fun σ H Q h => ?_
  obtain ⟨m, os, rs, ρ, st, P, h⟩ := h
  unfold iExf at h
  split at h
  · rename_i l e
    obtain ⟨v, e1, a', d', e2, e3, e4⟩ := P.re.at_ _ _ e
    cases e2
    split at h
    · rename_i fs e5
      split at h
      · rename_i u hu
        obtain ⟨gs, e6, rf⟩ := P.rel.obj _ _ dd e5 e4
        obtain ⟨w, e7, rw'⟩ := rf.look hu
        exact ⟨v, e1, e3, hcls, dd, gs, w, rfl, e6, e7, h.v P.rel rw'⟩
      · exact h.elim
    · exact h.elim
  · exact h.elim
end
end Mi
namespace Mi
open PySem PySem.Spec PyProof.Rows L2
def lcO (g : GI) (all : List IV) (vs : List Nat) (T : ITg) (S : IT) (I1 : IIt) (vs1 : List Nat) (T1 : ITg) (S1 : IT) (E : IE) (ρ : Slots) : List IV → List IV → Sto → R (List IV)
  | [], acc, st => if gokB g st all = true then .ok acc st else .bad
  | x :: r, acc, st => if gokB g st all = true then
      match T x (wipeI ρ vs) st with
      | .nx ρ1 st1 => ((S ρ1 st1).noE).bind fun b st2 => if b = true then ((I1 ρ1 st2).noE).bind fun p st3 => (lcL p.2 p.1 vs1 T1 S1 E ρ1 p.1 0 acc st3).bind fun acc' st4 => lcO g all vs T S I1 vs1 T1 S1 E ρ r acc' st4 else lcO g all vs T S I1 vs1 T1 S1 E ρ r acc st2
      | _ => .bad
    else .bad
def iLc2 (I : IIt) (vs : List Nat) (T : ITg) (S : IT) (I1 : IIt) (vs1 : List Nat) (T1 : ITg) (S1 : IT) (E : IE) : IA := fun ρ st => (I ρ st).bind fun p st => lcO p.2 p.1 vs T S I1 vs1 T1 S1 E ρ p.1 [] st
section
variable {X : Cx} {W : WX} {xa : Xa}
theorem ZpE {m m6 os rs : List Addr} {st st6 : Sto} {H H6 : Hp} {σ σ' : L2.St} {ρ ρ' : Slots} {D : Addr} {ws : List V} {u : V} {acc : List IV} {y : IV} (P : Pre (gd X) xa σ H m os rs ρ st) (hD0 : H D = none)
    (P6 : Pre (gd X) xa σ' H6 m6 os (D :: rs) ρ' st6) (g6 : GrowE m st H m6 st6 H6) (ra : RVs (gd X) m6 (os ++ (D :: rs)) st6 H6 acc ws) (ru : RV (gd X) m6 (os ++ (D :: rs)) st6 H6 y u) :
    GrowE m st H m6 st6 (upd H6 D (.lst (ws ++ [u]))) ∧ Fits (gd X) m6 (os ++ (D :: rs)) st6 H6 m6 (os ++ (D :: rs)) st6 (upd H6 D (.lst (ws ++ [u]))) ∧ Pre (gd X) xa σ' (upd H6 D (.lst (ws ++ [u]))) m6 os (D :: rs) ρ' st6 ∧ RVs (gd X) m6 (os ++ (D :: rs)) st6 (upd H6 D (.lst (ws ++ [u]))) (acc ++ [y]) (ws ++ [u]) := by
  have Dm : D ∈ os ++ (D :: rs) := List.mem_append_right _ List.mem_cons_self
  have fu : Fits (gd X) m6 (os ++ (D :: rs)) st6 H6 m6 (os ++ (D :: rs)) st6 (upd H6 D (.lst (ws ++ [u]))) := Z8w Dm
  have ra6 : RVs (gd X) m6 (os ++ (D :: rs)) st6 H6 (acc ++ [y]) (ws ++ [u]) := ra.append (by simp only [RVs]; exact ⟨u, [], rfl, ru, rfl⟩)
  refine ⟨⟨g6.pre, fun a o ha na qa nx => ?_, fun a e => g6.stay a (Z2q e)⟩, fu, ⟨P6.rel.upd Dm, P6.re.len, fun j x e => ?_, P6.re.own, P6.re.uniq⟩, RVs.fits fu _ _ ra6⟩
  · obtain ⟨k1, k2, _⟩ := g6.keep a o ha na qa nx
    exact ⟨by rw [upd_ne (ne_of_none ha hD0)]; exact k1, k2, qa⟩
  · obtain ⟨v, e1, r⟩ := P6.re.at_ j x e
    refine ⟨v, e1, ?_⟩
    cases x with
    | v x => exact RV.fits fu _ _ r
    | own zs =>
      obtain ⟨a, us, ea, ha, rz, hb⟩ := r
      obtain ⟨a', e3, ho, _⟩ := P6.re.own j zs e
      have ne : a ≠ D := by
        intro z
        rw [e1, ea] at e3
        have z2 : a = a' := by cases e3; rfl
        obtain ⟨_, o, e4⟩ := P.rel.bsd a' (List.mem_append_left _ ho)
        rw [← z2, z, hD0] at e4; cases e4
      exact ⟨a, us, ea, by rw [upd_ne ne]; exact ha, RVs.fits fu _ _ rz, hb⟩
    | exn l => exact r
theorem Pre.blockD {m1 os rs : List Addr} {st1 : Sto} {H1 : Hp} {σ : L2.St} {ρ : Slots} {D : Addr} {u : HO} (P1 : Pre (gd X) xa σ H1 m1 os rs ρ st1) (hD : H1 D = none) :
    Fits (gd X) m1 (os ++ rs) st1 H1 m1 (os ++ (D :: rs)) st1 (upd H1 D u) ∧ Pre (gd X) xa σ (upd H1 D u) m1 os (D :: rs) ρ st1 := by
  have blk : ∀ a ∈ os ++ (D :: rs), a = D ∨ a ∈ os ++ rs := fun a z => by
    rcases List.mem_append.mp z with z | z
    · exact .inr (List.mem_append_left _ z)
    · rcases List.mem_cons.mp z with z | z
      · exact .inl z
      · exact .inr (List.mem_append_right _ z)
  have f1 : Fits (gd X) m1 (os ++ rs) st1 H1 m1 (os ++ (D :: rs)) st1 (upd H1 D u) := Z4O hD blk
  refine ⟨f1, P1.rel.block hD blk, P1.re.len, fun i x e => ?_, fun i xs e => let ⟨a, e1, e2, e3⟩ := P1.re.own i xs e; ⟨a, e1, e2, fun z => (List.mem_cons.mp z).elim (fun z => by obtain ⟨_, o, q⟩ := P1.rel.bsd a (List.mem_append_left _ e2); rw [z, hD] at q; cases q) e3⟩, P1.re.uniq⟩
  obtain ⟨v, e1, r⟩ := P1.re.at_ i x e
  refine ⟨v, e1, ?_⟩
  cases x with
  | v x => exact RV.fits f1 _ _ r
  | own xs =>
    obtain ⟨a, vs, ea, ha, ra, hb⟩ := r
    have ne : a ≠ D := ne_of_none ha hD
    refine ⟨a, vs, ea, by rw [upd_ne ne]; exact ha, RVs.fits f1 _ _ ra, ?_⟩
    rcases List.mem_append.mp hb with z | z
    · exact List.mem_append_left _ z
    · exact List.mem_append_right _ (List.mem_cons_of_mem _ z)
  | exn l => exact r
theorem ZqF {g g1 : TG} {tt tt1 : TT} {I I1 : IIt} {T T1 : ITg} {S S1 : IT} {E : IE} {vs vs1 : List Nat} (hT : CTg (gd X) xa vs g T) (hS : TtOk (gd X) xa tt S) (hpl : ∀ x ρ st, match T x ρ st with | .nx _ st' => st' = st | _ => True)
    (hT1 : CTg (gd X) xa vs1 g1 T1) (hS1 : TtOk (gd X) xa tt1 S1) (hpl1 : ∀ x ρ st, match T1 x ρ st with | .nx _ st' => st' = st | _ => True)
    {σ : L2.St} {H : Hp} {Q : VK} (h : tfOf (gd X) W xa (iLc2 I vs T S I1 vs1 T1 S1 E) σ H Q) : tLc2 (tiOf (gd X) W xa I) g tt (tiOf (gd X) W0 xa I1) g1 tt1 (teOf (gd X) W0 xa E) vs vs1 σ H Q := by
  obtain ⟨m, os, rs, ρ, st, P, h⟩ := h
  refine ⟨m, os, rs, ρ, st, P, ?_⟩
  unfold iLc2 at h
  cases q : I ρ st with
  | exc c fs st1 => rw [q] at h; exact h
  | bad => rw [q] at h; exact h
  | ok p st1 =>
    rw [q] at h
    intro m1 H1 g1' R1 J hw D hD
    obtain ⟨xs, gd0⟩ := p
    have h0 : PstF (gd X) m (os ++ rs) st H (fun cls d H' => W cls d σ H') (lcO gd0 xs vs T S I1 vs1 T1 S1 E ρ xs [] st1) Q := h
    have perm : ∀ a ∈ D :: (os ++ rs), a ∈ os ++ (D :: rs) := fun a z => by
      rcases List.mem_cons.mp z with z | z
      · rw [z]; exact List.mem_append_right _ List.mem_cons_self
      · rcases List.mem_append.mp z with z | z
        · exact List.mem_append_left _ z
        · exact List.mem_append_right _ (List.mem_cons_of_mem _ z)
    have Dm : D ∈ os ++ (D :: rs) := List.mem_append_right _ List.mem_cons_self
    have hD0 : H D = none := g1'.stay D hD
    have P1 := P.grow g1' R1
    obtain ⟨f1, Q1⟩ := P1.blockD (u := .lst []) hD
    refine ⟨fun i n H2 => n = xs.length - i ∧ i ≤ xs.length ∧ ∃ m2 st2 acc ws, GrowE m st H m2 st2 H2 ∧ Fits (gd X) m1 (os ++ rs) st1 H1 m2 (os ++ (D :: rs)) st2 H2 ∧ Pre (gd X) xa σ H2 m2 os (D :: rs) ρ st2 ∧ H2 D = some (.lst ws) ∧ RVs (gd X) m2 (os ++ (D :: rs)) st2 H2 acc ws ∧
        PstF (gd X) m (os ++ rs) st H (fun cls d H' => W cls d σ H') (lcO gd0 xs vs T S I1 vs1 T1 S1 E ρ (xs.drop i) acc st2) Q,
      ⟨xs.length, by simp, Nat.zero_le _, m1, st1, [], [], g1'.trans (Z13 hD), f1, Q1, upd_same, by simp only [RVs], by simpa using h0⟩, ?_⟩
    rintro i n H2 ⟨rfl, hi, m2, st2, acc, ws, g2, f2, P2, eD, ra, h2⟩
    have w := hw i m2 _ st2 H2 f2 P2.rel
    by_cases hlt : i < xs.length
    · have ed : xs.drop i = xs[i] :: xs.drop (i + 1) := List.drop_eq_getElem_cons hlt
      rw [ed, lcO] at h2
      split at h2
      · rename_i gk
        obtain ⟨w1, _⟩ := w gk
        obtain ⟨go, yl⟩ := w1 xs[i] (List.getElem?_eq_getElem hlt)
        refine .inr ⟨go, fun H' => i + 1 ≤ xs.length ∧ ∃ m2 st2 acc ws, GrowE m st H m2 st2 H' ∧ Fits (gd X) m1 (os ++ rs) st1 H1 m2 (os ++ (D :: rs)) st2 H' ∧ Pre (gd X) xa σ H' m2 os (D :: rs) ρ st2 ∧ H' D = some (.lst ws) ∧ RVs (gd X) m2 (os ++ (D :: rs)) st2 H' acc ws ∧
          PstF (gd X) m (os ++ rs) st H (fun cls d H' => W cls d σ H') (lcO gd0 xs vs T S I1 vs1 T1 S1 E ρ (xs.drop (i + 1)) acc st2) Q, fun H' q => ⟨xs.length - (i + 1), by omega, rfl, q⟩, fun v H3 y => ?_⟩
        obtain ⟨g3, R3, r3⟩ := yl v H3 y
        have P3 := (P2.grow g3 R3).wipe vs
        have hp := hpl xs[i] (wipeI ρ vs) st2
        cases q1 : T xs[i] (wipeI ρ vs) st2 with
        | nx ρ4 st4 =>
          rw [q1] at hp
          simp only at hp
          subst hp
          simp only [q1] at h2
          refine hT v (wipe σ vs) H3 _ m2 os (D :: rs) (wipeI ρ vs) st4 xs[i] P3 r3 ⟨ρ4, q1, fun σ2 P4 ew => ⟨by rw [ew, Z46], ?_⟩⟩
          have keepD : ∀ {m' : List Addr} {st' : Sto} {H' : Hp}, GrowE m2 st4 H2 m' st' H' → H' D = some (.lst ws) := fun {m' st' H'} g => (g.keep D _ eD (fun z => (P2.rel.bsd D Dm).1 z.mem) (by simp) nxl).1
          refine hS σ2 H3 _ ⟨m2, os, D :: rs, ρ4, st4, P4, ?_⟩
          cases q2 : S ρ4 st4 with
          | ok b st5 =>
            rw [q2] at h2
            intro m5 H5 g5 R5 b' eb
            subst eb
            have gg5 : GrowE m2 st4 H2 m5 st5 H5 := g3.trans g5
            cases b with
            | false =>
              simp only [R.noE, R.bind] at h2
              exact ⟨hlt, m5, st5, acc, ws, g2.trans gg5, f2.trans gg5.fitsE, (P2.grow g3 R3).grow g5 R5, keepD gg5, RVs.fits gg5.fitsE _ _ ra, by simpa using h2⟩
            | true =>
              simp only [R.noE, R.bind, if_true] at h2
              have P5 := P4.grow g5 R5
              refine ⟨m5, os, D :: rs, ρ4, st5, P5, ?_⟩
              cases q3 : I1 ρ4 st5 with
              | exc c fs st6 => rw [q3] at h2; exact h2.elim
              | bad => rw [q3] at h2; exact h2.elim
              | ok p6 st6 =>
                obtain ⟨ys, gd1⟩ := p6
                rw [q3] at h2
                intro m6 H6 g6 R6 J1 hw1
                have gg6 : GrowE m2 st4 H2 m6 st6 H6 := gg5.trans g6
                have e6 := keepD gg6
                have O6 := ((P2.grow g3 R3).grow g5 R5).grow g6 R6
                have P6 := P5.grow g6 R6
                have h3 : PstF (gd X) m (os ++ rs) st H (fun cls d H' => W cls d σ H') ((lcL gd1 ys vs1 T1 S1 E ρ4 ys 0 acc st6).bind fun acc' st4 => lcO gd0 xs vs T S I1 vs1 T1 S1 E ρ (xs.drop (i + 1)) acc' st4) Q := h2
                refine ⟨fun j k H7 => k = ys.length - j ∧ j ≤ ys.length ∧ ∃ m7 st7 acc ws n, GrowE m st H m7 st7 H7 ∧ Fits (gd X) m1 (os ++ rs) st1 H1 m7 (os ++ (D :: rs)) st7 H7 ∧ Fits (gd X) m6 (os ++ (D :: rs)) st6 H6 m7 (os ++ (D :: rs)) st7 H7 ∧ Pre (gd X) xa σ H7 m7 os (D :: rs) ρ st7 ∧ Pre (gd X) xa σ2 H7 m7 os (D :: rs) ρ4 st7 ∧ H7 D = some (.lst ws) ∧ RVs (gd X) m7 (os ++ (D :: rs)) st7 H7 acc ws ∧
                    PstF (gd X) m (os ++ rs) st H (fun cls d H' => W cls d σ H') ((lcL gd1 ys vs1 T1 S1 E ρ4 (ys.drop j) n acc st7).bind fun acc' st4 => lcO gd0 xs vs T S I1 vs1 T1 S1 E ρ (xs.drop (i + 1)) acc' st4) Q,
                  ⟨ys.length, by simp, Nat.zero_le _, m6, st6, acc, ws, 0, g2.trans gg6, f2.trans gg6.fitsE, ⟨fun _ _ h => h, fun _ _ h => h, fun _ _ h => h, fun _ _ _ h => h⟩, O6, P6, e6, RVs.fits gg6.fitsE _ _ ra, by simpa using h3⟩, ?_⟩
                rintro j k H7 ⟨rfl, hj, m7, st7, acc, ws, n, g7, f7, f7', O7, P7, eD7, ra7, h7⟩
                have w7 := hw1 j m7 _ st7 H7 f7' P7.rel
                by_cases hlt1 : j < ys.length
                · have ed1 : ys.drop j = ys[j] :: ys.drop (j + 1) := List.drop_eq_getElem_cons hlt1
                  rw [ed1, lcL] at h7
                  split at h7
                  · rename_i gk1
                    obtain ⟨w8, _⟩ := w7 gk1.1
                    obtain ⟨go1, yl1⟩ := w8 ys[j] (List.getElem?_eq_getElem hlt1)
                    refine .inr ⟨go1, fun H' => j + 1 ≤ ys.length ∧ ∃ m7 st7 acc ws n, GrowE m st H m7 st7 H' ∧ Fits (gd X) m1 (os ++ rs) st1 H1 m7 (os ++ (D :: rs)) st7 H' ∧ Fits (gd X) m6 (os ++ (D :: rs)) st6 H6 m7 (os ++ (D :: rs)) st7 H' ∧ Pre (gd X) xa σ H' m7 os (D :: rs) ρ st7 ∧ Pre (gd X) xa σ2 H' m7 os (D :: rs) ρ4 st7 ∧ H' D = some (.lst ws) ∧ RVs (gd X) m7 (os ++ (D :: rs)) st7 H' acc ws ∧
                      PstF (gd X) m (os ++ rs) st H (fun cls d H' => W cls d σ H') ((lcL gd1 ys vs1 T1 S1 E ρ4 (ys.drop (j + 1)) n acc st7).bind fun acc' st4 => lcO gd0 xs vs T S I1 vs1 T1 S1 E ρ (xs.drop (i + 1)) acc' st4) Q, fun H' q => ⟨ys.length - (j + 1), by omega, rfl, q⟩, fun v8 H8 y8 => ?_⟩
                    obtain ⟨g8, R8, r8⟩ := yl1 v8 H8 y8
                    have P8 := (P7.grow g8 R8).wipe vs1
                    have hp1 := hpl1 ys[j] (wipeI ρ4 vs1) st7
                    cases q8 : T1 ys[j] (wipeI ρ4 vs1) st7 with
                    | nx ρ9 st9 =>
                      rw [q8] at hp1
                      simp only at hp1
                      subst hp1
                      simp only [q8] at h7
                      refine hT1 v8 (wipe σ2 vs1) H8 _ m7 os (D :: rs) (wipeI ρ4 vs1) st9 ys[j] P8 r8 ⟨ρ9, q8, fun σ9 P9 ew9 => ⟨by rw [ew9, Z46], ?_⟩⟩
                      have keepD7 : ∀ {m' : List Addr} {st' : Sto} {H' : Hp}, GrowE m7 st9 H7 m' st' H' → H' D = some (.lst ws) := fun {m' st' H'} g => (g.keep D _ eD7 (fun z => (P7.rel.bsd D Dm).1 z.mem) (by simp) nxl).1
                      refine hS1 σ9 H8 _ ⟨m7, os, D :: rs, ρ9, st9, P9, ?_⟩
                      cases q10 : S1 ρ9 st9 with
                      | ok b st10 =>
                        rw [q10] at h7
                        intro m10 H10 g10 R10 b' eb
                        subst eb
                        have gg10 : GrowE m7 st9 H7 m10 st10 H10 := g8.trans g10
                        cases b with
                        | false =>
                          exact ⟨hlt1, m10, st10, acc, ws, n + 1, g7.trans gg10, f7.trans gg10.fitsE, f7'.trans gg10.fitsE, (O7.grow g8 R8).grow g10 R10, (P7.grow g8 R8).grow g10 R10, keepD7 gg10, RVs.fits gg10.fitsE _ _ ra7, h7⟩
                        | true =>
                          simp only [R.noE, R.bind, if_true] at h7
                          refine ⟨m10, os, D :: rs, ρ9, st10, P9.grow g10 R10, ?_⟩
                          cases q11 : E ρ9 st10 with
                          | ok y st11 =>
                            rw [q11] at h7
                            intro m11 H11 g11 R11 u ru
                            have gg11 : GrowE m7 st9 H7 m11 st11 H11 := gg10.trans g11
                            have e11 := keepD7 gg11
                            have ra11 := RVs.fits gg11.fitsE _ _ ra7
                            refine ⟨ws, e11, ?_, ?_⟩
                            · rw [← ra7.length]; exact szlt gk1.2
                            · obtain ⟨d1, d2, d3, d4⟩ := ZpE (D := D) P hD0 (((O7.grow g8 R8).grow g10 R10).grow g11 R11) (g7.trans gg11) ra11 ru
                              obtain ⟨_, _, d5, _⟩ := ZpE (D := D) P hD0 (((P7.grow g8 R8).grow g10 R10).grow g11 R11) (g7.trans gg11) ra11 ru
                              exact ⟨hlt1, m11, st11, acc ++ [y], ws ++ [u], n + 1, d1, (f7.trans gg11.fitsE).trans d2, (f7'.trans gg11.fitsE).trans d2, d3, d5, upd_same, d4, h7⟩
                          | exc c fs st11 => rw [q11] at h7; exact h7.elim
                          | bad => rw [q11] at h7; exact h7.elim
                      | exc c fs st10 => rw [q10] at h7; exact h7.elim
                      | bad => rw [q10] at h7; exact h7.elim
                    | _ => simp only [q8] at h7; exact h7.elim
                  · exact h7.elim
                · have ej : j = ys.length := by omega
                  rw [List.drop_eq_nil_of_le (by omega), lcL] at h7
                  split at h7
                  · rename_i gk1
                    exact .inl ⟨(w7 gk1).2 (by show ys.length ≤ j; omega), hlt, m7, st7, acc, ws, g7, f7, O7, eD7, ra7, h7⟩
                  · exact h7.elim
          | exc c fs st5 => rw [q2] at h2; exact h2.elim
          | bad => rw [q2] at h2; exact h2.elim
        | _ => simp only [q1] at h2; exact h2.elim
      · exact h2.elim
    · have ei : i = xs.length := by omega
      rw [List.drop_eq_nil_of_le (by omega), lcO] at h2
      split at h2
      · rename_i gk
        exact .inl ⟨(w gk).2 (by show xs.length ≤ i; omega), h2 m2 H2 D ws hD0 g2 (P2.rel.sub perm) eD (RVs.fits (Z7N perm) _ _ ra)⟩
      · exact h2.elim
theorem ZvG {i : Nat} {y : Str} {py : Pos} {elt tg iter tg1 iter1 : Expr} {ifs ifs1 : List Expr} {scope : Scope} {own : List (Str × Nat)} {vs1 : List Nat} {pos spos : Pos} {g g1 : TG} {tt tt1 : TT} {I I1 : IIt} {T T1 : ITg} {S S1 : IT} {E : IE} {J : IS} (hc : X.calm = true) (hN : X.N.Nodup) (hy : X.N[i]? = some y) (hyl : X.env.scope.names.lookup y = some .local)
    (hsw : swapsWith (.ListComp elt [⟨tg, iter, ifs, 0⟩, ⟨tg1, iter1, ifs1, 0⟩] scope pos) (some (.Name y py)) spos.line X.env = pure true) (hi : MI X W xa tg iter I) (ok : BlkOk X.N X.env.scope scope own) (hv : ∀ i ∈ vs1, i ∈ own.map (·.2))
    (hg : ∀ (s : Shared) (H : Hp) (C : Addr) (cl : List (Str × Addr)) (fp : List Addr), PG (X.blk s H scope (compEnvC scope cl C X.env) fp) tg g) (hT : CTg (gd X) xa (own.map (·.2)) g T) (hpl : ∀ x ρ st, match T x ρ st with | .nx _ st' => st' = st | _ => True)
    (ht : ∀ (s : Shared) (H : Hp) (C : Addr) (cl : List (Str × Addr)) (fp : List Addr), PTs (X.blk s H scope (compEnvC scope cl C X.env) fp) ifs tt) (hS : TtOk (gd X) xa tt S)
    (hi1 : ∀ (s : Shared) (H : Hp) (C : Addr) (cl : List (Str × Addr)) (fp : List Addr), PI (X.blk s H scope (compEnvC scope cl C X.env) fp) tg1 iter1 (tiOf (gd X) W0 xa I1))
    (hg1 : ∀ (s : Shared) (H : Hp) (C : Addr) (cl : List (Str × Addr)) (fp : List Addr), PG (X.blk s H scope (compEnvC scope cl C X.env) fp) tg1 g1) (hT1 : CTg (gd X) xa vs1 g1 T1) (hpl1 : ∀ x ρ st, match T1 x ρ st with | .nx _ st' => st' = st | _ => True)
    (ht1 : ∀ (s : Shared) (H : Hp) (C : Addr) (cl : List (Str × Addr)) (fp : List Addr), PTs (X.blk s H scope (compEnvC scope cl C X.env) fp) ifs1 tt1) (hS1 : TtOk (gd X) xa tt1 S1)
    (he : ∀ (s : Shared) (H : Hp) (C : Addr) (cl : List (Str × Addr)) (fp : List Addr), PE (X.blk s H scope (compEnvC scope cl C X.env) fp) elt (teOf (gd X) W0 xa E))
    (hw : ∀ D σ H, tsOf (gd X) W xa J D σ H → tAsg (tfOf (gd X) W xa (iLc2 I (own.map (·.2)) T S I1 vs1 T1 S1 E)) (gName i) D σ H) (hs : ∀ x, foldedSetIterable iter X.env x = pure x := by intro _; rfl) (hs1 : ∀ env x, foldedSetIterable iter1 env x = pure x := by intro _ _; rfl) :
    MS X W xa (.Assign [.Name y py] (.ListComp elt [⟨tg, iter, ifs, 0⟩, ⟨tg1, iter1, ifs1, 0⟩] scope pos) spos) J :=
  PS.weak (ps_setLc2 hc hN hy hyl hsw hi ok hv hg ht hi1 hg1 ht1 he hs hs1) fun D σ H h => ZqF hT hS hpl hT1 hS1 hpl1 (hw D σ H h)
end
end Mi
namespace Mi
open PySem PySem.Spec PyProof.Rows L2
section
variable {X : Cx} {W : WX} {xa : Xa} {a b c e : Expr} {A B : IE} {pos : Pos} {es : List Expr} {As : IA}
def iPar2 (i j : Nat) (As : IA) : IS := fun ρ st => RS.ofR (As ρ st) ρ fun xs st => match xs with
  | [x, y] => .nx ((ρ.set i (some (.v x))).set j (some (.v y))) st
  | _ => .bad
theorem Z6W {i j : Nat} {x y : Str} {px py pt : Pos} {kt k2 : Nat} {pt2 : Pos} (hc : X.calm = true) (hN : X.N.Nodup) (hi : X.N[i]? = some x) (hj : X.N[j]? = some y) (hij : i ≠ j)
    (hx : X.env.scope.names.lookup x = some .local) (hy : X.env.scope.names.lookup y = some .local) (ha : MA X W xa [a, b] As)
    (hw : swappedStores [.Tuple [.Name x px, .Name y py] kt pt] (.Tuple [a, b] k2 pt2) X.env = pure (some [x, y]))
    (hs : swapsWithSole [.Tuple [.Name x px, .Name y py] kt pt] (.Tuple [a, b] k2 pt2) pos.line X.env = pure false := by rfl) :
    MS X W xa (.Assign [.Tuple [.Name x px, .Name y py] kt pt] (.Tuple [a, b] k2 pt2) pos) (iPar2 i j As) := by
  refine PS.weak (ps_par hc hN hi hj hij hx hy ha hw hs) fun D σ H h => ?_
  obtain ⟨m, os, rs, ρ, st, P, h⟩ := h
  refine ⟨m, os, rs, ρ, st, P, (h.ofR P).mono fun xs m1 st1 H1 g1 R1 h1 vs rv => ?_⟩
  split at h1
  · obtain ⟨v, w, e, r1, r2⟩ := rvs2 rv
    exact ⟨v, w, e, h1.here (((P.grow g1 R1).set r1).set r2)⟩
  · exact h1.elim
end
end Mi
namespace Mi
open PySem PySem.Spec PyProof.Rows L2
def Zlk : IV → Bool
  | .non => true
  | .bl _ => true
  | .int _ => true
  | .str _ => true
  | _ => false
theorem ZuG {G : Gd} {m bs : List Addr} {st : Sto} {H : Hp} {x : IV} (h : Zlk x = true) : RV G m bs st H x (vOf x) := by
  cases x <;> first | (simp only [RV, vOf]; done) | cases h
theorem Znz {G : Gd} {m bs : List Addr} {st : Sto} {H : Hp} : ∀ {xs : List IV}, xs.all Zlk = true → RVs G m bs st H xs (xs.map vOf)
  | [], _ => by simp only [RVs]; rfl
  | x :: xs, h => by
    rw [List.all_cons, Bool.and_eq_true] at h
    simp only [RVs, List.map_cons]
    exact ⟨_, _, rfl, ZuG h.1, Znz h.2⟩
def GTup (K : PySem.W.Frag) (mg : Str → Option Value) (x : Str) (xs : List IV) : Prop := ∃ a, mg x = some (.ref a) ∧ SqT K H0 a (xs.map vOf)
section
variable {X : Cx} {W : WX} {xa : Xa} {pos : Pos}
theorem Zr7 {x : Str} {xs : List IV} (hg : Gl X x) (h : GTup X.K X.mg x xs) (hf : xs.all Zlk = true := by rfl) (hd : (x == ("__debug__" : Str)) = false := by decide) : ME X W xa (.Name x pos) (iC (.tup xs)) := by
  obtain ⟨a, hm, hs⟩ := h
  refine me_c (pe_glob hg hm (v := .ref a) rfl hd) fun m bs st H => ?_
  simp only [RV]
  exact ⟨a, xs.map vOf, rfl, .inr hs, Znz hf⟩
theorem ZrJ {x y : Str} (hg : Gl X x) (h : ∃ t, X.mg x = some (.str y t)) (hd : (x == ("__debug__" : Str)) = false := by decide) : ME X W xa (.Name x pos) (iC (.str y)) := by
  obtain ⟨t, h⟩ := h
  exact me_c (pe_glob hg h (v := .str y) ⟨t, rfl⟩ hd) fun m bs st H => by simp only [RV]
theorem ZqQ {x : Str} {y : Int} (hg : Gl X x) (h : ∃ t, X.mg x = some (.int y t)) (hd : (x == ("__debug__" : Str)) = false := by decide) : ME X W xa (.Name x pos) (iC (.int y)) := by
  obtain ⟨t, h⟩ := h
  exact me_c (pe_glob hg h (v := .int y) ⟨t, rfl⟩ hd) fun m bs st H => by simp only [RV]
end
section
variable {P : Program} {w : World} {K : PySem.W.Frag} {mg : Str → Option Value} {base : Heap} {C : Addr}
theorem Z5e {qual x y : Str} {st : Stmt} {f : Addr} {fd : FuncData} {fl : Str} {p1 p2 p3 p4 : Pos} (F : L2.Fun K "__init__" qual st f fd) (S : FnScope [x, y] [x, y] (defScope st)) (T : OexC K C) (hno : PySem.W.findIn K (.ref C) fl = some none)
    (hb : defBody st = [.Assign [.Attribute (.Name x p1) fl p2] (.Name y p3) p4]) (hx : Vis (defScope st) x) (hy : Vis (defScope st) y) (dx : (x == ("__debug__" : Str)) = false) (dy : (y == ("__debug__" : Str)) = false)
    (ex : (x == ("__classdict__" : Str)) = false) (ey : (y == ("__classdict__" : Str)) = false) : FnOk P w K mg base (L2.CX P w) 1 f fd [x, y] (spI K C fl) := by
  refine F.okX S (fun vs H Q E h => ?_) (fun cdv A outer s H vs Q E hr h => ?_)
  · obtain ⟨a, v, rfl, _⟩ := h
    rfl
  · obtain ⟨a, v, rfl, ha, k⟩ := h
    rw [hb]
    refine ⟨_, pss_one (ps_ost (pe_var (i := 0) rfl hx dx ex) (pe_var (i := 1) rfl hy dy ey) rfl), ?_⟩
    exact ⟨_, rfl, _, rfl, a, C, rfl, T, hno, .inl ⟨ha, fun d hd hne => k d hd hne⟩⟩
theorem Z2b {c f : Str} (hc : mg c = some (.ref C)) (h1 : Cls K C) (h2 : NoAttr K C f) : FdM K mg [c] f := by
  intro c' hc' C' e
  have : c' = c := by simpa using hc'
  subst this
  rw [hc] at e
  cases e
  exact ⟨h1, h2⟩
theorem Zso {n : Str} (hn : mg n = some (.ref C)) (te : PySem.W.exmOne K (.ref C) (.ref C) = some true) : ∀ c k C', (if c = n then some true else none) = some k → mg c = some (.ref C') → PySem.W.exmOne K (.ref C') (.ref C) = some k ∧ (k = true → (Value.ref C') = .ref C) := by
  intro c k C' h e
  split at h
  · rename_i z
    cases h
    subst z
    rw [hn] at e
    cases e
    exact ⟨te, fun _ => rfl⟩
  · cases h
def spLaw (K : PySem.W.Frag) : Sp := fun vs H Q _ => ∃ (a : Addr) (ns : List Int), vs = [.ref a] ∧ SqL K H a (ns.map V.int) ∧ ns.length ≤ 63 ∧ ∀ H', Q (.bl true) H'
theorem Zly {G : Gd} {m bs : List Addr} {st : Sto} {H : Hp} : ∀ (ns : List Int), RVs G m bs st H (ns.map IV.int) (ns.map V.int)
  | [] => by simp only [List.map_nil, RVs]
  | n :: r => by
    simp only [List.map_cons, RVs]
    exact ⟨_, _, rfl, by simp only [RV], Zly r⟩
end
theorem ZqH {x : V} {u : Value} (h : absV u = some x) : RelV x u := by
  cases u <;> first | (cases h; first | rfl | exact ⟨_, rfl⟩) | cases h
theorem Zm7 : ∀ {xs : List V} {us : List Value}, us.map absV = xs.map some → Vals xs us
  | [], [], _ => .nil
  | [], _ :: _, h => by simp at h
  | _ :: _, [], h => by simp at h
  | x :: xs, u :: us, h => by
    simp only [List.map_cons, List.cons.injEq] at h
    exact .cons (ZqH h.1) (Zm7 h.2)
theorem Zsk {K : PySem.W.Frag} {mg : Str → Option Value} {x : Str} {a : Addr} {o : Obj} {xs : List IV} (hm : mg x = some (.ref a)) (l : K.lookup a = some o)
    (d : o.cls = .type "tuple" ∧ ∃ (its : Array Value) (n : Nat), o.data = .seq its n ∧ its.size ≤ 1000 ∧ its.toList.map absV = (xs.map fun x => some (vOf x))) : GTup K mg x xs := by
  obtain ⟨h1, its, n, h2, h3, h4⟩ := d
  refine ⟨a, hm, .inr ⟨o, its, n, l, h1, h2, szl (by omega), Zm7 ?_⟩⟩
  rw [h4, List.map_map]; rfl
theorem Z4W {K : PySem.W.Frag} {S : Addr} (h1 : PySem.W.subIn K (.ref S) (.type "BaseException") = some true) (h2 : PySem.W.isClsIn K S = true) (h3 : PySem.W.typeIn K (.ref S) = some (.type "type")) (h4 : PySem.W.subIn K (.ref S) (.ref S) = some true) :
    PySem.W.exmOne K (.ref S) (.ref S) = some true := by
  have e1 : (PySem.W.subIn K (.ref S) (.type "BaseException") == some true) = true := by rw [h1] <;> rfl
  have e2 : ((PySem.W.clsIn K S).isSome && PySem.W.typeIn K (.ref S) == some (.type "type")) = true := by
    have h2' : (PySem.W.clsIn K S).isSome = true := h2
    rw [h2', h3] <;> rfl
  show (if (PySem.W.subIn K (.ref S) (.type "BaseException") == some true) = true then (if ((PySem.W.clsIn K S).isSome && PySem.W.typeIn K (.ref S) == some (.type "type")) = true then PySem.W.subIn K (.ref S) (.ref S) else none) else none) = some true
  rw [if_pos e1, if_pos e2]
  exact h4
end Mi
namespace Mi
open PySem PySem.Spec PyProof.Rows L2
section
variable {X : Cx} {pins : List (Addr × Obj)} {σ : L2.St} {H : Hp} {s : Shared} {Q : VK} {k n : Nat} {f C : Addr} {fd : FuncData} {ps : List Str} {sp : Sp} {A : Around}
theorem ZhN {us : List Value} {vs : List V} (F : FnOk X.prog X.w X.K X.mg X.base (L2.CX X.prog X.w) k f fd ps sp) (hb : Binds X.K fd ps []) (sb : Sub X k A) (I : Inv X pins σ H s) (r2 : Vals vs us) (h : sp vs H Q (fun _ _ _ => False)) :
    wpAny (model X.prog X.w) A (call (.ref f) us) (EP X pins σ Q) X.xe s := by
  have e0 : Env0 X.prog X.w X.K X.mg X.base A X.stack s H := by
    have e := I.env0
    exact ⟨by rw [sb.fr]; exact e.frames, e.mod, e.bs, e.bsz, e.funs, e.frf, e.hok, e.bare⟩
  have hl := F.len _ _ _ _ h
  have hl2 : us.length = ps.length := by rw [← r2.length]; exact hl
  refine wpAny_call (codeAny_mono (F.run A X.stack s H ⟨us, []⟩ us vs Q (fun _ _ _ => False) sb.room e0 (by
    have := hb s us I.kIn (by simpa using hl2)
    simpa using this) r2 h) fun r s' hq => ?_)
  cases r with
  | error e => exact passAt (X := X) (W := W0) takes0 σ pins H s e s' I hq
  | ok fl =>
    cases fl with
    | ret w => exact I.after hq
    | next => exact False.elim hq
    | brk => exact False.elim hq
    | cont => exact False.elim hq
def bl1 (neg : Bool) : IV → Sto → R IV
  | .bl b, st => .ok (.bl (neg != b)) st
  | _, _ => .bad
def quiet {α : Type} : R α → R α
  | .exc _ _ _ => .bad
  | r => r
def Z3N (neg : Bool) (c : Str) (F : Fn) : IV → IV → Sto → R IV := fun x y st => match insAt st [c] y with
  | some _ => (quiet (F [y, x] st)).bind (bl1 neg)
  | none => .bad
def ZsV (neg : Bool) (C : Addr) (sp : Sp) : R2 := fun x y H Q => ∃ a dx fs, y = .ref a ∧ H a = some (.ins C dx fs) ∧ sp [y, x] H (fun v H' => ∃ b, v = .bl b ∧ Q (.bl (neg != b)) H') (fun _ _ _ => False)
theorem ZrK (neg : Bool) (M : Meth X.K C "__contains__" f) (F : FnOk X.prog X.w X.K X.mg X.base (L2.CX X.prog X.w) k f fd ps sp) (hb : Binds X.K fd ps []) (hr : Room k X.A) :
    OpR X (compareOp (if neg then .NotIn else .In)) (ZsV neg C sp) := by
  intro pins s σ H x y v u Q I rx ry hq
  obtain ⟨a, dx, fs, rfl, ha, hs⟩ := hq
  cases ry
  obtain ⟨mA, J, _⟩ := ins_get I.hok ha
  obtain ⟨od, J, _⟩ := J.look
  obtain ⟨m, hF⟩ := I.fr
  have run := ZhN F hb ⟨hr, rfl⟩ I (us := [.ref a, v]) (vs := [.ref a, x]) (.cons rfl (.cons rx .nil)) hs
  cases neg with
  | false =>
    refine PySem.W.in_K hF I.ok.mod.kin J M.at_ M.fn (wpAny_mono run (fun r s' q => ?_) fun _ _ z => z)
    obtain ⟨z, H', I', rz, b, ez, q⟩ := q
    subst ez
    cases rz
    exact wpAny_truthy_bool ⟨.bl b, H', I', rfl, by simpa using q⟩
  | true =>
    refine PySem.W.notIn_K hF I.ok.mod.kin J M.at_ M.fn (wpAny_mono run (fun r s' q => ?_) fun _ _ z => z)
    obtain ⟨z, H', I', rz, b, ez, q⟩ := q
    subst ez
    cases rz
    exact wpAny_truthy_bool ⟨.bl (!b), H', I', rfl, by simpa using q⟩
theorem Z3x {α : Type} {G : Gd} {m bs : List Addr} {st : Sto} {H : Hp} {W W' : Value → Option Addr → Hp → Prop} {r : R α} {P : α → List Addr → Sto → Hp → Prop} (h : Pst G m bs st H W (quiet r) P) : Pst G m bs st H W' r P := by
  cases r with
  | ok a st => exact h
  | exc c fs st => exact h.elim
  | bad => exact h.elim
theorem Zgd {G : Gd} {m bs : List Addr} {st : Sto} {H : Hp} {x : IV} {v : V} {c : Str} {p : Nat × Str × List (Str × IV)} (R : Rel G m bs st H) (e : insAt st [c] x = some p) (r : RV G m bs st H x v) : ∃ a C dx gs, v = .ref a ∧ G.mg c = some (.ref C) ∧ H a = some (.ins C dx gs) := by
  cases x with
  | ref l =>
    simp only [insAt] at e
    split at e
    · rename_i c' fs e1
      split at e
      · rename_i hc
        simp only [RV] at r
        obtain ⟨a, ea, ha⟩ := r
        have : c' = c := by simpa using hc
        subst this
        obtain ⟨C, dx, gs, h1, h2, _⟩ := R.obj l _ a e1 ha
        exact ⟨a, C, dx, gs, ea, h1, h2⟩
      · cases e
    · cases e
  | _ => cases e
theorem Z7B {c : Str} {F : Fn} (neg : Bool) (h : MethM X.prog X.w X.K X.mg X.base c "__contains__" k 2 F) (hr : Room k X.A) : OpM X (compareOp (if neg then .NotIn else .In)) (Z3N neg c F) := by
  obtain ⟨C, f, fd, ps, hm, hC, hM, hb, hf⟩ := h
  refine ⟨_, ZrK neg hM hf hb hr, fun m bs st H x y x' y' Q W R rx ry h => ?_⟩
  unfold Z3N at h
  split at h
  · rename_i p e
    obtain ⟨a, C', dx, gs, ev, h1, h2⟩ := Zgd R e ry
    have : C' = C := by
        have h1' : X.mg c = some (.ref C') := h1
        rw [hm] at h1'; cases h1'; rfl
    subst this
    refine ⟨a, dx, gs, ev, h2, rfl, m, bs, st, [y, x], R, ?_, ?_⟩
    · simp only [RVs]
      exact ⟨y', [x'], rfl, ry, x', [], rfl, rx, rfl⟩
    · refine Z3x (W := W) (h.bind.mono fun v m1 st1 H1 g1 R1 h1 u ru => ?_)
      cases v with
      | bl b =>
        simp only [RV] at ru
        exact ⟨b, ru, h1.v R1 (by simp only [RV])⟩
      | _ => exact h1.elim
  · exact h.elim
def Z5x (c : Str) (F : Fn) : List IV → Sto → R IV
  | [x], st => match insAt st [c] x with
    | some _ => (quiet (F [x] st)).bind fun v st => match v with
      | .int n => if 0 ≤ n ∧ n < 9223372036854775808 then .ok (.int n) st else .bad
      | _ => .bad
    | none => .bad
  | _, _ => .bad
def ZsU (C : Addr) (sp : Sp) : List V → Hp → VK → Prop := fun xs H Q => ∃ a dx fs, xs = [.ref a] ∧ H a = some (.ins C dx fs) ∧ sp [.ref a] H (fun v H' => ∃ n : Int, v = .int n ∧ (0 ≤ n ∧ n < 2 ^ 63) ∧ Q (.int n) H') (fun _ _ _ => False)
theorem ZnK (M : Meth X.K C "__len__" f) (F : FnOk X.prog X.w X.K X.mg X.base (L2.CX X.prog X.w) k f fd ps sp) (hb : Binds X.K fd ps []) (hr : Room (k + 1) X.A) : CallR X (.builtin "len") (ZsU C sp) := by
  intro pins s σ H xs us Q I r h
  obtain ⟨a, dx, fs, rfl, ha, hs⟩ := h
  cases r with
  | cons r1 r2 =>
    cases r2
    cases r1
    obtain ⟨mA, J, _⟩ := ins_get I.hok ha
    obtain ⟨od, J, _⟩ := J.look
    obtain ⟨m, hF⟩ := I.fr
    have sb : Sub X (k + 1) X.A := ⟨hr, rfl⟩
    have run := ZhN F hb sb.in1 I (us := [.ref a]) (vs := [.ref a]) (.cons rfl .nil) hs
    refine PySem.W.len_K hF I.ok.mod.kin J M.at_ M.fn (wpAny_mono run (fun r s' q => ?_) fun _ _ z => z)
    obtain ⟨z, H', I', rz, n, ez, hn, q⟩ := q
    subst ez
    obtain ⟨t, rfl⟩ := rz
    exact ⟨hn, .int n, H', I'.tok _, ⟨_, rfl⟩, q⟩
theorem ZpW {c : Str} {F : Fn} (h : MethM X.prog X.w X.K X.mg X.base c "__len__" k 1 F) (hr : Room (k + 1) X.A) : CallM X (.builtin "len") (Z5x c F) := by
  obtain ⟨C, f, fd, ps, hm, hC, hM, hb, hf⟩ := h
  refine ⟨_, ZnK hM hf hb hr, fun m bs st H xs xs' Q W R rx h => ?_⟩
  unfold Z5x at h
  split at h
  · rename_i x
    split at h
    · rename_i p e
      simp only [RVs] at rx
      obtain ⟨v, r, ex, rv, er⟩ := rx
      subst er
      obtain ⟨a, C', dx, gs, ev, h1, h2⟩ := Zgd R e rv
      have : C' = C := by
        have h1' : X.mg c = some (.ref C') := h1
        rw [hm] at h1'; cases h1'; rfl
      subst this
      subst ev
      refine ⟨a, dx, gs, ex, h2, rfl, m, bs, st, [x], R, ?_, ?_⟩
      · simp only [RVs]
        exact ⟨_, [], rfl, rv, rfl⟩
      · refine Z3x (W := W) (h.bind.mono fun v m1 st1 H1 g1 R1 h1 u ru => ?_)
        cases v with
        | int n =>
          simp only [RV] at ru
          simp only at h1
          split at h1
          · rename_i c
            exact ⟨n, ru, by have : (2 : Int) ^ 63 = 9223372036854775808 := by decide
                             omega, h1.v R1 (by simp only [RV])⟩
          · exact h1.elim
        | _ => exact h1.elim
    · exact h.elim
  · exact h.elim
end
end Mi
namespace Mi
open PySem PySem.Spec PyProof.Rows L2
section
variable {X : Cx} {pins : List (Addr × Obj)} {σ : L2.St} {H : Hp} {s : Shared} {Q : VK} {k n : Nat} {f C : Addr} {fd : FuncData} {ps : List Str} {sp : Sp} {A : Around}
def Zi7 (K : PySem.W.Frag) (C : Addr) (H : Hp) (y : V) : Prop := (∃ a dx fs, y = .ref a ∧ H a = some (.ins C dx fs)) ∨ ∃ T, TyX K H y (.type T) ∧ PySem.W.notFirst K C (.type T) = true
def Zpz (neg : Bool) (K : PySem.W.Frag) (C : Addr) (sp : Sp) : R2 := fun x y H Q => ∃ a dx fs, x = .ref a ∧ H a = some (.ins C dx fs) ∧ Zi7 K C H y ∧ sp [x, y] H (fun v H' => ∃ b, v = .bl b ∧ Q (.bl (neg != b)) H') (fun _ _ _ => False)
theorem Zmn {y : V} {u : Value} (I : Inv X pins σ H s) (h : Zi7 X.K C H y) (ry : RelV y u) : ∃ tb, PySem.W.Looks (model X.prog X.w) s.heap (typeOf u) tb ∧ PySem.W.notFirst X.K C tb = true := by
  rcases h with ⟨a, dx, fs, rfl, ha⟩ | ⟨T, ty, hn⟩
  · cases ry
    obtain ⟨mA, J, _⟩ := ins_get I.hok ha
    obtain ⟨od, J, _⟩ := J.look
    exact ⟨_, J.type, by simp [PySem.W.notFirst]⟩
  · obtain ⟨P, Z, p, _⟩ := kit_of I ry ty
    exact ⟨_, Z.ty _ _ I.kIn p, hn⟩
theorem ZtS (M : Meth X.K C "__eq__" f) (F : FnOk X.prog X.w X.K X.mg X.base (L2.CX X.prog X.w) k f fd ps sp) (hb : Binds X.K fd ps []) (hr : Room k X.A) : OpR X (compareOp .Eq) (Zpz false X.K C sp) := by
  intro pins s σ H x y v u Q I rx ry hq
  obtain ⟨a, dx, fs, rfl, ha, hR, hs⟩ := hq
  cases rx
  obtain ⟨mA, J, _⟩ := ins_get I.hok ha
  obtain ⟨od, J, _⟩ := J.look
  obtain ⟨m, hF⟩ := I.fr
  obtain ⟨tb, ht, hn⟩ := Zmn I hR ry
  have run := ZhN F hb ⟨hr, rfl⟩ I (us := [.ref a, u]) (vs := [.ref a, y]) (.cons rfl (.cons ry .nil)) hs
  show wpAny (model X.prog X.w) X.A (richCompare .Eq (.ref a) u) (EP X pins σ Q) X.xe s
  refine PySem.W.cmp_K (op := .Eq) hr.units0 hF I.ok.mod.kin J ht hn M.at_ M.fn (wpAny_mono run (fun r s' q => ?_) fun _ _ z => z)
  obtain ⟨z, H', I', rz, b, ez, q⟩ := q
  subst ez
  cases rz
  exact ⟨.bl b, H', I', rfl, by simpa using q⟩
def EqM (P : Program) (w : World) (K : PySem.W.Frag) (mg : Str → Option Value) (base : Heap) (c : Str) (k : Nat) (F : Fn) : Prop :=
  MethM P w K mg base c "__eq__" k 2 F ∧ ∀ C, mg c = some (.ref C) → PySem.W.findIn K (.ref C) "__ne__" = some (some (.builtin "object.__ne__")) ∧ PySem.W.mroIn K C (.type "object") = some true ∧ ∀ T ∈ Z3w, PySem.W.notFirst K C (.type T) = true
def Z58 (neg : Bool) (c : Str) (F : Fn) : IV → IV → Sto → R IV := fun x y st => match insAt st [c] x with
  | some _ => if (insAt st [c] y).isSome = true ∨ (Zx st y).isSome = true then (quiet (F [x, y] st)).bind (bl1 neg) else .bad
  | none => .bad
theorem ZrO {m bs : List Addr} {st : Sto} {c : Str} {y : IV} {y' : V} (R : Rel (gd X) m bs st H) (hm : X.mg c = some (.ref C)) (hn : ∀ T ∈ Z3w, PySem.W.notFirst X.K C (.type T) = true) (ry : RV (gd X) m bs st H y y') (h : (insAt st [c] y).isSome = true ∨ (Zx st y).isSome = true) : Zi7 X.K C H y' := by
  rcases h with h | h
  · obtain ⟨p, e⟩ := Option.isSome_iff_exists.mp h
    obtain ⟨a, C', dx, gs, ev, h1, h2⟩ := Zgd R e ry
    have : C' = C := by
        have h1' : X.mg c = some (.ref C') := h1
        rw [hm] at h1'; cases h1'; rfl
    subst this
    exact .inl ⟨a, dx, gs, ev, h2⟩
  · obtain ⟨t, e⟩ := Option.isSome_iff_exists.mp h
    obtain ⟨tx, ht⟩ := Zfg R e ry
    exact .inr ⟨t, tx, hn t ht⟩
theorem Zoo {c : Str} {F : Fn} {neg : Bool} {op : CmpOp} (hm : X.mg c = some (.ref C)) (hn : ∀ T ∈ Z3w, PySem.W.notFirst X.K C (.type T) = true) (ho : OpR X (compareOp op) (Zpz neg X.K C (spOf ⟨X.K, X.mg, X.prog, X.w⟩ 2 F))) : OpM X (compareOp op) (Z58 neg c F) := by
  refine ⟨_, ho, fun m bs st H x y x' y' Q W R rx ry h => ?_⟩
  unfold Z58 at h
  split at h
  · rename_i p e
    split at h
    · rename_i hR
      obtain ⟨a, C', dx, gs, ev, h1, h2⟩ := Zgd R e rx
      have : C' = C := by
        have h1' : X.mg c = some (.ref C') := h1
        rw [hm] at h1'; cases h1'; rfl
      subst this
      refine ⟨a, dx, gs, ev, h2, ZrO R hm hn ry hR, rfl, m, bs, st, [x, y], R, ?_, ?_⟩
      · simp only [RVs]
        exact ⟨x', [y'], rfl, rx, y', [], rfl, ry, rfl⟩
      · refine Z3x (W := W) (h.bind.mono fun v m1 st1 H1 g1 R1 h1 u ru => ?_)
        cases v with
        | bl b =>
          simp only [RV] at ru
          exact ⟨b, ru, h1.v R1 (by simp only [RV])⟩
        | _ => exact h1.elim
    · exact h.elim
  · exact h.elim
theorem ZpY {c : Str} {F : Fn} (h : EqM X.prog X.w X.K X.mg X.base c k F) (hr : Room k X.A) : OpM X (compareOp .Eq) (Z58 false c F) := by
  obtain ⟨⟨C, f, fd, ps, hm, hC, hM, hb, hf⟩, h2⟩ := h
  exact Zoo hm (h2 C hm).2.2 (ZtS hM hf hb hr)
end
end Mi
namespace Mi
open PySem PySem.Spec PyProof.Rows L2
section
variable {X : Cx} {W : WX} {xa : Xa} {a b c e o : Expr} {A B C : IE} {pos p apos : Pos} {es : List Expr} {As : IA}
def IsM (K : PySem.W.Frag) (mg : Str → Option Value) (c : Str) (L : List (Str × Bool)) : Prop :=
  ∃ C, mg c = some (.ref C) ∧ (∀ T ∈ Z3w, PySem.W.kitOne K (.type T) (.ref C) = some false) ∧
    ∀ c' b, L.lookup c' = some b → ∀ C', mg c' = some (.ref C') → (∀ (H : Hp) (a dx : Addr) (fs : List (Str × V)), H a = some (.ins C' dx fs) → TyX K H (.ref a) (.ref C')) ∧ PySem.W.kitOne K (.ref C') (.ref C) = some b
def clsOf (st : Sto) : IV → Option Str
  | .ref l => match st[l]? with | some (.ins c _) => some c | _ => none
  | _ => none
def iIsC (L : List (Str × Bool)) (A : IE) : IE := fun ρ st => (A ρ st).bind fun x st => match Zx st x with
  | some _ => .ok (.bl false) st
  | none => match (clsOf st x).bind fun c => L.lookup c with
    | some b => .ok (.bl b) st
    | none => .bad
theorem Zv3 {c : Str} {L : List (Str × Bool)} {p2 : Pos} (h : IsM X.K X.mg c L) (hg : Gl X "isinstance") (hm : X.mg "isinstance" = none) (hgc : Gl X c) (ha : ME X W xa a A)
    (hdc : (c == ("__debug__" : Str)) = false := by decide) (he : starEach [a, .Name c p2] X.env = (false, eval a X.env) :: starEach [.Name c p2] X.env := by rfl) (he2 : starEach [.Name c p2] X.env = (false, eval (.Name c p2) X.env) :: starEach [] X.env := by rfl) (hpl : (backTo pos (starEach [.Name c p2] X.env)).any (·.1) = false := by rfl) :
    ME X W xa (.Call (.Name "isinstance" p) [a, .Name c p2] [] pos) (iIsC L A) := by
  obtain ⟨C, hC, hT, hL⟩ := h
  refine PE.weak (pe_callB call_isi hg hm (by rfl) (pa_cons ha (pa_cons (pe_glob hgc hC (v := .ref C) rfl hdc) pa_nil he2) he) (by decide) (by decide) he hpl) fun σ H Q h => ?_
  obtain ⟨m, os, rs, ρ, st, P, h⟩ := h
  refine ⟨m, os, rs, ρ, st, P, h.bind.mono fun x m1 st1 H1 g1 R1 h1 u ru => ?_⟩
  split at h1
  · rename_i t e
    obtain ⟨tx, ht⟩ := Zfg R1 e ru
    exact ⟨u, .ref C, _, _, false, rfl, .own C, tx, hT t ht, h1.v R1 (by simp only [RV])⟩
  · split at h1
    · rename_i b e
      rw [Option.bind_eq_some_iff] at e
      obtain ⟨c', e1, e2⟩ := e
      cases x with
      | ref l =>
        simp only [clsOf] at e1
        split at e1
        · rename_i cc fs e3
          cases e1
          simp only [RV] at ru
          obtain ⟨aa, ea, hl⟩ := ru
          obtain ⟨C', dx, gs, h2, h3, _⟩ := R1.obj l _ aa e3 hl
          obtain ⟨q1, q2⟩ := hL _ _ e2 C' h2
          subst ea
          exact ⟨_, .ref C, _, _, b, rfl, .own C, q1 H1 aa dx gs h3, q2, h1.v R1 (by simp only [RV])⟩
        · cases e1
      | _ => cases e1
    · exact h1.elim
end
end Mi
namespace Mi
open PySem PySem.Spec PyProof.Rows L2
theorem ZiY {P : String → Prop} (h1 : P "NoneType") (h2 : P "bool") (h3 : P "int") (h4 : P "str") (h5 : P "tuple") (h6 : P "list") (h7 : P "dict") : ∀ T ∈ Z3w, P T := by
  intro T hT
  simp only [Z3w, List.mem_cons, List.not_mem_nil, or_false] at hT
  rcases hT with rfl | rfl | rfl | rfl | rfl | rfl | rfl <;> assumption
section
variable {K : PySem.W.Frag} {mg : Str → Option Value} {C : Addr} {T : String}
theorem Z1G (h : PySem.W.subIn K (.type T) (.ref C) = some false) : PySem.W.notFirst K C (.type T) = true := by
  unfold PySem.W.notFirst
  rw [h]; simp
theorem Z52 (h1 : PySem.W.isClsIn K C = true) (h2 : PySem.W.typeIn K (.ref C) = some (.type "type")) (h : PySem.W.subIn K (.type T) (.ref C) = some false) : PySem.W.kitOne K (.type T) (.ref C) = some false := by
  have e2 : ((PySem.W.clsIn K C).isSome && PySem.W.typeIn K (.ref C) == some (.type "type")) = true := by
    have h1' : (PySem.W.clsIn K C).isSome = true := h1
    rw [h1', h2] <;> rfl
  unfold PySem.W.kitOne
  rw [if_neg (by simp)]
  show (if ((PySem.W.clsIn K C).isSome && PySem.W.typeIn K (.ref C) == some (.type "type")) = true then PySem.W.subIn K (.type T) (.ref C) else none) = some false
  rw [if_pos e2]; exact h
theorem Zt1 {c : Str} (hm : mg c = some (.ref C)) (cl : Cls K C) (ha : PySem.W.findIn K (.ref C) "__class__" = some (some (.builtin "object.__class__")))
    (hn : PySem.W.specialIn K (.builtin "object.__class__") "__get__" = some (some (.builtin "getset_descriptor.__get__"))) (htk : PySem.W.takesIn K (.builtin "object.__class__") = some true)
    (ho : PySem.W.mroIn K C (.type "object") = some true) (hT : ∀ T ∈ Z3w, PySem.W.kitOne K (.type T) (.ref C) = some false) : IsM K mg c [(c, true)] := by
  refine ⟨C, hm, hT, fun c' b e C' hC => ?_⟩
  have hc : c' = c ∧ b = true := by
    simp only [List.lookup] at e
    split at e
    · rename_i z
      exact ⟨by simpa using z, by cases e; rfl⟩
    · cases e
  obtain ⟨rfl, rfl⟩ := hc
  rw [hm] at hC
  cases hC
  exact ⟨fun H a dx fs h => .base (.ins h cl ha hn htk ho), by unfold PySem.W.kitOne; rw [if_pos (by simp)]⟩
end
end Mi
namespace Mi
open PySem PySem.Spec PyProof.Rows L2
def R.wp {α : Type} (r : R α) (P : α → Sto → Prop) (E : Str → List (Str × IV) → Sto → Prop) : Prop := match r with
  | .ok a st => P a st
  | .exc c fs st => E c fs st
  | .bad => False
abbrev nE : Str → List (Str × IV) → Sto → Prop := fun _ _ _ => False
structure Post where
  nx : Slots → Sto → Prop
  rt : IV → Sto → Prop
  bk : Slots → Sto → Prop
  ct : Slots → Sto → Prop
  ex : Str → List (Str × IV) → Slots → Sto → Prop
def RS.wp (r : RS) (D : Post) : Prop := match r with
  | .nx ρ st => D.nx ρ st
  | .rt v st => D.rt v st
  | .bk ρ st => D.bk ρ st
  | .ct ρ st => D.ct ρ st
  | .exc c fs ρ st => D.ex c fs ρ st
  | .bad => False
theorem nr {α : Sort _} {a b : α} (h : a = b) : a = b := h
inductive Tg {α : Type} (a : α) : Type where
  | mk
def R.wq {α : Type} (r : R α) (P : α → Sto → Prop) (E : Str → List (Str × IV) → Sto → Prop) (t : Tg (P, E)) : Prop := r.wp P E
def RS.wq (r : RS) (D : Post) (t : Tg D) : Prop := r.wp D
section
variable {α β : Type} {P : α → Sto → Prop} {E : Str → List (Str × IV) → Sto → Prop} {D : Post} {st : Sto} {ρ : Slots}
theorem wpo {a : α} : (R.ok a st).wp P E = P a st := rfl
theorem wpb {r : R α} {k : α → Sto → R β} {P : β → Sto → Prop} : (r.bind k).wp P E = r.wp (fun a st => (k a st).wp P E) E := by cases r <;> rfl
@[simp ↓] theorem wp_q {r : R α} : r.wp P E = r.wq P E .mk := nr rfl
@[simp ↓] theorem wps_q {r : RS} : r.wp D = r.wq D .mk := nr rfl
@[simp] theorem wp_ok {a : α} : (R.ok a st).wq P E .mk = P a st := nr rfl
@[simp] theorem Zyv {c : Str} {fs : List (Str × IV)} : (R.exc c fs st : R α).wq P E .mk = E c fs st := nr rfl
@[simp] theorem Zyz : (R.bad : R α).wq P E .mk = False := nr rfl
@[simp] theorem Zyg {r : R α} {k : α → Sto → R β} {P : β → Sto → Prop} : (r.bind k).wq P E .mk = r.wp (fun a st => (k a st).wp P E) E := by cases r <;> rfl
theorem Zbx {r : R α} {P P' : α → Sto → Prop} (h : r.wp P E) (k : ∀ a st, P a st → P' a st) : r.wp P' E := by cases r <;> first | exact k _ _ h | exact h
@[simp] theorem Zyw : (RS.nx ρ st).wq D .mk = D.nx ρ st := nr rfl
@[simp] theorem Zyn {v : IV} : (RS.rt v st).wq D .mk = D.rt v st := nr rfl
@[simp] theorem ZyC : (RS.bk ρ st).wq D .mk = D.bk ρ st := nr rfl
@[simp] theorem Zyp : (RS.ct ρ st).wq D .mk = D.ct ρ st := nr rfl
@[simp] theorem ZxS {c : Str} {fs : List (Str × IV)} : (RS.exc c fs ρ st).wq D .mk = D.ex c fs ρ st := nr rfl
@[simp] theorem Zyb : RS.bad.wq D .mk = False := nr rfl
@[simp] theorem Znp {r : RS} {J : IS} : (r.seq J).wq D .mk = r.wp { D with nx := fun ρ st => (J ρ st).wp D } := by cases r <;> rfl
@[simp] theorem Z3h {r : R α} {k : α → Sto → RS} : (RS.ofR r ρ k).wq D .mk = r.wp (fun a st => (k a st).wp D) (fun c fs st => D.ex c fs ρ st) := by cases r <;> rfl
@[simp] theorem ZxE {I J : IS} : (iSeq I J ρ st).wq D .mk = (I ρ st).wp { D with nx := fun ρ st => (J ρ st).wp D } := by unfold iSeq; exact Znp
@[simp] theorem ZwQ : (iSkip ρ st).wq D .mk = D.nx ρ st := nr rfl
@[simp] theorem Zxc {A : IE} : (iRet A ρ st).wq D .mk = (A ρ st).wp D.rt (fun c fs st => D.ex c fs ρ st) := by unfold iRet; exact Z3h
@[simp] theorem ZwY {A : IE} : (iDrop A ρ st).wq D .mk = (A ρ st).wp (fun _ st => D.nx ρ st) (fun c fs st => D.ex c fs ρ st) := by unfold iDrop; exact Z3h
@[simp] theorem Zxp {i : Nat} {A : IE} : (iSet i A ρ st).wq D .mk = (A ρ st).wp (fun v st => D.nx (ρ.set i (some (.v v))) st) (fun c fs st => D.ex c fs ρ st) := by unfold iSet; exact Z3h
@[simp] theorem Zxm {S : IT} {I J : IS} : (iIfS S I J ρ st).wq D .mk = (S ρ st).wp (fun b st => if b = true then (I ρ st).wp D else (J ρ st).wp D) (fun c fs st => D.ex c fs ρ st) := by
  unfold iIfS; rw [Z3h]; congr 1; funext b st; cases b <;> rfl
@[simp] theorem ZxD {A : IE} {T : ITg} : (iAsg A T ρ st).wq D .mk = (A ρ st).wp (fun v st => (T v ρ st).wp D) (fun c fs st => D.ex c fs ρ st) := by unfold iAsg; exact Z3h
@[simp] theorem ZnC {i : Nat} {x : IV} : (Zf i x ρ st).wq D .mk = D.nx (ρ.set i (some (.v x))) st := nr rfl
@[simp] theorem Zx0 : (tgNil [] ρ st).wq D .mk = D.nx ρ st := nr rfl
@[simp] theorem ZwB {T : ITg} {Ts : ITgs} {x : IV} {r : List IV} : (Zo T Ts (x :: r) ρ st).wq D .mk = (T x ρ st).wp { D with nx := fun ρ st => (Ts r ρ st).wp D } := by
  show ((T x ρ st).seq (Ts r)).wp D = _; exact Znp
@[simp] theorem ZwS {n : Nat} {Ts : ITgs} {xs : List IV} : (tgTup n Ts (.tup xs) ρ st).wq D .mk = if xs.length = n then (Ts xs ρ st).wp D else False := by
  show (if xs.length = n then Ts xs ρ st else .bad).wp D = _; split <;> rfl
@[simp] theorem Zx1 {i j : Nat} {As : IA} : (iPar2 i j As ρ st).wq D .mk = (As ρ st).wp (fun xs st => match xs with | [x, y] => D.nx ((ρ.set i (some (.v x))).set j (some (.v y))) st | _ => False) (fun c fs st => D.ex c fs ρ st) := by
  unfold iPar2; rw [Z3h]; congr 1; funext xs st
  match xs with
  | [] => rfl
  | [_] => rfl
  | [_, _] => rfl
  | _ :: _ :: _ :: _ => rfl
@[simp] theorem Zyj {k : Nat} {B : IS} {args : List IV} {P : IV → Sto → Prop} : (fnOf k B args st).wq P E .mk = (B (args.map (fun x => some (.v x)) ++ List.replicate k none) st).wp ⟨fun _ st => P .non st, P, fun _ _ => False, fun _ _ => False, fun c fs _ st => E c fs st⟩ := by
  unfold fnOf
  cases B (args.map (fun x => some (.v x)) ++ List.replicate k none) st <;> rfl
theorem of_wp {r : R IV} {Q : IV → Prop} (h : r.wp (fun v _ => Q v) nE) : ∃ v st', r = .ok v st' ∧ Q v := by
  cases r with
  | ok a st => exact ⟨a, st, rfl, h⟩
  | exc c fs st => exact h.elim
  | bad => exact h.elim
@[simp] theorem ev_C {x : IV} : iC x ρ st = .ok x st := nr rfl
@[simp] theorem Zyq : iNil ρ st = .ok [] st := nr rfl
@[simp] theorem Zyc {i : Nat} {P : IV → Sto → Prop} : (iVar i ρ st).wq P E .mk = match ρ[i]? with | some (some (.v x)) => P x st | _ => False := by
  unfold iVar
  cases ρ[i]? with
  | none => rfl
  | some o => cases o with
    | none => rfl
    | some s => cases s <;> rfl
@[simp] theorem Zyi {g : IV → IV → Sto → R IV} {A B : IE} {P : IV → Sto → Prop} : (iBin g A B ρ st).wq P E .mk = (A ρ st).wp (fun x st => (B ρ st).wp (fun y st => (g x y st).wp P E) E) E := by unfold iBin; simp only [R.wq, wpb, wpo]
@[simp] theorem Zyk {A B : IE} {P : IV → Sto → Prop} : (iIx A B ρ st).wq P E .mk = (A ρ st).wp (fun x st => (B ρ st).wp (fun y st => (gIx x y st).wp P E) E) E := by unfold iIx; simp only [R.wq, wpb, wpo]
@[simp] theorem Zxe {A : IE} {P : Bool → Sto → Prop} : (iTest A ρ st).wq P E .mk = (A ρ st).wp (fun x st => (asB x st).wp P E) E := by unfold iTest; simp only [R.wq, wpb, wpo]
@[simp] theorem ZxI {A : IE} {P : IV → Sto → Prop} : (iNeg A ρ st).wq P E .mk = (A ρ st).wp (fun x st => match x with | .int i => P (.int (-i)) st | _ => False) E := by
  unfold iNeg; simp only [R.wq, wpb, wpo]; congr 1; funext x st; cases x <;> rfl
@[simp] theorem Zyu {b : Bool} {P : Bool → Sto → Prop} : (asB (.bl b) st).wq P E .mk = P b st := nr rfl
@[simp] theorem Zxl {A : IE} {As : IA} {P : List IV → Sto → Prop} : (iCons A As ρ st).wq P E .mk = (A ρ st).wp (fun x st => (As ρ st).wp (fun xs st => P (x :: xs) st) E) E := by unfold iCons; simp only [R.wq, wpb, wpo]
@[simp] theorem ZwO {g : List IV → Sto → R IV} {As : IA} {P : IV → Sto → Prop} : (Ze g As ρ st).wq P E .mk = (As ρ st).wp (fun xs st => (g xs st).wp P E) E := by unfold Ze; simp only [R.wq, wpb, wpo]
@[simp] theorem Zxd {F : Fn} {As : IA} {P : IV → Sto → Prop} : (iCall F As ρ st).wq P E .mk = (As ρ st).wp (fun xs st => (F xs st).wp P E) E := by unfold iCall; simp only [R.wq, wpb, wpo]
@[simp] theorem Zym {S : IT} {A B : IE} {P : IV → Sto → Prop} : (iIf S A B ρ st).wq P E .mk = (S ρ st).wp (fun b st => if b = true then (A ρ st).wp P E else (B ρ st).wp P E) E := by
  unfold iIf; simp only [R.wq, wpb, wpo]; congr 1; funext b st; cases b <;> rfl
@[simp] theorem ZxL {As : IA} {P : IV → Sto → Prop} : (iTup As ρ st).wq P E .mk = (As ρ st).wp (fun xs st => xs.length ≤ 100000 ∧ P (.tup xs) st) E := by
  unfold iTup; simp only [R.wq, wpb, wpo]; congr 1; funext xs st; split <;> simp [*]
@[simp] theorem Zy4 {As : IA} {P : IV → Sto → Prop} : (iLst As ρ st).wq P E .mk = (As ρ st).wp (fun xs st => xs.length ≤ 100000 ∧ P (.lst xs) st) E := by
  unfold iLst; simp only [R.wq, wpb, wpo]; congr 1; funext xs st; split <;> simp [*]
@[simp] theorem Zxg {As : IA} {P : IV → Sto → Prop} : (iLstS As ρ st).wq P E .mk = (As ρ st).wp (fun xs st => xs.length ≤ 100000 ∧ P (.ref st.length) (st ++ [.lst xs])) E := by
  unfold iLstS; simp only [R.wq, wpb, wpo]; congr 1; funext xs st; split <;> simp [*]
@[simp] theorem ZxO {As : IA} {P : List IV → Sto → Prop} : (iFew As ρ st).wq P E .mk = (As ρ st).wp (fun xs st => xs.length ≤ 100000 ∧ P xs st) E := by
  unfold iFew; simp only [R.wq, wpb, wpo]; congr 1; funext xs st; split <;> simp [*]
@[simp] theorem wp_iF {As : IA} {P : IV → Sto → Prop} : (iF As ρ st).wq P E .mk = (As ρ st).wp (fun xs st => P (.lst xs) st) E := by unfold iF; simp only [R.wq, wpb, wpo]
@[simp] theorem Zyy {As : IA} {P : IV → Sto → Prop} : (iFS As ρ st).wq P E .mk = (As ρ st).wp (fun xs st => P (.ref st.length) (st ++ [.lst xs])) E := by unfold iFS; simp only [R.wq, wpb, wpo]
@[simp] theorem Zy6 {S T : IT} {P : Bool → Sto → Prop} : (iAnd S T ρ st).wq P E .mk = (S ρ st).wp (fun b st => if b = true then (T ρ st).wp P E else P false st) E := by
  unfold iAnd; simp only [R.wq, wpb, wpo]; congr 1; funext b st; cases b <;> rfl
@[simp] theorem ZyF {S T : IT} {P : Bool → Sto → Prop} : (iOr S T ρ st).wq P E .mk = (S ρ st).wp (fun b st => if b = true then P true st else (T ρ st).wp P E) E := by
  unfold iOr; simp only [R.wq, wpb, wpo]; congr 1; funext b st; cases b <;> rfl
@[simp] theorem ZxJ {S : IT} {P : Bool → Sto → Prop} : (iNot S ρ st).wq P E .mk = (S ρ st).wp (fun b st => P (!b) st) E := by unfold iNot; simp only [R.wq, wpb, wpo]
@[simp] theorem ZxG {A B : IE} {P : IV → Sto → Prop} : (iAndV A B ρ st).wq P E .mk = (A ρ st).wp (fun x st => (asB x st).wp (fun b st => if b = true then (B ρ st).wp P E else P (.bl false) st) E) E := by
  unfold iAndV; simp only [R.wq, wpb, wpo]; congr 1; funext x st; congr 1; funext b st; cases b <;> rfl
@[simp] theorem Zx9 {A : IE} {P : IV → Sto → Prop} : (iNotV A ρ st).wq P E .mk = (A ρ st).wp (fun x st => (asB x st).wp (fun b st => P (.bl (!b)) st) E) E := by unfold iNotV; simp only [R.wq, wpb, wpo]
@[simp] theorem ZwR {g g' : IV → IV → Sto → R IV} {A B C : IE} {P : IV → Sto → Prop} : (Z3v g g' A B C ρ st).wq P E .mk = (A ρ st).wp (fun x st => (B ρ st).wp (fun y st => (g x y st).wp (fun z st => (asB z st).wp (fun k st => if k = true then (C ρ st).wp (fun c st => (g' y c st).wp P E) E else P (.bl false) st) E) E) E) E := by
  unfold Z3v; simp only [R.wq, wpb, wpo]; congr 1; funext x st; congr 1; funext y st; congr 1; funext z st; congr 1; funext k st; cases k <;> simp only [Bool.false_eq_true, if_false, if_true, wpb, wpo]
@[simp] theorem Zy1 {A : IE} {L U : IO'} {P : IV → Sto → Prop} : (iCut A L U ρ st).wq P E .mk = (A ρ st).wp (fun x st => (L ρ st).wp (fun lo st => (U ρ st).wp (fun hi st => (gCut x lo hi st).wp P E) E) E) E := by unfold iCut; simp only [R.wq, wpb, wpo]
@[simp] theorem Zx5 {A : IE} {P : Option Int → Sto → Prop} : (iPart A ρ st).wq P E .mk = (A ρ st).wp (fun x st => match x with | .int i => P (some i) st | _ => False) E := by
  unfold iPart; simp only [R.wq, wpb, wpo]; congr 1; funext x st; cases x <;> rfl
@[simp] theorem ZxP {g : IV → List IV → Sto → R IV} {A : IE} {As : IA} {P : IV → Sto → Prop} : (iMtd g A As ρ st).wq P E .mk = (A ρ st).wp (fun x st => if isLst st x = true then (As ρ st).wp (fun xs st => (g x xs st).wp P E) E else False) E := by
  unfold iMtd; simp only [R.wq, wpb, wpo]; congr 1; funext x st; split <;> simp
@[simp] theorem Zxk {A : IE} {P : List IV × GI → Sto → Prop} : (iOver A ρ st).wq P E .mk = (A ρ st).wp (fun x st => match Z27 st x with | some p => P p st | none => False) E := by
  unfold iOver; simp only [R.wq, wpb, wpo]; congr 1; funext x st; cases Z27 st x <;> rfl
@[simp] theorem ZxT {g : List IV → Sto → R (List IV × GI)} {As : IA} {P : List IV × GI → Sto → Prop} : (iRng g As ρ st).wq P E .mk = (As ρ st).wp (fun xs st => (g xs st).wp P E) E := by unfold iRng; simp only [R.wq, wpb, wpo]
@[simp] theorem Zxr {I : IIt} {T : ITg} {B : IS} : (iFor I T B ρ st).wq D .mk = (I ρ st).wp (fun p st => (forL p.2 p.1 T B p.1 ρ st).wp D) (fun c fs st => D.ex c fs ρ st) := by unfold iFor; exact Z3h
@[simp] theorem Zxf {n : Nat} {F : Fn} {args : List IV} {P : IV → Sto → Prop} : (arity n F args st).wq P E .mk = if args.length = n then (F args st).wp P E else False := by unfold arity; split <;> rfl
@[simp] theorem Zxz {i j : Int} : gAdd (.int i) (.int j) st = .ok (.int (i + j)) st := nr rfl
@[simp] theorem Zx8 {i j : Int} {P : IV → Sto → Prop} : (gMul (.int i) (.int j) st).wq P E .mk = ((i.natAbs < 18446744073709551616 ∨ j.natAbs < 18446744073709551616) ∧ P (.int (i * j)) st) := by
  show (if _ then R.ok _ _ else .bad : R IV).wp P E = _
  split <;> simp [*]
@[simp] theorem Zxh {i j : Int} {P : IV → Sto → Prop} : (gDiv (.int i) (.int j) st).wq P E .mk = ((0 < j ∧ j ≤ 10000000000000000000000000000000000000000) ∧ P (.int (i / j)) st) := by
  show (if _ then R.ok _ _ else .bad : R IV).wp P E = _
  split <;> simp [*]
@[simp] theorem Zxt {i j : Int} {P : IV → Sto → Prop} : (gMod (.int i) (.int j) st).wq P E .mk = (0 < j ∧ P (.int (i % j)) st) := by
  show (if _ then R.ok _ _ else .bad : R IV).wp P E = _
  split <;> simp [*]
@[simp] theorem Zxx {i j : Int} {P : IV → Sto → Prop} : (gPow (.int i) (.int j) st).wq P E .mk = ((0 ≤ j ∧ j ≤ 1000000 ∧ i.natAbs < 18446744073709551616) ∧ P (.int (i ^ j.toNat)) st) := by
  show (if _ then R.ok _ _ else .bad : R IV).wp P E = _
  split <;> simp [*]
@[simp] theorem Zx7 {p : Int → Int → Bool} {i j : Int} : gRel p (.int i) (.int j) st = .ok (.bl (p i j)) st := nr rfl
@[simp] theorem Zxs {x y : Str} {P : IV → Sto → Prop} : (gAdd (.str x) (.str y) st).wq P E .mk = (x.length + y.length ≤ 100000 ∧ P (.str (x ++ y)) st) := by
  show (if _ then R.ok _ _ else .bad : R IV).wp P E = _
  split <;> simp [*]
@[simp] theorem Zxj {x y : List IV} {P : IV → Sto → Prop} : (gAdd (.tup x) (.tup y) st).wq P E .mk = (x.length + y.length ≤ 100000 ∧ P (.tup (x ++ y)) st) := by
  show (if _ then R.ok _ _ else .bad : R IV).wp P E = _
  split <;> simp [*]
@[simp] theorem Zy9 {i j : Int} : gEq (.int i) (.int j) st = .ok (.bl (decide (i = j))) st := nr rfl
@[simp] theorem Zy7 {i j : Int} : gNe (.int i) (.int j) st = .ok (.bl (!decide (i = j))) st := nr rfl
@[simp] theorem Zya {i j : Str} : gEq (.str i) (.str j) st = .ok (.bl (decide (i = j))) st := nr rfl
@[simp] theorem ZxZ {i j : Str} : gNe (.str i) (.str j) st = .ok (.bl (!decide (i = j))) st := nr rfl
@[simp] theorem op_isN {b : Bool} {x : IV} : gIsN b x .non st = .ok (.bl (b != isNon x)) st := nr rfl
@[simp] theorem Zyo {i : Int} : gAbs [.int i] st = .ok (.int i.natAbs) st := nr rfl
@[simp] theorem ZyB {i j : Int} : gMax [.int i, .int j] st = .ok (.int (max i j)) st := nr rfl
@[simp] theorem ZyG {i j : Int} : gMin [.int i, .int j] st = .ok (.int (min i j)) st := nr rfl
@[simp] theorem Zyt {i : Int} : gInt [.int i] st = .ok (.int i) st := nr rfl
@[simp] theorem Zxb {xs : List IV} : gLen [.tup xs] st = .ok (.int xs.length) st := nr rfl
@[simp] theorem Zxi {xs : List IV} : gLen [.lst xs] st = .ok (.int xs.length) st := nr rfl
@[simp] theorem ZxC {x : Str} {P : IV → Sto → Prop} : (gLen [.str x] st).wq P E .mk = (x.length ≤ 100000 ∧ P (.int x.length) st) := by
  show (if _ then R.ok _ _ else .bad : R IV).wp P E = _
  split <;> simp [*]
@[simp] theorem Zww {xs : List IV} : Z55 [.lst xs] st = .ok (.tup xs) st := nr rfl
@[simp] theorem Zwq {xs : List IV} : Z55 [.tup xs] st = .ok (.tup xs) st := nr rfl
@[simp] theorem Zx2 {xs : List IV} : gList [.lst xs] st = .ok (.lst xs) st := nr rfl
@[simp] theorem ZwW {xs : List IV} : gList [.tup xs] st = .ok (.lst xs) st := nr rfl
@[simp] theorem rng1 {j : Int} {P : List IV × GI → Sto → Prop} : (gRng1 [.int j] st).wq P E .mk = ((j ≤ 1000000000000000000 ∧ -1000000000000000000 ≤ j) ∧ P (rngI 0 j.toNat, none) st) := by
  show (if _ then R.ok _ _ else .bad : R (List IV × GI)).wp P E = _
  split <;> simp [*]
@[simp] theorem ZxN {xs : List IV} : gEnum [.lst xs] st = .ok (enumI 0 xs, none) st := nr rfl
theorem ZqV {l : Nat} {xs : List IV} (h : st[l]? = some (.lst xs)) : gEnum [.ref l] st = .ok (enumI 0 xs, some (l, xs)) st := by simp [gEnum, h]
@[simp] theorem Zxu {xs : List IV} : gokB none st xs = true := nr rfl
theorem wp_ix {x : IV} {xs : List IV} {i : Int} {P : IV → Sto → Prop} (h : asS st x = some xs) (hx : ∀ z, x ≠ .str z) : (gIx x (.int i) st).wp P E = match atI xs i with | some v => P v st | none => False := by
  cases x with
  | str z => exact absurd rfl (hx z)
  | ref l => simp only [gIx, h]; cases atI xs i <;> rfl
  | tup ys => simp only [gIx, h]; cases atI xs i <;> rfl
  | lst ys => simp only [gIx, h]; cases atI xs i <;> rfl
  | _ => cases h
@[simp] theorem ix_l {xs : List IV} {i : Int} {P : IV → Sto → Prop} : (gIx (.lst xs) (.int i) st).wq P E .mk = match atI xs i with | some v => P v st | none => False := wp_ix rfl (fun _ => by simp)
@[simp] theorem ix_t {xs : List IV} {i : Int} {P : IV → Sto → Prop} : (gIx (.tup xs) (.int i) st).wq P E .mk = match atI xs i with | some v => P v st | none => False := wp_ix rfl (fun _ => by simp)
@[simp] theorem ix_s {x : Str} {i : Int} {P : IV → Sto → Prop} : (gIx (.str x) (.int i) st).wq P E .mk = (x.length ≤ 100000 ∧ match atI x.cps.toList i with | some c => P (.str ⟨#[c]⟩) st | none => False) := by
  show R.wp (if _ then (match atI x.cps.toList i with | some c => .ok (.str ⟨#[c]⟩) st | none => .bad) else .bad : R IV) P E = _
  split
  · rename_i h
    cases atI x.cps.toList i <;> simp [h]
  · rename_i h
    simp [h]
@[simp] theorem Zyd {xs : List IV} : asS st (.lst xs) = some xs := nr rfl
@[simp] theorem ZtD {xs : List IV} : asS st (.tup xs) = some xs := nr rfl
theorem Zis {l : Nat} {xs : List IV} (h : st[l]? = some (.lst xs)) : asS st (.ref l) = some xs := by simp [asS, asL, h]
theorem Z2l {l : Nat} {xs : List IV} {i : Int} {P : IV → Sto → Prop} (h : st[l]? = some (.lst xs)) : (gIx (.ref l) (.int i) st).wq P E .mk = match atI xs i with | some v => P v st | none => False := wp_ix (Zis h) (fun _ => by simp)
theorem ZhU {l : Nat} {xs : List IV} (h : st[l]? = some (.lst xs)) : gLen [.ref l] st = .ok (.int xs.length) st := by
  show (match asS st (.ref l) with | some xs => R.ok (IV.int xs.length) st | none => .bad) = _
  rw [Zis h]
theorem ZrG {l : Nat} {xs : List IV} (h : st[l]? = some (.lst xs)) : gList [.ref l] st = .ok (.lst xs) st := by
  show (match asS st (.ref l) with | some xs => R.ok (IV.lst xs) st | none => .bad) = _
  rw [Zis h]
theorem Z78 {l : Nat} {xs : List IV} {y : IV} (h : st[l]? = some (.lst xs)) (hl : xs.length < 100000) : gApp (.ref l) [y] st = .ok .non (st.set l (.lst (xs ++ [y]))) := by
  simp [gApp, h, hl]
theorem Z4h {l : Nat} {xs : List IV} (h : st[l]? = some (.lst xs)) : isLst st (.ref l) = true := by simp [isLst, h]
theorem Z5Q {l : Nat} {xs : List IV} (h : st[l]? = some (.lst xs)) : Z27 st (.ref l) = some (xs, some (l, xs)) := by simp [Z27, h]
@[simp] theorem ZxM {xs : List IV} : Z27 st (.lst xs) = some (xs, none) := nr rfl
@[simp] theorem Zy8 {xs : List IV} : Z27 st (.tup xs) = some (xs, none) := nr rfl
@[simp] theorem ZxV {x : Str} : Z27 st (.str x) = some (x.cps.toList.map fun c => .str ⟨#[c]⟩, none) := nr rfl
@[simp] theorem Zwy {A B : IE} {x : IV} {D : Post} : (tgSub A B x ρ st).wq D .mk = (A ρ st).wp (fun o st1 => (B ρ st1).wp (fun i st2 => match gSetL o i x st2 with | some st3 => D.nx ρ st3 | none => False) nE) nE := by
  unfold tgSub RS.wq
  cases A ρ st with
  | ok o st1 =>
    simp only [wpo]
    cases B ρ st1 with
    | ok i st2 => simp only [wpo]; cases gSetL o i x st2 <;> rfl
    | _ => rfl
  | _ => rfl
end
theorem Znc {g : GI} {all : List IV} {T : ITg} {B : IS} {D : Post} (Inv : Nat → Slots → Sto → Prop) : ∀ {xs : List IV} {n : Nat} {ρ : Slots} {st : Sto}, Inv n ρ st →
    (∀ i x ρ st, xs[i]? = some x → Inv (n + i) ρ st → gokB g st all = true ∧ (T x ρ st).wp ⟨fun ρ1 st1 => (B ρ1 st1).wp ⟨Inv (n + i + 1), D.rt, D.nx, Inv (n + i + 1), D.ex⟩, fun _ _ => False, fun _ _ => False, fun _ _ => False, fun _ _ _ _ => False⟩) →
    (∀ ρ st, Inv (n + xs.length) ρ st → gokB g st all = true ∧ D.nx ρ st) → (forL g all T B xs ρ st).wp D
  | [], n, ρ, st, h0, _, done => by
    obtain ⟨e, h⟩ := done ρ st h0
    simp only [forL, e, if_true]
    exact h
  | x :: r, n, ρ, st, h0, step, done => by
    obtain ⟨e, h⟩ := step 0 x ρ st rfl h0
    simp only [forL, e, if_true]
    cases q : T x ρ st with
    | nx ρ1 st1 =>
      rw [q] at h
      have h : (B ρ1 st1).wp ⟨Inv (n + 1), D.rt, D.nx, Inv (n + 1), D.ex⟩ := h
      have next : ∀ ρ2 st2, Inv (n + 1) ρ2 st2 → (forL g all T B r ρ2 st2).wp D := fun ρ2 st2 hi =>
        Znc Inv (n := n + 1) hi (fun i x ρ st e hi => by
          have := step (i + 1) x ρ st (by simpa using e) (by rw [show n + (i + 1) = n + 1 + i by omega]; exact hi)
          rw [show n + (i + 1) = n + 1 + i by omega] at this
          exact this) (fun ρ st hi => done ρ st (by rw [List.length_cons, show n + (r.length + 1) = n + 1 + r.length by omega]; exact hi))
      simp only
      cases q2 : B ρ1 st1 with
      | nx ρ2 st2 => rw [q2] at h; exact next _ _ h
      | ct ρ2 st2 => rw [q2] at h; exact next _ _ h
      | bk ρ2 st2 => rw [q2] at h; exact h
      | rt v st2 => rw [q2] at h; exact h
      | exc c fs ρ2 st2 => rw [q2] at h; exact h
      | bad => rw [q2] at h; exact h.elim
    | _ => rw [q] at h; exact h.elim
theorem Z1e {g : GI} {all : List IV} {T : ITg} {B : IS} {D : Post} {xs : List IV} {ρ : Slots} {st : Sto} (Inv : Nat → Slots → Sto → Prop) (h0 : Inv 0 ρ st)
    (step : ∀ i x ρ st, xs[i]? = some x → Inv i ρ st → gokB g st all = true ∧ (T x ρ st).wp ⟨fun ρ1 st1 => (B ρ1 st1).wp ⟨Inv (i + 1), D.rt, D.nx, Inv (i + 1), D.ex⟩, fun _ _ => False, fun _ _ => False, fun _ _ => False, fun _ _ _ _ => False⟩)
    (done : ∀ ρ st, Inv xs.length ρ st → gokB g st all = true ∧ D.nx ρ st) : (forL g all T B xs ρ st).wp D :=
  Znc Inv (n := 0) h0 (fun i x ρ st e h => by rw [Nat.zero_add] at h ⊢; exact step i x ρ st e h) (fun ρ st h => done ρ st (by rw [Nat.zero_add] at h; exact h))
theorem Z3O {lo : Int} {n i : Nat} {x : IV} (h : (rngI lo n)[i]? = some x) : i < n ∧ x = .int (lo + i) := by
  unfold rngI at h
  rw [List.getElem?_map] at h
  cases q : (List.range n)[i]? with
  | none => rw [q] at h; cases h
  | some j =>
    rw [q] at h
    have : i < n := by have := (List.getElem?_eq_some_iff.mp q).1; simpa using this
    rw [List.getElem?_range this] at q
    cases q
    cases h
    exact ⟨this, rfl⟩
theorem Z3L {lo : Int} {n : Nat} : (rngI lo n).length = n := by simp [rngI]
theorem Zls {g : GI} {all : List IV} {vs : List Nat} {T : ITg} {S : IT} {E : IE} {ρ : Slots} {st : Sto} (f : IV → Option IV) (hg : gokB g st all = true) : ∀ {xs : List IV} {n : Nat} {acc : List IV},
    (∀ x ∈ xs, ∃ ρ1, T x (wipeI ρ vs) st = .nx ρ1 st ∧ ((f x = none ∧ S ρ1 st = .ok false st) ∨ ∃ y, f x = some y ∧ S ρ1 st = .ok true st ∧ E ρ1 st = .ok y st)) →
    acc.length + xs.length ≤ 100000 → lcL g all vs T S E ρ xs n acc st = .ok (acc ++ xs.filterMap f) st
  | [], n, acc, _, _ => by simp [lcL, hg]
  | x :: r, n, acc, h, hl => by
    rw [List.length_cons] at hl
    have c : acc.length < 100000 := by omega
    obtain ⟨ρ1, e, k⟩ := h x List.mem_cons_self
    have ih : ∀ n acc, acc.length + r.length ≤ 100000 → lcL g all vs T S E ρ r n acc st = .ok (acc ++ r.filterMap f) st := fun n acc hl => Zls f hg (fun y hy => h y (List.mem_cons_of_mem _ hy)) hl
    rcases k with ⟨k1, k2⟩ | ⟨y, k1, k2, k3⟩
    · simp only [lcL, hg, c, and_self, if_true, e, k2, R.noE, R.bind, List.filterMap_cons, k1, Bool.false_eq_true, if_false]
      exact ih _ _ (by omega)
    · simp only [lcL, hg, c, and_self, if_true, e, k2, k3, R.noE, R.bind, List.filterMap_cons, k1]
      rw [ih _ _ (by rw [List.length_append]; simp only [List.length_cons, List.length_nil]; omega), List.append_assoc]
      rfl
@[simp] theorem Zys {I : IIt} {vs : List Nat} {T : ITg} {S : IT} {A : IE} {ρ : Slots} {st : Sto} {P : List IV → Sto → Prop} {E : Str → List (Str × IV) → Sto → Prop} : (iLc I vs T S A ρ st).wq P E .mk = (I ρ st).wp (fun p st => (lcL p.2 p.1 vs T S A ρ p.1 0 [] st).wp P E) E := by
  unfold iLc; simp only [R.wq, wpb, wpo]
@[simp] theorem Zy0 {I I1 : IIt} {vs vs1 : List Nat} {T T1 : ITg} {S S1 : IT} {A : IE} {ρ : Slots} {st : Sto} {P : List IV → Sto → Prop} {E : Str → List (Str × IV) → Sto → Prop} : (iLc2 I vs T S I1 vs1 T1 S1 A ρ st).wq P E .mk = (I ρ st).wp (fun p st => (lcO p.2 p.1 vs T S I1 vs1 T1 S1 A ρ p.1 [] st).wp P E) E := by
  unfold iLc2; simp only [R.wq, wpb, wpo]
@[simp] theorem Zyf {ρ : Slots} {st : Sto} {P : Bool → Sto → Prop} {E : Str → List (Str × IV) → Sto → Prop} : (iYes ρ st).wq P E .mk = P true st := nr rfl
theorem Z30 {α : Type} {r : R α} {Q : α → Sto → Prop} (h : r.wp Q nE) : ∃ a st, r = .ok a st ∧ Q a st := by
  cases r with
  | ok a st => exact ⟨a, st, rfl, h⟩
  | exc c fs st => exact h.elim
  | bad => exact h.elim
theorem ZoN {g : GI} {all xs acc : List IV} {vs : List Nat} {n : Nat} {T : ITg} {S : IT} {A : IE} {ρ : Slots} {st : Sto} {P : List IV → Sto → Prop} {E : Str → List (Str × IV) → Sto → Prop} (f : IV → Option IV) (hg : gokB g st all = true)
    (h : ∀ x ∈ xs, (T x (wipeI ρ vs) st).wp ⟨fun ρ1 st1 => st1 = st ∧ (S ρ1 st).wp (fun b st2 => st2 = st ∧ (b = false ∧ f x = none ∨ b = true ∧ (A ρ1 st).wp (fun y st3 => st3 = st ∧ f x = some y) nE)) nE, fun _ _ => False, fun _ _ => False, fun _ _ => False, fun _ _ _ _ => False⟩)
    (hl : acc.length + xs.length ≤ 100000) (k : P (acc ++ xs.filterMap f) st) : (lcL g all vs T S A ρ xs n acc st).wp P E := by
  rw [Zls f hg (fun x hx => ?_) hl]
  · exact k
  · have z := h x hx
    cases q : T x (wipeI ρ vs) st with
    | nx ρ1 st1 =>
      rw [q] at z
      obtain ⟨z1, z2⟩ : st1 = st ∧ _ := z
      subst z1
      obtain ⟨b, st2, e, e2, z3⟩ := Z30 z2
      subst e2
      refine ⟨ρ1, rfl, ?_⟩
      rcases z3 with ⟨rfl, z3⟩ | ⟨rfl, z3⟩
      · exact .inl ⟨z3, e⟩
      · obtain ⟨y, st3, e3, e4, z4⟩ := Z30 z3
        subst e4
        exact .inr ⟨y, z4, e, e3⟩
    | _ => rw [q] at z; exact z.elim
end Mi
namespace Mi
open PySem PySem.Spec PyProof.Rows L2
theorem Zmf {α : Type} {xs : List α} {i : Int} (h0 : 0 ≤ i) (h1 : i < xs.length) : ∃ v, atI xs i = some v ∧ xs[i.toNat]? = some v ∧ v ∈ xs := by
  have hl : i.toNat < xs.length := by omega
  refine ⟨xs[i.toNat], ?_, List.getElem?_eq_getElem hl, List.getElem_mem hl⟩
  unfold atI ixN
  rw [if_pos h0, if_pos h1]
  show xs[i.toNat]? = _
  exact List.getElem?_eq_getElem hl
theorem atI_at {α : Type} {xs : List α} {i : Nat} {v : α} (h : xs[i]? = some v) : atI xs (i : Int) = some v := by
  have hl := (List.getElem?_eq_some_iff.mp h).1
  unfold atI ixN
  rw [if_pos (by omega), if_pos (by omega)]
  show xs[(i : Int).toNat]? = _
  rw [Int.toNat_natCast]; exact h
theorem Z4N {α : Type} [DecidableEq α] : ∀ {xs ys : List α}, xs.Nodup → (∀ x ∈ xs, x ∈ ys) → xs.length ≤ ys.length
  | [], ys, _, _ => Nat.zero_le _
  | x :: xs, ys, hn, hs => by
    have hx := hs x List.mem_cons_self
    have ih := Z4N (xs := xs) (ys := ys.erase x) (List.nodup_cons.mp hn).2 fun y hy => by
      have ne : y ≠ x := fun z => (List.nodup_cons.mp hn).1 (z ▸ hy)
      exact (List.mem_erase_of_ne ne).mpr (hs y (List.mem_cons_of_mem _ hy))
    rw [List.length_erase_of_mem hx] at ih
    have : 0 < ys.length := List.length_pos_of_mem hx
    rw [List.length_cons]; omega
def okS (x : Str) : Bool := decide (x.length ≤ 100) && x.cps.toList.all fun c => decide (c < 128)
theorem Zsh {x : Str} (h : okS x = true) : x.length ≤ 100 := of_decide_eq_true (Bool.and_eq_true_iff.mp h).1
theorem ZkW {x : Str} (h : okS x = true) : PyData.strOk x = true := by
  unfold okS at h
  rw [Bool.and_eq_true] at h
  unfold PyData.strOk
  rw [← Array.all_toList]
  refine List.all_eq_true.mpr fun c hc => ?_
  have := of_decide_eq_true (List.all_eq_true.mp h.2 c hc)
  exact decide_eq_true (by omega)
def okV : Nat → IV → Bool
  | _, .non => true
  | _, .bl _ => true
  | _, .int _ => true
  | _, .str x => okS x
  | n + 1, .tup xs => xs.all (okV n)
  | n + 1, .lst xs => xs.all (okV n)
  | _, _ => false
theorem ZoK : ∀ {n m : Nat} {x : IV}, n ≤ m → okV n x = true → okV m x = true := by
  intro n
  induction n with
  | zero =>
    intro m x _ h
    cases x <;> first | rfl | (simp only [okV] at h ⊢; exact h) | (cases m <;> simp_all [okV])
  | succ n ih =>
    intro m x hm h
    cases m with
    | zero => omega
    | succ m =>
      cases x with
      | tup xs => simp only [okV] at h ⊢; exact List.all_eq_true.mpr fun y hy => ih (by omega) (List.all_eq_true.mp h y hy)
      | lst xs => simp only [okV] at h ⊢; exact List.all_eq_true.mpr fun y hy => ih (by omega) (List.all_eq_true.mp h y hy)
      | _ => simp only [okV] at h ⊢ <;> exact h
structure Dat (n : Nat) (d : PyData) : Prop where
  lay : d.canLay0 = true
  dep : d.depth ≤ n
  self : PyData.eqv d d = true
structure Dats (n : Nat) (ds : List PyData) : Prop where
  lay : PyData.canLayAll0 ds = true
  dep : PyData.depthAll ds ≤ n
  self : PyData.eqvAll ds ds = true
theorem ZpH {n : Nat} {ds : List PyData} (h : Dats n ds) : Dat (n + 1) (.list ds) :=
  ⟨by rw [PyData.canLay0]; exact h.lay, by rw [PyData.depth]; exact Nat.succ_le_succ h.dep, by rw [PyData.eqv]; exact h.self⟩
theorem ZnR {n : Nat} {ds : List PyData} (h : Dats n ds) : Dat (n + 1) (.tuple ds) :=
  ⟨by rw [PyData.canLay0]; exact h.lay, by rw [PyData.depth]; exact Nat.succ_le_succ h.dep, by rw [PyData.eqv]; exact h.self⟩
theorem Zef {n : Nat} (ih : ∀ x, okV n x = true → ∃ d, toD0 x = some d ∧ Dat n d) : ∀ {xs : List IV}, xs.all (okV n) = true → ∃ ds, toD0s xs = some ds ∧ Dats n ds ∧ ds.length = xs.length
  | [], _ => ⟨[], by simp only [toD0s], ⟨by rw [PyData.canLayAll0], by rw [PyData.depthAll]; exact Nat.zero_le _, by rw [PyData.eqvAll]⟩, rfl⟩
  | x :: xs, h => by
    rw [List.all_cons, Bool.and_eq_true] at h
    obtain ⟨d, e, D⟩ := ih x h.1
    obtain ⟨ds, e2, D2, l⟩ := Zef ih h.2
    refine ⟨d :: ds, by simp only [toD0s, e, e2, Option.bind_some, Option.map_some], ⟨by rw [PyData.canLayAll0, D.lay, D2.lay]; rfl, by rw [PyData.depthAll]; exact Nat.max_le.mpr ⟨D.dep, D2.dep⟩, by rw [PyData.eqvAll, D.self, D2.self]; rfl⟩, by rw [List.length_cons, List.length_cons, l]⟩
theorem Zi1 : ∀ (n : Nat) (x : IV), okV n x = true → ∃ d, toD0 x = some d ∧ Dat n d := by
  intro n
  induction n with
  | zero =>
    intro x h
    cases x with
    | non => exact ⟨.none, by simp only [toD0], by rw [PyData.canLay0], by rw [PyData.depth]; exact Nat.le_refl _, by rw [PyData.eqv]⟩
    | bl b => exact ⟨.bool b, by simp only [toD0], by rw [PyData.canLay0], by rw [PyData.depth]; exact Nat.le_refl _, by rw [PyData.eqv]; simp⟩
    | int b => exact ⟨.int b, by simp only [toD0], by rw [PyData.canLay0], by rw [PyData.depth]; exact Nat.le_refl _, by rw [PyData.eqv]; simp⟩
    | str b => exact ⟨.str b, by simp only [toD0], by rw [PyData.canLay0]; exact ZkW (by simpa only [okV] using h), by rw [PyData.depth]; exact Nat.le_refl _, by rw [PyData.eqv]; simp⟩
    | _ => cases h
  | succ n ih =>
    intro x h
    cases x with
    | non => exact ⟨.none, by simp only [toD0], by rw [PyData.canLay0], by rw [PyData.depth]; exact Nat.zero_le _, by rw [PyData.eqv]⟩
    | bl b => exact ⟨.bool b, by simp only [toD0], by rw [PyData.canLay0], by rw [PyData.depth]; exact Nat.zero_le _, by rw [PyData.eqv]; simp⟩
    | int b => exact ⟨.int b, by simp only [toD0], by rw [PyData.canLay0], by rw [PyData.depth]; exact Nat.zero_le _, by rw [PyData.eqv]; simp⟩
    | str b => exact ⟨.str b, by simp only [toD0], by rw [PyData.canLay0]; exact ZkW (by simpa only [okV] using h), by rw [PyData.depth]; exact Nat.zero_le _, by rw [PyData.eqv]; simp⟩
    | tup xs =>
      obtain ⟨ds, e, D, _⟩ := Zef ih (by simpa only [okV] using h)
      exact ⟨.tuple ds, by simp only [toD0, e, Option.map_some], ZnR D⟩
    | lst xs =>
      obtain ⟨ds, e, D, _⟩ := Zef ih (by simpa only [okV] using h)
      exact ⟨.list ds, by simp only [toD0, e, Option.map_some], ZpH D⟩
    | _ => cases h
theorem Zvy {n : Nat} {st : Sto} {x : IV} (h : okV n x = true) : toD st x = toD0 x := by cases x <;> first | rfl | (cases n <;> cases h)
theorem Z9U {n : Nat} {d : PyData} (D : Dat n d) (hn : n ≤ 60) : SeqAt.shaped d = true := by
  unfold SeqAt.shaped
  rw [D.lay, Bool.true_and]
  exact decide_eq_true (Nat.le_trans D.dep (by omega))
theorem ZlT {n : Nat} {st : Sto} {x : IV} (h : okV n x = true) (hn : n ≤ 60) : eqB st x x = some true := by
  obtain ⟨d, e, D⟩ := Zi1 n x h
  unfold eqB
  split
  · simp
  · simp
  · rw [Zvy h, e]
    simp [Z9U D hn, D.self]
theorem ne_self {n : Nat} {st : Sto} {x : IV} (h : okV n x = true) (hn : n ≤ 60) : gNe x x st = .ok (.bl false) st := by
  unfold gNe
  rw [ZlT h hn]; rfl
theorem eq_self {n : Nat} {st : Sto} {x : IV} (h : okV n x = true) (hn : n ≤ 60) : gEq x x st = .ok (.bl true) st := by
  unfold gEq
  rw [ZlT h hn]
def tyOf : IV → String
  | .non => "NoneType"
  | .bl _ => "bool"
  | .int _ => "int"
  | .str _ => "str"
  | .tup _ => "tuple"
  | .lst _ => "list"
  | _ => "?"
@[simp] theorem Zyh {st : Sto} {x : Str} {b : String} {P : IV → Sto → Prop} {E : Str → List (Str × IV) → Sto → Prop} : (gIsi [.str x, .ty b] st).wq P E .mk = (b ∈ askT ∧ P (.bl (ZT "str" b)) st) := by
  simp only [gIsi, Zx]; split <;> simp [*]
@[simp] theorem ZxR {st : Sto} {x : Int} {b : String} {P : IV → Sto → Prop} {E : Str → List (Str × IV) → Sto → Prop} : (gIsi [.int x, .ty b] st).wq P E .mk = (b ∈ askT ∧ P (.bl (ZT "int" b)) st) := by
  simp only [gIsi, Zx]; split <;> simp [*]
@[simp] theorem Zyr {st : Sto} {x : Bool} {b : String} {P : IV → Sto → Prop} {E : Str → List (Str × IV) → Sto → Prop} : (gIsi [.bl x, .ty b] st).wq P E .mk = (b ∈ askT ∧ P (.bl (ZT "bool" b)) st) := by
  simp only [gIsi, Zx]; split <;> simp [*]
@[simp] theorem ZxK {st : Sto} {b : String} {P : IV → Sto → Prop} {E : Str → List (Str × IV) → Sto → Prop} : (gIsi [.non, .ty b] st).wq P E .mk = (b ∈ askT ∧ P (.bl (ZT "NoneType" b)) st) := by
  simp only [gIsi, Zx]; split <;> simp [*]
@[simp] theorem ZxX {st : Sto} {x : List IV} {b : String} {P : IV → Sto → Prop} {E : Str → List (Str × IV) → Sto → Prop} : (gIsi [.tup x, .ty b] st).wq P E .mk = (b ∈ askT ∧ P (.bl (ZT "tuple" b)) st) := by
  simp only [gIsi, Zx]; split <;> simp [*]
@[simp] theorem ZxU {st : Sto} {x : List IV} {b : String} {P : IV → Sto → Prop} {E : Str → List (Str × IV) → Sto → Prop} : (gIsi [.lst x, .ty b] st).wq P E .mk = (b ∈ askT ∧ P (.bl (ZT "list" b)) st) := by
  simp only [gIsi, Zx]; split <;> simp [*]
theorem Zo3 {st : Sto} {neg : Bool} {x : Str} {ys : List IV} (h : ys.all flatI = true) : gIn neg (.str x) (.tup ys) st = .ok (.bl (if neg then !inI (.str x) ys else inI (.str x) ys)) st := by
  simp only [gIn, inB, ZtD, show flatI (.str x) = true from rfl, h, and_self, if_true]
theorem inI_str {x : Str} {ys : List IV} : inI (.str x) ys = true ↔ IV.str x ∈ ys := by
  unfold inI
  rw [List.any_eq_true]
  constructor
  · rintro ⟨y, hy, e⟩
    cases y <;> simp only [eqI, Bool.false_eq_true] at e
    rename_i z
    have : z = x := by simpa using e
    rw [← this]; exact hy
  · intro h
    exact ⟨_, h, by simp [eqI]⟩
end Mi
namespace Mi
open PySem PySem.Spec PyProof.Rows L2
section
variable {α β : Type} {P : IV → Sto → Prop} {E : Str → List (Str × IV) → Sto → Prop} {D : Post} {st : Sto} {ρ : Slots}
theorem wpsb {r : R α} {k : α → Sto → RS} : (RS.ofR r ρ k).wp D = r.wp (fun a st => (k a st).wp D) (fun c fs st => D.ex c fs ρ st) := by cases r <;> rfl
@[simp] theorem Zws {c f : Str} {A : IE} : (Z26 c f A ρ st).wq D .mk = (A ρ st).wp (fun v st => D.ex c [(f, v)] ρ st) (fun c fs st => D.ex c fs ρ st) := by unfold Z26; exact Z3h
@[simp] theorem Zwo {i : Nat} {As : IA} : (Z4R i As ρ st).wq D .mk = (As ρ st).wp (fun xs st => i < ρ.length ∧ D.nx (ρ.set i (some (.own xs))) st) (fun c fs st => D.ex c fs ρ st) := by
  unfold Z4R; simp only [RS.wq, wpsb]; congr 1; funext xs st; split <;> simp [*, RS.wp]
@[simp] theorem Zwc {i : Nat} {A : IE} : (Z6O i A ρ st).wq D .mk = match ownAt ρ i with | some xs => (A ρ st).wp (fun y st => xs.length < 100000 ∧ D.nx (ρ.set i (some (.own (xs ++ [y])))) st) (fun c fs st => D.ex c fs ρ st) | none => False := by
  unfold Z6O
  cases ownAt ρ i with
  | none => rfl
  | some xs => simp only [RS.wq, wpsb]; congr 1; funext y st; split <;> simp [*, RS.wp]
@[simp] theorem ZwX {i : Nat} {neg : Bool} {A : IE} : (Z7x neg A i ρ st).wq P E .mk = match ownAt ρ i with | some xs => (A ρ st).wp (fun y st => (flatI y = true ∧ xs.all flatI = true) ∧ P (.bl (if neg then !inI y xs else inI y xs)) st) E | none => False := by
  unfold Z7x
  cases ownAt ρ i with
  | none => rfl
  | some xs =>
    simp only [R.wq, wpb]; congr 1; funext y st
    by_cases h : flatI y = true ∧ xs.all flatI = true
    · rw [if_pos h]; exact (propext ⟨fun z => ⟨h, z⟩, fun z => z.2⟩)
    · rw [if_neg h]; exact (propext ⟨fun z => z.elim, fun z => (h z.1).elim⟩)
@[simp] theorem ZxA {c : Str} {F : Fn} {As : IA} : (iMake c F As ρ st).wq P E .mk = (As ρ st).wp (fun args st => (F (.ref st.length :: args) (st ++ [.ins c []])).wp (fun v st' => v = .non ∧ P (.ref st.length) st') E) E := by
  unfold iMake
  simp only [R.wq, wpb]; congr 1; funext args s1; congr 1; funext v s2
  cases v <;> simp [R.wp]
@[simp] theorem Zxy {c m : Str} {F : Fn} {A : IE} {As : IA} : (iMeth c m F A As ρ st).wq P E .mk = (A ρ st).wp (fun x st => match insAt st [c] x with
  | some (_, _, fs) => (fs.lookup m).isNone = true ∧ (As ρ st).wp (fun args st => (F (x :: args) st).wp P E) E
  | none => False) E := by
  unfold iMeth
  simp only [R.wq, wpb]; congr 1; funext x s1
  cases insAt s1 [c] x with
  | none => rfl
  | some p => simp only; split <;> simp [*, wpb, R.wp]
@[simp] theorem ZxY {cs : List Str} {f : Str} {A : IE} : (iFld cs f A ρ st).wq P E .mk = (A ρ st).wp (fun x st => match insAt st cs x with
  | some (_, _, fs) => (match fs.lookup f with | some v => P v st | none => False)
  | none => False) E := by
  unfold iFld
  simp only [R.wq, wpb]; congr 1; funext x s1
  cases insAt s1 cs x with
  | none => rfl
  | some p => simp only; cases p.2.2.lookup f <;> rfl
@[simp] theorem Zwx {cs : List Str} {f : Str} {A B : IE} : (Z1L cs f A B ρ st).wq D .mk = (B ρ st).wp (fun y st => (A ρ st).wp (fun x st => match insAt st cs x with
  | some (l, c, fs) => fs.length < 1000 ∧ D.nx ρ (st.set l (.ins c (putI f y fs)))
  | none => False) (fun c fs st => D.ex c fs ρ st)) (fun c fs st => D.ex c fs ρ st) := by
  unfold Z1L
  simp only [RS.wq, wpsb, wpb]; congr 1; funext y s1; congr 1; funext x s2
  cases insAt s2 cs x with
  | none => rfl
  | some p => simp only; split <;> simp [*, R.wp, RS.wp]
theorem ZL {l : Nat} {c : Str} {fs : List (Str × IV)} {cs : List Str} (h : st[l]? = some (.ins c fs)) (hc : c ∈ cs) : insAt st cs (.ref l) = some (l, c, fs) := by
  simp only [insAt, h, hc, if_true]
theorem ZsD {i l : Nat} {r : RS} : (hEnd i l r).wp D = r.wp ⟨fun ρ st => D.nx (noExn (ρ.set i none)) (st.set l .dead), fun v st => D.rt v (st.set l .dead), fun ρ st => D.bk (noExn (ρ.set i none)) (st.set l .dead), fun ρ st => D.ct (noExn (ρ.set i none)) (st.set l .dead), fun _ _ _ _ => False⟩ := by
  cases r <;> rfl
@[simp] theorem ZwA {i : Nat} {M : Str → Option Bool} {B J : IS} : (Zaw i M B J ρ st).wq D .mk = (B ρ st).wp { D with ex := fun c fs ρ1 st1 => match M c with
  | some true => (fs.isEmpty = false ∧ i < ρ1.length) ∧ (J ((noExn ρ1).set i (some (.exn st1.length))) (st1 ++ [.xd fs])).wp ⟨fun ρ st => D.nx (noExn (ρ.set i none)) (st.set st1.length .dead), fun v st => D.rt v (st.set st1.length .dead), fun ρ st => D.bk (noExn (ρ.set i none)) (st.set st1.length .dead), fun ρ st => D.ct (noExn (ρ.set i none)) (st.set st1.length .dead), fun _ _ _ _ => False⟩
  | some false => D.ex c fs ρ1 st1
  | none => False } := by
  unfold Zaw RS.wq
  cases B ρ st with
  | exc c fs ρ1 st1 =>
    simp only
    show RS.wp _ _ = (match M c with | some true => _ | some false => _ | none => _ : Prop)
    cases M c with
    | none => rfl
    | some b =>
      cases b with
      | false => rfl
      | true =>
        simp only
        by_cases h : fs.isEmpty = true ∨ ¬ i < ρ1.length
        · rw [if_pos h]
          rcases h with h | h
          · simp [h, RS.wp]
          · simp [h, RS.wp]
        · rw [if_neg h, ZsD]
          have h1 : fs.isEmpty = false := by cases q : fs.isEmpty with | false => rfl | true => exact absurd (.inl q) h
          have h2 : i < ρ1.length := Classical.byContradiction fun z => h (.inr z)
          simp [h1, h2]
  | _ => rfl
@[simp] theorem Zy5 {i : Nat} {f : Str} : (iExf i f ρ st).wq P E .mk = match ρ[i]? with
  | some (some (.exn l)) => (match st[l]? with
    | some (.xd fs) => (match fs.lookup f with | some v => P v st | none => False)
    | _ => False)
  | _ => False := by
  unfold iExf
  cases ρ[i]? with
  | none => rfl
  | some o => cases o with
    | none => rfl
    | some s => cases s with
      | exn l =>
        simp only
        cases st[l]? with
        | none => rfl
        | some o => cases o with
          | xd fs => simp only; cases fs.lookup f <;> rfl
          | _ => rfl
      | _ => rfl
@[simp] theorem at0 {α : Type} {a : α} {r : List α} : atI (a :: r) 0 = some a := by
  unfold atI ixN
  rw [if_pos (by omega), if_pos (by rw [List.length_cons]; omega)]; rfl
@[simp] theorem at1 {α : Type} {a b : α} {r : List α} : atI (a :: b :: r) 1 = some b := by
  unfold atI ixN
  rw [if_pos (by omega), if_pos (by rw [List.length_cons, List.length_cons]; omega)]; rfl
theorem Zs7 {l : Nat} {xs : List IV} {lo hi : Option Int} (h : st[l]? = some (.lst xs)) : gCut (.ref l) lo hi st = .ok (.lst (cutI xs lo hi)) st := by
  simp [gCut, asL, h]
@[simp] theorem cut_l {xs : List IV} {lo hi : Option Int} : gCut (.lst xs) lo hi st = .ok (.lst (cutI xs lo hi)) st := nr rfl
@[simp] theorem cut_t {xs : List IV} {lo hi : Option Int} : gCut (.tup xs) lo hi st = .ok (.tup (cutI xs lo hi)) st := nr rfl
@[simp] theorem cut_s {x : Str} {lo hi : Option Int} : (gCut (.str x) lo hi st).wq P E .mk = (x.length ≤ 100000 ∧ P (.str (cutS x lo hi)) st) := by
  show R.wp (if _ then .ok _ _ else .bad) P E = _
  split <;> simp [*, R.wp]
end
theorem Zm4 {g : GI} {all : List IV} {vs vs1 : List Nat} {T T1 : ITg} {S S1 : IT} {I1 : IIt} {E : IE} {ρ : Slots} {st : Sto} (F : IV → List IV) (hg : gokB g st all = true) : ∀ {xs acc : List IV},
    (∀ x ∈ xs, ∃ ρ1 p, T x (wipeI ρ vs) st = .nx ρ1 st ∧ S ρ1 st = .ok true st ∧ I1 ρ1 st = .ok p st ∧ ∀ acc : List IV, acc.length + (F x).length ≤ 100000 → lcL p.2 p.1 vs1 T1 S1 E ρ1 p.1 0 acc st = .ok (acc ++ F x) st) →
    acc.length + (xs.flatMap F).length ≤ 100000 → lcO g all vs T S I1 vs1 T1 S1 E ρ xs acc st = .ok (acc ++ xs.flatMap F) st
  | [], acc, _, _ => by simp [lcO, hg]
  | x :: r, acc, h, hl => by
    rw [List.flatMap_cons, List.length_append] at hl
    obtain ⟨ρ1, p, e1, e2, e3, e4⟩ := h x List.mem_cons_self
    have ih := Zm4 (g := g) (all := all) (vs := vs) (T := T) (S := S) (I1 := I1) (vs1 := vs1) (T1 := T1) (S1 := S1) (E := E) (ρ := ρ) F hg (xs := r) (acc := acc ++ F x) (fun y hy => h y (List.mem_cons_of_mem _ hy)) (by rw [List.length_append]; omega)
    rw [List.flatMap_cons, ← List.append_assoc, ← ih]
    simp only [lcO, hg, if_true, e1, e2, e3, R.noE, R.bind]
    rw [e4 acc (by omega)]
theorem ZvO {g : GI} {all xs acc : List IV} {vs vs1 : List Nat} {T T1 : ITg} {S S1 : IT} {I1 : IIt} {A : IE} {ρ : Slots} {st : Sto} {P : List IV → Sto → Prop} {E : Str → List (Str × IV) → Sto → Prop} (F : IV → List IV) (hg : gokB g st all = true)
    (h : ∀ x ∈ xs, ∃ ρ1 p, T x (wipeI ρ vs) st = .nx ρ1 st ∧ S ρ1 st = .ok true st ∧ I1 ρ1 st = .ok p st ∧ ∀ acc : List IV, acc.length + (F x).length ≤ 100000 → lcL p.2 p.1 vs1 T1 S1 A ρ1 p.1 0 acc st = .ok (acc ++ F x) st)
    (hl : acc.length + (xs.flatMap F).length ≤ 100000) (k : P (acc ++ xs.flatMap F) st) : (lcO g all vs T S I1 vs1 T1 S1 A ρ xs acc st).wp P E := by
  rw [Zm4 F hg h hl]; exact k
theorem Zu7 {g : GI} {all xs acc : List IV} {vs vs1 : List Nat} {T T1 : ITg} {S S1 : IT} {I1 : IIt} {A : IE} {ρ : Slots} {st : Sto} {P : List IV → Sto → Prop} {E : Str → List (Str × IV) → Sto → Prop} (F : IV → List IV) (hg : gokB g st all = true)
    (h : ∀ x ∈ xs, (T x (wipeI ρ vs) st).wp ⟨fun ρ1 st1 => st1 = st ∧ (S ρ1 st).wp (fun b st2 => b = true ∧ st2 = st ∧ (I1 ρ1 st).wp (fun p st3 => st3 = st ∧ ∀ acc : List IV, acc.length + (F x).length ≤ 100000 → (lcL p.2 p.1 vs1 T1 S1 A ρ1 p.1 0 acc st).wp (fun ys st4 => st4 = st ∧ ys = acc ++ F x) nE) nE) nE,
      fun _ _ => False, fun _ _ => False, fun _ _ => False, fun _ _ _ _ => False⟩)
    (hl : acc.length + (xs.flatMap F).length ≤ 100000) (k : P (acc ++ xs.flatMap F) st) : (lcO g all vs T S I1 vs1 T1 S1 A ρ xs acc st).wp P E := by
  refine ZvO F hg (fun x hx => ?_) hl k
  have z := h x hx
  cases q : T x (wipeI ρ vs) st with
  | nx ρ1 st1 =>
    rw [q] at z
    obtain ⟨z1, z2⟩ : st1 = st ∧ _ := z
    subst z1
    obtain ⟨b, st2, e, e1, e2, z3⟩ := Z30 z2
    subst e1 e2
    obtain ⟨p, st3, e3, e4, z4⟩ := Z30 z3
    subst e4
    refine ⟨ρ1, p, rfl, e, e3, fun acc ha => ?_⟩
    obtain ⟨ys, st4, e5, e6, e7⟩ := Z30 (z4 acc ha)
    subst e6 e7
    exact e5
  | _ => rw [q] at z; exact z.elim
end Mi
namespace Mi
open PySem PySem.Spec PyProof.Rows L2
section
variable {P : IV → Sto → Prop} {E : Str → List (Str × IV) → Sto → Prop} {D : Post} {st : Sto} {ρ : Slots}
@[simp] theorem Zxq {xs ys : List IV} : gZip [.lst xs, .lst ys] st = .ok (zipI xs ys, none) st := nr rfl
@[simp] theorem Zxa {xs ys : List IV} : gZip [.tup xs, .tup ys] st = .ok (zipI xs ys, none) st := nr rfl
@[simp] theorem Zye {L : List (Str × Bool)} {A : IE} : (iIsC L A ρ st).wq P E .mk = (A ρ st).wp (fun x st => match Zx st x with
  | some _ => P (.bl false) st
  | none => match (clsOf st x).bind fun c => L.lookup c with
    | some b => P (.bl b) st
    | none => False) E := by
  unfold iIsC; simp only [R.wq, wpb]; congr 1; funext x s1
  cases Zx s1 x with
  | some t => rfl
  | none =>
    simp only
    cases (clsOf s1 x).bind fun c => L.lookup c <;> rfl
theorem Zep {r : R IV} {Q : IV → Sto → Prop} (h : r.wp Q nE) : (quiet r).wp Q E := by
  cases r with
  | ok a st => exact h
  | exc c fs st => exact h.elim
  | bad => exact h.elim
theorem ZlS {neg : Bool} {c : Str} {F : Fn} {x y : IV} {p : Nat × Str × List (Str × IV)} (e : insAt st [c] y = some p) (h : (F [y, x] st).wp (fun v st' => ∃ b, v = .bl b ∧ P (.bl (neg != b)) st') nE) : (Z3N neg c F x y st).wp P E := by
  unfold Z3N
  rw [e]
  simp only [wpb]
  refine Zep (Zbx h fun v s1 z => ?_)
  obtain ⟨b, rfl, z⟩ := z
  exact z
theorem ZoA {neg : Bool} {c : Str} {F : Fn} {x y : IV} {p : Nat × Str × List (Str × IV)} (e : insAt st [c] x = some p) (hy : (insAt st [c] y).isSome = true ∨ (Zx st y).isSome = true) (h : (F [x, y] st).wp (fun v st' => ∃ b, v = .bl b ∧ P (.bl (neg != b)) st') nE) : (Z58 neg c F x y st).wp P E := by
  unfold Z58
  rw [e]
  simp only [if_pos hy, wpb]
  refine Zep (Zbx h fun v s1 z => ?_)
  obtain ⟨b, rfl, z⟩ := z
  exact z
theorem Zo5 {c : Str} {F : Fn} {x : IV} {p : Nat × Str × List (Str × IV)} (e : insAt st [c] x = some p) (h : (F [x] st).wp (fun v st' => ∃ n : Int, v = .int n ∧ (0 ≤ n ∧ n < 9223372036854775808) ∧ P (.int n) st') nE) : (Z5x c F [x] st).wp P E := by
  unfold Z5x
  simp only [e, wpb]
  refine Zep (Zbx h fun v s1 z => ?_)
  obtain ⟨n, rfl, hn, z⟩ := z
  simp only [if_pos hn]
  exact z
end
end Mi
namespace Mi
open PySem PySem.Spec PyProof.Rows L2
mutual
def pE : IV → IV → Bool
  | .non, .non => true
  | .bl a, .bl b => a == b
  | .bl a, .int j => (if a then 1 else 0) == j
  | .int i, .bl b => i == (if b then 1 else 0)
  | .int i, .int j => i == j
  | .str x, .str y => x == y
  | .lst xs, .lst ys => pEs xs ys
  | .tup xs, .tup ys => pEs xs ys
  | _, _ => false
def pEs : List IV → List IV → Bool
  | [], [] => true
  | x :: xs, y :: ys => pE x y && pEs xs ys
  | _, _ => false
end
mutual
theorem Zph : ∀ (x y : IV) (d e : PyData), toD0 x = some d → toD0 y = some e → PyData.eqv d e = pE x y
  | .non, y, d, e, h1, h2 => by
    simp only [toD0] at h1; cases h1
    cases y <;> simp only [toD0, Option.map_eq_some_iff] at h2 <;> first | (cases h2; done) | (cases h2; simp only [PyData.eqv, pE]; done) | (obtain ⟨_, _, rfl⟩ := h2; simp only [PyData.eqv, pE])
  | .bl b, y, d, e, h1, h2 => by
    simp only [toD0] at h1; cases h1
    cases y <;> simp only [toD0, Option.map_eq_some_iff] at h2 <;> first | (cases h2; done) | (cases h2; simp only [PyData.eqv, pE]; done) | (obtain ⟨_, _, rfl⟩ := h2; simp only [PyData.eqv, pE])
  | .int b, y, d, e, h1, h2 => by
    simp only [toD0] at h1; cases h1
    cases y <;> simp only [toD0, Option.map_eq_some_iff] at h2 <;> first | (cases h2; done) | (cases h2; simp only [PyData.eqv, pE]; done) | (obtain ⟨_, _, rfl⟩ := h2; simp only [PyData.eqv, pE])
  | .str b, y, d, e, h1, h2 => by
    simp only [toD0] at h1; cases h1
    cases y <;> simp only [toD0, Option.map_eq_some_iff] at h2 <;> first | (cases h2; done) | (cases h2; simp only [PyData.eqv, pE]; done) | (obtain ⟨_, _, rfl⟩ := h2; simp only [PyData.eqv, pE])
  | .ty n, y, d, e, h1, h2 => by simp [toD0] at h1
  | .ref n, y, d, e, h1, h2 => by simp [toD0] at h1
  | .ptp n, y, d, e, h1, h2 => by simp [toD0] at h1
  | .tup xs, y, d, e, h1, h2 => by
    simp only [toD0, Option.map_eq_some_iff] at h1
    obtain ⟨ds, h1, rfl⟩ := h1
    cases y with
    | tup ys =>
      simp only [toD0, Option.map_eq_some_iff] at h2
      obtain ⟨es, h2, rfl⟩ := h2
      simp only [PyData.eqv, pE]
      exact eqvs_pE xs ys ds es h1 h2
    | _ => simp only [toD0, Option.map_eq_some_iff] at h2 <;> first | (cases h2; done) | (cases h2; simp only [PyData.eqv, pE]; done) | (obtain ⟨_, _, rfl⟩ := h2; simp only [PyData.eqv, pE])
  | .lst xs, y, d, e, h1, h2 => by
    simp only [toD0, Option.map_eq_some_iff] at h1
    obtain ⟨ds, h1, rfl⟩ := h1
    cases y with
    | lst ys =>
      simp only [toD0, Option.map_eq_some_iff] at h2
      obtain ⟨es, h2, rfl⟩ := h2
      simp only [PyData.eqv, pE]
      exact eqvs_pE xs ys ds es h1 h2
    | _ => simp only [toD0, Option.map_eq_some_iff] at h2 <;> first | (cases h2; done) | (cases h2; simp only [PyData.eqv, pE]; done) | (obtain ⟨_, _, rfl⟩ := h2; simp only [PyData.eqv, pE])
theorem eqvs_pE : ∀ (xs ys : List IV) (ds es : List PyData), toD0s xs = some ds → toD0s ys = some es → PyData.eqvAll ds es = pEs xs ys
  | [], ys, ds, es, h1, h2 => by
    simp only [toD0s] at h1; cases h1
    cases ys with
    | nil => simp only [toD0s] at h2; cases h2; simp only [PyData.eqvAll, pEs]
    | cons y ys =>
      simp only [toD0s, Option.bind_eq_some_iff, Option.map_eq_some_iff] at h2
      obtain ⟨_, _, _, _, rfl⟩ := h2
      simp only [PyData.eqvAll, pEs]
  | x :: xs, ys, ds, es, h1, h2 => by
    simp only [toD0s, Option.bind_eq_some_iff, Option.map_eq_some_iff] at h1
    obtain ⟨d, h3, ds', h4, rfl⟩ := h1
    cases ys with
    | nil => simp only [toD0s] at h2; cases h2; simp only [PyData.eqvAll, pEs]
    | cons y ys =>
      simp only [toD0s, Option.bind_eq_some_iff, Option.map_eq_some_iff] at h2
      obtain ⟨e, h5, es', h6, rfl⟩ := h2
      simp only [PyData.eqvAll, pEs]
      rw [Zph x y d e h3 h5, eqvs_pE xs ys ds' es' h4 h6]
end
def rsv (st : Sto) : IV → IV
  | .ref l => match st[l]? with
    | some (.lst xs) => .lst xs
    | _ => .ref l
  | x => x
theorem ZhI {st : Sto} {x : IV} : toD st x = toD0 (rsv st x) := by
  cases x with
  | ref l =>
    unfold toD rsv
    cases h : st[l]? with
    | none => simp [h, toD0]
    | some o => cases o <;> simp [h, toD0]
  | _ => rfl
@[simp] theorem Zs1 {st : Sto} {i : Int} : rsv st (.int i) = .int i := nr rfl
@[simp] theorem Zsl {st : Sto} {i : Str} : rsv st (.str i) = .str i := nr rfl
@[simp] theorem ZyD {st : Sto} {i : Bool} : rsv st (.bl i) = .bl i := nr rfl
@[simp] theorem ZxW {st : Sto} : rsv st .non = .non := nr rfl
@[simp] theorem Zsy {st : Sto} {i : List IV} : rsv st (.tup i) = .tup i := nr rfl
@[simp] theorem Z3l {st : Sto} {i : List IV} : rsv st (.lst i) = .lst i := nr rfl
theorem Z3Y {st : Sto} {l : Nat} {xs : List IV} (h : st[l]? = some (.lst xs)) : rsv st (.ref l) = .lst xs := by simp [rsv, h]
theorem Zpl {st : Sto} {n : Nat} {x y : IV} (hx : okV n (rsv st x) = true) (hy : okV n (rsv st y) = true) (hn : n ≤ 60) : eqB st x y = some (pE (rsv st x) (rsv st y)) := by
  obtain ⟨d, e1, D⟩ := Zi1 n _ hx
  obtain ⟨e, e2, D2⟩ := Zi1 n _ hy
  have key := Zph _ _ _ _ e1 e2
  unfold eqB
  split
  · rename_i i j; simp only [Zs1, pE]; first | done | rfl | (congr 1; by_cases h : i = j <;> simp [h])
  · rename_i i j; simp only [Zsl, pE]; first | done | rfl | (congr 1; by_cases h : i = j <;> simp [h])
  · rw [ZhI, ZhI, e1, e2]
    simp [Z9U D hn, Z9U D2 hn, key]
theorem eq_pE {st : Sto} {n : Nat} {x y : IV} (hx : okV n (rsv st x) = true) (hy : okV n (rsv st y) = true) (hn : n ≤ 60) : gEq x y st = .ok (.bl (pE (rsv st x) (rsv st y))) st := by
  unfold gEq; rw [Zpl hx hy hn]
theorem ne_pE {st : Sto} {n : Nat} {x y : IV} (hx : okV n (rsv st x) = true) (hy : okV n (rsv st y) = true) (hn : n ≤ 60) : gNe x y st = .ok (.bl (!pE (rsv st x) (rsv st y))) st := by
  unfold gNe; rw [Zpl hx hy hn]
mutual
def nb : IV → Bool
  | .non => true
  | .int _ => true
  | .str _ => true
  | .tup xs => nbs xs
  | .lst xs => nbs xs
  | _ => false
def nbs : List IV → Bool
  | [] => true
  | x :: xs => nb x && nbs xs
end
mutual
theorem Zgu : ∀ (x y : IV), nb x = true → nb y = true → (pE x y = true ↔ x = y)
  | .non, y, h1, h2 => by cases y <;> simp_all [pE, nb]
  | .int i, y, h1, h2 => by cases y <;> simp_all [pE, nb]
  | .str i, y, h1, h2 => by cases y <;> simp_all [pE, nb]
  | .bl i, y, h1, h2 => by simp [nb] at h1
  | .ty i, y, h1, h2 => by simp [nb] at h1
  | .ref i, y, h1, h2 => by simp [nb] at h1
  | .ptp i, y, h1, h2 => by simp [nb] at h1
  | .tup xs, y, h1, h2 => by
    cases y with
    | tup ys =>
      simp only [pE, IV.tup.injEq]
      simp only [nb] at h1 h2
      exact pEs_iff xs ys h1 h2
    | _ => simp [pE]
  | .lst xs, y, h1, h2 => by
    cases y with
    | lst ys =>
      simp only [pE, IV.lst.injEq]
      simp only [nb] at h1 h2
      exact pEs_iff xs ys h1 h2
    | _ => simp [pE]
theorem pEs_iff : ∀ (xs ys : List IV), nbs xs = true → nbs ys = true → (pEs xs ys = true ↔ xs = ys)
  | [], ys, h1, h2 => by cases ys <;> simp [pEs]
  | x :: xs, [], h1, h2 => by simp [pEs]
  | x :: xs, y :: ys, h1, h2 => by
    simp only [nbs, Bool.and_eq_true] at h1 h2
    simp only [pEs, Bool.and_eq_true, List.cons.injEq]
    rw [Zgu x y h1.1 h2.1, pEs_iff xs ys h1.2 h2.2]
end
theorem ZhB : ∀ {xs : List IV}, nbs xs = xs.all nb
  | [] => by simp [nbs]
  | x :: xs => by simp only [nbs, List.all_cons]; rw [ZhB]
section
variable {P : IV → Sto → Prop} {E : Str → List (Str × IV) → Sto → Prop} {D : Post} {st : Sto} {ρ : Slots}
@[simp] theorem Zxo {x y : List IV} : (gAdd (.lst x) (.lst y) st).wq P E .mk = (x.length + y.length ≤ 100000 ∧ P (.lst (x ++ y)) st) := by
  show (if _ then R.ok _ _ else .bad : R IV).wp P E = _
  split <;> simp [*]
theorem Zor {l : Nat} {xs : List IV} {i : Int} {v : IV} (h : st[l]? = some (.lst xs)) (h0 : 0 ≤ i) (h1 : i ≤ 1000000) (hv : xs[i.toNat]? = some v) : Zbg (.ref l) [.int i] st = .ok v (st.set l (.lst (xs.eraseIdx i.toNat))) := by
  simp [Zbg, h, h0, h1, hv]
end
end Mi
namespace Mi
open PySem PySem.Spec PyProof.Rows L2
section
variable {X : Cx} {W : WX} {xa : Xa} {a b c e o : Expr} {A B C : IE} {pos p apos : Pos} {es : List Expr} {As : IA}
def rTupP (K : PySem.W.Frag) : List V → Hp → VK → Prop := fun xs H Q => ∃ p ys, xs = [.ref p] ∧ SqL K H p ys ∧ ∀ l o, H l = none → o.dict = none → Q (.ref l) (upd H l (.frz o (.tup ys)))
theorem ZpJ : CallR X (.type "tuple") (rTupP X.K) := by
  intro pins s σ H xs us Q I r h
  obtain ⟨p, ys, rfl, hq, q⟩ := h
  obtain ⟨u, rfl, rx⟩ := vals1 r
  cases rx
  obtain ⟨its, r', pl, hz⟩ := I.list hq
  have hlen := r'.length
  refine call_tuple_list pl.isList (fun h' kp => ?_) (by simp only [List.size_toArray] <;> omega)
  have I1 : Inv X pins σ H { s with heap := h' } := I.kept (t' := s.toks) kp
  have I2 : Inv X pins σ (upd H h'.objs.size (.frz { cls := .type "tuple", data := .seq its.toArray } (.tup ys))) { s with heap := h'.push { cls := .type "tuple", data := .seq its.toArray } } :=
    I1.laid (t' := s.toks) (fun b o e => Heap.get?_push_of_some _ e) (Nat.le_refl _) (show ObjOk X.prog X.w _ _ _ (.frz _ (.tup ys)) from ⟨Heap.get?_push_size _ rfl, hz, its, r', IsTup.new _ _⟩)
  exact ⟨.ref h'.objs.size, _, I2, rfl, q _ _ (I1.hok.fresh (Nat.le_refl _)) rfl⟩
def Z5w (i : Nat) : IE := fun ρ st => match ownAt ρ i with | some xs => .ok (.ptp xs) st | none => .bad
theorem ZnJ {i : Nat} {y : Str} {p2 : Pos} (hv : PE X (.Name y p2) (tVar i)) (hg : Gl X "tuple") (hm : X.mg "tuple" = none) (hb : bootBuiltins "tuple" = some (.type "tuple")) : ME X W xa (.Call (.Name "tuple" p) [.Name y p2] [] pos) (Z5w i) := by
  refine PE.weak (pe_callTy ZpJ hg hm hb (pa_cons hv pa_nil)) fun σ H Q h => ?_
  obtain ⟨m, os, rs, ρ, st, P, h⟩ := h
  unfold Z5w at h
  split at h
  · rename_i xs e
    obtain ⟨d, vs, e1, hd, r, _⟩ := Zeg P e
    refine ⟨.ref d, e1, d, vs, rfl, .of hd, fun l o hl ho => ?_⟩
    refine h m _ (Z13 hl) (P.rel.new hl) (.ref l) ?_
    simp only [RV]
    exact ⟨l, vs, rfl, ⟨o, upd_same, ho, P.rel.fz hl⟩, RVs.fits (Z13 hl).fitsE _ _ r⟩
  · exact h.elim
def unP : IV → IV
  | .ptp xs => .tup xs
  | x => x
theorem ZuC {G : Gd} {m bs : List Addr} {st : Sto} {H : Hp} {x : IV} {v : V} (r : RV G m bs st H x v) : RV G m bs st H (unP x) v := by
  cases x with
  | ptp xs =>
    simp only [RV, unP] at r ⊢
    obtain ⟨a, vs, e, ⟨o, h, d, f⟩, r⟩ := r
    exact ⟨a, vs, e, .inl ⟨.inr ⟨o, h⟩, f⟩, r⟩
  | _ => exact r
def iUn (A : IE) : IE := fun ρ st => (A ρ st).bind fun x st => .ok (unP x) st
theorem me_un (h : ME X W xa e A) : ME X W xa e (iUn A) := by
  refine PE.weak h fun σ H Q h => ?_
  obtain ⟨m, os, rs, ρ, st, P, h⟩ := h
  exact ⟨m, os, rs, ρ, st, P, h.bind.mono fun x m1 st1 H1 g1 R1 h1 u ru => h1.v R1 (ZuC ru)⟩
end
end Mi
namespace Mi
open PySem PySem.Spec PyProof.Rows L2
section
variable {P : IV → Sto → Prop} {E : Str → List (Str × IV) → Sto → Prop} {D : Post} {st : Sto} {ρ : Slots}
@[simp] theorem Zwm {i : Nat} : (Z5w i ρ st).wq P E .mk = match ownAt ρ i with | some xs => P (.ptp xs) st | none => False := by
  unfold Z5w; cases ownAt ρ i <;> rfl
@[simp] theorem ZyH {A : IE} : (iUn A ρ st).wq P E .mk = (A ρ st).wp (fun x st => P (unP x) st) E := by
  unfold iUn; simp only [R.wq, wpb, wpo]
@[simp] theorem ZxQ {xs : List IV} : unP (.ptp xs) = .tup xs := nr rfl
@[simp] theorem Zy3 {xs : List IV} : unP (.tup xs) = .tup xs := nr rfl
@[simp] theorem ZwV {b : Bool} : gInt [.bl b] st = .ok (.int (if b then 1 else 0)) st := nr rfl
theorem ZlV {S : IT} {B : IS} (Inv : Nat → Slots → Sto → Prop) (step : ∀ k ρ st, Inv k ρ st → (S ρ st).wp (fun b st' => if b = true then ∃ k', k = k' + 1 ∧ (B ρ st').wp ⟨Inv k', D.rt, D.nx, Inv k', D.ex⟩ else D.nx ρ st') (fun c fs st => D.ex c fs ρ st)) :
    ∀ {n k : Nat} {ρ : Slots} {st : Sto}, k < n → Inv k ρ st → (ZgH n S B ρ st).wp D
  | 0, k, ρ, st, hk, _ => by omega
  | n + 1, k, ρ, st, hk, hi => by
    have h := step k ρ st hi
    unfold ZgH
    rw [Z4q, wpsb]
    refine Zbx h fun b s1 h1 => ?_
    cases b with
    | false => exact h1
    | true =>
      simp only [if_true] at h1 ⊢
      obtain ⟨k', rfl, h2⟩ := h1
      have next : ∀ ρ2 st2, Inv k' ρ2 st2 → (Z4q S B n ρ2 st2).wp D := fun ρ2 st2 i2 => ZlV Inv step (n := n) (k := k') (by omega) i2
      cases q : B ρ s1 with
      | nx ρ2 st2 => rw [q] at h2; exact next _ _ h2
      | ct ρ2 st2 => rw [q] at h2; exact next _ _ h2
      | bk ρ2 st2 => rw [q] at h2; exact h2
      | rt v st2 => rw [q] at h2; exact h2
      | exc c fs ρ2 st2 => rw [q] at h2; exact h2
      | bad => rw [q] at h2; exact h2.elim
end
end Mi
namespace Mi
open PySem PySem.Spec PyProof.Rows L2
def abcN : List Nat := ("abcdefghijklmnopqrstuvwxyz" : Str).cps.toList
def digN : List Nat := ("0123456789" : Str).cps.toList
def isL (c : Nat) : Bool := decide (c ∈ abcN)
def isD (c : Nat) : Bool := decide (c ∈ digN)
def Zpn : List (List Nat) := [[33, 61], [60, 61], [62, 61], [43, 61], [45, 61], [46, 46]]
def Zps (t : List Nat) (c : Nat) : Bool := match t with
  | [] => false
  | d :: r => if isL d then !isL c else if isD d then !isD c else if r = [] then decide ([d, c] ∉ Zpn) else true
def tokOk (t : List Nat) : Bool := match t with
  | [] => false
  | d :: r => decide (d ≠ 32) && (if isL d then r.all isL else if isD d then r.all isD else (r.isEmpty || decide ((d :: r) ∈ Zpn)))
def build : List (Nat × List Nat) → Nat → List Nat
  | [], ge => List.replicate ge 32
  | (g, t) :: r, ge => List.replicate g 32 ++ (t ++ build r ge)
def ZoR : List (Nat × List Nat) → Nat → List (List Nat × Nat)
  | [], _ => []
  | (g, t) :: r, off => (t, off + g) :: ZoR r (off + g + t.length)
def fits : List (Nat × List Nat) → Bool
  | [] => true
  | [(_, t)] => tokOk t
  | (_, t) :: (g, u) :: r => tokOk t && (decide (1 ≤ g) || (match u with | [] => false | c :: _ => Zps t c)) && fits ((g, u) :: r)
end Mi
namespace Mi
open PySem PySem.Spec PyProof.Rows L2
def iBadS : IS := fun _ _ => .bad
theorem Zv9 {X : Cx} {W : WX} {xa : Xa} {s : Stmt} : MS X W xa s iBadS := ⟨by
  intros
  rename_i h
  obtain ⟨m, os, rs, ρ, st, P, h⟩ := h
  exact h.elim⟩
end Mi
namespace Mi
open PySem PySem.Spec PyProof.Rows L2
def DC.v : DC → V
  | .non => .non
  | .bl b => .bl b
  | .int i => .int i
  | .str s => .str s
def DC.iv : DC → IV
  | .non => .non
  | .bl b => .bl b
  | .int i => .int i
  | .str s => .str s
theorem DC.rv {G : Gd} {m bs : List Addr} {st : Sto} {H : Hp} (d : DC) : RV G m bs st H d.iv d.v := by cases d <;> simp only [DC.iv, DC.v, RV]
inductive DSrc | p (i : Nat) | k (i : Nat) | d (j : Nat)
theorem PK.weak {X : Cx} {kws : List Keyword} {t t' : TA} (h : PK X kws t) (k : ∀ σ H Q, t' σ H Q → t σ H Q) : PK X kws t' := ⟨fun pos pins s σ H Q I q => h.run pos pins s σ H Q I (k σ H Q q)⟩
end Mi
namespace Mi
open PySem PySem.Spec PyProof.Rows L2
section
variable {P : Program} {w : World} {K : PySem.W.Frag} {mg : Str → Option Value} {base : Heap}
def FnMN (P : Program) (w : World) (K : PySem.W.Frag) (mg : Str → Option Value) (base : Heap) (x : Str) (k n : Nat) (F : Fn) : Prop :=
  ∃ f fd ps, mg x = some (.ref f) ∧ PySem.W.keepIn K (.ref f) = true ∧ Binds K fd ps [] ∧ FnOk P w K mg base (L2N.CX P w) k f fd ps (spOf ⟨K, mg, P, w⟩ n F)
end
end Mi
namespace Mi
open PySem PySem.Spec PyProof.Rows L2
def dputI (kvs : List (List Key × IV)) (k : List Key) (y : IV) : List (List Key × IV) := if (kvs.find? fun p => decide (p.1 = k)).isSome then kvs.map (fun p => if p.1 = k then (p.1, y) else p) else kvs ++ [(k, y)]
section
variable {G : Gd} {m bs : List Addr} {st : Sto} {H : Hp}
theorem RDs.find {k : List Key} : ∀ {kvs : List (List Key × IV)} {xs : List (List Key × Addr × Value)}, RDs G m bs st H kvs xs → (atKey xs k).isSome = (kvs.find? fun p => decide (p.1 = k)).isSome
  | [], xs, h => by
    have : xs = [] := h
    rw [this]; rfl
  | (j, x) :: r, xs, h => by
    obtain ⟨b, u, v, t, rfl, _, _, _, h3⟩ := h
    have ih := RDs.find (k := k) h3
    unfold atKey at ih ⊢
    rw [List.find?_cons, List.find?_cons]
    by_cases e : j = k
    · simp [e]
    · simp only [e, decide_false, Bool.false_eq_true, if_false]
      exact ih
theorem RDs.mapPut {k : List Key} {y : IV} {u : Value} {v : V} (ry : RelV v u) (r : RV G m bs st H y v) : ∀ {kvs : List (List Key × IV)} {xs : List (List Key × Addr × Value)}, RDs G m bs st H kvs xs → RDs G m bs st H (kvs.map (fun p => if p.1 = k then (p.1, y) else p)) (xs.map (putAt k u))
  | [], xs, h => by
    have : xs = [] := h
    rw [this]; rfl
  | (j, x) :: q, xs, h => by
    obtain ⟨b, u1, v1, t, rfl, h0, h1, h2, h3⟩ := h
    have ih := RDs.mapPut (k := k) ry r h3
    rw [List.map_cons, List.map_cons]
    by_cases e : j = k
    · rw [if_pos e]
      unfold putAt
      rw [if_pos e]
      exact ⟨b, u, v, _, rfl, h0, ry, r, ih⟩
    · rw [if_neg e]
      unfold putAt
      rw [if_neg e]
      exact ⟨b, u1, v1, _, rfl, h0, h1, h2, ih⟩
theorem RDs.snoc {k : List Key} {y : IV} {b : Addr} {u : Value} {v : V} (rk : RV G m bs st H (.tup (k.map kI)) (.ref b)) (ry : RelV v u) (r : RV G m bs st H y v) : ∀ {kvs : List (List Key × IV)} {xs : List (List Key × Addr × Value)}, RDs G m bs st H kvs xs → RDs G m bs st H (kvs ++ [(k, y)]) (xs ++ [(k, b, u)])
  | [], xs, h => by
    have : xs = [] := h
    rw [this]; exact ⟨b, u, v, [], rfl, rk, ry, r, rfl⟩
  | (j, x) :: q, xs, h => by
    obtain ⟨b1, u1, v1, t, rfl, h0, h1, h2, h3⟩ := h
    exact ⟨b1, u1, v1, _, rfl, h0, h1, h2, RDs.snoc rk ry r h3⟩
theorem RDs.put {k : List Key} {y : IV} {b : Addr} {u : Value} {v : V} (rk : RV G m bs st H (.tup (k.map kI)) (.ref b)) (ry : RelV v u) (r : RV G m bs st H y v) {kvs : List (List Key × IV)} {xs : List (List Key × Addr × Value)} (h : RDs G m bs st H kvs xs) : RDs G m bs st H (dputI kvs k y) (storedH xs k b u) := by
  unfold dputI storedH
  rw [h.find]
  split
  · exact h.mapPut ry r
  · exact h.snoc rk ry r
theorem RDs.len : ∀ {kvs : List (List Key × IV)} {xs : List (List Key × Addr × Value)}, RDs G m bs st H kvs xs → xs.length = kvs.length
  | [], xs, h => by
    have : xs = [] := h
    rw [this]; rfl
  | (j, y) :: q, xs, h => by
    obtain ⟨b1, u1, v1, t, rfl, h0, h1, h2, h3⟩ := h
    rw [List.length_cons, List.length_cons, RDs.len h3]
end
end Mi
namespace Mi
open PySem PySem.Spec PyProof.Rows L2
section
variable {prog : Program} {w : World} {K : Type} [DecidableEq K] {knd : HeapKind prog w K} {A : Around} {E : Value → Shared → Prop} {s : Shared}
inductive HitsH {K : Type} [DecidableEq K] (prog : Program) (w : World) (A : Around) (s : Shared) (kb : List (K × Addr × Value)) : List (K × Addr × Value) → Bool → Prop
  | nil : HitsH prog w A s kb [] true
  | miss {x : K × Addr × Value} {r : List (K × Addr × Value)} : atKey kb x.1 = none → HitsH prog w A s kb (x :: r) false
  | no {x : K × Addr × Value} {r : List (K × Addr × Value)} {p : Addr × Value} : atKey kb x.1 = some p → SeqAt.EqP prog w A s x.2.2 p.2 false → HitsH prog w A s kb (x :: r) false
  | hit {x : K × Addr × Value} {r : List (K × Addr × Value)} {p : Addr × Value} {b : Bool} : atKey kb x.1 = some p → SeqAt.EqP prog w A s x.2.2 p.2 true → HitsH prog w A s kb r b → HitsH prog w A s kb (x :: r) b
end
end Mi
namespace Mi
open PySem PySem.Spec PyProof.Rows L2
section
variable {X : Cx} {W : WX} {xa : Xa} {a b e : Expr} {A B : IE} {pos p apos : Pos} {es : List Expr} {As : IA}
def getI (kvs : List (List Key × IV)) (k : List Key) : Option IV := (kvs.find? fun p => decide (p.1 = k)).map (·.2)
theorem RDs.at {G : Gd} {m bs : List Addr} {st : Sto} {H : Hp} {k : List Key} {x : IV} : ∀ {kvs : List (List Key × IV)} {xs : List (List Key × Addr × Value)}, RDs G m bs st H kvs xs → getI kvs k = some x → ∃ q v, atKey xs k = some q ∧ RelV v q.2 ∧ RV G m bs st H x v
  | [], xs, h, e => by cases e
  | (j, y) :: r, xs, h, e => by
    obtain ⟨b, u, v, t, rfl, h0, h1, h2, h3⟩ := h
    unfold getI at e
    rw [List.find?_cons] at e
    unfold atKey
    rw [List.find?_cons]
    by_cases c : j = k
    · simp only [c, decide_true, Option.map_some] at e ⊢
      cases e
      exact ⟨_, v, rfl, h1, h2⟩
    · simp only [c, decide_false] at e ⊢
      exact RDs.at h3 e
theorem RDs.no {G : Gd} {m bs : List Addr} {st : Sto} {H : Hp} {k : List Key} : ∀ {kvs : List (List Key × IV)} {xs : List (List Key × Addr × Value)}, RDs G m bs st H kvs xs → getI kvs k = none → atKey xs k = none
  | [], xs, h, e => by
    have : xs = [] := h
    rw [this]; rfl
  | (j, y) :: r, xs, h, e => by
    obtain ⟨b, u, v, t, rfl, h0, h1, h2, h3⟩ := h
    unfold getI at e
    rw [List.find?_cons] at e
    unfold atKey
    rw [List.find?_cons]
    by_cases c : j = k
    · simp [c] at e
    · simp only [c, decide_false] at e ⊢
      exact RDs.no h3 e
def EqDt (K : PySem.W.Frag) (H : Hp) (u1 u2 : Value) (b : Bool) : Prop := ∃ v1 v2 d e, RelV v1 u1 ∧ RelV v2 u2 ∧ Dp K H v1 d ∧ Dp K H v2 e ∧ d.canLay0 = true ∧ e.canLay0 = true ∧ d.depth ≤ 60 ∧ b = PyData.eqv d e
inductive HitsD (K : PySem.W.Frag) (H : Hp) (kb : List (List Key × Addr × Value)) : List (List Key × Addr × Value) → Bool → Prop
  | nil : HitsD K H kb [] true
  | miss {x : List Key × Addr × Value} {r : List (List Key × Addr × Value)} : atKey kb x.1 = none → HitsD K H kb (x :: r) false
  | no {x : List Key × Addr × Value} {r : List (List Key × Addr × Value)} {p : Addr × Value} : atKey kb x.1 = some p → EqDt K H x.2.2 p.2 false → HitsD K H kb (x :: r) false
  | hit {x : List Key × Addr × Value} {r : List (List Key × Addr × Value)} {p : Addr × Value} {b : Bool} : atKey kb x.1 = some p → EqDt K H x.2.2 p.2 true → HitsD K H kb r b → HitsD K H kb (x :: r) b
end
end Mi
namespace Mi
open PySem PySem.Spec PyProof.Rows L2
def pickM (z : Str) : List (Str × IS) → IS
  | [] => iSkip
  | (x, I) :: r => if z = x then I else pickM z r
section
variable {X : Cx} {W : WX} {xa : Xa} {e : Expr} {A : IE} {pos : Pos}
inductive MCs (X : Cx) (W : WX) (xa : Xa) : List MatchCase → List (Str × IS) → Prop
  | nil : MCs X W xa [] []
  | cons {x : Str} {j : Nat} {p1 p2 : Pos} {body : List Stmt} {r : List MatchCase} {I : IS} {cs : List (Str × IS)} (h : MSs X W xa body I) (t : MCs X W xa r cs) : MCs X W xa (⟨.MatchValue (.Constant (.str x) j p1) p2, none, body⟩ :: r) ((x, I) :: cs)
theorem MCs.run {cases : List MatchCase} {cs : List (Str × IS)} (hc : MCs X W xa cases cs) : ∀ (z : Str) (tk : Nat) (first : Bool) (pins : List (Addr × Obj)) (s : Shared) (σ : L2.St) (H : Hp) (D : Ends), Inv X pins σ H s → tsOf (gd X) W xa (pickM z cs) D σ H →
    wpAny (model X.prog X.w) X.A (matchCases cases X.env (.str z tk) first) (SP X pins D) X.xe s := by
  induction hc with
  | nil =>
    intro z tk first pins s σ H D I h
    refine wpAny_matchCases_nil ?_
    obtain ⟨m, os, rs, ρ, st, P, h⟩ := h
    exact ⟨σ, H, I, h.here P⟩
  | @cons x j p1 p2 body r J cs hb _ ih =>
    intro z tk first pins s σ H D I h
    refine wpAny_matchCases_cons (wpAny_matchPattern_Value (Calls.Constant_str ?_))
    have I1 := I.tok (s.toks + 1)
    refine thn (op_eq pins _ σ H (.str z) (.str x) _ _ (fun v H' => v = .bl (decide (z = x)) ∧ H' = H) I1 ⟨_, rfl⟩ ⟨_, rfl⟩ ⟨rfl, ?_⟩) fun v s2 h2 => ?_
    · simp
    · obtain ⟨v', H2, I2, r2, e2, e3⟩ := h2
      subst e2 e3
      cases r2
      refine wpAny_truthy_bool ?_
      by_cases c : z = x
      · rw [pickM, if_pos c] at h
        simp only [c, decide_true, if_true]
        exact wpAny_assignInOrder_none (hb.run pins s2 σ _ D I2 h)
      · rw [pickM, if_neg c] at h
        simp only [c, decide_false]
        exact ih z tk false pins s2 σ _ D I2 h
end
end Mi
namespace Mi
open PySem PySem.Spec PyProof.Rows L2
def keyK : IV → Option Key
  | .int i => some (.inl i)
  | .str z => some (.inr z)
  | _ => none
def valI (kvs : List (Key × IV)) (k : Key) : Option IV := (kvs.find? fun p => decide (p.1 = k)).map (·.2)
def dicAt (st : Sto) : IV → Option (List (Key × IV))
  | .ref l => match st[l]? with
    | some (.dic kvs) => some kvs
    | some (.fdic kvs) => some kvs
    | _ => none
  | _ => none
def gIxK : IV → IV → Sto → R IV := fun x y st => match dicAt st x with
  | some kvs => match keyK y with
    | some k => match valI kvs k with
      | some z => .ok z st
      | none => .bad
    | none => .bad
  | none => .bad
section
variable {G : Gd} {m bs : List Addr} {st : Sto} {H : Hp}
theorem Z2C {y : IV} {k : Key} {v : V} (e : keyK y = some k) (r : RV G m bs st H y v) : v = kV k := by
  cases y with
  | int i => cases e; simp only [RV] at r; exact r
  | str z => cases e; simp only [RV] at r; exact r
  | _ => cases e
theorem RKs.val {k : Key} : ∀ {kvs : List (Key × IV)} {ws : List (Key × V)} {z : IV}, RKs G m bs st H kvs ws → valI kvs k = some z → ∃ v, valV ws k = some v ∧ RV G m bs st H z v
  | [], ws, z, h, e => by cases e
  | (f, x) :: r, ws, z, h, e => by
    obtain ⟨v, t, ew, h1, h2⟩ := h
    subst ew
    unfold valI at e
    rw [List.find?_cons] at e
    by_cases c : f = k
    · simp only [c, decide_true, Option.map_some, Option.some.injEq] at e
      subst e
      exact ⟨v, valV_pos c, h1⟩
    · simp only [c, decide_false] at e
      obtain ⟨u, e1, e2⟩ := RKs.val h2 (show valI r k = some z from e)
      refine ⟨u, ?_, e2⟩
      simp only [valV, List.find?_cons, c, decide_false]
      exact e1
theorem Z8v (R : Rel G m bs st H) {x : IV} {v : V} {kvs : List (Key × IV)} (e : dicAt st x = some kvs) (r : RV G m bs st H x v) : ∃ a ws, v = .ref a ∧ Rd H a (.dK ws) ∧ RKs G m bs st H kvs ws := by
  cases x with
  | ref l =>
    simp only [dicAt] at e
    simp only [RV] at r
    obtain ⟨a, ea, hm⟩ := r
    split at e
    · rename_i ks e1
      cases e
      obtain ⟨ws, h1, h2⟩ := R.obj l _ a e1 hm
      exact ⟨a, ws, ea, .inl h1, h2⟩
    · rename_i ks e1
      cases e
      obtain ⟨od, ws, h1, h2⟩ := R.obj l _ a e1 hm
      exact ⟨a, ws, ea, .inr ⟨od, h1⟩, h2⟩
    · cases e
  | _ => cases e
end
section
variable {X : Cx} {W : WX} {xa : Xa} {a b : Expr} {A B : IE} {pos : Pos}
inductive DPs (X : Cx) (W : WX) (xa : Xa) (pos : Pos) : List (Option Expr) → List Expr → List (Str × IE) → Prop
  | nil : DPs X W xa pos [] [] []
  | cons {x : Str} {j : Nat} {p : Pos} {v : Expr} {B : IE} {ks : List (Option Expr)} {vs : List Expr} {ps : List (Str × IE)} (hv : ME X W xa v B) (t : DPs X W xa pos ks vs ps) : DPs X W xa pos (some (.Constant (.str x) j p) :: ks) (v :: vs) ((x, B) :: ps)
theorem DPs.len {ks : List (Option Expr)} {vs : List Expr} {ps : List (Str × IE)} (h : DPs X W xa pos ks vs ps) : ks.length = ps.length ∧ vs.length = ps.length ∧ ks.all (·.isSome) = true := by
  induction h with
  | nil => exact ⟨rfl, rfl, rfl⟩
  | cons _ _ ih => exact ⟨by simp [ih.1], by simp [ih.2.1], by simpa using ih.2.2⟩
theorem Zhb (hu : X.A.units + 1 < cLine) (ha : ME X W xa a A) (hb : ME X W xa b B) (hs : NoSl b := by exact fun _ _ => rfl) : ME X W xa (.Subscript a b pos) (iBin gIxK A B) := by
  refine PE.weak (pe_dget hu ha hb hs) fun σ H Q h => ?_
  obtain ⟨m, os, rs, ρ, st, P, h⟩ := h
  refine ⟨m, os, rs, ρ, st, P, h.bind.mono fun x m1 st1 H1 g1 R1 h1 x' rx => ⟨m1, os, rs, ρ, st1, P.grow g1 R1, h1.bind.mono fun y m2 st2 H2 g2 R2 h2 y' ry => ?_⟩⟩
  have rx := RV.fits g2.fitsE _ _ rx
  unfold gIxK at h2
  split at h2
  · rename_i kvs e1
    obtain ⟨p, ws, ep, hp, rk⟩ := Z8v R2 e1 rx
    split at h2
    · rename_i k e2
      have ey := Z2C e2 ry
      split at h2
      · rename_i z e3
        obtain ⟨v, ev, rv⟩ := rk.val e3
        subst ey
        exact ⟨p, v, ep, by rw [← ev]; exact .inl ⟨_, _, hp, rfl, rfl⟩, h2.v R2 rv⟩
      · exact h2.elim
    · exact h2.elim
  · exact h2.elim
end
end Mi
namespace Mi
open PySem PySem.Spec PyProof.Rows L2
section
variable {P : Program} {w : World} {K : PySem.W.Frag} {mg : Str → Option Value} {base : Heap}
def qF (F : Fn) : Fn := fun xs st => quiet (F xs st)
theorem Z8h {k n : Nat} {f : Addr} {fd : FuncData} {ps : List Str} {F : Fn} (h : FnOk P w K mg base (L2.CX P w) k f fd ps (spOf ⟨K, mg, P, w⟩ n F)) : FnOk P w K mg base (L2N.CX P w) k f fd ps (spOf ⟨K, mg, P, w⟩ n (qF F)) :=
  ⟨fun vs H Q E z => h.len vs H Q (fun _ _ _ => False) ⟨z.1, by obtain ⟨m, bs, st, args, R, r, z⟩ := z.2; exact ⟨m, bs, st, args, R, r, Z3x z⟩⟩,
    fun A outer s H args us vs Q E hr he hb hv hs => codeAny_mono (h.run A outer s H args us vs Q (fun _ _ _ => False) hr he hb hv ⟨hs.1, by obtain ⟨m, bs, st, args, R, r, z⟩ := hs.2; exact ⟨m, bs, st, args, R, r, Z3x z⟩⟩) fun r s' hq => by
    cases r with
    | error e =>
      obtain ⟨_, _, _, _, _, _, _, _, _, _, _, _, z⟩ := hq
      exact z.elim
    | ok fl => cases fl <;> exact hq⟩
def Zuv (P : Program) (w : World) (K : PySem.W.Frag) (mg : Str → Option Value) (base : Heap) (c m : Str) (k n : Nat) (F : Fn) : Prop :=
  ∃ C f fd ps, mg c = some (.ref C) ∧ Cls K C ∧ Meth K C m f ∧ Binds K fd ps [] ∧ FnOk P w K mg base (L2N.CX P w) k f fd ps (spOf ⟨K, mg, P, w⟩ n F)
def MkMN (P : Program) (w : World) (K : PySem.W.Frag) (mg : Str → Option Value) (base : Heap) (c : Str) (k n : Nat) (F : Fn) : Prop :=
  ∃ C f fd ps, mg c = some (.ref C) ∧ Mk K C f ∧ Binds K fd ps [] ∧ FnOk P w K mg base (L2N.CX P w) k f fd ps (spOf ⟨K, mg, P, w⟩ n F)
theorem MethM.quiet {c m : Str} {k n : Nat} {F : Fn} (h : MethM P w K mg base c m k n F) : Zuv P w K mg base c m k n (qF F) := by
  obtain ⟨C, f, fd, ps, h1, h2, h3, h4, h5⟩ := h
  exact ⟨C, f, fd, ps, h1, h2, h3, h4, Z8h h5⟩
theorem MkM.quiet {c : Str} {k n : Nat} {F : Fn} (h : MkM P w K mg base c k n F) : MkMN P w K mg base c k n (qF F) := by
  obtain ⟨C, f, fd, ps, h1, h2, h3, h4⟩ := h
  exact ⟨C, f, fd, ps, h1, h2, h3, Z8h h4⟩
theorem FnM.quiet {x : Str} {k n : Nat} {F : Fn} (h : FnM P w K mg base x k n F) : FnMN P w K mg base x k n (qF F) := by
  obtain ⟨f, fd, ps, h1, h2, h3, h4⟩ := h
  exact ⟨f, fd, ps, h1, h2, h3, Z8h h4⟩
end
end Mi
namespace Mi
open PySem PySem.Spec PyProof.Rows L2 PySem.W
def intD (r : List Int) : List PyData := r.map .int
def rkD (r : List Int) (s w : Int) : PyData := .tuple [.tuple (intD r), .int s, .int w]
def rkI (r : List Int) (s w : Int) : IV := .tup [.tup (r.map .int), .int s, .int w]
variable {f : PyData → PyData → Bool} {st : Sto}
end Mi
namespace Mi
open PySem PySem.Spec PyProof.Rows L2
variable {ρ : Slots} {st : Sto} {E : Str → List (Str × IV) → Sto → Prop} {P : IV → Sto → Prop}
@[simp] theorem ZyE : DC.iv .non = .non := rfl
end Mi
namespace Mi
open PySem PySem.Spec PyProof.Rows L2
theorem Zn9 {g : GI} {all : List IV} {vs : List Nat} {T : ITg} {S : IT} {A : IE} {ρ : Slots} {P : List IV → Sto → Prop} {E : Str → List (Str × IV) → Sto → Prop} (Inv : Nat → List IV → Sto → Prop) : ∀ {xs : List IV} {n m : Nat} {acc : List IV} {st : Sto}, Inv n acc st →
    (∀ i x acc st, xs[i]? = some x → Inv (n + i) acc st → gokB g st all = true ∧ acc.length < 100000 ∧ (T x (wipeI ρ vs) st).wp ⟨fun ρ1 st1 => (S ρ1 st1).wp (fun b st2 => if b = true then (A ρ1 st2).wp (fun y st3 => Inv (n + i + 1) (acc ++ [y]) st3) nE else Inv (n + i + 1) acc st2) nE, fun _ _ => False, fun _ _ => False, fun _ _ => False, fun _ _ _ _ => False⟩) →
    (∀ acc st, Inv (n + xs.length) acc st → gokB g st all = true ∧ P acc st) → (lcL g all vs T S A ρ xs m acc st).wp P E
  | [], n, m, acc, st, h0, _, done => by
    obtain ⟨e, h⟩ := done acc st h0
    simp only [lcL, e, if_true]
    exact h
  | x :: r, n, m, acc, st, h0, step, done => by
    obtain ⟨e, e2, h⟩ := step 0 x acc st rfl h0
    simp only [lcL, e, e2, and_self, if_true]
    have next : ∀ acc2 st2, Inv (n + 1) acc2 st2 → (lcL g all vs T S A ρ r (m + 1) acc2 st2).wp P E := fun acc2 st2 hi =>
      Zn9 Inv (n := n + 1) hi (fun i x acc st e hi => by
        have := step (i + 1) x acc st (by simpa using e) (by rw [show n + (i + 1) = n + 1 + i by omega]; exact hi)
        rw [show n + (i + 1) = n + 1 + i by omega] at this
        exact this) (fun acc st hi => done acc st (by rw [List.length_cons, show n + (r.length + 1) = n + 1 + r.length by omega]; exact hi))
    cases q : T x (wipeI ρ vs) st with
    | nx ρ1 st1 =>
      rw [q] at h
      obtain ⟨b, st2, e3, h2⟩ := Z30 h
      simp only [e3, R.noE, R.bind]
      cases b with
      | false => simp only [Bool.false_eq_true, if_false] at h2 ⊢; exact next _ _ h2
      | true =>
        simp only [if_true] at h2 ⊢
        obtain ⟨y, st3, e4, h3⟩ := Z30 h2
        simp only [e4]
        exact next _ _ h3
    | _ => rw [q] at h; exact h.elim
theorem Zl9 {g : GI} {all : List IV} {vs : List Nat} {T : ITg} {S : IT} {A : IE} {ρ : Slots} {st : Sto} {xs : List IV} {m : Nat} {P : List IV → Sto → Prop} {E : Str → List (Str × IV) → Sto → Prop} (Inv : Nat → List IV → Sto → Prop) (h0 : Inv 0 [] st)
    (step : ∀ i x acc st, xs[i]? = some x → Inv i acc st → gokB g st all = true ∧ acc.length < 100000 ∧ (T x (wipeI ρ vs) st).wp ⟨fun ρ1 st1 => (S ρ1 st1).wp (fun b st2 => if b = true then (A ρ1 st2).wp (fun y st3 => Inv (i + 1) (acc ++ [y]) st3) nE else Inv (i + 1) acc st2) nE, fun _ _ => False, fun _ _ => False, fun _ _ => False, fun _ _ _ _ => False⟩)
    (done : ∀ acc st, Inv xs.length acc st → gokB g st all = true ∧ P acc st) : (lcL g all vs T S A ρ xs m [] st).wp P E :=
  Zn9 Inv (n := 0) h0 (fun i x acc st e h => by rw [Nat.zero_add] at h ⊢; exact step i x acc st e h) (fun acc st h => done acc st (by rw [Nat.zero_add] at h; exact h))
end Mi
namespace Mi
open PySem PySem.Spec PyProof.Rows L2
def putD (kvs : List (Key × IV)) (k : Key) (x : IV) : List (Key × IV) :=
  if (kvs.any fun p => decide (p.1 = k)) = true then kvs.map (fun p => if p.1 = k then (p.1, x) else p) else kvs ++ [(k, x)]
def dropD (kvs : List (Key × IV)) (k : Key) : List (Key × IV) := kvs.filter fun p => decide (p.1 ≠ k)
section
variable {G : Gd} {m bs : List Addr} {st : Sto} {H : Hp}
theorem RKs.len : ∀ {kvs : List (Key × IV)} {ws : List (Key × V)}, RKs G m bs st H kvs ws → kvs.length = ws.length
  | [], ws, h => by have h : ws = [] := h; rw [h]; rfl
  | (f, x) :: r, ws, h => by
    obtain ⟨v, t, ew, h1, h2⟩ := h
    subst ew
    rw [List.length_cons, List.length_cons, RKs.len h2]
theorem RKs.keys' : ∀ {kvs : List (Key × IV)} {ws : List (Key × V)}, RKs G m bs st H kvs ws → kvs.map (·.1) = ws.map (·.1)
  | [], ws, h => by have h : ws = [] := h; rw [h]; rfl
  | (f, x) :: r, ws, h => by
    obtain ⟨v, t, ew, h1, h2⟩ := h
    subst ew
    rw [List.map_cons, List.map_cons, RKs.keys' h2]
theorem RKs.noval {k : Key} : ∀ {kvs : List (Key × IV)} {ws : List (Key × V)}, RKs G m bs st H kvs ws → valI kvs k = none → valV ws k = none
  | [], ws, h, _ => by have h : ws = [] := h; rw [h]; rfl
  | (f, x) :: r, ws, h, e => by
    obtain ⟨v, t, ew, h1, h2⟩ := h
    subst ew
    unfold valI at e
    rw [List.find?_cons] at e
    by_cases c : f = k
    · simp [c] at e
    · simp only [c, decide_false] at e
      rw [valV_neg c]
      exact RKs.noval h2 e
theorem RKs.isSome {k : Key} {kvs : List (Key × IV)} {ws : List (Key × V)} (h : RKs G m bs st H kvs ws) : (valV ws k).isSome = (valI kvs k).isSome := by
  cases e : valI kvs k with
  | none => rw [h.noval e]; rfl
  | some z =>
    obtain ⟨v, e1, _⟩ := h.val e
    rw [e1]; rfl
theorem RKs.app : ∀ {a b : List (Key × IV)} {as' bs' : List (Key × V)}, RKs G m bs st H a as' → RKs G m bs st H b bs' → RKs G m bs st H (a ++ b) (as' ++ bs')
  | [], b, as', bs', h, hb => by have h : as' = [] := h; rw [h]; exact hb
  | (f, x) :: r, b, as', bs', h, hb => by
    obtain ⟨v, t, ew, h1, h2⟩ := h
    subst ew
    exact ⟨v, t ++ bs', rfl, h1, RKs.app h2 hb⟩
theorem RKs.anyK {k : Key} {kvs : List (Key × IV)} {ws : List (Key × V)} (h : RKs G m bs st H kvs ws) : (kvs.any fun p => decide (p.1 = k)) = (ws.any fun p => decide (p.1 = k)) := by
  have e : ∀ {α : Type} (l : List (Key × α)), (l.any fun p => decide (p.1 = k)) = ((l.map (·.1)).any fun q => decide (q = k)) := fun l => by
    rw [List.any_map]; rfl
  rw [e, e, h.keys']
theorem RKs.mapk {k : Key} {x : IV} {v : V} (rx : RV G m bs st H x v) : ∀ {kvs : List (Key × IV)} {ws : List (Key × V)}, RKs G m bs st H kvs ws → RKs G m bs st H (kvs.map fun p => if p.1 = k then (p.1, x) else p) (ws.map fun p => if p.1 = k then (p.1, v) else p)
  | [], ws, h => by have h : ws = [] := h; rw [h]; rfl
  | (f, y) :: r, ws, h => by
    obtain ⟨u, t, ew, h1, h2⟩ := h
    subst ew
    rw [List.map_cons, List.map_cons]
    have ih := RKs.mapk (k := k) rx h2
    by_cases c : f = k
    · simp only [c, if_true]; exact ⟨v, _, rfl, rx, ih⟩
    · simp only [c, if_false]; exact ⟨u, _, rfl, h1, ih⟩
theorem RKs.put {k : Key} {x : IV} {v : V} {kvs : List (Key × IV)} {ws : List (Key × V)} (h : RKs G m bs st H kvs ws) (rx : RV G m bs st H x v) : RKs G m bs st H (putD kvs k x) (putK ws k v) := by
  unfold putD putK
  rw [h.anyK]
  split
  · exact h.mapk rx
  · exact h.app ⟨v, [], rfl, rx, rfl⟩
theorem RKs.drop {k : Key} : ∀ {kvs : List (Key × IV)} {ws : List (Key × V)}, RKs G m bs st H kvs ws → RKs G m bs st H (dropD kvs k) (dropK ws k)
  | [], ws, h => by have h : ws = [] := h; rw [h]; rfl
  | (f, y) :: r, ws, h => by
    obtain ⟨u, t, ew, h1, h2⟩ := h
    subst ew
    have ih := RKs.drop (k := k) h2
    unfold dropD dropK at ih ⊢
    rw [List.filter_cons, List.filter_cons]
    by_cases c : f = k
    · simp only [c, ne_eq, not_true_eq_false, decide_false]; exact ih
    · simp only [c, ne_eq, not_false_eq_true, decide_true, if_true]; exact ⟨u, _, rfl, h1, ih⟩
theorem RKs.ks : ∀ {kvs : List (Key × IV)} {ws : List (Key × V)}, RKs G m bs st H kvs ws → RVs G m bs st H (kvs.map fun p => kI p.1) (ws.map fun p => kV p.1)
  | [], ws, h => by have h : ws = [] := h; rw [h]; simp only [List.map_nil, RVs]
  | (f, y) :: r, ws, h => by
    obtain ⟨u, t, ew, h1, h2⟩ := h
    subst ew
    simp only [List.map_cons, RVs]
    refine ⟨kV f, _, rfl, ?_, RKs.ks h2⟩
    cases f with
    | inl i => simp only [kI, RV]; rfl
    | inr z => simp only [kI, RV]; rfl
theorem Zl6 {l : Nat} {v : V} {kvs : List (Key × IV)} (R : Rel G m bs st H) (r : RV G m bs st H (.ref l) v) (e : st[l]? = some (.dic kvs)) : ∃ p ws, v = .ref p ∧ m[l]? = some p ∧ H p = some (.dK ws) ∧ RKs G m bs st H kvs ws := by
  simp only [RV] at r
  obtain ⟨p, ev, hp⟩ := r
  obtain ⟨ws, e1, r1⟩ := R.obj _ _ p e hp
  exact ⟨p, ws, ev, hp, e1, r1⟩
theorem Zht {l : Nat} {p : Addr} {xs ys : List (Key × IV)} {ws : List (Key × V)} (R : Rel G m bs st H) (hp : m[l]? = some p) (e : st[l]? = some (.dic xs)) (r : RKs G m bs st H ys ws) :
    GrowE m st H m (st.set l (.dic ys)) (upd H p (.dK ws)) ∧ Rel G m bs (st.set l (.dic ys)) (upd H p (.dK ws)) := by
  have g : GrowE m st H m (st.set l (.dic ys)) (upd H p (.dK ws)) := Z2e hp e (by simp)
  exact ⟨g, R.set hp e (by simp) ⟨ws, upd_same, RKs.fits g.fitsE _ _ r⟩⟩
end
def Z44 : IV → IV → IV → Sto → Option Sto := fun o i x st => match o with
  | .ref l => match st[l]? with
    | some (.dic kvs) => match keyK i with
      | some k => if kvs.length < 100000 then some (st.set l (.dic (putD kvs k x))) else none
      | none => none
    | _ => none
  | _ => none
def Z4n (A B : IE) : ITg := fun x ρ st => match A ρ st with
  | .ok o st1 => match B ρ st1 with
    | .ok i st2 => match Z44 o i x st2 with
      | some st3 => .nx ρ st3
      | none => .bad
    | _ => .bad
  | _ => .bad
section
variable {X : Cx} {W : WX} {xa : Xa} {a b e o i : Expr} {A B : IE} {pos p apos tpos : Pos}
theorem Znv (hu : X.A.units + 1 < cLine) (ho : ME X (fun _ _ _ _ => False) xa o A) (hi : ME X (fun _ _ _ _ => False) xa i B)
    (ha : ∀ v, assign (.Subscript o i pos) X.env v = (do
      let ov ← holding [v] (eval o X.env)
      let iv ← holding [v, ov] (eval i X.env)
      standAt pos
      holding [v, ov, iv] (setItem ov iv v)
      release [v, ov, iv] []) := by intro _; rfl) : MG X xa (.Subscript o i pos) (Z4n A B) := by
  refine PG.weak (pg_sub ho hi (set_dict hu) ha) fun v σ H Q h => ?_
  obtain ⟨m, os, rs, ρ, st, x, P, r, h⟩ := h
  refine ⟨m, os, rs, ρ, st, P, ?_⟩
  unfold Z4n at h
  cases q1 : A ρ st with
  | ok o st1 =>
    simp only [q1] at h
    intro m1 H1 g1 R1 u1 ru1
    refine ⟨m1, os, rs, ρ, st1, P.grow g1 R1, ?_⟩
    cases q2 : B ρ st1 with
    | ok i st2 =>
      simp only [q2] at h
      intro m2 H2 g2 R2 u2 ru2
      cases q3 : Z44 o i x st2 with
      | none => simp only [q3] at h; exact h.elim
      | some st3 =>
        simp only [q3] at h
        unfold Z44 at q3
        split at q3
        · rename_i l
          split at q3
          · rename_i kvs hx
            split at q3
            · rename_i k ek
              split at q3
              · rename_i c
                cases q3
                have ey := Z2C ek ru2
                obtain ⟨p, ws, ep, hp2, hv, rk⟩ := Zl6 R2 (RV.fits g2.fitsE _ _ ru1) hx
                have rx := RV.fits (g1.trans g2).fitsE _ _ r
                obtain ⟨g3, R3⟩ := Zht R2 hp2 hx (rk.put (k := k) rx)
                refine ⟨p, _, ep, ?_, h m2 os _ σ (.ofE ((g1.trans g2).trans g3)) (((P.grow g1 R1).grow g2 R2).grow g3 R3)⟩
                rw [ey]
                exact DPut.k hv (by rw [← rk.len]; exact szlt c)
              · cases q3
            · cases q3
          · cases q3
        · cases q3
    | exc c fs st2 => simp only [q2] at h; exact h.elim
    | bad => simp only [q2] at h; exact h.elim
  | exc c fs st1 => simp only [q1] at h; exact h.elim
  | bad => simp only [q1] at h; exact h.elim
theorem ZiX {A B : IE} : TgOk (Z4n A B) := fun x ρ st => by
  unfold Z4n
  cases A ρ st with
  | ok o st1 =>
    cases q : B ρ st1 with
    | ok i st2 =>
      simp only [q]
      cases Z44 o i x st2 <;> rfl
    | _ => simp only [q]; rfl
  | _ => rfl
def gDelD : IV → IV → Sto → R IV := fun x y st => match x with
  | .ref l => match st[l]? with
    | some (.dic kvs) => match keyK y with
      | some k => if (valI kvs k).isSome = true then .ok .non (st.set l (.dic (dropD kvs k))) else .bad
      | none => .bad
    | _ => .bad
  | _ => .bad
def iDelD (A B : IE) : IS := fun ρ st => RS.ofR ((A ρ st).bind fun x st => (B ρ st).bind fun y st => gDelD x y st) ρ fun _ st => .nx ρ st
theorem ZvA (ha : ME X W xa o A) (hb : ME X W xa i B) : MS X W xa (.Delete [.Subscript o i tpos] pos) (iDelD A B) := by
  refine PS.weak (ps_ddel ha hb) fun D σ H h => ?_
  obtain ⟨m, os, rs, ρ, st, P, h⟩ := h
  unfold iDelD at h
  refine ⟨m, os, rs, ρ, st, P, (h.ofR P).bind.mono fun x m1 st1 H1 g1 R1 h1 x' rx => ⟨m1, os, rs, ρ, st1, P.grow g1 R1, h1.bind.mono fun y m2 st2 H2 g2 R2 h2 y' ry => ?_⟩⟩
  have rx := RV.fits g2.fitsE _ _ rx
  unfold gDelD at h2
  split at h2
  · rename_i l
    split at h2
    · rename_i kvs hx
      split at h2
      · rename_i k ek
        split at h2
        · rename_i c
          have ey := Z2C ek ry
          obtain ⟨p, ws, ep, hp2, hv, rk⟩ := Zl6 R2 rx hx
          obtain ⟨g3, R3⟩ := Zht R2 hp2 hx (rk.drop (k := k))
          refine ⟨p, ws, k, ep, hv, ey, by rw [rk.isSome]; exact c, ?_⟩
          exact (h2 m2 _ g3 R3).here (((P.grow g1 R1).grow g2 R2).grow g3 R3)
        · exact h2.elim
      · exact h2.elim
    · exact h2.elim
  · exact h2.elim
end
end Mi
namespace Mi
open PySem PySem.Spec PyProof.Rows L2
section
variable {X : Cx} {W : WX} {xa : Xa} {a b e o i : Expr} {A B : IE} {pos p apos cpos : Pos}
def rInK (neg : Bool) : R2 := fun y x H Q => ∃ a kvs k, x = .ref a ∧ Rd H a (.dK kvs) ∧ y = kV k ∧ Q (.bl (if neg then !(valV kvs k).isSome else (valV kvs k).isSome)) H
theorem ZuI (hu : X.A.units + 1 < cLine) : OpR X (compareOp .In) (rInK false) := by
  intro pins s σ H y x u v Q I ry rx h
  obtain ⟨a, kvs, k, rfl, ha, ey, q⟩ := h
  obtain rfl : v = Value.ref a := rx
  exact d_in hu I (by rw [ey]; exact .inl ⟨_, _, ha, rfl, rfl⟩) ry fun s3 I3 => ⟨.bl _, H, I3, rfl, q⟩
theorem ZpD (hu : X.A.units + 1 < cLine) : OpR X (compareOp .NotIn) (rInK true) := by
  intro pins s σ H y x u v Q I ry rx h
  obtain ⟨a, kvs, k, rfl, ha, ey, q⟩ := h
  obtain rfl : v = Value.ref a := rx
  exact d_notIn hu I (by rw [ey]; exact .inl ⟨_, _, ha, rfl, rfl⟩) ry fun s3 I3 => ⟨.bl _, H, I3, rfl, q⟩
def gInK (neg : Bool) : IV → IV → Sto → R IV := fun y x st => match dicAt st x with
  | some kvs => match keyK y with
    | some k => .ok (.bl (if neg then !(valI kvs k).isSome else (valI kvs k).isSome)) st
    | none => .bad
  | none => .bad
theorem ZlJ {op : CmpOp} {neg : Bool} (ho : OpR X (compareOp op) (rInK neg)) : OpM X (compareOp op) (gInK neg) := by
  refine ⟨_, ho, fun m bs st H y x y' x' Q W R ry rx h => ?_⟩
  unfold gInK at h
  split at h
  · rename_i kvs e
    split at h
    · rename_i k ek
      obtain ⟨c, ws, rfl, hc, rk⟩ := Z8v R e rx
      exact ⟨c, ws, k, rfl, hc, Z2C ek ry, by rw [rk.isSome]; exact h.v R (by simp only [RV])⟩
    · exact h.elim
  · exact h.elim
theorem Z7d (hu : X.A.units + 1 < cLine) : OpM X (compareOp .In) (gInK false) := ZlJ (ZuI hu)
theorem Zof (hu : X.A.units + 1 < cLine) : OpM X (compareOp .NotIn) (gInK true) := ZlJ (ZpD hu)
def isDic (st : Sto) (x : IV) : Bool := (dicAt st x).isSome
def iDGet (A B : IE) : IE := fun ρ st => (A ρ st).bind fun x st => if isDic st x = true then (B ρ st).bind fun y st => match dicAt st x with
  | some kvs => match keyK y with
    | some k => .ok ((valI kvs k).getD .non) st
    | none => .bad
  | none => .bad else .bad
theorem ZlK {G : Gd} {m bs : List Addr} {st : Sto} {H : Hp} {x : IV} {v : V} (R : Rel G m bs st H) (e : isDic st x = true) (r : RV G m bs st H x v) : ∃ a, v = .ref a ∧ IsD H a := by
  unfold isDic at e
  cases q : dicAt st x with
  | none => rw [q] at e; cases e
  | some kvs =>
    obtain ⟨a, ws, ev, h, _⟩ := Z8v R q r
    exact ⟨a, ev, .inl ⟨ws, h⟩⟩
theorem ZsG (hu : X.A.units + 1 < cLine) (ha : ME X W xa o A) (hb : ME X W xa e B) (m1 : M1 X o "get" apos e cpos) : ME X W xa (.Call (.Attribute o "get" apos) [e] [] cpos) (iDGet A B) := by
  refine PE.weak (pe_dget1 hu ha hb m1) fun σ H Q h => ?_
  obtain ⟨m, os, rs, ρ, st, P, h⟩ := h
  refine ⟨m, os, rs, ρ, st, P, h.bind.mono fun x m1 st1 H1 g1 R1 h1 x' rx => ?_⟩
  split at h1
  · rename_i c
    obtain ⟨a, ea, isd⟩ := ZlK R1 c rx
    refine ⟨a, ea, isd, m1, os, rs, ρ, st1, P.grow g1 R1, h1.bind.mono fun y m2 st2 H2 g2 R2 h2 y' ry => ?_⟩
    have rx := RV.fits g2.fitsE _ _ rx
    split at h2
    · rename_i kvs ek
      split at h2
      · rename_i k e2
        obtain ⟨c, ws, ec, hc, rk⟩ := Z8v R2 ek rx
        rw [ea] at ec
        cases ec
        have ey := Z2C e2 ry
        refine ⟨valV ws k, by rw [ey]; exact .inl ⟨_, _, hc, rfl, rfl⟩, ?_⟩
        cases q : valI kvs k with
        | none =>
          rw [rk.noval q]
          rw [q] at h2
          exact h2.v R2 (by simp only [Option.getD, RV])
        | some z =>
          obtain ⟨v, ev, rv⟩ := rk.val q
          rw [ev]
          rw [q] at h2
          exact h2.v R2 rv
      · exact h2.elim
    · exact h2.elim
  · exact h1.elim
def gDPop (x y : IV) (st : Sto) : R IV := match x with
  | .ref l => match st[l]? with
    | some (.dic kvs) => match keyK y with
      | some k => match valI kvs k with
        | some z => .ok z (st.set l (.dic (dropD kvs k)))
        | none => .bad
      | none => .bad
    | _ => .bad
  | _ => .bad
def iDPop (A B : IE) : IE := fun ρ st => (A ρ st).bind fun x st => if isDic st x = true then (B ρ st).bind fun y st => gDPop x y st else .bad
theorem ZtA (ha : ME X W xa o A) (hb : ME X W xa e B) (m1 : M1 X o "pop" apos e cpos) : ME X W xa (.Call (.Attribute o "pop" apos) [e] [] cpos) (iDPop A B) := by
  refine PE.weak (pe_dpop1 ha hb m1) fun σ H Q h => ?_
  obtain ⟨m, os, rs, ρ, st, P, h⟩ := h
  refine ⟨m, os, rs, ρ, st, P, h.bind.mono fun x m1 st1 H1 g1 R1 h1 x' rx => ?_⟩
  split at h1
  · rename_i c
    obtain ⟨a, ea, isd⟩ := ZlK R1 c rx
    refine ⟨a, ea, isd, m1, os, rs, ρ, st1, P.grow g1 R1, h1.bind.mono fun y m2 st2 H2 g2 R2 h2 y' ry => ?_⟩
    have rx := RV.fits g2.fitsE _ _ rx
    unfold gDPop at h2
    split at h2
    · rename_i l
      split at h2
      · rename_i kvs hx
        split at h2
        · rename_i k ek
          split at h2
          · rename_i z ez
            have ey := Z2C ek ry
            obtain ⟨p, ws, ep, hp2, hv, rk⟩ := Zl6 R2 rx hx
            rw [ea] at ep
            cases ep
            obtain ⟨v, ev, rv⟩ := rk.val ez
            obtain ⟨g3, R3⟩ := Zht R2 hp2 hx (rk.drop (k := k))
            exact ⟨ws, k, v, hv, ey, ev, h2 m2 _ g3 R3 v (RV.fits g3.fitsE _ _ rv)⟩
          · exact h2.elim
        · exact h2.elim
      · exact h2.elim
    · exact h2.elim
  · exact h1.elim
def iDNew : IE := fun _ st => .ok (.ref st.length) (st ++ [.dic []])
theorem Zts : ME X W xa (.Dict [] [] pos) iDNew := by
  refine PE.weak pe_dnewK fun σ H Q h => ?_
  obtain ⟨m, os, rs, ρ, st, P, h⟩ := h
  intro p hp
  exact h.newS (o := .dic []) P.rel hp fun m' st' H' g e => ⟨[], e, rfl⟩
def dicU (st : Sto) : IV → Option (List (Key × IV))
  | .ref l => match st[l]? with
    | some (.dic kvs) => some kvs
    | _ => none
  | _ => none
theorem Zns {G : Gd} {m bs : List Addr} {st : Sto} {H : Hp} (R : Rel G m bs st H) {x : IV} {v : V} {kvs : List (Key × IV)} (e : dicU st x = some kvs) (r : RV G m bs st H x v) : ∃ a ws, v = .ref a ∧ H a = some (.dK ws) ∧ RKs G m bs st H kvs ws := by
  cases x with
  | ref l =>
    simp only [dicU] at e
    simp only [RV] at r
    obtain ⟨a, ea, hm⟩ := r
    split at e
    · rename_i ks e1
      cases e
      obtain ⟨ws, h1, h2⟩ := R.obj l _ a e1 hm
      exact ⟨a, ws, ea, h1, h2⟩
    · cases e
  | _ => cases e
def gLenD : List IV → Sto → R IV
  | [x], st => match dicU st x with
    | some kvs => .ok (.int kvs.length) st
    | none => .bad
  | _, _ => .bad
theorem Znx : CallM X (.builtin "len") gLenD := by
  refine ⟨_, call_lenD, fun m bs st H xs xs' Q W R rx h => ?_⟩
  unfold gLenD at h
  split at h
  · split at h
    · rename_i kvs e
      obtain ⟨v, ev, r⟩ := rvs1 rx
      obtain ⟨a, ws, ea, ha, rk⟩ := Zns R e r
      refine ⟨a, ws, by rw [ev, ea], ha, ?_⟩
      rw [← rk.len]
      exact h.v R (by simp only [RV])
    · exact h.elim
  · exact h.elim
def ZaH : List IV → Sto → R IV
  | [x], st => match dicU st x with
    | some kvs => .ok (.lst (kvs.map fun p => kI p.1)) st
    | none => .bad
  | _, _ => .bad
theorem Zqp (hc : X.calm = true) : CallM X (.type "list") ZaH := by
  refine ⟨_, call_list_dK hc, fun m bs st H xs xs' Q W R rx h => ?_⟩
  unfold ZaH at h
  split at h
  · split at h
    · rename_i kvs e
      obtain ⟨v, ev, r⟩ := rvs1 rx
      obtain ⟨a, ws, ea, ha, rk⟩ := Zns R e r
      exact ⟨a, ws, by rw [ev, ea], ha, fun q hq => h.newL R rk.ks hq⟩
    · exact h.elim
  · exact h.elim
end
end Mi
namespace Mi
open PySem PySem.Spec PyProof.Rows L2
def insI (x : Int) : List Int → List Int
  | [] => [x]
  | y :: r => if x ≤ y then x :: y :: r else y :: insI x r
def isort : List Int → List Int
  | [] => []
  | x :: r => insI x (isort r)
theorem insI_perm {x : Int} : ∀ {xs : List Int}, (insI x xs).Perm (x :: xs)
  | [] => .refl _
  | y :: r => by
    rw [insI]
    split
    · exact .refl _
    · exact (List.Perm.cons y insI_perm).trans (.swap x y r)
theorem isort_perm : ∀ {xs : List Int}, (isort xs).Perm xs
  | [] => .refl _
  | x :: r => by rw [isort]; exact insI_perm.trans (List.Perm.cons x isort_perm)
theorem ZdG {x : Int} : ∀ {xs : List Int}, xs.Pairwise (· ≤ ·) → (insI x xs).Pairwise (· ≤ ·)
  | [], _ => by simp [insI]
  | y :: r, h => by
    rw [List.pairwise_cons] at h
    rw [insI]
    split
    · rename_i c
      rw [List.pairwise_cons, List.pairwise_cons]
      refine ⟨fun z hz => ?_, h⟩
      rcases List.mem_cons.mp hz with rfl | hz
      · exact c
      · exact Int.le_trans c (h.1 z hz)
    · rename_i c
      rw [List.pairwise_cons]
      refine ⟨fun z hz => ?_, ZdG h.2⟩
      rcases List.mem_cons.mp (insI_perm.mem_iff.mp hz) with rfl | hz
      · omega
      · exact h.1 z hz
theorem Z4T : ∀ {xs : List Int}, (isort xs).Pairwise (· ≤ ·)
  | [] => List.Pairwise.nil
  | x :: r => by rw [isort]; exact ZdG Z4T
theorem Z8A : ∀ {a b : List Int}, a.Perm b → a.Pairwise (· ≤ ·) → b.Pairwise (· ≤ ·) → a = b
  | [], b, h, _, _ => (List.Perm.nil_eq h)
  | x :: xs, [], h, _, _ => by have := h.length_eq; simp at this
  | x :: xs, y :: ys, h, ha, hb => by
    rw [List.pairwise_cons] at ha hb
    have e : x = y := by
      have h1 : x ∈ y :: ys := h.mem_iff.mp List.mem_cons_self
      have h2 : y ∈ x :: xs := h.mem_iff.mpr List.mem_cons_self
      rcases List.mem_cons.mp h1 with e | h1
      · exact e
      · rcases List.mem_cons.mp h2 with e | h2
        · exact e.symm
        · have := ha.1 y h2
          have := hb.1 x h1
          omega
    subst e
    rw [Z8A (List.perm_cons x |>.mp h) ha.2 hb.2]
def intsI : List IV → Option (List Int)
  | [] => some []
  | .int i :: r => (intsI r).map (i :: ·)
  | _ => none
theorem Zkw : ∀ {xs : List IV} {ns : List Int}, intsI xs = some ns → xs = ns.map .int
  | [], ns, h => by cases h; rfl
  | x :: r, ns, h => by
    cases x with
    | int i =>
      simp only [intsI, Option.map_eq_some_iff] at h
      obtain ⟨ms, h1, rfl⟩ := h
      rw [Zkw h1]; rfl
    | _ => cases h
theorem ZoY {ns : List Int} : intsI (ns.map .int) = some ns := by
  induction ns with
  | nil => rfl
  | cons n r ih => rw [List.map_cons, intsI, ih]; rfl
section
variable {G : Gd} {m bs : List Addr} {st : Sto} {H : Hp}
theorem ZiQ : ∀ {ns : List Int} {vs : List V}, RVs G m bs st H (ns.map .int) vs → vs = ns.map V.int
  | [], vs, h => by simpa only [List.map_nil, RVs] using h
  | n :: r, vs, h => by
    simp only [List.map_cons, RVs] at h
    obtain ⟨v, t, rfl, h1, h2⟩ := h
    simp only [RV] at h1
    rw [h1, ZiQ h2]; rfl
theorem ZiS : ∀ {ns : List Int}, RVs G m bs st H (ns.map .int) (ns.map V.int)
  | [] => by simp only [List.map_nil, RVs]
  | n :: r => by
    simp only [List.map_cons, RVs]
    exact ⟨_, _, rfl, by simp only [RV], ZiS⟩
end
section
variable {X : Cx} {W : WX} {xa : Xa}
def ZaD : List IV → Sto → R IV
  | [x], st => match asL st x with
    | some xs => match intsI xs with
      | some ns => .ok (.lst ((isort ns).map .int)) st
      | none => .bad
    | none => .bad
  | _, _ => .bad
theorem ZqP : CallM X (.builtin "sorted") ZaD := by
  refine ⟨_, cr_sortedI, fun m bs st H xs xs' Q W R rx h => ?_⟩
  unfold ZaD at h
  split at h
  · split at h
    · rename_i ys e
      split at h
      · rename_i ns en
        obtain ⟨v, ev, r⟩ := rvs1 rx
        obtain ⟨a, vs, ea, h1, r1⟩ := Z2N R e r
        have ey := Zkw en
        subst ey
        have e2 := ZiQ r1
        subst e2
        refine ⟨a, ns, by rw [ev, ea], h1, fun ns' p hp hs hn => ?_⟩
        have e3 : ns' = isort ns := Z8A (hp.trans isort_perm.symm) hs Z4T
        subst e3
        exact h.newL R ZiS hn
      · exact h.elim
    · exact h.elim
  · exact h.elim
end
end Mi
namespace Mi
open PySem PySem.Spec PyProof.Rows L2
def Z79 : List IV → Option (List (Key × IV))
  | [] => some []
  | .tup [k, v] :: r => match keyK k with
    | some q => (Z79 r).map ((q, v) :: ·)
    | none => none
  | _ => none
def Z4f (kvs more : List (Key × IV)) : List (Key × IV) := more.foldl (fun acc p => putD acc p.1 p.2) kvs
section
variable {G : Gd} {m bs : List Addr} {st : Sto} {H : Hp}
theorem RKs.merge : ∀ {more : List (Key × IV)} {ms : List (Key × V)} {kvs : List (Key × IV)} {ws : List (Key × V)}, RKs G m bs st H more ms → RKs G m bs st H kvs ws → RKs G m bs st H (Z4f kvs more) (mergeK ws ms)
  | [], ms, kvs, ws, h, hk => by have h : ms = [] := h; rw [h]; exact hk
  | (f, x) :: r, ms, kvs, ws, h, hk => by
    obtain ⟨v, t, ew, h1, h2⟩ := h
    subst ew
    show RKs G m bs st H (Z4f (putD kvs f x) r) (mergeK (putK ws f v) t)
    exact RKs.merge h2 (hk.put h1)
theorem ZiT : ∀ {xs : List IV} {kvs : List (Key × IV)} {vs : List V}, Z79 xs = some kvs → RVs G m bs st H xs vs → ∃ ps ws, vs = ps.map V.ref ∧ Paired (fun p (kv : Key × V) => SqT G.K H p [kV kv.1, kv.2]) ps ws ∧ RKs G m bs st H kvs ws
  | [], kvs, vs, e, r => by
    cases e
    simp only [RVs] at r
    exact ⟨[], [], r, .nil, rfl⟩
  | x :: xs, kvs, vs, e, r => by
    simp only [RVs] at r
    obtain ⟨v, t, rfl, h1, h2⟩ := r
    unfold Z79 at e
    split at e
    · rename_i e0; cases e0
    · rename_i k y r' e0
      cases e0
      split at e
      · rename_i q eq
        obtain ⟨ks, e1, rfl⟩ := Option.map_eq_some_iff.mp e
        obtain ⟨ps, ws, rfl, hp, hk⟩ := ZiT e1 h2
        obtain ⟨a, us, ea, hs, hu⟩ := Z4a (x := .tup [k, y]) rfl h1
        simp only [RVs] at hu
        obtain ⟨u1, t1, rfl, hu1, u2, t2, rfl, hu2, rfl⟩ := hu
        have ek := Z2C eq hu1
        subst ek
        exact ⟨a :: ps, (q, u2) :: ws, by rw [ea]; rfl, .cons hs hp, u2, ws, rfl, hu2, hk⟩
      · cases e
    · cases e
end
section
variable {X : Cx} {W : WX} {xa : Xa} {a b e o : Expr} {A B : IE} {pos p apos tpos : Pos} {f : Str} {cs : List Str}
def Z5t : List IV → Sto → R IV
  | [x], st => match asL st x with
    | some xs => match Z79 xs with
      | some kvs => .ok (.ref st.length) (st ++ [.dic (Z4f [] kvs)])
      | none => .bad
    | none => .bad
  | _, _ => .bad
theorem Zr1 (hc : X.calm = true) : CallM X (.type "dict") Z5t := by
  refine ⟨_, call_dictP hc, fun m bs st H xs xs' Q W R rx h => ?_⟩
  unfold Z5t at h
  split at h
  · split at h
    · rename_i ys e
      split at h
      · rename_i kvs en
        obtain ⟨v, ev, r⟩ := rvs1 rx
        obtain ⟨a, vs, ea, h1, r1⟩ := Z2N R e r
        obtain ⟨ps, ws, rfl, hp, hk⟩ := ZiT en r1
        refine ⟨a, ps, ws, by rw [ev, ea], h1, hp, fun q hq => h.newS (o := .dic (Z4f [] kvs)) R hq fun m' st' H' g e => ⟨_, e, RKs.fits g.fitsE _ _ (RKs.merge hk (show RKs _ _ _ _ _ [] [] from rfl))⟩⟩
      · exact h.elim
    · exact h.elim
  · exact h.elim
def Zbt (cs : List Str) (f : Str) (A B : IE) : IS := fun ρ st => RS.ofR ((A ρ st).bind fun x st => match insAt st cs x with
  | some (l, c, fs) => match fs.lookup f with
    | some (.int i) => (B ρ st).bind fun y st1 => match y, insAt st1 cs x with
      | .int j, some (_, c', fs') => if c' = c ∧ fs'.length < 1000 then .ok IV.non (st1.set l (.ins c (putI f (.int (i + j)) fs'))) else .bad
      | _, _ => .bad
    | _ => .bad
  | none => .bad) ρ fun _ st => .nx ρ st
theorem ZpT (hf : FdM X.K X.mg cs f) (ha : ME X W xa o A) (hb : ME X W xa b B) : MS X W xa (.AugAssign (.Attribute o f tpos) .Add b pos) (Zbt cs f A B) := by
  refine PS.weak (ps_fldaug ha hb in_add) fun D σ H h => ?_
  obtain ⟨m, os, rs, ρ, st, P, h⟩ := h
  refine ⟨m, os, rs, ρ, st, P, (h.ofR P).bind.mono fun x m1 st1 H1 g1 R1 h1 u ru => ?_⟩
  split at h1
  · rename_i l c fs e
    obtain ⟨ex, hc, hst, p, C, dx, gs, ev, hm, hC, hH, rf⟩ := Z5k R1 e ru
    split at h1
    · rename_i i hv
      obtain ⟨w, e1, r1⟩ := rf.look hv
      obtain ⟨c1, c2⟩ := hf c hc C hC
      simp only [RV] at r1
      refine ⟨p, C, dx, gs, w, ev, hH, c1, c2, e1, m1, os, rs, ρ, st1, P.grow g1 R1, h1.bind.mono fun y m2 st2 H2 g2 R2 h2 v rv => ?_⟩
      split at h2
      · rename_i j l' c' fs' e2
        split at h2
        · rename_i hh
          obtain ⟨rfl, hl⟩ := hh
          obtain ⟨ex2, hc2, hst2, p2, C2, dx2, gs2, ev2, hm2, hC2, hH2, rf2⟩ := Z5k R2 e2 (RV.fits g2.fitsE _ _ ru)
          rw [ex] at ex2
          cases ex2
          rw [ev] at ev2
          cases ev2
          rw [hC] at hC2
          cases hC2
          simp only [RV] at rv
          refine ⟨i, j, r1, rv, dx2, gs2, hH2, by rw [← rf2.length]; exact hl, ?_⟩
          have g3 : GrowE m2 st2 H2 m2 (st2.set l (.ins c' (putI f (.int (i + j)) fs'))) (upd H2 p (.ins C dx2 (putF f (.int (i + j)) gs2))) := Z2e hm2 hst2 (by simp)
          have R3 := R2.set (o' := .ins c' (putI f (.int (i + j)) fs')) (u := .ins C dx2 (putF f (.int (i + j)) gs2)) hm2 hst2 (by simp) ⟨C, dx2, _, hC, upd_same, RFs.fits g3.fitsE _ _ (rf2.put (by simp only [RV]))⟩
          exact (h2 m2 _ g3 R3).here (((P.grow g1 R1).grow g2 R2).grow g3 R3)
        · exact h2.elim
      · exact h2.elim
    · exact h1.elim
  · exact h1.elim
def gIns : IV → List IV → Sto → R IV
  | .ref l, [.int i, y], st => match st[l]? with
    | some (.lst xs) => if xs.length < 100000 ∧ 0 ≤ i ∧ i < 1000000 then .ok .non (st.set l (.lst (xs.take i.toNat ++ [y] ++ xs.drop i.toNat))) else .bad
    | _ => .bad
  | _, _, _ => .bad
theorem Zol : MtdM X "list.insert" gIns := by
  refine ⟨_, mt_insert, fun m bs st H x xs x' xs' Q W R rx rxs h => ?_⟩
  unfold gIns at h
  split at h
  · rename_i l i y
    split at h
    · rename_i zs hz
      split at h
      · rename_i c
        obtain ⟨p, vs, ev, hp, hH, r⟩ := Zb0 R rx hz
        simp only [RVs] at rxs
        obtain ⟨w1, t1, rfl, rw1, w2, t2, rfl, rw2, rfl⟩ := rxs
        simp only [RV] at rw1
        subst rw1
        obtain ⟨g, R'⟩ := ZbA (ys := zs.take i.toNat ++ [y] ++ zs.drop i.toNat) (ws := vs.take i.toNat ++ [w2] ++ vs.drop i.toNat) R hp hz (((RVs.take _ r).append (by simp only [RVs]; exact ⟨w2, [], rfl, rw2, rfl⟩)).append (RVs.drop _ r))
        exact ⟨p, vs, i, w2, ev, rfl, hH, by rw [← r.length]; exact szlt c.1, c.2.1, by have := c.2.2; omega, h m _ g R' .non (by simp only [RV])⟩
      · exact h.elim
    · exact h.elim
  · exact h.elim
end
end Mi
namespace Mi
open PySem PySem.Spec PyProof.Rows L2
def setAt (st : Sto) : IV → Option (List Key)
  | .ref l => match st[l]? with
    | some (.set ks) => some ks
    | _ => none
  | _ => none
def hasK (ks : List Key) (k : Key) : Bool := ks.any fun j => decide (j = k)
theorem hasK_iff {ks : List Key} {k : Key} : hasK ks k = true ↔ k ∈ ks := by
  simp [hasK]
section
variable {G : Gd} {m bs : List Addr} {st : Sto} {H : Hp}
theorem ZdS (R : Rel G m bs st H) {x : IV} {v : V} {ks : List Key} (e : setAt st x = some ks) (r : RV G m bs st H x v) : ∃ l a S n, x = .ref l ∧ v = .ref a ∧ m[l]? = some a ∧ st[l]? = some (.set ks) ∧ H a = some (SetK G.P G.w a S n) ∧ n ≤ ks.length ∧ ∀ k, S k = true ↔ k ∈ ks := by
  cases x with
  | ref l =>
    simp only [setAt] at e
    simp only [RV] at r
    obtain ⟨a, ea, hm⟩ := r
    split at e
    · rename_i ks' e1
      cases e
      obtain ⟨S, n, h1, h2, h3⟩ := R.obj l _ a e1 hm
      exact ⟨l, a, S, n, rfl, ea, hm, e1, h1, h2, h3⟩
    · cases e
  | _ => cases e
end
section
variable {X : Cx} {W : WX} {xa : Xa} {a b e o : Expr} {es : List Expr} {A B : IE} {As : IA} {pos p apos cpos : Pos}
def Zii : IE := fun _ st => .ok (.ref st.length) (st ++ [.set []])
theorem Zq0 (hg : Gl X "set") (hm : X.mg "set" = none) (hv : bootBuiltins "set" = some (.type "set")) : ME X W xa (.Call (.Name "set" p) [] [] pos) Zii := by
  refine PE.weak (pe_callTy0 cr_set0K hg hm hv) fun σ H Q h => ?_
  obtain ⟨m, os, rs, ρ, st, P, h⟩ := h
  refine ⟨rfl, fun q hq => ?_⟩
  exact h.newS (o := .set []) P.rel hq fun m' st' H' g e => ⟨fun _ => false, 0, e, Nat.le_refl _, fun k => by simp⟩
def gInS (neg : Bool) : IV → IV → Sto → R IV := fun y x st => match setAt st x with
  | some ks => match keyK y with
    | some k => .ok (.bl (if neg then !hasK ks k else hasK ks k)) st
    | none => .bad
  | none => .bad
theorem Zr2 {op : CmpOp} {neg : Bool} (ho : OpR X (compareOp op) (rSInK X.prog X.w neg)) : OpM X (compareOp op) (gInS neg) := by
  refine ⟨_, ho, fun m bs st H y x y' x' Q W R ry rx h => ?_⟩
  unfold gInS at h
  split at h
  · rename_i ks e
    split at h
    · rename_i k ek
      obtain ⟨l, a, S, n, _, ea, _, _, ha, _, hS⟩ := ZdS R e rx
      have e2 : S k = hasK ks k := by
        rw [Bool.eq_iff_iff, hasK_iff]; exact hS k
      refine ⟨k, a, S, n, Z2C ek ry, ea, ha, ?_⟩
      rw [e2]
      exact h.v R (by simp only [RV])
    · exact h.elim
  · exact h.elim
theorem ZtQ : OpM X (compareOp .In) (gInS false) := Zr2 or_sinK
def gSAdd : IV → List IV → Sto → R IV
  | .ref l, [y], st => match st[l]? with
    | some (.set ks) => match keyK y with
      | some k => if ks.length < 4000 then .ok .non (st.set l (.set (if hasK ks k = true then ks else ks ++ [k]))) else .bad
      | none => .bad
    | _ => .bad
  | _, _, _ => .bad
def iSAdd (A : IE) (As : IA) : IE := fun ρ st => (A ρ st).bind fun x st => if (setAt st x).isSome = true then (As ρ st).bind fun xs st => gSAdd x xs st else .bad
theorem Zu0 (ha : ME X W xa o A) (hes : MA X W xa (e :: es) As)
    (hbase : attributeBase o "add" X.env (eval o X.env) = eval o X.env := by rfl)
    (hfew : ((backTo cpos (starEach (e :: es) X.env)).all (fun x => !x.1) && (backToKw cpos (keywordEach [] X.env)).all (fun x => x.1.isSome)
      && decide ((e :: es).length + ([] : List Keyword).length + (if ([] : List Keyword).isEmpty then 0 else 1) < 30)) = true := by rfl)
    (hline : (apos.endLine == cpos.line) = true := by rfl) (hs : starEach (e :: es) X.env = (false, eval e X.env) :: starEach es X.env := by rfl) (hplain : (backTo cpos (starEach es X.env)).any (·.1) = false := by rfl) :
    ME X W xa (.Call (.Attribute o "add" apos) (e :: es) [] cpos) (iSAdd A As) := by
  refine PE.weak (pe_saddK ha hes hbase hfew hline hs hplain) fun σ H Q h => ?_
  obtain ⟨m, os, rs, ρ, st, P, h⟩ := h
  refine ⟨m, os, rs, ρ, st, P, h.bind.mono fun x m1 st1 H1 g1 R1 h1 x' rx => ?_⟩
  split at h1
  · rename_i c
    cases q : setAt st1 x with
    | none => rw [q] at c; cases c
    | some ks =>
      obtain ⟨l, a, S, n, ex, ea, hm, hst, hH, hn, hS⟩ := ZdS R1 q rx
      refine ⟨⟨a, S, n, ea, hH⟩, m1, os, rs, ρ, st1, P.grow g1 R1, h1.bind.mono fun ys m2 st2 H2 g2 R2 h2 ys' ry => ?_⟩
      have rx2 := RV.fits g2.fitsE _ _ rx
      unfold gSAdd at h2
      split at h2
      · rename_i l2 y
        split at h2
        · rename_i ks2 hs2
          split at h2
          · rename_i k ek
            split at h2
            · rename_i hl
              have es2 : setAt st2 (.ref l2) = some ks2 := by simp only [setAt, hs2]
              obtain ⟨l3, a3, S3, n3, ex3, ea3, hm3, hst3, hH3, hn3, hS3⟩ := ZdS R2 es2 rx2
              cases ex3
              obtain ⟨w, ew, rw'⟩ := rvs1 ry
              have ek2 := Z2C ek rw'
              refine ⟨a3, k, S3, n3, ea3, by rw [ew, ek2], hH3, by show n3 + 1 < 4096; omega, ?_⟩
              have eS : S3 k = hasK ks2 k := by
                rw [Bool.eq_iff_iff, hasK_iff]; exact hS3 k
              have g3 : GrowE m2 st2 H2 m2 (st2.set l2 (.set (if hasK ks2 k = true then ks2 else ks2 ++ [k]))) (upd H2 a3 (SetK X.prog X.w a3 (fun j => S3 j || decide (j = k)) (if S3 k = true then n3 else n3 + 1))) := Z2e hm3 hst3 (by simp)
              have R3 := R2.set (o' := .set (if hasK ks2 k = true then ks2 else ks2 ++ [k])) (u := SetK X.prog X.w a3 (fun j => S3 j || decide (j = k)) (if S3 k = true then n3 else n3 + 1)) hm3 hst3 (by simp) ⟨_, _, upd_same, by
                rw [eS]
                split
                · exact hn3
                · rw [List.length_append]; simp; exact hn3, fun j => by
                rw [Bool.or_eq_true, decide_eq_true_eq, hS3]
                split
                · rename_i c2
                  have hk := hasK_iff.mp c2
                  exact ⟨fun z => z.elim id fun z => by rw [z]; exact hk, .inl⟩
                · rw [List.mem_append, List.mem_singleton]⟩
              exact h2 m2 _ g3 R3 .non (by simp only [RV])
            · exact h2.elim
          · exact h2.elim
        · exact h2.elim
      · exact h2.elim
  · exact h1.elim
end
end Mi
namespace Mi
open PySem PySem.Spec PyProof.Rows L2
section
variable {G : Gd} {m m' bs os os' rs : List Addr} {st st' : Sto} {H H' : Hp} {xa : Xa} {σ : L2.St} {ρ : Slots} {l : Nat} {kvs : List (Key × IV)} {d : Addr} {od : Obj} {ws : List (Key × V)}
theorem RKs.get : ∀ {kvs : List (Key × IV)} {ws : List (Key × V)} {i : Nat} {k : Key} {x : IV}, RKs G m bs st H kvs ws → kvs[i]? = some (k, x) → ∃ v, ws[i]? = some (k, v) ∧ RV G m bs st H x v
  | [], ws, i, k, x, h, e => by simp at e
  | (f, y) :: r, ws, 0, k, x, h, e => by
    obtain ⟨v, t, e1, h1, h2⟩ := h
    simp at e
    obtain ⟨rfl, rfl⟩ := e
    exact ⟨v, by rw [e1]; rfl, h1⟩
  | (f, y) :: r, ws, i + 1, k, x, h, e => by
    obtain ⟨v, t, e1, h1, h2⟩ := h
    obtain ⟨w, e2, h3⟩ := RKs.get (i := i) h2 (by simpa using e)
    exact ⟨w, by rw [e1]; simpa using e2, h3⟩
theorem Znw (R : Rel G m bs st H) (hm : m[l]? = some d) (hs : st[l]? = some (.fdic kvs)) : Fz m bs st d := by
  refine ⟨fun ⟨i, o, h1, h2, h3⟩ => ?_, fun z => (R.bsd d z).1 (List.mem_of_getElem? hm)⟩
  have e := R.nd i l d h1 hm
  subst e
  rw [hs] at h2
  cases h2
  exact h3 rfl
def keysI (kvs : List (Key × IV)) : List IV := kvs.map fun p => kI p.1
theorem rv_kI {k : Key} : RV G m bs st H (kI k) (kV k) := by
  cases k <;> simp only [kI, kV, RV]
theorem Ztc (hd : H d = some (.frz od (.dK ws))) (hz : Fz m bs st d) (r : RKs G m bs st H kvs ws) : Walks G m bs st H (keysI kvs) none (Itk d od ws) := by
  intro i m2 bs2 st2 H2 f R _
  obtain ⟨e2, _⟩ := f.frz d od _ ⟨hd, hz⟩
  have r2 := RKs.fits f _ _ r
  have ln : kvs.length = ws.length := r2.len
  refine ⟨fun x hx => ?_, fun hl => ⟨e2, by simp [keysI] at hl; omega⟩⟩
  unfold keysI at hx
  rw [List.getElem?_map] at hx
  cases q : kvs[i]? with
  | none => rw [q] at hx; cases hx
  | some p =>
    rw [q] at hx
    have hx : kI p.1 = x := by simpa using hx
    obtain ⟨k, y⟩ := p
    obtain ⟨v, ev, rv⟩ := r2.get q
    refine ⟨⟨e2, (List.getElem?_eq_some_iff.mp ev).1⟩, fun w H3 y3 => ?_⟩
    obtain ⟨e3, k', v', ek, ew⟩ := y3
    subst e3
    have ek := ev.symm.trans ek
    cases ek
    subst ew
    rw [← hx]
    exact ⟨.refl, R, rv_kI⟩
theorem rd_nl {a : Addr} {u : HO} (hd : H' d = some (.frz od (.dK ws))) (nx : ∀ zs, u ≠ .dK zs) (nf : ∀ o w, u ≠ .frz o w) (h : Rd H' a u) : a ≠ d ∧ Rd (upd H' d (.dK ws)) a u := by
  have ne : a ≠ d := fun z => by
    subst z
    rcases h with h | ⟨o, h⟩
    · rw [hd] at h; cases h; exact nf _ _ rfl
    · rw [hd] at h; cases h; exact nx _ rfl
  refine ⟨ne, ?_⟩
  rcases h with h | ⟨o, h⟩
  · exact .inl (by rw [upd_ne ne]; exact h)
  · exact .inr ⟨o, by rw [upd_ne ne]; exact h⟩
theorem Z4d {a : Addr} (hm : m[l]? = some d) (ne : a ≠ d) (n : ¬ Lv m st a) {o : IO} : ¬ Lv m (st.set l o) a := fun ⟨i, u, h1, h2, h3⟩ => by
  by_cases e : l = i
  · subst e
    rw [hm] at h1; cases h1; exact ne rfl
  · rw [List.getElem?_set_ne e] at h2
    exact n ⟨i, u, h1, h2, h3⟩
theorem Z6x (hm : m[l]? = some d) (hd : H d = some (.frz od (.dK ws))) : Fits0 G m bs st H m bs (st.set l (.dic kvs)) (upd H d (.dK ws)) := by
  refine ⟨fun _ _ h => h, fun a vs h => ?_, fun a vs h => ?_, fun a vs h => ?_⟩
  · rcases h with ⟨h, n, q⟩ | h
    · obtain ⟨ne, h⟩ := rd_nl hd (fun _ z => by cases z) (fun _ _ z => by cases z) h
      exact .inl ⟨h, Z4d hm ne n, q⟩
    · exact .inr h
  · rcases h with ⟨h, n, q⟩ | h
    · obtain ⟨ne, h⟩ := rd_nl hd (fun _ z => by cases z) (fun _ _ z => by cases z) h
      exact .inl ⟨h, Z4d hm ne n, q⟩
    · exact .inr h
  · obtain ⟨o, h, e, n, q⟩ := h
    have ne : a ≠ d := fun z => by
      subst z
      rw [hd] at h; cases h
    exact ⟨o, by rw [upd_ne ne]; exact h, e, Z4d hm ne n, q⟩
theorem Zgw (R : Rel G m bs st H) (hm : m[l]? = some d) (hs : st[l]? = some (.fdic kvs)) (hd : H d = some (.frz od (.dK ws))) : Rel G m bs (st.set l (.dic kvs)) (upd H d (.dK ws)) := by
  have f : Fits0 G m bs st H m bs (st.set l (.dic kvs)) (upd H d (.dK ws)) := Z6x hm hd
  refine ⟨by simp [R.len], R.nd, fun i w a e1 e2 => ?_, fun a z => ⟨(R.bsd a z).1, ?_⟩⟩
  · by_cases e : l = i
    · subst e
      have ea : d = a := Option.some.inj (hm.symm.trans e2)
      subst ea
      rw [List.getElem?_set_self (List.getElem?_eq_some_iff.mp hs).1] at e1
      cases e1
      obtain ⟨od', ws', h1, h2⟩ := R.obj _ _ d hs hm
      rw [hd] at h1
      cases h1
      exact ⟨ws, upd_same, RKs.fits0 f _ _ h2⟩
    · rw [List.getElem?_set_ne e] at e1
      have ne : a ≠ d := fun z => e (R.nd _ _ _ hm (by rw [← z]; exact e2))
      refine (R.obj i w a e1 e2).fits0 f fun w e => ?_
      rw [upd_ne ne]; exact e
  · obtain ⟨o, e⟩ := (R.bsd a z).2
    by_cases e' : a = d
    · exact ⟨_, by rw [e']; exact upd_same⟩
    · exact ⟨o, by rw [upd_ne e']; exact e⟩
theorem Z60 (hm : m[l]? = some d) (hs : st[l]? = some (.dic kvs)) (g : Grow m (st.set l (.fdic kvs)) os (upd H d (.frz od (.dK ws))) m' st' os' H') {o : IO} {u : HO} : Grow m st os H m' (st'.set l o) os' (upd H' d u) := by
  refine ⟨g.pre, fun a w e n q nx => ?_, fun a e => ?_⟩
  · have ne : a ≠ d := fun z => n ⟨l, _, by rw [z]; exact hm, hs, by simp⟩
    obtain ⟨h1, n1, q1⟩ := g.keep a w (by rw [upd_ne ne]; exact e) (Z4d hm ne n) q nx
    exact ⟨by rw [upd_ne ne]; exact h1, Z4d (g.at hm) ne n1, q1⟩
  · have := g.stay a (Z2q e)
    exact Z2q this
theorem Z8g (P : Pre G xa σ H m os rs ρ st) (hm : m[l]? = some d) (hs : st[l]? = some (.fdic kvs)) (hd : H d = some (.frz od (.dK ws))) : Pre G xa σ (upd H d (.dK ws)) m os rs ρ (st.set l (.dic kvs)) := by
  have f : Fits0 G m (os ++ rs) st H m (os ++ rs) (st.set l (.dic kvs)) (upd H d (.dK ws)) := Z6x hm hd
  refine ⟨Zgw P.rel hm hs hd, P.re.len, fun i x e => ?_, P.re.own, P.re.uniq⟩
  obtain ⟨v, e1, r⟩ := P.re.at_ i x e
  refine ⟨v, e1, ?_⟩
  cases x with
  | v x => exact RV.fits0 f _ _ r
  | own xs =>
    obtain ⟨a, vs, ea, ha, ra, hb⟩ := r
    have ne : a ≠ d := fun z => by rw [z, hd] at ha; cases ha
    exact ⟨a, vs, ea, by rw [upd_ne ne]; exact ha, RVs.fits0 f _ _ ra, hb⟩
  | exn l => exact r
theorem ZkC (P : Pre G xa σ H m os rs ρ st) (hm : m[l]? = some d) (hs : st[l]? = some (.dic kvs)) (hd : H d = some (.dK ws)) (od : Obj) : Pre G xa σ (upd H d (.frz od (.dK ws))) m os rs ρ (st.set l (.fdic kvs)) := by
  have g : GrowE m st H m (st.set l (.fdic kvs)) (upd H d (.frz od (.dK ws))) := Z2e hm hs (by simp)
  obtain ⟨ws', h1, h2⟩ := P.rel.obj _ _ d hs hm
  rw [hd] at h1
  cases h1
  exact P.grow g (P.rel.set hm hs (by simp) ⟨od, ws, upd_same, RKs.fits g.fitsE _ _ h2⟩)
end
def ZfW (A : IE) : IIt := fun ρ st => (A ρ st).bind fun x st => match x with
  | .ref l => match st[l]? with
    | some (.fdic kvs) => .ok (keysI kvs, none) st
    | _ => .bad
  | _ => .bad
def unlk (l : Nat) (st : Sto) : Option Sto := match st[l]? with
  | some (.fdic kvs) => some (st.set l (.dic kvs))
  | _ => none
def RS.unlk (l : Nat) : RS → RS
  | .nx ρ st => match Mi.unlk l st with | some st' => .nx ρ st' | none => .bad
  | .bk ρ st => match Mi.unlk l st with | some st' => .bk ρ st' | none => .bad
  | .ct ρ st => match Mi.unlk l st with | some st' => .ct ρ st' | none => .bad
  | .rt v st => match Mi.unlk l st with | some st' => .rt v st' | none => .bad
  | .exc _ _ _ _ => .bad
  | .bad => .bad
def Z9T (A : IE) (B : IS) : IS := fun ρ st => match A ρ st with
  | .ok (.ref l) _ => match st[l]? with
    | some (.dic kvs) => RS.unlk l (B ρ (st.set l (.fdic kvs)))
    | _ => .bad
  | _ => .bad
theorem Z5O {l : Nat} {st st' : Sto} (h : unlk l st = some st') : ∃ kvs, st[l]? = some (.fdic kvs) ∧ st' = st.set l (.dic kvs) := by
  unfold unlk at h
  split at h
  · rename_i kvs e
    cases h
    exact ⟨kvs, e, rfl⟩
  · cases h
section
variable {X : Cx} {W : WX} {xa : Xa} {e tg : Expr} {s : Stmt} {A : IE} {B : IS} {BA : IA}
theorem Zss (he : ME X W xa e A) : MI X W xa tg e (ZfW A) := by
  refine PI.weak (pi_keys he) fun σ H R h => ?_
  obtain ⟨m, os, rs, ρ, st, P, h⟩ := h
  refine ⟨m, os, rs, ρ, st, P, h.bind.mono fun x m1 st1 H1 g1 R1 h1 x' rx => ?_⟩
  split at h1
  · rename_i l
    split at h1
    · rename_i kvs hs
      simp only [RV] at rx
      obtain ⟨d, ed, hm⟩ := rx
      obtain ⟨od, ws, hd, rk⟩ := R1.obj _ _ d hs hm
      exact ⟨d, od, ed, .inl ⟨ws, hd, h1.ok R1 _ (Ztc hd (Znw R1 hm hs) rk)⟩⟩
    · exact h1.elim
  · exact h1.elim
theorem Zth (hb : MS X W xa s B) : MS X W xa s (Z9T A B) := by
  refine PS.weak (ps_lock hb) fun D σ H h => ?_
  obtain ⟨m, os, rs, ρ, st, P, h⟩ := h
  unfold Z9T at h
  split at h
  · rename_i l st0 q
    split at h
    · rename_i kvs hs
      have hl : l < m.length := by rw [P.rel.len]; exact (List.getElem?_eq_some_iff.mp hs).1
      have hm : m[l]? = some m[l] := List.getElem?_eq_getElem hl
      generalize m[l] = d at hm
      obtain ⟨ws, hd, rk⟩ := P.rel.obj _ _ d hs hm
      refine ⟨d, _, hd, trivial, fun od => ⟨m, os, rs, ρ, _, ZkC P hm hs hd od, ?_⟩⟩
      have F1 : (upd H d (.frz od (.dK ws))) d = some (.frz od (.dK ws)) := upd_same
      have key : ∀ {m' os' H' st'}, Grow m (st.set l (.fdic kvs)) os (upd H d (.frz od (.dK ws))) m' st' os' H' → H' d = some (.frz od (.dK ws)) := fun {m' os' H' st'} g => by
        have hs1 : (st.set l (.fdic kvs))[l]? = some (.fdic kvs) := List.getElem?_set_self (List.getElem?_eq_some_iff.mp hs).1
        have z := Znw (ZkC P hm hs hd od).rel hm hs1
        exact (g.keep d _ F1 z.1 (fun y => z.2 (List.mem_append_left _ y)) nxf).1
      cases r : B ρ (st.set l (.fdic kvs)) with
      | nx ρ' st' =>
        rw [r] at h
        dsimp only [RS.unlk] at h
        split at h
        · rename_i st2 e
          obtain ⟨kvs', e1, e2⟩ := Z5O e
          subst e2
          intro m' os' H' σ' g P'
          exact ⟨key g, h m' os' _ σ' (Z60 hm hs g) (Z8g P' (g.at hm) e1 (key g))⟩
        · exact h.elim
      | bk ρ' st' =>
        rw [r] at h
        dsimp only [RS.unlk] at h
        split at h
        · rename_i st2 e
          obtain ⟨kvs', e1, e2⟩ := Z5O e
          subst e2
          intro m' os' H' σ' g P'
          exact ⟨key g, h m' os' _ σ' (Z60 hm hs g) (Z8g P' (g.at hm) e1 (key g))⟩
        · exact h.elim
      | ct ρ' st' =>
        rw [r] at h
        dsimp only [RS.unlk] at h
        split at h
        · rename_i st2 e
          obtain ⟨kvs', e1, e2⟩ := Z5O e
          subst e2
          intro m' os' H' σ' g P'
          exact ⟨key g, h m' os' _ σ' (Z60 hm hs g) (Z8g P' (g.at hm) e1 (key g))⟩
        · exact h.elim
      | rt v st' =>
        rw [r] at h
        dsimp only [RS.unlk] at h
        split at h
        · rename_i st2 e
          obtain ⟨kvs', e1, e2⟩ := Z5O e
          subst e2
          intro m' os' H' u g R' ru
          exact ⟨key g, h m' os' _ u (Z60 hm hs g) (Zgw R' (g.at hm) e1 (key g)) (RV.fits0 (Z6x (g.at hm) (key g)) _ _ ru)⟩
        · exact h.elim
      | exc c fs ρ' st' => rw [r] at h; exact h.elim
      | bad => rw [r] at h; exact h.elim
    · exact h.elim
  · exact h.elim
end
end Mi
namespace Mi
open PySem PySem.Spec PyProof.Rows L2
def gNil (neg : Bool) : IV → IV → Sto → R IV := fun x y st => match asL st x, asL st y with
  | some xs, some [] => .ok (.bl (neg != xs.isEmpty)) st
  | _, _ => .bad
end Mi
namespace Mi
open PySem PySem.Spec PyProof.Rows L2
section
variable {ρ : Slots} {st : Sto} {D : Post} {P : IV → Sto → Prop} {E : Str → List (Str × IV) → Sto → Prop} {l : Nat} {kvs : List (Key × IV)} {k : Key} {y x : IV} {ks : List Key}
theorem Z2j (h : st[l]? = some (.dic kvs)) : dicAt st (.ref l) = some kvs := by simp only [dicAt, h]
theorem ZnM (h : st[l]? = some (.fdic kvs)) : dicAt st (.ref l) = some kvs := by simp only [dicAt, h]
theorem ZaY (h : st[l]? = some (.dic kvs)) : isDic st (.ref l) = true := by simp only [isDic, Z2j h, Option.isSome]
theorem Z2x {neg : Bool} (h : st[l]? = some (.dic kvs)) (hk : keyK y = some k) : gInK neg y (.ref l) st = .ok (.bl (if neg then !(valI kvs k).isSome else (valI kvs k).isSome)) st := by
  simp only [gInK, Z2j h, hk]
@[simp] theorem ZxB {A B : IE} : (iDGet A B ρ st).wq P E .mk = (A ρ st).wp (fun x st => if isDic st x = true then (B ρ st).wp (fun y st => match dicAt st x with
  | some kvs => match keyK y with
    | some k => P ((valI kvs k).getD .non) st
    | none => False
  | none => False) E else False) E := by
  unfold iDGet
  simp only [R.wq, wpb]
  congr 1
  funext x st
  split
  · simp only [R.wq, wpb]
    congr 1
    funext y st
    cases dicAt st x with
    | none => rfl
    | some kvs => cases keyK y <;> rfl
  · rfl
@[simp] theorem ZxH {A B : IE} : (iDPop A B ρ st).wq P E .mk = (A ρ st).wp (fun x st => if isDic st x = true then (B ρ st).wp (fun y st => (gDPop x y st).wp P E) E else False) E := by
  unfold iDPop
  simp only [R.wq, wpb]
  congr 1
  funext x st
  split
  · simp only [R.wq, wpb]
  · rfl
theorem Zrl {z : IV} (h : st[l]? = some (.dic kvs)) (hk : keyK y = some k) (hv : valI kvs k = some z) : gDPop (.ref l) y st = .ok z (st.set l (.dic (dropD kvs k))) := by simp only [gDPop, h, hk, hv]
@[simp] theorem Zxv : (iDNew ρ st).wq P E .mk = P (.ref st.length) (st ++ [.dic []]) := rfl
@[simp] theorem ZwF : (Zii ρ st).wq P E .mk = P (.ref st.length) (st ++ [.set []]) := rfl
theorem ZkK (h : st[l]? = some (.dic kvs)) : gLenD [.ref l] st = .ok (.int kvs.length) st := by simp only [gLenD, dicU, h]
theorem Zpd (h : st[l]? = some (.dic kvs)) : ZaH [.ref l] st = .ok (.lst (kvs.map fun p => kI p.1)) st := by simp only [ZaH, dicU, h]
theorem Zt7 {ns : List Int} : ZaD [.lst (ns.map .int)] st = .ok (.lst ((isort ns).map .int)) st := by
  simp only [ZaD, asL, ZoY]
theorem Zsn {neg : Bool} (h : st[l]? = some (.set ks)) (hk : keyK y = some k) : gInS neg y (.ref l) st = .ok (.bl (if neg then !hasK ks k else hasK ks k)) st := by
  simp only [gInS, setAt, h, hk]
@[simp] theorem Zx6 {A : IE} {As : IA} : (iSAdd A As ρ st).wq P E .mk = (A ρ st).wp (fun x st => if (setAt st x).isSome = true then (As ρ st).wp (fun xs st => (gSAdd x xs st).wp P E) E else False) E := by
  unfold iSAdd
  simp only [R.wq, wpb]
  congr 1
  funext x st
  split
  · simp only [R.wq, wpb]
  · rfl
theorem ZrC (h : st[l]? = some (.set ks)) (hk : keyK y = some k) (hl : ks.length < 4000) : gSAdd (.ref l) [y] st = .ok .non (st.set l (.set (if hasK ks k = true then ks else ks ++ [k]))) := by
  simp only [gSAdd, h, hk, hl, if_true]
theorem ZtM {xs : List IV} {i : Nat} (h : st[l]? = some (.lst xs)) (hl : xs.length < 100000) (hi : i < 1000000) : gIns (.ref l) [.int i, y] st = .ok .non (st.set l (.lst (xs.take i ++ [y] ++ xs.drop i))) := by
  have c : xs.length < 100000 ∧ (0 : Int) ≤ (i : Int) ∧ (i : Int) < 1000000 := ⟨hl, by omega, by omega⟩
  simp only [gIns, h, c, and_self, if_true, Int.toNat_natCast]
@[simp] theorem Zwu {A B : IE} {x : IV} {D : Post} : (Z4n A B x ρ st).wq D .mk = (A ρ st).wp (fun o st1 => (B ρ st1).wp (fun i st2 => match Z44 o i x st2 with | some st3 => D.nx ρ st3 | none => False) nE) nE := by
  unfold Z4n RS.wq
  cases A ρ st with
  | ok o st1 =>
    simp only [wpo]
    cases B ρ st1 with
    | ok i st2 => simp only [wpo]; cases Z44 o i x st2 <;> rfl
    | _ => rfl
  | _ => rfl
@[simp] theorem ZwP {A B : IE} : (iDelD A B ρ st).wq D .mk = (A ρ st).wp (fun x st => (B ρ st).wp (fun y st => (gDelD x y st).wp (fun _ st => D.nx ρ st) (fun c fs st => D.ex c fs ρ st)) (fun c fs st => D.ex c fs ρ st)) (fun c fs st => D.ex c fs ρ st) := by
  unfold iDelD
  simp only [RS.wq, wpsb, wpb]
  rfl
theorem ZsH (h : st[l]? = some (.dic kvs)) (hk : keyK y = some k) (hv : (valI kvs k).isSome = true) : gDelD (.ref l) y st = .ok .non (st.set l (.dic (dropD kvs k))) := by simp only [gDelD, h, hk, hv, if_true]
theorem Z9C (h : st[l]? = some (.dic kvs)) (hk : keyK y = some k) (hl : kvs.length < 100000) : Z44 (.ref l) y x st = some (st.set l (.dic (putD kvs k x))) := by
  simp only [Z44, h, hk, hl, if_true]
end
end Mi
namespace Mi
open PySem PySem.Spec PyProof.Rows L2
section
variable {ρ : Slots} {st : Sto} {D : Post} {P : IV → Sto → Prop} {E : Str → List (Str × IV) → Sto → Prop} {l : Nat} {kvs : List (Key × IV)}
@[simp] theorem Zxn {r : R IV} : (quiet r).wq P E .mk = r.wp P nE := by cases r <;> rfl
@[simp] theorem ZwZ {A : IE} {P : List IV × GI → Sto → Prop} : (ZfW A ρ st).wq P E .mk = (A ρ st).wp (fun x st => match x with
  | .ref l => (match st[l]? with
    | some (.fdic kvs) => P (keysI kvs, none) st
    | _ => False)
  | _ => False) E := by
  unfold ZfW
  simp only [R.wq, wpb]
  congr 1
  funext x st
  cases x with
  | ref l => dsimp only; split <;> simp_all [R.wp]
  | _ => rfl
theorem Zrx {A : IE} {B : IS} {st0 : Sto} (hA : A ρ st = .ok (.ref l) st0) (h : st[l]? = some (.dic kvs))
    (hB : (B ρ (st.set l (.fdic kvs))).wp ⟨fun ρ1 st1 => ∃ k1, st1[l]? = some (.fdic k1) ∧ D.nx ρ1 (st1.set l (.dic k1)), fun v st1 => ∃ k1, st1[l]? = some (.fdic k1) ∧ D.rt v (st1.set l (.dic k1)),
      fun ρ1 st1 => ∃ k1, st1[l]? = some (.fdic k1) ∧ D.bk ρ1 (st1.set l (.dic k1)), fun ρ1 st1 => ∃ k1, st1[l]? = some (.fdic k1) ∧ D.ct ρ1 (st1.set l (.dic k1)), fun _ _ _ _ => False⟩) : (Z9T A B ρ st).wp D := by
  unfold Z9T
  rw [hA]
  simp only [h]
  cases q : B ρ (st.set l (.fdic kvs)) with
  | nx ρ1 st1 => rw [q] at hB; obtain ⟨k1, e1, e2⟩ := hB; simp only [RS.unlk, unlk, e1]; exact e2
  | rt v st1 => rw [q] at hB; obtain ⟨k1, e1, e2⟩ := hB; simp only [RS.unlk, unlk, e1]; exact e2
  | bk ρ1 st1 => rw [q] at hB; obtain ⟨k1, e1, e2⟩ := hB; simp only [RS.unlk, unlk, e1]; exact e2
  | ct ρ1 st1 => rw [q] at hB; obtain ⟨k1, e1, e2⟩ := hB; simp only [RS.unlk, unlk, e1]; exact e2
  | exc c fs ρ1 st1 => rw [q] at hB; exact hB.elim
  | bad => rw [q] at hB; exact hB.elim
theorem Zfx {cs : List Str} {f : Str} {A B : IE} (h : (A ρ st).wp (fun x st => ∃ l c fs i, insAt st cs x = some (l, c, fs) ∧ fs.lookup f = some (.int i) ∧ (B ρ st).wp (fun y st1 => ∃ j fs', y = .int j ∧ insAt st1 cs x = some (l, c, fs') ∧ fs'.length < 1000 ∧ D.nx ρ (st1.set l (.ins c (putI f (.int (i + j)) fs')))) nE) nE) : (Zbt cs f A B ρ st).wp D := by
  unfold Zbt
  cases q : A ρ st with
  | ok x st1 =>
    rw [q] at h
    obtain ⟨l, c, fs, i, e1, e2, h⟩ := h
    simp only [R.bind, e1, e2]
    cases q2 : B ρ st1 with
    | ok y st2 =>
      rw [q2] at h
      obtain ⟨j, fs', rfl, e3, e4, h⟩ := h
      simp only [e3, e4, and_self, if_true]
      exact h
    | exc c fs st2 => rw [q2] at h; exact h.elim
    | bad => rw [q2] at h; exact h.elim
  | exc c fs st1 => rw [q] at h; exact h.elim
  | bad => rw [q] at h; exact h.elim
end
section
variable {st : Sto} {l k : Nat} {o : IO} {c : Str} {fs : List (Str × IV)} {cs : List Str}
theorem Z9W (h : l < st.length) (hc : c ∈ cs) : insAt (st.set l (.ins c fs)) cs (.ref l) = some (l, c, fs) := ZL (List.getElem?_set_self h) hc
theorem ZoH {os : Sto} (h : k < st.length) : insAt (st ++ os) cs (.ref k) = insAt st cs (.ref k) := by
  simp only [insAt]
  rw [List.getElem?_append_left h]
end
end Mi
namespace Mi
open PySem PySem.Spec PyProof.Rows L2
theorem Zw4 {d : DC} {u : Value} (h : dcB d u = true) : absV u = some (vOf d.iv) := by
  unfold dcB at h
  split at h
  · rfl
  · rename_i b c; have : b = c := eq_of_beq h; subst this; rfl
  · rename_i b c _; have : b = c := eq_of_beq h; subst this; rfl
  · rename_i b c _; have := of_decide_eq_true h; subst this; rfl
  · cases h
theorem dcs_abs : ∀ {ds : List DC} {us : List Value}, dcsB ds us = true → us.map absV = ((ds.map DC.iv).map fun x => some (vOf x))
  | [], [], _ => rfl
  | [], _ :: _, h => by cases h
  | _ :: _, [], h => by cases h
  | d :: ds, u :: us, h => by
    have h2 := Bool.and_eq_true_iff.mp (show (dcB d u && dcsB ds us) = true from h)
    rw [List.map_cons, List.map_cons, List.map_cons, Zw4 h2.1, dcs_abs h2.2]
end Mi
namespace Mi
open PySem PySem.Spec PyProof.Rows L2
def uniq : List Int → List Int
  | [] => []
  | x :: r => if x ∈ uniq r then uniq r else x :: uniq r
end Mi
namespace Mi
open PySem PySem.Spec PyProof.Rows L2
abbrev HdL := List (Value × Option Nat × (Addr → Value → Option Addr → TS))
inductive Z76 (X : Cx) : List ExceptHandler → HdL → Prop
  | nil : Z76 X [] []
  | only {x : Str} {c : Value} {ts : Addr → Value → Option Addr → TS} {b₀ : Stmt} {suite : List Stmt} {np pos' : Pos} {hds : List ExceptHandler} {l : HdL} (hc : Names X x c)
      (hsu : ∀ (a : Addr) (oe : Obj) (cls : Value) (d : Option Addr) (pn : List (Addr × Obj)), Zc cls d oe → (∃ vs, oe.data = .fields vs) → PSs (X.suite a ((a, oe) :: pn)) (b₀ :: suite) (ts a cls d)) (r : Z76 X hds l) :
      Z76 X (.ExceptHandler (some (.Name x np)) none (b₀ :: suite) pos' :: hds) ((c, none, ts) :: l)
  | as {x n : Str} {i : Nat} {c : Value} {ts : Addr → Value → Option Addr → TS} {b₀ : Stmt} {suite : List Stmt} {np pos' : Pos} {hds : List ExceptHandler} {l : HdL} (hN : X.N.Nodup) (hi : X.N[i]? = some n) (hln : X.env.kindOf n = some .local) (hc : Names X x c)
      (hsu : ∀ (a : Addr) (oe : Obj) (cls : Value) (d : Option Addr) (pn : List (Addr × Obj)), Zc cls d oe → (∃ vs, oe.data = .fields vs) → PSs (X.suite a ((a, oe) :: pn)) (b₀ :: suite) (ts a cls d)) (r : Z76 X hds l) :
      Z76 X (.ExceptHandler (some (.Name x np)) (some n) (b₀ :: suite) pos' :: hds) ((c, some i, ts) :: l)
end Mi
namespace Mi
open PySem PySem.Spec PyProof.Rows L2
abbrev MHd := Option Nat × (Str → Option Bool) × IS
def iRt0 (i : Nat) (v : IV) : IS := fun ρ st => if i < ρ.length then .rt v st else .bad
def RtOf (X : Cx) (v : IV) (D : Ends) (H : Hp) : Prop := ∃ (m os rs : List Addr) (st : Sto), Rel (gd X) m (os ++ rs) st H ∧ ∀ m' os' H' u, Grow m st os H m' st os' H' → Rel (gd X) m' (os' ++ rs) st H' → RV (gd X) m' (os' ++ rs) st H' v u → D.rt u H'
inductive MHds (X : Cx) : List ExceptHandler → List MHd → HdL → Prop
  | nil : MHds X [] [] []
  | only {x : Str} {cv : Value} {M : Str → Option Bool} {J : IS} {q : Value → Prop} {b₀ : Stmt} {suite : List Stmt} {np pos' : Pos} {hds : List ExceptHandler} {L : List MHd} {l : HdL} (hc : Names X x cv)
      (hM : ∀ c k C, M c = some k → X.mg c = some (.ref C) → PySem.W.exmOne X.K (.ref C) cv = some k ∧ (k = true → q (.ref C)))
      (hsu : ∀ (a : Addr) (oe : Obj) (cls : Value) (d : Option Addr) (pn : List (Addr × Obj)), q cls → Zc cls d oe → (∃ vs, oe.data = .fields vs) → MSs (X.suite a ((a, oe) :: pn)) W0 none (b₀ :: suite) J) (r : MHds X hds L l) :
      MHds X (.ExceptHandler (some (.Name x np)) none (b₀ :: suite) pos' :: hds) ((none, M, J) :: L) ((cv, none, fun a cls d D σ H => q cls ∧ tsOf (gd X) W0 none J D σ H) :: l)
  | as {x n : Str} {i : Nat} {cv : Value} {M : Str → Option Bool} {J : IS} {q : Value → Prop} {b₀ : Stmt} {suite : List Stmt} {np pos' : Pos} {hds : List ExceptHandler} {L : List MHd} {l : HdL} (hN : X.N.Nodup) (hi : X.N[i]? = some n) (hln : X.env.kindOf n = some .local) (hc : Names X x cv)
      (hM : ∀ c k C, M c = some k → X.mg c = some (.ref C) → PySem.W.exmOne X.K (.ref C) cv = some k ∧ (k = true → q (.ref C)))
      (hsu : ∀ (a : Addr) (oe : Obj) (cls : Value) (dd : Addr) (pn : List (Addr × Obj)), q cls → Zc cls (some dd) oe → (∃ vs, oe.data = .fields vs) → MSs (X.suite a ((a, oe) :: pn)) W0 (some (a, dd)) (b₀ :: suite) J) (r : MHds X hds L l) (hs : i < 1000000 := by decide) :
      MHds X (.ExceptHandler (some (.Name x np)) (some n) (b₀ :: suite) pos' :: hds) ((some i, M, J) :: L) ((cv, some i, fun a cls d D σ H => (∃ dd, d = some dd ∧ q cls) ∧ tsOf (gd X) W0 (d.map fun dd => (a, dd)) J D σ H) :: l)
  | as0 {x n : Str} {i : Nat} {v : IV} {cv : Value} {M : Str → Option Bool} {q : Value → Prop} {b₀ : Stmt} {suite : List Stmt} {np pos' : Pos} {hds : List ExceptHandler} {L : List MHd} {l : HdL} (hN : X.N.Nodup) (hi : X.N[i]? = some n) (hln : X.env.kindOf n = some .local) (hc : Names X x cv)
      (hM : ∀ c k C, M c = some k → X.mg c = some (.ref C) → PySem.W.exmOne X.K (.ref C) cv = some k ∧ (k = true → q (.ref C)))
      (hsu : ∀ (a : Addr) (oe : Obj) (cls : Value) (pn : List (Addr × Obj)), q cls → Zc cls none oe → (∃ vs, oe.data = .fields vs) → PSs (X.suite a ((a, oe) :: pn)) (b₀ :: suite) (fun D σ H => σ[i]? = some (some (.ref a)) ∧ RtOf X v D H)) (r : MHds X hds L l) :
      MHds X (.ExceptHandler (some (.Name x np)) (some n) (b₀ :: suite) pos' :: hds) ((some (1000000 + i), M, iRt0 i v) :: L) ((cv, some i, fun a cls d D σ H => (d = none ∧ q cls) ∧ (σ[i]? = some (some (.ref a)) ∧ RtOf X v D H)) :: l)
theorem MHds.mix {X : Cx} {hds : List ExceptHandler} {L : List MHd} {l : HdL} (h : MHds X hds L l) : Z76 X hds l := by
  induction h with
  | nil => exact .nil
  | only hc hM hsu r ih => exact .only hc (fun a oe cls d pn hz hd => PSs.under fun hq => hsu a oe cls d pn hq hz hd) ih
  | as hN hi hln hc hM hsu r hs ih =>
    refine .as hN hi hln hc (fun a oe cls d pn hz hd => PSs.under fun ⟨dd, ed, hq⟩ => ?_) ih
    subst ed
    exact hsu a oe cls dd pn hq hz hd
  | as0 hN hi hln hc hM hsu r ih =>
    refine .as hN hi hln hc (fun a oe cls d pn hz hd => PSs.under fun ⟨ed, hq⟩ => ?_) ih
    subst ed
    exact hsu a oe cls pn hq hz hd
end Mi
namespace Mi
open PySem PySem.Spec PyProof.Rows L2
section
variable {ρ : Slots} {st : Sto} {D : Post} {L r : List MHd} {B J : IS} {c : Str} {fs : List (Str × IV)} {M : Str → Option Bool} {i : Nat}
@[simp] theorem ZxF {v : IV} : (iRt0 i v ρ st).wq D .mk = (i < ρ.length ∧ D.rt v st) := by
  unfold iRt0 RS.wq
  split
  · rename_i h; simp [h, RS.wp]
  · rename_i h; simp [h, RS.wp]
end
end Mi
namespace Mi
open PySem PySem.Spec PyProof.Rows L2
structure XiC (K : PySem.W.Frag) (C : Addr) : Prop where
  cl : (PySem.W.clsIn K C).isSome = true
  ga : PySem.W.findIn K (.ref C) "__getattribute__" = some (some (.builtin "BaseException.__getattribute__"))
  gg : PySem.W.findIn K (.ref C) "__getattr__" = some none
  exC : PySem.W.subIn K (.ref C) (.type "BaseException") = some true
  ha : PySem.W.findIn K (.ref C) "__class__" = some (some (.builtin "object.__class__"))
  hn : PySem.W.specialIn K (.builtin "object.__class__") "__get__" = some (some (.builtin "getset_descriptor.__get__"))
  htk : PySem.W.takesIn K (.builtin "object.__class__") = some true
  hm : PySem.W.mroIn K C (.type "object") = some true
def rIsX (K : PySem.W.Frag) (a C D : Addr) (d : Option Addr) (b : Bool) : List V → Hp → VK → Prop := fun xs H Q => xs = [.ref a, .ref D] ∧ (∃ dd fs, d = some dd ∧ H dd = some (.xd fs)) ∧ Q (.bl b) H
section
variable {X : Cx} {a C D : Addr} {oe : Obj} {cls : Value} {d : Option Addr} {pn : List (Addr × Obj)} {b : Bool}
theorem Zre (T : XiC X.K C) (hz : Zc (.ref C) d oe) (hf : ∃ vs, oe.data = .fields vs) (hb : PySem.W.kitOne X.K (.ref C) (.ref D) = some b) : CallR (X.suite a ((a, oe) :: pn)) (.builtin "isinstance") (rIsX X.K a C D d b) := by
  intro pins s σ H xs us Q I r h
  obtain ⟨rfl, ⟨dd, fs, rfl, ea⟩, q⟩ := h
  obtain ⟨u1, u2, rfl, r1, r2⟩ := vals2 r
  obtain rfl : u1 = Value.ref a := r1
  obtain rfl : u2 = Value.ref D := r2
  obtain ⟨ha, _⟩ := I.pin (a, oe) (List.mem_append_left _ List.mem_cons_self)
  obtain ⟨vs, hd⟩ := hf
  have hx : ObjOk X.prog X.w H s.heap dd (.xd fs) := I.hok dd _ ea
  obtain ⟨mA, hns, hr⟩ := hx
  obtain ⟨od, ho, hl⟩ := lookIn_ns hns
  have J : PySem.W.InstAt s.heap a oe C (some od) := ⟨ha, hz.1, by unfold PySem.W.notCls; rw [hd] <;> rfl, by rw [hz.2]; exact ho⟩
  have Z := PySem.W.kitx_exc (x := a) (ox := oe) (od := some od) T.cl T.ga T.gg T.exC T.ha T.hn T.htk T.hm
  exact PySem.W.kia_one Z I.kIn J hb (fun z => nomatch z) fun tk => ⟨.bl b, H, I.tok tk, rfl, q⟩
end
def iIsx (i : Nat) (b : Bool) : IE := fun ρ st => match ρ[i]? with
  | some (some (.exn l)) => (match st[l]? with
    | some (.xd _) => .ok (.bl b) st
    | _ => .bad)
  | _ => .bad
section
variable {X : Cx} {W : WX} {pos p p2 p3 : Pos}
theorem Zpo {a dd C D : Addr} {oe : Obj} {cls : Value} {pn : List (Addr × Obj)} {i : Nat} {b : Bool} {y z : Str} (T : XiC X.K C) (hb : PySem.W.kitOne X.K (.ref C) (.ref D) = some b) (hcls : cls = .ref C)
    (hz : Zc cls (some dd) oe) (hf : ∃ vs, oe.data = .fields vs) (hg : Gl (X.suite a ((a, oe) :: pn)) ("isinstance" : Str)) (hm : X.mg ("isinstance" : Str) = none) (hv : bootBuiltins ("isinstance" : Str) = some (.builtin "isinstance"))
    (hy : PE (X.suite a ((a, oe) :: pn)) (.Name y p2) (tVar i)) (hD : PE (X.suite a ((a, oe) :: pn)) (.Name z p3) (tC (.ref D)))
    (he : starEach [.Name y p2, .Name z p3] (X.suite a ((a, oe) :: pn)).env = (false, eval (.Name y p2) (X.suite a ((a, oe) :: pn)).env) :: starEach [.Name z p3] (X.suite a ((a, oe) :: pn)).env := by rfl)
    (he2 : starEach [.Name z p3] (X.suite a ((a, oe) :: pn)).env = (false, eval (.Name z p3) (X.suite a ((a, oe) :: pn)).env) :: starEach [] (X.suite a ((a, oe) :: pn)).env := by rfl)
    (hpl : (backTo pos (starEach [.Name z p3] (X.suite a ((a, oe) :: pn)).env)).any (·.1) = false := by rfl) :
    ME (X.suite a ((a, oe) :: pn)) W (some (a, dd)) (.Call (.Name "isinstance" p) [.Name y p2, .Name z p3] [] pos) (iIsx i b) := by
  subst hcls
  refine PE.weak (pe_callB (Zre T hz hf hb) hg hm hv (pa_cons hy (pa_cons hD pa_nil he2) he) (by decide) (by decide) he hpl) fun σ H Q h => ?_
  obtain ⟨m, os, rs, ρ, st, P, h⟩ := h
  unfold iIsx at h
  split at h
  · rename_i l e
    obtain ⟨v, e1, a', d', e2, e3, e4⟩ := P.re.at_ _ _ e
    cases e2
    split at h
    · rename_i fs e5
      obtain ⟨gs, e6, rf⟩ := P.rel.obj _ _ dd e5 e4
      refine ⟨v, e1, ?_⟩
      subst e3
      exact ⟨rfl, ⟨dd, gs, rfl, e6⟩, h.v P.rel (by simp only [RV])⟩
    · exact h.elim
  · exact h.elim
end
end Mi
namespace L2
open PySem PySem.Spec PyProof.Rows
structure FnOkG (P : Program) (w : World) (K : PySem.W.Frag) (mg : Str → Option Value) (base : Heap) (CX : CXT) (k : Nat) (f : Addr) (fd : FuncData) (ps : List Str) (sp : Sp) : Prop where
  len : ∀ vs H Q E, sp vs H Q E → vs.length = ps.length
  run : ∀ (A : Around) (outer : List Env) (s : Shared) (H : Hp) (args : Args) (us : List Value) (vs : List V) (Q : VK) (E : XK), A.guards = some [] → Room k A → Env0 P w K mg base A outer s H → BindsTo s fd args (ps.zip us) → Vals vs us → sp vs H Q E →
    codeAny (model P w) A (.call (.ref f) args) (CR CX outer P w H s Q E) s
theorem FnOkG.imp {P : Program} {w : World} {K : PySem.W.Frag} {mg : Str → Option Value} {base : Heap} {CX : CXT} {k : Nat} {f : Addr} {fd : FuncData} {ps : List Str} {sp sp' : Sp} (F : FnOkG P w K mg base CX k f fd ps sp)
    (h : ∀ vs H Q E, sp' vs H Q E → sp vs H Q E) : FnOkG P w K mg base CX k f fd ps sp' :=
  ⟨fun vs H Q E q => F.len vs H Q E (h _ _ _ _ q), fun A outer s H args us vs Q E hg hr he hb hv hs => F.run A outer s H args us vs Q E hg hr he hb hv (h _ _ _ _ hs)⟩
theorem ZvD {CX : CXT} {P : Program} {w : World} {K : PySem.W.Frag} {mg : Str → Option Value} {base : Heap} {k : Nat} {f : Addr} {name qual : Str} {params : Arguments} {body : List Stmt} {scope : Scope} {dV kV doc pm cdv ct oc : Value} {an od : Option Addr}
    {osl : Array (Option Value)} {N ps : List Str} {sp : Sp} (lk : K.lookup f = some ⟨oc, od, .func (PySem.W.fnOf name qual params body scope dV kV doc pm an cdv ct), osl⟩) (hcd : PySem.W.codeIn K cdv qual = true) (S : FnScope N ps scope)
    (len : ∀ vs H Q E, sp vs H Q E → vs.length = ps.length)
    (hbody : ∀ (A : Around) (outer : List Env) (s : Shared) (H : Hp) (vs : List V) (Q : VK) (E : XK), A.guards = some [] → Room k (A.deeper (envOfC qual scope s.heap.objs.size f cdv)) → sp vs H Q E →
      ∃ t, PSs (cxOf CX P w K mg base N qual scope f cdv A outer s H E) body t ∧ t { nx := fun _ H' => Q .non H', rt := Q } (start N vs) H) :
    FnOkG P w K mg base CX (k + 1) f (PySem.W.fnOf name qual params body scope dV kV doc pm an cdv ct) ps sp := by
  refine ⟨len, fun A outer s H args us vs Q E hgd hr e0 hb r hsp => ?_⟩
  have hl := len _ _ _ _ hsp
  have KX : K.In s.heap := e0.mod.kin.keeps fun b o e => (e0.bs b o e).1
  have lim : s.heap.NoLimit := e0.mod.nolimit.keeps fun b o e => (e0.bs b o e).1
  have hkind : ∀ y ∈ ps.zip us, scope.names.lookup y.1 = some .local ∨ (scope.names.lookup y.1 = some .cell ∧ ((cellsFrom (s.heap.objs.size + 1) scope.names []).lookup y.1).isSome = true) := fun ⟨n, v⟩ hy => by
    rcases S.par n (List.of_mem_zip hy).1 with q | q
    · exact .inl q
    · exact .inr ⟨q, PySem.W.cellsFrom_some _ _ _ (.inl q)⟩
  refine codeAny_call_function hr.depth (KX _ _ lk) rfl S.co S.gen rfl (PySem.W.codeRec_of KX hcd) (hb _ _ _ _ ?_)
  refine wpAny_newFunctionEnv_cells S.kind hkind fun env he s1 x => ?_
  subst he
  refine ⟨lim.keeps x.toInCall.keep, codeAny_func ?_⟩
  obtain ⟨t, ht, hq⟩ := hbody A outer s H vs Q E hgd (hr.deeper _) hsp
  have I : Inv (cxOf CX P w K mg base N qual scope f cdv A outer s H E) [] (start N vs) H s1 := inv_start S hr.hd e0 hl r x
  refine wpAny_mono (ht.run [] s1 (start N vs) H _ I hq) (fun fl s' hs => ?_) fun e s' hs => hs
  have fin : ∀ {σ' : St} {H' : Hp} {v : V} {u : Value}, Inv (cxOf CX P w K mg base N qual scope f cdv A outer s H E) [] σ' H' s' → RelV v u → Q v H' → CE outer P w H s Q u s' :=
    fun {σ' H' v u} J rv q => ⟨v, H', J.os, J.bare, J.base, J.hok, rv, q⟩
  cases fl with
  | ret u =>
    obtain ⟨v, σ', H', J, rv, q⟩ := hs
    exact fin J rv q
  | next =>
    obtain ⟨σ', H', J, q⟩ := hs
    exact fin (v := V.non) (u := Value.none) J rfl q
  | brk =>
    obtain ⟨_, _, _, q⟩ := hs
    exact False.elim q
  | cont =>
    obtain ⟨_, _, _, q⟩ := hs
    exact False.elim q
section
variable {X : Cx} {CX : CXT} {k : Nat} {f : Addr} {fd : FuncData} {ps : List Str} {ds : List Value} {dvs : List V} {sp : Sp} {E : St → XK} {x : Str} {q pos : Pos} {e : Expr} {es : List Expr} {t : TA}
theorem Zqy {pins : List (Addr × Obj)} {σ : St} {H : Hp} {s : Shared} {Q : VK} {us : List Value} {vs : List V} (F : FnOkG X.prog X.w X.K X.mg X.base CX k f fd ps sp) (hg : X.A.guards = some []) (hr : Room k X.A) (hb : Binds X.K fd ps []) (hx : PassesAt CX X σ (E σ))
    (I : Inv X pins σ H s) (r : Vals vs us) (h : sp vs H Q (E σ)) : wpAny (model X.prog X.w) X.A (call (.ref f) us) (EP X pins σ Q) X.xe s := by
  have hl : us.length = ps.length := by rw [← r.length]; exact F.len _ _ _ _ h
  have b := hb s us I.kIn (by rw [List.append_nil]; exact hl)
  rw [List.append_nil] at b
  refine wpAny_call (codeAny_mono (F.run X.A X.stack s H ⟨us, []⟩ us vs Q (E σ) hg hr I.env0 b r h) fun r s' hq => ?_)
  cases r with
  | error e => exact hx pins H s e s' I hq
  | ok fl =>
    cases fl with
    | ret u => exact I.after hq
    | next => exact False.elim hq
    | brk => exact False.elim hq
    | cont => exact False.elim hq
theorem ZpV (F : FnOkG X.prog X.w X.K X.mg X.base CX k f fd ps sp) (hgd : X.A.guards = some []) (hr : Room k X.A) (hg : Gl X x) (hm : X.mg x = some (.ref f)) (hk : PySem.W.keepIn X.K (.ref f) = true) (hb : Binds X.K fd ps []) (hx : ∀ σ, PassesAt CX X σ (E σ))
    (ha : PA X (e :: es) t) (hdb : (x == ("__debug__" : Str)) = false := by decide) (he : starEach (e :: es) X.env = (false, eval e X.env) :: starEach es X.env := by rfl) (hpl : (backTo pos (starEach es X.env)).any (·.1) = false := by rfl) :
    PE X (.Call (.Name x q) (e :: es) [] pos) (tCallS sp E t) := by
  refine ⟨fun pins s σ H Q I h => ?_⟩
  refine wpAny_Call_Name_kw (ld_glob I hg hm ?_ hdb)
  refine PySem.W.callWith_K (h₀ := X.base) I.ok.mod.kin hk (thn (ha.run pos pins s σ H _ I h) fun us s1 ⟨vs, H1, I1, r, q⟩ => ⟨I1.kIn, ?_⟩) he hpl
  exact Zqy F hgd hr hb (hx σ) I1 r q
end
end L2
namespace Mi
open PySem PySem.Spec PyProof.Rows L2
def ZuH (K : PySem.W.Frag) : List V → Hp → VK → Prop := fun vs H Q => ∃ v d, vs = [v] ∧ Dp K H v d ∧ d.showable = true ∧ d.hasDict = false ∧ d.depth ≤ 60 ∧ d.shown.length ≤ 100000 ∧ Q (.str d.shown) H
section
variable {X : Cx}
theorem Zq7 (hg : X.A.guards = some []) (hu : X.A.units + 64 < cLine) : CallR X (.builtin "repr") (ZuH X.K) := by
  intro pins s σ H vs us Q I r h
  obtain ⟨v, d, rfl, hD, hs, hd, hp, hz, q⟩ := h
  obtain ⟨u, rfl, ru⟩ := vals1 r
  obtain ⟨as, hr⟩ := Dp.reads I d v u hD ru
  have hz' : d.shown.length ≤ sizeLine := szl hz
  cases hD with
  | non => cases ru; exact PySem.P.repr_of_none ⟨.str _, H, I.tok _, ⟨_, rfl⟩, q⟩
  | bl b => cases ru; exact PySem.P.repr_of_bool ⟨.str _, H, I.tok _, ⟨_, rfl⟩, by simpa only [PyData.shown] using q⟩
  | int i =>
    obtain ⟨t, rfl⟩ := ru
    exact PySem.P.repr_of_int (of_decide_eq_true (by simpa only [PyData.showable] using hs)) ⟨.str _, H, I.tok _, ⟨_, rfl⟩, by simpa only [PyData.shown] using q⟩
  | str x =>
    obtain ⟨t, rfl⟩ := ru
    exact PySem.P.repr_of_str ⟨.str _, H, I.tok _, ⟨_, rfl⟩, by simpa only [PyData.shown] using q⟩ (by simpa only [PyData.shown] using hz')
  | lst h1 h2 =>
    cases (show u = Value.ref _ from ru)
    exact repr_of_reads' hr hs (fun z => by rw [hd] at z; cases z) hg (by omega) (fun _ _ z => z) (fun h' t tk hk => ⟨.str _, H, I.kept hk, ⟨_, rfl⟩, q⟩) hz'
  | tup h1 h2 =>
    cases (show u = Value.ref _ from ru)
    exact repr_of_reads' hr hs (fun z => by rw [hd] at z; cases z) hg (by omega) (fun _ _ z => z) (fun h' t tk hk => ⟨.str _, H, I.kept hk, ⟨_, rfl⟩, q⟩) hz'
end
def Z28 : List IV → Sto → R IV
  | [x], st => match toD st x with
    | some d => if d.showable = true ∧ d.hasDict = false ∧ d.depth ≤ 60 ∧ d.shown.length ≤ 100000 then .ok (.str d.shown) st else .bad
    | none => .bad
  | _, _ => .bad
section
variable {X : Cx}
theorem ZkF (hg : X.A.guards = some []) (hu : X.A.units + 64 < cLine) : CallM X (.builtin "repr") Z28 := by
  refine ⟨_, Zq7 hg hu, fun m bs st H xs xs' Q W R rx h => ?_⟩
  unfold Z28 at h
  split at h
  · rename_i x
    split at h
    · rename_i d e
      split at h
      · rename_i c
        obtain ⟨v, ev, rv⟩ := rvs1 rx
        exact ⟨v, d, ev, ZaE R e rv, c.1, c.2.1, c.2.2.1, c.2.2.2, h.v R (by simp only [RV])⟩
      · exact h.elim
    · exact h.elim
  · exact h.elim
end
section
variable {P : Program} {w : World} {K : PySem.W.Frag} {mg : Str → Option Value} {base : Heap}
theorem Zp7 {x qual : Str} {st : Stmt} {f : Addr} {fd : FuncData} {N ps : List Str} {k j : Nat} {B : IS} (F : L2.Fun K x qual st f fd) (S : FnScope N ps (defScope st)) (hj : N.length - ps.length = j)
    (hb : ∀ (cdv : Value) (A : Around) (outer : List Env) (s : Shared) (H : Hp) (E : XK), (A.deeper (envOfC qual (defScope st) s.heap.objs.size f cdv)).guards = some [] → Room k (A.deeper (envOfC qual (defScope st) s.heap.objs.size f cdv)) →
      MSs (cxOf (L2.CX P w) P w K mg base N qual (defScope st) f cdv A outer s H E) (fun cls d _ H => E cls d H) none (defBody st) B) : FnOkG P w K mg base (L2.CX P w) (k + 1) f fd ps (spOf ⟨K, mg, P, w⟩ ps.length (fnOf j B)) := by
  obtain ⟨oc, od, kV, doc, pm, an, cdv, ct, osl, rfl, lk, hcd⟩ := F.ex
  refine ZvD lk hcd S (fun vs H Q E h => h.1) fun A outer s H vs Q E hgd hr h => ⟨_, hb cdv A outer s H E (by exact hgd) hr, ?_⟩
  obtain ⟨hl, m, bs, st, args, R, r, h⟩ := h
  have P0 := Zm6 (k := j) (N := N) R r (by rw [hl, hj])
  show tsOf ⟨K, mg, P, w⟩ (fun cls d _ H => E cls d H) none B _ _ _
  refine ⟨m, [], bs, _, st, P0, ?_⟩
  unfold fnOf at h
  cases q : B (args.map (fun x => some (.v x)) ++ List.replicate j none) st with
  | nx ρ' st' =>
    rw [q] at h
    exact fun m' os' H' σ' g P' => h m' H' g.toE P'.rel.less .non (by simp only [RV])
  | rt v st' =>
    rw [q] at h
    exact fun m' os' H' u g R' ru => h m' H' g.toE R'.less u (RV.fits Z9J _ _ ru)
  | exc c fs ρ' st' =>
    rw [q] at h
    exact fun m' os' H' σ' cls d g P' x => h m' H' cls d g.toE P'.rel.less x.less
  | bk ρ' st' => rw [q] at h; exact h.elim
  | ct ρ' st' => rw [q] at h; exact h.elim
  | bad => rw [q] at h; exact h.elim
def FnMG (P : Program) (w : World) (K : PySem.W.Frag) (mg : Str → Option Value) (base : Heap) (x : Str) (k n : Nat) (F : Fn) : Prop :=
  ∃ f fd ps, mg x = some (.ref f) ∧ PySem.W.keepIn K (.ref f) = true ∧ Binds K fd ps [] ∧ FnOkG P w K mg base (L2.CX P w) k f fd ps (spOf ⟨K, mg, P, w⟩ n F)
theorem Zqd {k : Nat} {f : Addr} {fd : FuncData} {ps : List Str} {F : Fn} (h : FnOkG P w K mg base (L2.CX P w) k f fd ps (spOf ⟨K, mg, P, w⟩ 1 F))
    (hF : ∀ ns : List Int, ns.length ≤ 63 → ∃ st', F [.lst (ns.map .int)] [] = .ok (.bl true) st') : FnOkG P w K mg base (L2.CX P w) k f fd ps (spLaw K) := by
  refine h.imp fun vs H Q E q => ?_
  obtain ⟨a, ns, rfl, hS, hl, k⟩ := q
  obtain ⟨st', e⟩ := hF ns hl
  refine ⟨rfl, [], [], [], [.lst (ns.map .int)], ⟨rfl, fun i j a e => by simp at e, fun l o a e => by simp at e, fun a e => by simp at e⟩, ?_, ?_⟩
  · simp only [RVs]
    refine ⟨.ref a, [], rfl, ?_, rfl⟩
    simp only [RV]
    refine ⟨a, ns.map V.int, rfl, ?_, Zly ns⟩
    rcases Zpm hS with z | z
    · exact .inl ⟨z, fun ⟨l, o, e, _⟩ => by simp at e, by simp⟩
    · exact .inr z
  · rw [e]
    intro m' H' g R u ru
    simp only [RV] at ru
    rw [ru]
    exact k H'
end
section
variable {X : Cx} {W : WX} {xa : Xa} {e : Expr} {pos p : Pos} {es : List Expr} {As : IA} {k n : Nat} {F : Fn} {x : Str}
theorem Zrb (h : FnMG X.prog X.w X.K X.mg X.base x k n F) (hgd : X.A.guards = some []) (hr : Room k X.A) (tk : Takes X W) (hg : Gl X x) (ha : MA X W xa (e :: es) As)
    (hdb : (x == ("__debug__" : Str)) = false := by decide) (he : starEach (e :: es) X.env = (false, eval e X.env) :: starEach es X.env := by rfl) (hpl : (backTo pos (starEach es X.env)).any (·.1) = false := by rfl) :
    ME X W xa (.Call (.Name x p) (e :: es) [] pos) (iCall (arity n F) As) := by
  obtain ⟨f, fd, ps, hm, hk, hb, hf⟩ := h
  refine PE.weak (ZpV hf hgd hr hg hm hk hb (E := fun σ cls d H => W cls d σ H) (fun σ => Z7s tk σ) ha hdb he hpl) fun σ H Q h => ?_
  obtain ⟨m, os, rs, ρ, st, P, h⟩ := h
  refine ⟨m, os, rs, ρ, st, P, h.bind.mono fun args m1 st1 H1 g1 R1 h1 vs rv => ?_⟩
  unfold arity at h1
  split at h1
  · rename_i hl
    exact ⟨rv.len_eq hl, m1, _, st1, args, R1, rv, h1⟩
  · exact h1.elim
end
end Mi
namespace Mh
open PySem PySem.Spec PyProof.Rows L2
theorem Zpj {P : Program} {w : World} {K : PySem.W.Frag} {mg mb : Str → Option Value} {CX : CXT} {k : Nat} {fa a : Addr} {fd : FuncData} {x : Str} {sp : Sp} {s₁ : Shared} {vs : List Value} {ns : List Int}
    (KX : K.In s₁.heap) (hns : s₁.heap.Ns mainGlobals mg) (hb : s₁.heap.Ns builtinsNs mb) (hbb : ∀ x : Str, x ≠ "__name__" → mb x = bootBuiltins x) (hlim : s₁.heap.NoLimit) (hg : s₁.gens = #[])
    (ha : s₁.heap.get? a = some { cls := .type "list", data := .seq vs.toArray }) (hi : IntsAre vs ns) (hl : ns.length ≤ sizeLine) (hr : Room k callerA)
    (F : ∀ base : Heap, K.In base → base.Ns mainGlobals mg → FnOkG P w K mg base CX k fa fd [x] sp) (hbind : ∀ (s : Shared) (u : Value), BindsTo s fd ⟨[u], []⟩ [(x, u)])
    (hsp : ∀ H : Hp, Only H → SqL K H a (ns.map V.int) → sp [.ref a] H (fun v _ => v = .bl true) fun _ _ _ => False)
    (hCX : ∀ H e s', CX [] H s₁ (fun _ _ _ => False) e s' → False) :
    codeAny (model P w) callerA (.call (.ref fa) ⟨[.ref a], []⟩) (fun r s' => r = .ok (.ret (.bool true)) ∧ OldK s₁.heap s'.heap ∧ s'.os = s₁.os ∧ AllBare s'.gens) s₁ := by
  have rv := vals_ints hi
  have lenV := hi.length
  have core : ∀ H : Hp, Only H → SqL K H a (ns.map V.int) → HOk P w H s₁.heap → (∀ b, H b ≠ none → b = a) → (H a ≠ none → K.lookup a = none) →
      codeAny (model P w) callerA (.call (.ref fa) ⟨[.ref a], []⟩) (fun r s' => r = .ok (.ret (.bool true)) ∧ OldK s₁.heap s'.heap ∧ s'.os = s₁.os ∧ AllBare s'.gens) s₁ := by
    intro H hO hS hok hA hK
    have base_of : ∀ {b : Addr} {o : Obj}, s₁.heap.get? b = some o → H b = none → (hidT s₁.heap H).get? b = some o := fun e n => hidT_get e n
    have noA : ∀ {b : Addr} {o : Obj} {es : Array DictEntry} {ep : Nat}, s₁.heap.get? b = some o → o.data = .dict es ep → H b = none := fun {b o es ep} e d => by
      cases q : H b with
      | none => rfl
      | some u =>
        have e' : b = a := hA b (by rw [q]; simp)
        subst e'
        rw [ha] at e; cases e
        have d' : Data.seq vs.toArray _ = Data.dict es ep := d
        cases d'
    have nsK : ∀ {b : Addr} {m : Str → Option Value}, s₁.heap.Ns b m → (hidT s₁.heap H).Ns b m := fun {b m} ⟨o, es, ep, e, d, r⟩ => ⟨o, es, ep, base_of e (noA e d), d, r⟩
    have hKb : K.In (hidT s₁.heap H) := fun b o e => base_of (KX b o e) (by
      cases q : H b with
      | none => rfl
      | some u =>
        have e' : b = a := hA b (by rw [q]; simp)
        subst e'
        rw [hK (by rw [q]; simp)] at e; cases e)
    have hM : Mod K mg (hidT s₁.heap H) := ⟨hKb, nsK hns, ⟨mb, nsK hb, hbb⟩, let ⟨mc, h1, h2⟩ := hlim; ⟨mc, nsK h1, h2⟩⟩
    have e0 : Env0 P w K mg (hidT s₁.heap H) callerA [] s₁ H := ⟨rfl, hM, fun b o e => of_hidT e, Nat.le_of_eq (hidT_size _ _), trivial, fun b hb => absurd (show b ∈ ([] : List Addr) from hb) (by simp), hok, .of_eq hg⟩
    refine codeAny_mono ((F _ hKb (nsK hns)).run callerA [] s₁ H ⟨[.ref a], []⟩ [.ref a] [.ref a] _ _ rfl hr e0 (hbind s₁ (.ref a)) (.cons rfl .nil) (hsp H hO hS)) fun r s' h => ?_
    cases r with
    | error e => exact (hCX H e s' h).elim
    | ok fl =>
      cases fl with
      | next => exact False.elim h
      | brk => exact False.elim h
      | cont => exact False.elim h
      | ret u =>
        obtain ⟨v, H', os, bare, un, hok', r', q⟩ := h
        have q' : v = .bl true := q
        subst q'
        obtain rfl : u = Value.bool true := r'
        refine ⟨rfl, OldK.of_keep fun b o e => ?_, os, bare⟩
        cases q : H b with
        | none => exact un.keep b o e q (by intro z; exact absurd (show b ∈ ([] : List Addr) from z) (by simp)) (by simp)
        | some u =>
          rcases hO b with z | ⟨ob, xs, z⟩
          · rw [q] at z; cases z
          · have z2 := un.frzs b ob _ z
            obtain ⟨e1, _⟩ := hok b _ z
            obtain ⟨e2, _⟩ := hok' b _ z2
            rw [e] at e1; cases e1
            exact e2
  cases hk : K.lookup a with
  | some o =>
    have e := KX a o hk
    rw [ha] at e
    cases e
    refine core (fun _ => none) (fun _ => .inl rfl) (.inr ⟨_, vs.toArray, _, hk, rfl, rfl, rfl, by rw [List.size_toArray, lenV]; exact hl, by simpa using rv⟩) (fun b u z => by have z' : (none : Option HO) = some u := z; cases z') (fun b z => absurd rfl z) fun z => absurd rfl z
  | none =>
    refine core (fun b => if b = a then some (.frz { cls := .type "list", data := .seq vs.toArray } (.lst (ns.map V.int))) else none) (fun b => ?_) (.inl (.inr ⟨{ cls := .type "list", data := .seq vs.toArray }, if_pos rfl⟩)) (fun b u z => ?_) (fun b z => ?_) fun _ => hk
    · by_cases hb : b = a
      · exact .inr ⟨_, _, if_pos hb⟩
      · exact .inl (if_neg hb)
    · by_cases hb : b = a
      · have z' := (if_pos hb).symm.trans z
        cases z'
        subst hb
        exact ⟨ha, by rw [List.length_map]; exact hl, vs, _, rv, ha⟩
      · have z' := (if_neg hb).symm.trans z
        cases z'
    · by_cases hb : b = a
      · exact hb
      · exact absurd (if_neg hb) z
theorem walk_ofXG {l : PySem.W.OpenLaw} {n k : Nat} {q : Program} {loose : List Str} {XP : (Str → Option Value) → Heap → Prop} {YP : World → Heap → Prop} {d : DefRec} {CX : World → CXT} {x : Str}
    (hn : l.most = some n) (hn2 : n ≤ sizeLine) (hdf : d.params.defaults = []) (hr : Room k callerA)
    (F : ∀ (w : World) (mg : Str → Option Value) (fa : Addr) (h : Heap), YP w h → h.Ns mainGlobals mg → mg d.name = some (.ref fa) →
      ∃ (K : PySem.W.Frag) (fd : FuncData) (sp : Sp), K.In h ∧ (∀ (s : Shared) (u : Value), BindsTo s fd ⟨[u], []⟩ [(x, u)]) ∧
        (∀ (H : Hp) (a : Addr) (ns : List Int), ns.length ≤ n → Only H → SqL K H a (ns.map V.int) → sp [.ref a] H (fun v _ => v = .bl true) fun _ _ _ => False) ∧
        ∀ base : Heap, K.In base → base.Ns mainGlobals mg → FnOkG l.prog w K mg base (CX w) k fa fd [x] sp)
    (hCX : ∀ (w : World) (H : Hp) (s : Shared) (e : Value) (s' : Shared), CX w [] H s (fun _ _ _ => False) e s' → False) :
    PySem.W.WalkO q loose XP YP l.row.toRowW d [] (fun f vs => PySem.call f vs) := by
  refine Att.attach_call hn hdf fun w s₀ s₁ mg mb fa o pm cd doc a vs ns G Y ho hd hcd hmg hobj hints hlen hg => ?_
  obtain ⟨K, fd, sp, KX, hb, hsp, hF⟩ := F w mg fa _ Y G.T.g hmg
  exact Zpj KX G.T.g G.T.b G.T.builtins G.T.nolimit hg hobj hints (Nat.le_trans hlen hn2) hr hF hb (fun H hO hS => hsp H a ns hlen hO hS) fun H e s' => hCX w H s₁ e s'
end Mh
namespace Mi
open PySem PySem.Spec PyProof.Rows L2
mutual
def shBig : PyData → Nat
  | .none => 4
  | .bool _ => 5
  | .int _ => 45
  | .str x => 10 * x.cps.size + 10
  | .list xs | .tuple xs => shBigAll xs + 5
  | .dict _ => 0
def shBigAll : List PyData → Nat
  | [] => 0
  | x :: xs => shBig x + 2 + shBigAll xs
end
mutual
def shOk : PyData → Bool
  | .none | .bool _ => true
  | .int i => decide (i.natAbs < 10000000000000000000000000000000000000000)
  | .str x => x.cps.toList.all fun c => decide (c < 16 ^ 8)
  | .list xs | .tuple xs => shOkAll xs
  | .dict _ => false
def shOkAll : List PyData → Bool
  | [] => true
  | x :: xs => shOk x && shOkAll xs
end
theorem ZsS {i : Int} (h : i.natAbs < 10000000000000000000000000000000000000000) : (PyData.shown (.int i)).length ≤ 45 := by
  have e := int_text_length_le10 (a := i) (k := 40) (by decide) (by simpa using h)
  have e2 : (PyData.shown (.int i)).length = (toString i).length := by
    simp only [PyData.shown]
    show (Str.ofString (toString i)).length = _
    exact PySem.ofString_length _
  omega
mutual
theorem ZiU : ∀ d : PyData, shOk d = true → d.shown.length ≤ shBig d
  | .none, _ => by decide
  | .bool b, _ => by cases b <;> decide
  | .int i, h => by
    have := ZsS (i := i) (by simpa only [shOk, decide_eq_true_eq] using h)
    simpa only [shBig] using this
  | .str x, h => by
    have hx : ∀ c ∈ x.cps.toList, c < 16 ^ 8 := by simpa only [shOk, List.all_eq_true, decide_eq_true_eq] using h
    have e := StrLaws.reprText_len x hx
    have e2 : x.length = x.cps.size := rfl
    simp only [PyData.shown, shBig]
    omega
  | .list xs, h => by
    have h1 := shown_bigAll xs (by simpa only [shOk] using h)
    have h2 := listText_len_le (PyData.shownAll xs)
    have h3 := PyData.shownAll_length xs
    simp only [PyData.shown, shBig]
    omega
  | .tuple xs, h => by
    have h1 := shown_bigAll xs (by simpa only [shOk] using h)
    have h2 := tupleText_len_le (PyData.shownAll xs)
    have h3 := PyData.shownAll_length xs
    simp only [PyData.shown, shBig]
    omega
  | .dict kvs, h => by simp [shOk] at h
theorem shown_bigAll : ∀ xs : List PyData, shOkAll xs = true → ((PyData.shownAll xs).map (·.length)).sum + 2 * xs.length ≤ shBigAll xs
  | [], _ => by simp [PyData.shownAll, shBigAll]
  | x :: xs, h => by
    have h' : shOk x = true ∧ shOkAll xs = true := by simpa only [shOkAll, Bool.and_eq_true] using h
    have h1 := ZiU x h'.1
    have h2 := shown_bigAll xs h'.2
    simp only [PyData.shownAll, shBigAll, List.map_cons, List.sum_cons, List.length_cons]
    omega
end
mutual
theorem ZiW : ∀ d : PyData, shOk d = true → d.showable = true ∧ d.hasDict = false
  | .none, _ => ⟨by simp [PyData.showable], by simp [PyData.hasDict]⟩
  | .bool b, _ => ⟨by simp [PyData.showable], by simp [PyData.hasDict]⟩
  | .int i, h => by
    have h : i.natAbs < 10000000000000000000000000000000000000000 := by simpa only [shOk, decide_eq_true_eq] using h
    refine ⟨?_, by simp [PyData.hasDict]⟩
    simp only [PyData.showable, decide_eq_true_eq]
    exact Zqv (by omega)
  | .str x, _ => ⟨by simp [PyData.showable], by simp [PyData.hasDict]⟩
  | .list xs, h => by
    have h1 := shOk_showAll xs (by simpa only [shOk] using h)
    exact ⟨by simpa only [PyData.showable] using h1.1, by simpa only [PyData.hasDict] using h1.2⟩
  | .tuple xs, h => by
    have h1 := shOk_showAll xs (by simpa only [shOk] using h)
    exact ⟨by simpa only [PyData.showable] using h1.1, by simpa only [PyData.hasDict] using h1.2⟩
  | .dict kvs, h => by simp [shOk] at h
theorem shOk_showAll : ∀ xs : List PyData, shOkAll xs = true → PyData.showableAll xs = true ∧ PyData.hasDictAll xs = false
  | [], _ => ⟨by simp [PyData.showableAll], by simp [PyData.hasDictAll]⟩
  | x :: xs, h => by
    have h' : shOk x = true ∧ shOkAll xs = true := by simpa only [shOkAll, Bool.and_eq_true] using h
    have h1 := ZiW x h'.1
    have h2 := shOk_showAll xs h'.2
    exact ⟨by simp only [PyData.showableAll, h1.1, h2.1, Bool.and_self], by simp only [PyData.hasDictAll, h1.2, h2.2, Bool.or_self]⟩
end
theorem Zub {st : Sto} {x : IV} {d : PyData} (h : toD st x = some d) (h1 : shOk d = true) (h3 : d.depth ≤ 60) (h4 : shBig d ≤ 100000) : Z28 [x] st = .ok (.str d.shown) st := by
  have a := ZiW d h1
  have b := ZiU d h1
  have c : d.shown.length ≤ 100000 := by omega
  simp [Z28, h, a.1, a.2, h3, c]
theorem Zpq {st : Sto} {p : Nat} {xs : List IV} (h : st[p]? = some (.lst xs)) : Zbs (.ref p) [] st = .ok .non (st.set p (.lst [])) := by simp only [Zbs, h]
end Mi
namespace K22
open PySem PySem.Spec PyProof.Rows L2 Mi
def g_KEPT : List IV := [.str "add", .str "all", .str "and", .str "by", .str "change", .str "check", .str "copied", .str "cursor", .str "desc", .str "false", .str "hold", .str "in", .str "keep", .str "key", .str "kept", .str "live", .str "locked", .str "name", .str "none", .str "not", .str "or", .str "place", .str "reach", .str "remove", .str "shut", .str "true", .str "values", .str "version", .str "where", .str "when", .str "backward", .str "refused", .str "again", .str "skip"]
def ZiD : List (Str × Bool) := [("Table", true)]
structure Tx (K : PySem.W.Frag) (mg : Str → Option Value) (Zd Z6 Z9 Za Zb Z8 cHeld Z5 : Addr) : Prop where
  b_abs : mg "abs" = none
  b_bool : mg "bool" = none
  b_dict : mg "dict" = none
  b_enumerate : mg "enumerate" = none
  b_int : mg "int" = none
  b_isinstance : mg "isinstance" = none
  b_len : mg "len" = none
  b_list : mg "list" = none
  b_max : mg "max" = none
  b_min : mg "min" = none
  b_range : mg "range" = none
  b_repr : mg "repr" = none
  b_set : mg "set" = none
  b_sorted : mg "sorted" = none
  b_str : mg "str" = none
  b_tuple : mg "tuple" = none
  b_zip : mg "zip" = none
  g_KEPT : GTup K mg "KEPT" g_KEPT
  g_LETTERS : ∃ t, mg "LETTERS" = some (.str "abcdefghijklmnopqrstuvwxyz" t)
  g_MOST_VALUES : ∃ t, mg "MOST_VALUES" = some (.int 36 t)
  k_Table : mg "Table" = some (.ref Zd)
  k_Database : mg "Database" = some (.ref Z6)
  k_BadTable : mg "BadTable" = some (.ref Z9)
  k_BadRows : mg "BadRows" = some (.ref Za)
  k_NoRow : mg "NoRow" = some (.ref Zb)
  k_BadValues : mg "BadValues" = some (.ref Z8)
  k_Held : mg "Held" = some (.ref cHeld)
  k_HeldcursorsError : mg "HeldcursorsError" = some (.ref Z5)
  xi_NoRow : XiC K Zb
  ko_NoRow_Held : PySem.W.kitOne K (.ref Zb) (.ref cHeld) = some false
  ko_NoRow_HeldcursorsError : PySem.W.kitOne K (.ref Zb) (.ref Z5) = some true
  cl_Table : Cls K Zd
  cl_Database : Cls K Z6
  fd_Database_begun_at : FdM K mg ["Database"] "begun_at"
  fd_Table_columns : FdM K mg ["Table"] "columns"
  fd_Database_cursors : FdM K mg ["Database"] "cursors"
  fd_Database_events : FdM K mg ["Database"] "events"
  fd_Table_every : FdM K mg ["Table"] "every"
  fd_Database_kept_rows : FdM K mg ["Database"] "kept_rows"
  fd_Database_points : FdM K mg ["Database"] "points"
  fd_Database_table : FdM K mg ["Database"] "table"
  fd_Table_tops : FdM K mg ["Table"] "tops"
  fd_Database_written : FdM K mg ["Database"] "written"
  is_Table : IsM K mg "Table" ZiD
  xo_BadTable : OexC K Z9
  xf_BadTable : XfC K Z9
  xn_BadTable_at : PySem.W.findIn K (.ref Z9) "at" = some none
  te_BadTable : PySem.W.exmOne K (.ref Z9) (.ref Z9) = some true
  xo_BadRows : OexC K Za
  xf_BadRows : XfC K Za
  xn_BadRows_at : PySem.W.findIn K (.ref Za) "at" = some none
  te_BadRows : PySem.W.exmOne K (.ref Za) (.ref Za) = some true
  xo_NoRow : OexC K Zb
  xf_NoRow : XfC K Zb
  xn_NoRow_name : PySem.W.findIn K (.ref Zb) "name" = some none
  te_NoRow : PySem.W.exmOne K (.ref Zb) (.ref Zb) = some true
  xo_BadValues : OexC K Z8
  xf_BadValues : XfC K Z8
  xn_BadValues_given : PySem.W.findIn K (.ref Z8) "given" = some none
  te_BadValues : PySem.W.exmOne K (.ref Z8) (.ref Z8) = some true
  xo_Held : OexC K cHeld
  xf_Held : XfC K cHeld
  xn_Held_name : PySem.W.findIn K (.ref cHeld) "name" = some none
  te_Held : PySem.W.exmOne K (.ref cHeld) (.ref cHeld) = some true
abbrev ZuQ : List Str := ["_law_spring_here", "_law_many", "_law_digit"]
theorem sc_draw : FnScope ZuQ ["_law_spring_here", "_law_many"] (defScope Z4s) := ⟨rfl, rfl, rfl, by decide +kernel, rfl, by decide +kernel, by decide +kernel⟩
def Zkh : IS :=
  (iSeq (iIfS (iTest (iBin gGt (iIx (iVar 0) (iC (.int 0))) (iC (.int 0))))
  (iSeq (iSet 2 (iBin gMod (Ze gInt (iCons (iIx (iVar 0) (iC (.int 0))) iNil)) (iVar 1)))
  (iSeq (iAsg (iBin gDiv (iIx (iVar 0) (iC (.int 0))) (iVar 1)) (tgSub (iVar 0) (iC (.int 0))))
  (iRet (iVar 2))))
  iSkip)
  (iSeq (iAsg (iBin gAdd (iIx (iVar 0) (iC (.int 2))) (iC (.int 1))) (tgSub (iVar 0) (iC (.int 2))))
  (iSeq (iAsg (iBin gMod (Ze gInt (iCons (iBin gAdd (iBin gAdd (iBin gMul (iIx (iVar 0) (iC (.int 1))) (iC (.int 48271))) (iBin gMul (iBin gMul (iIx (iVar 0) (iC (.int 2))) (iIx (iVar 0) (iC (.int 2)))) (iC (.int 30011)))) (iC (.int 11))) iNil)) (iC (.int 2147483543))) (tgSub (iVar 0) (iC (.int 1))))
  (iRet (iBin gMod (iBin gMod (Ze gInt (iCons (iBin gPow (iBin gDiv (iIx (iVar 0) (iC (.int 1))) (iC (.int 128))) (iC (.int 3))) iNil)) (iC (.int 2147483489))) (iVar 1))))))
def Z11 : Mi.Fn := fnOf 1 Zkh
abbrev Zw2 : List Str := ["_law_spring_here", "_law_some"]
theorem ZsT : FnScope Zw2 ["_law_spring_here", "_law_some"] (defScope Z49) := ⟨rfl, rfl, rfl, by decide +kernel, rfl, by decide +kernel, by decide +kernel⟩
def Zg0 : IS :=
  (iRet (iIx (iVar 1) (iCall (arity 2 Z11) (iCons (iVar 0) (iCons (Ze gLen (iCons (iVar 1) iNil)) iNil)))))
def Z1K : Mi.Fn := fnOf 0 Zg0
abbrev ZpK : List Str := ["_law_spring_here"]
theorem ZnB : FnScope ZpK ["_law_spring_here"] (defScope Z1S) := ⟨rfl, rfl, rfl, by decide +kernel, rfl, by decide +kernel, by decide +kernel⟩
def Zbe : IS :=
  (iRet (iCall (arity 2 Z1K) (iCons (iVar 0) (iCons (iLst (iCons (iLst (iCons (iTup (iCons (iC (.str "a")) (iCons (iC (.int 2)) iNil))) iNil)) (iCons (iLst (iCons (iTup (iCons (iC (.str "b")) (iCons (iC (.int 5)) iNil))) iNil)) (iCons (iLst (iCons (iTup (iCons (iC (.str "a")) (iCons (iC (.int 1)) iNil))) (iCons (iTup (iCons (iC (.str "b")) (iCons (iC (.int 2)) iNil))) iNil))) (iCons (iLst (iCons (iTup (iCons (iC (.str "pq")) (iCons (iC (.int 3)) iNil))) (iCons (iTup (iCons (iC (.str "a")) (iCons (iC (.int 1)) iNil))) iNil))) (iCons (iLst (iCons (iTup (iCons (iC (.str "x")) (iCons (iC (.int 1)) iNil))) (iCons (iTup (iCons (iC (.str "y")) (iCons (iC (.int 1)) iNil))) (iCons (iTup (iCons (iC (.str "z")) (iCons (iC (.int 2)) iNil))) iNil)))) (iCons (iLst (iCons (iTup (iCons (iC (.str "k")) (iCons (iC (.int 1)) iNil))) iNil)) iNil))))))) iNil))))
def Z2p : Mi.Fn := fnOf 0 Zbe
abbrev ZjD : List Str := ["entry", "word", "top", "sign"]
theorem sc_P_is_column : FnScope ZjD ["entry"] (defScope Z10) := ⟨rfl, rfl, rfl, by decide +kernel, rfl, by decide +kernel, by decide +kernel⟩
def ZZ : IS :=
  (iSeq (iIfS (iOr (iNot (iTest (Ze gIsi (iCons (iVar 0) (iCons (iC (.ty "tuple")) iNil))))) (iTest (iBin gNe (Ze gLen (iCons (iVar 0) iNil)) (iC (.int 2)))))
  (iRet (iC (.bl false)))
  iSkip)
  (iSeq (iAsg (iVar 0) (tgTup 2 (Zo (Zf 1) (Zo (Zf 2) tgNil))))
  (iSeq (iIfS (iOr (iNot (iTest (Ze gIsi (iCons (iVar 1) (iCons (iC (.ty "str")) iNil))))) (iOr (iNot (iTest (Z3v gLe gLe (iC (.int 1)) (Ze gLen (iCons (iVar 1) iNil)) (iC (.int 8))))) (iTest (iBin (gIn false) (iVar 1) (iC (.tup g_KEPT))))))
  (iRet (iC (.bl false)))
  iSkip)
  (iSeq (iFor (iOver (iVar 1)) (Zf 3)
  (iIfS (iTest (iBin (gIn true) (iVar 3) (iC (.str "abcdefghijklmnopqrstuvwxyz"))))
  (iRet (iC (.bl false)))
  iSkip))
  (iRet (iAndV (Ze gIsi (iCons (iVar 2) (iCons (iC (.ty "int")) iNil))) (iAndV (iNotV (Ze gIsi (iCons (iVar 2) (iCons (iC (.ty "bool")) iNil)))) (Z3v gLe gLe (iC (.int 1)) (iVar 2) (iC (.int 5))))))))))
def Zy : Mi.Fn := fnOf 3 ZZ
abbrev Z3R : List Str := ["self", "columns", "words", "at", "entry", "_", "top", "every", "values", "value"]
theorem sc_P_Table_init : FnScope Z3R ["self", "columns"] (defScope Zz) := ⟨rfl, rfl, rfl, by decide +kernel, rfl, by decide +kernel, by decide +kernel⟩
def Z3X : IS :=
  (iSeq (iIfS (iNot (iTest (Z3v gLe gLe (iC (.int 1)) (Ze gLen (iCons (iVar 1) iNil)) (iC (.int 3)))))
  (Z26 "BadTable" "at" (iNeg (iC (.int 1))))
  iSkip)
  (iSeq (Z4R 2 (iFew iNil))
  (iSeq (iFor (iRng gEnum (iCons (iVar 1) iNil)) (tgTup 2 (Zo (Zf 3) (Zo (Zf 4) tgNil)))
  (iSeq (iIfS (iOr (iNot (iTest (iCall (arity 1 Zy) (iCons (iVar 4) iNil)))) (iTest (Z7x false (iIx (iVar 4) (iC (.int 0))) 2)))
  (Z26 "BadTable" "at" (iVar 3))
  iSkip)
  (Z6O 2 (iIx (iVar 4) (iC (.int 0))))))
  (iSeq (Z1L ["Table"] "columns" (iVar 0) (Z5w 2))
  (iSeq (Z1L ["Table"] "tops" (iVar 0) (Ze Z55 (iCons (iF (iLc (iOver (iVar 1)) [5, 6] (tgTup 2 (Zo (Zf 5) (Zo (Zf 6) tgNil))) iYes (iVar 6))) iNil)))
  (iSeq (iSet 7 (iLst (iCons (iTup iNil) iNil)))
  (iSeq (iFor (iOver (iFld ["Table"] "tops" (iVar 0))) (Zf 6)
  (iSet 7 (iF (iLc2 (iOver (iVar 7)) [8, 9] (Zf 8) iYes (iRng gRng1 (iCons (iBin gAdd (iVar 6) (iC (.int 1))) iNil)) [9] (Zf 9) iYes (iBin gAdd (iVar 8) (iTup (iCons (iVar 9) iNil)))))))
  (iSeq (iIfS (iTest (iBin gGt (Ze gLen (iCons (iVar 7) iNil)) (iC (.int 36))))
  (Z26 "BadTable" "at" (iNeg (iC (.int 1))))
  iSkip)
  (Z1L ["Table"] "every" (iVar 0) (Ze Z55 (iCons (iVar 7) iNil)))))))))))
def ZA : Mi.Fn := fnOf 8 Z3X
abbrev Ztl : List Str := ["_law_spring_here", "_law_many", "_law_at", "_law_left", "_law_found", "_law_turn"]
theorem sc_names : FnScope Ztl ["_law_spring_here", "_law_many"] (defScope Z3n) := ⟨rfl, rfl, rfl, by decide +kernel, rfl, by decide +kernel, by decide +kernel⟩
def Z5Z : IS :=
  (iSeq (iDrop (iMtd gApp (iVar 3) (iCons (iVar 2) iNil)))
  (iSet 2 (iBin gAdd (iBin gAdd (iVar 2) (iC (.int 1))) (iBin gMul (iCall (arity 2 Z11) (iCons (iVar 0) (iCons (iC (.int 3)) iNil))) (iCall (arity 2 Z1K) (iCons (iVar 0) (iCons (iLst (iCons (iC (.int 1)) (iCons (iC (.int 1)) (iCons (iBin gPow (iC (.int 10)) (iC (.int 20))) iNil)))) iNil)))))))
def Z5X : IS :=
  (iDrop (iMtd gApp (iVar 4) (iCons (iMtd Zbg (iVar 3) (iCons (iCall (arity 2 Z11) (iCons (iVar 0) (iCons (Ze gLen (iCons (iVar 3) iNil)) iNil))) iNil)) iNil)))
def Zij : IS :=
  (iSeq (iSet 2 (iCall (arity 2 Z1K) (iCons (iVar 0) (iCons (iLst (iCons (iC (.int 0)) (iCons (iNeg (iC (.int 3))) (iCons (iC (.int 7)) (iCons (iNeg (iBin gPow (iC (.int 10)) (iC (.int 29)))) (iCons (iBin gPow (iC (.int 10)) (iC (.int 28))) iNil)))))) iNil))))
  (iSeq (iPar2 3 4 (iCons (iLstS iNil) (iCons (iLstS iNil) iNil)))
  (iSeq (iFor (iRng gRng1 (iCons (iVar 1) iNil)) (Zf 5)
  Z5Z)
  (iSeq (iFor (iRng gRng1 (iCons (iVar 1) iNil)) (Zf 5)
  Z5X)
  (iRet (iVar 4))))))
def Z3H : Mi.Fn := fnOf 4 Zij
abbrev ZlB : List Str := ["_law_spring_here", "_law_columns_here", "_law_word", "_law_top"]
theorem sc_values : FnScope ZlB ["_law_spring_here", "_law_columns_here"] (defScope Z21) := ⟨rfl, rfl, rfl, by decide +kernel, rfl, by decide +kernel, by decide +kernel⟩
def Ze2 : IS :=
  (iRet (Ze Z55 (iCons (iF (iLc (iOver (iVar 1)) [2, 3] (tgTup 2 (Zo (Zf 2) (Zo (Zf 3) tgNil))) iYes (iCall (arity 2 Z11) (iCons (iVar 0) (iCons (iBin gAdd (iVar 3) (iC (.int 1))) iNil))))) iNil)))
def Z2u : Mi.Fn := fnOf 2 Ze2
abbrev Zp6 : List Str := ["_law_spring_here", "_law_columns_here", "_law_names_here", "_law_name"]
theorem sc_rows : FnScope Zp6 ["_law_spring_here", "_law_columns_here", "_law_names_here"] (defScope Z3A) := ⟨rfl, rfl, rfl, by decide +kernel, rfl, by decide +kernel, by decide +kernel⟩
def Zl2 : IS :=
  (iRet (iFS (iLc (iOver (iVar 2)) [3] (Zf 3) iYes (iTup (iCons (iVar 3) (iCons (iCall (arity 2 Z2u) (iCons (iVar 0) (iCons (iVar 1) iNil))) iNil))))))
def Z6U : Mi.Fn := fnOf 1 Zl2
abbrev Z9A : List Str := ["self", "thing", "value", "top"]
theorem sc_P_Table_contains : FnScope Z9A ["self", "thing"] (defScope Zv) := ⟨rfl, rfl, rfl, by decide +kernel, rfl, by decide +kernel, by decide +kernel⟩
def Z2c : IS :=
  (iSeq (iIfS (iOr (iNot (iTest (Ze gIsi (iCons (iVar 1) (iCons (iC (.ty "tuple")) iNil))))) (iTest (iBin gNe (Ze gLen (iCons (iVar 1) iNil)) (Ze gLen (iCons (iFld ["Table"] "tops" (iVar 0)) iNil)))))
  (iRet (iC (.bl false)))
  iSkip)
  (iSeq (iFor (iRng gZip (iCons (iVar 1) (iCons (iFld ["Table"] "tops" (iVar 0)) iNil))) (tgTup 2 (Zo (Zf 2) (Zo (Zf 3) tgNil)))
  (iIfS (iOr (iNot (iTest (Ze gIsi (iCons (iVar 2) (iCons (iC (.ty "int")) iNil))))) (iOr (iTest (Ze gIsi (iCons (iVar 2) (iCons (iC (.ty "bool")) iNil)))) (iNot (iTest (Z3v gLe gLe (iC (.int 0)) (iVar 2) (iVar 3))))))
  (iRet (iC (.bl false)))
  iSkip))
  (iRet (iC (.bl true)))))
def Zw : Mi.Fn := fnOf 2 Z2c
abbrev Zi0 : List Str := ["table", "rows", "seen", "at", "row", "name", "values"]
theorem sc_P_check_rows : FnScope Zi0 ["table", "rows"] (defScope ZS) := ⟨rfl, rfl, rfl, by decide +kernel, rfl, by decide +kernel, by decide +kernel⟩
def Z3a : IS :=
  (iSeq (iIfS (iOr (iNot (iTest (Ze gIsi (iCons (iVar 4) (iCons (iC (.ty "tuple")) iNil))))) (iTest (iBin gNe (Ze gLen (iCons (iVar 4) iNil)) (iC (.int 2)))))
  (Z26 "BadRows" "at" (iVar 3))
  iSkip)
  (iSeq (iAsg (iVar 4) (tgTup 2 (Zo (Zf 5) (Zo (Zf 6) tgNil))))
  (iSeq (iIfS (iOr (iNot (iTest (Ze gIsi (iCons (iVar 5) (iCons (iC (.ty "int")) iNil))))) (iOr (iTest (Ze gIsi (iCons (iVar 5) (iCons (iC (.ty "bool")) iNil)))) (iTest (iBin (gInS false) (iVar 5) (iVar 2)))))
  (Z26 "BadRows" "at" (iVar 3))
  iSkip)
  (iSeq (iIfS (iTest (iBin (Z3N true "Table" Zw) (iVar 6) (iVar 0)))
  (Z26 "BadRows" "at" (iVar 3))
  iSkip)
  (iDrop (iSAdd (iVar 2) (iCons (iVar 5) iNil)))))))
def Z3U : IS :=
  (iSeq (iSet 2 Zii)
  (iFor (iRng gEnum (iCons (iVar 1) iNil)) (tgTup 2 (Zo (Zf 3) (Zo (Zf 4) tgNil)))
  Z3a))
def Z1p : Mi.Fn := fnOf 5 Z3U
abbrev ZcP : List Str := ["self", "name", "values", "life"]
theorem sc_P_Database_give : FnScope ZcP ["self", "name", "values"] (defScope ZB) := ⟨rfl, rfl, rfl, by decide +kernel, rfl, by decide +kernel, by decide +kernel⟩
def Z1H : IS :=
  (iSeq (Zbt ["Database"] "events" (iVar 0) (iC (.int 1)))
  (iSeq (iSet 3 (iFld ["Database"] "events" (iVar 0)))
  (iSeq (iIfS (iTest (iBin (gInK false) (iVar 1) (iFld ["Database"] "kept_rows" (iVar 0))))
  (iSet 3 (iIx (iIx (iBin gIxK (iFld ["Database"] "kept_rows" (iVar 0)) (iVar 1)) (iC (.int 1))) (iC (.int 0))))
  iSkip)
  (iAsg (iTup (iCons (iVar 2) (iCons (iTup (iCons (iVar 3) (iCons (iFld ["Database"] "events" (iVar 0)) iNil))) iNil))) (Z4n (iFld ["Database"] "kept_rows" (iVar 0)) (iVar 1))))))
def Zn : Mi.Fn := fnOf 1 Z1H
abbrev Zc6 : List Str := ["self", "table", "rows", "name", "values"]
theorem sc_P_Database_init : FnScope Zc6 ["self", "table", "rows"] (defScope ZC) := ⟨rfl, rfl, rfl, by decide +kernel, rfl, by decide +kernel, by decide +kernel⟩
def Z1v : IS :=
  (iDrop (iMeth "Database" "give" (arity 3 Zn) (iVar 0) (iCons (iVar 3) (iCons (iVar 4) iNil))))
def Z2F : IS :=
  (iSeq (iDrop (iCall (arity 2 Z1p) (iCons (iVar 1) (iCons (iVar 2) iNil))))
  (iSeq (Z1L ["Database"] "table" (iVar 0) (iVar 1))
  (iSeq (Z1L ["Database"] "events" (iVar 0) (iC (.int 0)))
  (iSeq (Z1L ["Database"] "kept_rows" (iVar 0) iDNew)
  (iSeq (Z1L ["Database"] "written" (iVar 0) (iLstS iNil))
  (iSeq (Z1L ["Database"] "points" (iVar 0) (iLstS iNil))
  (iSeq (Z1L ["Database"] "cursors" (iVar 0) (iLstS iNil))
  (iSeq (Z1L ["Database"] "begun_at" (iVar 0) (iC (.int 0)))
  (iFor (iOver (iVar 2)) (tgTup 2 (Zo (Zf 3) (Zo (Zf 4) tgNil)))
  Z1v)))))))))
def ZK : Mi.Fn := fnOf 2 Z2F
abbrev Z4G : List Str := ["self", "name"]
theorem sc_P_Database_rows : FnScope Z4G ["self"] (defScope Zu) := ⟨rfl, rfl, rfl, by decide +kernel, rfl, by decide +kernel, by decide +kernel⟩
def Z2I : IS :=
  (iRet (iFS (iLc (iOver (Ze ZaD (iCons (Ze ZaH (iCons (iFld ["Database"] "kept_rows" (iVar 0)) iNil)) iNil))) [1] (Zf 1) iYes (iTup (iCons (iVar 1) (iCons (iIx (iBin gIxK (iFld ["Database"] "kept_rows" (iVar 0)) (iVar 1)) (iC (.int 0))) iNil))))))
def Zk : Mi.Fn := fnOf 1 Z2I
abbrev Z8a : List Str := ["self", "name", "one", "cursor"]
theorem sc_P_Database_is_held : FnScope Z8a ["self", "name"] (defScope Zr) := ⟨rfl, rfl, rfl, by decide +kernel, rfl, by decide +kernel, by decide +kernel⟩
def Z2O : IS :=
  (iIfS (iTest (iBin gEq (iIx (iVar 2) (iC (.int 0))) (iVar 1)))
  (iRet (iC (.bl true)))
  iSkip)
def Z2T : IS :=
  iBadS
def Z20 : IS :=
  (iSeq (iFor (iOver (iFld ["Database"] "written" (iVar 0))) (Zf 2)
  Z2O)
  (iSeq (iFor (iOver (iFld ["Database"] "cursors" (iVar 0))) (Zf 3)
  Z2T)
  (iRet (iC (.bl false)))))
def ZI : Mi.Fn := fnOf 2 Z20
abbrev Zes : List Str := ["self", "name", "values"]
theorem ZcA : FnScope Zes ["self", "name", "values"] (defScope ZF) := ⟨rfl, rfl, rfl, by decide +kernel, rfl, by decide +kernel, by decide +kernel⟩
def Z1u : IS :=
  (iSeq (iIfS (iAnd (iTest (iBin (gIsN true) (iVar 2) (iC .non))) (iTest (iBin (Z3N true "Table" Zw) (iVar 2) (iFld ["Database"] "table" (iVar 0)))))
  (Z26 "BadValues" "given" (iVar 2))
  iSkip)
  (iSeq (iIfS (iTest (iMeth "Database" "is_held" (arity 2 ZI) (iVar 0) (iCons (iVar 1) iNil)))
  (Z26 "Held" "name" (iVar 1))
  iSkip)
  (iIfS (iTest (iBin (gIsN true) (iVar 2) (iC .non)))
  (iDrop (iMeth "Database" "give" (arity 3 Zn) (iVar 0) (iCons (iVar 1) (iCons (iVar 2) iNil))))
  (iIfS (iTest (iBin (gInK true) (iVar 1) (iFld ["Database"] "kept_rows" (iVar 0))))
  (Z26 "NoRow" "name" (iVar 1))
  (iDelD (iFld ["Database"] "kept_rows" (iVar 0)) (iVar 1))))))
def Zs : Mi.Fn := fnOf 0 Z1u
abbrev N_put : List Str := ["_law_base", "_law_rows_here", "_law_name", "_law_values_here", "_law_raised", "_law_told", "why"]
theorem sc_put : FnScope N_put ["_law_base", "_law_rows_here", "_law_name", "_law_values_here"] (defScope s_put) := ⟨rfl, rfl, rfl, by decide +kernel, rfl, by decide +kernel, by decide +kernel⟩
def B_put : IS :=
  (iSeq (iAsg (iTup (iCons (iC .non) (iCons (iC .non) iNil))) (tgTup 2 (Zo (Zf 4) (Zo (Zf 5) tgNil))))
  (iSeq (Zaw 6 (fun c => if c = "NoRow" then some true else none)
  (iSet 5 (iMeth "Database" "put" (arity 3 Zs) (iVar 0) (iCons (iVar 2) (iCons (iVar 3) iNil))))
  (iSet 4 (iTup (iCons (iExf 6 "name") (iCons (iIsx 6 true) (iCons (iIsx 6 false) iNil))))))
  (iSeq (iIfS (iTest (iBin (gIsN true) (iVar 5) (iC .non)))
  (iRet (iC (.bl false)))
  iSkip)
  (iSeq (iIfS (iTest (iBin (gIsN true) (iVar 3) (iC .non)))
  (iSeq (iAsg (iVar 3) (Z4n (iVar 1) (iVar 2)))
  (iRet (iBin (gIsN false) (iVar 4) (iC .non))))
  iSkip)
  (iSeq (iIfS (iTest (iBin (gInK false) (iVar 2) (iVar 1)))
  (iSeq (iDrop (iDPop (iVar 1) (iVar 2)))
  (iRet (iBin (gIsN false) (iVar 4) (iC .non))))
  iSkip)
  (iRet (iBin gEq (iVar 4) (iTup (iCons (iVar 2) (iCons (iC (.bl true)) (iCons (iC (.bl false)) iNil)))))))))))
def F_put : Mi.Fn := fnOf 3 B_put
abbrev Zn0 : List Str := ["_law_rows_here", "_law_found", "_law_name", "_law_at"]
theorem sc_ascending : FnScope Zn0 ["_law_rows_here"] (defScope Z1o) := ⟨rfl, rfl, rfl, by decide +kernel, rfl, by decide +kernel, by decide +kernel⟩
def Z4y : IS :=
  (iSet 3 (iBin gAdd (iVar 3) (iC (.int 1))))
def Z4z : IS :=
  (iSeq (iSet 3 (iC (.int 0)))
  (iSeq (ZgH 20 (iAnd (iTest (iBin gLt (iVar 3) (Ze gLen (iCons (iVar 1) iNil)))) (iTest (iBin gLt (iIx (iIx (iVar 1) (iVar 3)) (iC (.int 0))) (iVar 2))))
  Z4y)
  (iDrop (iMtd gIns (iVar 1) (iCons (iVar 3) (iCons (iTup (iCons (iVar 2) (iCons (iBin gIxK (iVar 0) (iVar 2)) iNil))) iNil))))))
def Z6v : IS :=
  (iSeq (iSet 1 (iLstS iNil))
  (iSeq (Z9T (iVar 0) (iFor (ZfW (iVar 0)) (Zf 2)
  Z4z))
  (iRet (iVar 1))))
def Z2a : Mi.Fn := fnOf 3 Z6v
abbrev Zev : List Str := ["self"]
theorem Zdu : FnScope Zev ["self"] (defScope ZG) := ⟨rfl, rfl, rfl, by decide +kernel, rfl, by decide +kernel, by decide +kernel⟩
def Z33 : IS :=
  (iRet (Ze gLenD (iCons (iFld ["Database"] "kept_rows" (iVar 0)) iNil)))
def Z16 : Mi.Fn := fnOf 0 Z33
abbrev Z6X : List Str := ["self", "name"]
theorem Z6h : FnScope Z6X ["self", "name"] (defScope Zm) := ⟨rfl, rfl, rfl, by decide +kernel, rfl, by decide +kernel, by decide +kernel⟩
def Z1Q : IS :=
  (iRet (iBin (gInK false) (iVar 1) (iFld ["Database"] "kept_rows" (iVar 0))))
def ZE : Mi.Fn := fnOf 0 Z1Q
abbrev Zfp : List Str := ["self", "name"]
theorem ZbU : FnScope Zfp ["self", "name"] (defScope ZH) := ⟨rfl, rfl, rfl, by decide +kernel, rfl, by decide +kernel, by decide +kernel⟩
def Z32 : IS :=
  (iRet (iIf (iTest (iBin (gInK false) (iVar 1) (iFld ["Database"] "kept_rows" (iVar 0)))) (iIx (iBin gIxK (iFld ["Database"] "kept_rows" (iVar 0)) (iVar 1)) (iC (.int 0))) (iC .non)))
def Z15 : Mi.Fn := fnOf 0 Z32
abbrev Zvp : List Str := ["_law_base", "_law_rows_here", "_law_names_here", "_law_found", "_law_name"]
theorem sc_same : FnScope Zvp ["_law_base", "_law_rows_here", "_law_names_here"] (defScope Z4t) := ⟨rfl, rfl, rfl, by decide +kernel, rfl, by decide +kernel, by decide +kernel⟩
def Zex : IS :=
  (iIfS (iOr (iTest (iBin gNe (iBin (Z3N false "Database" ZE) (iVar 4) (iVar 0)) (iBin (gInK false) (iVar 4) (iVar 1)))) (iTest (iBin gNe (iMeth "Database" "row" (arity 2 Z15) (iVar 0) (iCons (iVar 4) iNil)) (iDGet (iVar 1) (iVar 4)))))
  (iRet (iC (.bl false)))
  iSkip)
def ZkS : IS :=
  (iSeq (iSet 3 (iMeth "Database" "rows" (arity 1 Zk) (iVar 0) iNil))
  (iSeq (iIfS (iOr (iNot (iTest (Ze gIsi (iCons (iVar 3) (iCons (iC (.ty "list")) iNil))))) (iOr (iTest (iBin gNe (iVar 3) (iCall (arity 1 Z2a) (iCons (iVar 1) iNil)))) (iTest (iBin gNe (Ze (Z5x "Database" Z16) (iCons (iVar 0) iNil)) (Ze gLenD (iCons (iVar 1) iNil))))))
  (iRet (iC (.bl false)))
  iSkip)
  (iSeq (iDrop (iMtd gApp (iVar 3) (iCons (iTup (iCons (iC (.int 5)) (iCons (iC .non) iNil))) iNil)))
  (iSeq (iFor (iOver (iVar 2)) (Zf 4)
  Zex)
  (iRet (iC (.bl true)))))))
def Z6H : Mi.Fn := fnOf 2 ZkS
abbrev ZlX : List Str := ["self", "other"]
theorem ZjX : FnScope ZlX ["self", "other"] (defScope Z18) := ⟨rfl, rfl, rfl, by decide +kernel, rfl, by decide +kernel, by decide +kernel⟩
def Z5g : IS :=
  (iRet (iAndV (iIsC ZiD (iVar 1)) (iAndV (iBin gEq (iUn (iFld ["Table"] "columns" (iVar 0))) (iUn (iFld ["Table"] "columns" (iVar 1)))) (iBin gEq (iFld ["Table"] "tops" (iVar 0)) (iFld ["Table"] "tops" (iVar 1))))))
def Z19 : Mi.Fn := fnOf 0 Z5g
abbrev ZtB : List Str := ["_law_spring_here", "_law_columns_here", "_law_table", "_law_names_here", "_law_bases", "_law_models", "_law_turn", "_law_some", "_law_kept", "_law_held", "_law_which", "_law_name", "_law_values_here", "_law_k"]
theorem sc_right : FnScope ZtB ["_law_spring_here"] (defScope Z3g) := ⟨rfl, rfl, rfl, by decide +kernel, rfl, by decide +kernel, by decide +kernel⟩
def Z4g : IS :=
  (iSeq (iSet 7 (iCall (arity 3 Z6U) (iCons (iVar 0) (iCons (iVar 1) (iCons (iCut (iVar 3) (iPart (iCall (arity 2 Z11) (iCons (iVar 0) (iCons (iC (.int 4)) iNil)))) (iPart (iBin gAdd (iC (.int 3)) (iCall (arity 2 Z11) (iCons (iVar 0) (iCons (iC (.int 6)) iNil)))))) iNil)))))
  (iSeq (iSet 8 (Ze gList (iCons (iVar 7) iNil)))
  (iSeq (iDrop (iMtd gApp (iVar 4) (iCons (iMake "Database" (arity 3 ZK) (iCons (iVar 2) (iCons (iVar 7) iNil))) iNil)))
  (iSeq (iDrop (iMtd gApp (iVar 5) (iCons (Ze Z5t (iCons (iVar 7) iNil)) iNil)))
  (iSeq (iIfS (iTest (iBin gNe (iVar 7) (iVar 8)))
  (iRet (iC (.bl false)))
  iSkip)
  (iDrop (iMtd Zbs (iVar 7) iNil)))))))
def Z4l : IS :=
  (iIfS (iNot (iTest (iCall (arity 3 Z6H) (iCons (iIx (iVar 4) (iVar 13)) (iCons (iIx (iVar 5) (iVar 13)) (iCons (iVar 3) iNil))))))
  (iRet (iC (.bl false)))
  iSkip)
def Z4e : IS :=
  (iSeq (iPar2 10 11 (iCons (iCall (arity 2 Z11) (iCons (iVar 0) (iCons (iC (.int 2)) iNil))) (iCons (iCall (arity 2 Z1K) (iCons (iVar 0) (iCons (iVar 3) iNil))) iNil)))
  (iSeq (iSet 12 (iIf (iTest (iBin gEq (iCall (arity 2 Z11) (iCons (iVar 0) (iCons (iC (.int 3)) iNil))) (iC (.int 0)))) (iC .non) (iCall (arity 2 Z2u) (iCons (iVar 0) (iCons (iVar 1) iNil)))))
  (iSeq (iIfS (iNot (iTest (iCall (arity 4 F_put) (iCons (iIx (iVar 4) (iVar 10)) (iCons (iIx (iVar 5) (iVar 10)) (iCons (iVar 11) (iCons (iVar 12) iNil)))))))
  (iRet (iC (.bl false)))
  iSkip)
  (iFor (iRng gRng1 (iCons (iC (.int 2)) iNil)) (Zf 13)
  Z4l))))
def ZhK : IS :=
  (iSeq (iSet 1 (iCall (arity 1 Z2p) (iCons (iVar 0) iNil)))
  (iSeq (iPar2 2 3 (iCons (iMake "Table" (arity 2 ZA) (iCons (iVar 1) iNil)) (iCons (iCall (arity 2 Z3H) (iCons (iVar 0) (iCons (iC (.int 9)) iNil))) iNil)))
  (iSeq (iPar2 4 5 (iCons (iLstS iNil) (iCons (iLstS iNil) iNil)))
  (iSeq (iFor (iRng gRng1 (iCons (iC (.int 2)) iNil)) (Zf 6)
  Z4g)
  (iSeq (iPar2 9 8 (iCons (iMeth "Database" "rows" (arity 1 Zk) (iIx (iVar 4) (iC (.int 0))) iNil) (iCons (Ze Z28 (iCons (iMeth "Database" "rows" (arity 1 Zk) (iIx (iVar 4) (iC (.int 0))) iNil) iNil)) iNil)))
  (iSeq (iFor (iRng gRng1 (iCons (iBin gAdd (iC (.int 4)) (iCall (arity 2 Z11) (iCons (iVar 0) (iCons (iC (.int 13)) iNil)))) iNil)) (Zf 6)
  Z4e)
  (iRet (iAndV (iBin (Z58 false "Table" Z19) (iFld ["Database"] "table" (iIx (iVar 4) (iC (.int 0)))) (iVar 2)) (iBin gEq (Ze Z28 (iCons (iVar 9) iNil)) (iVar 8))))))))))
def Z4Q : Mi.Fn := fnOf 13 ZhK
abbrev ZqK : List Str := ["_law_script", "_law_place", "_law_cell", "_law_stock"]
theorem sc_spring : FnScope ZqK ["_law_script", "_law_place"] (defScope Z2m) := ⟨rfl, rfl, rfl, by decide +kernel, rfl, by decide +kernel, by decide +kernel⟩
def Zfm : IS :=
  (iSeq (iSet 2 (iIf (iTest (iBin gLt (iVar 1) (Ze gLen (iCons (iVar 0) iNil)))) (Ze gInt (iCons (iIx (iVar 0) (iVar 1)) iNil)) (iC (.int 0))))
  (iSeq (iSet 3 (iIf (iTest (iBin gGe (Ze gAbs (iCons (iVar 2) iNil)) (iBin gPow (iC (.int 10)) (iC (.int 18))))) (Ze gAbs (iCons (iVar 2) iNil)) (iC (.int 0))))
  (iRet (iLstS (iCons (iVar 3) (iCons (iBin gMod (Ze gInt (iCons (iBin gAdd (iBin gAdd (iBin gAdd (iBin gMul (iVar 2) (iC (.int 40961))) (iBin gMul (iBin gMul (iVar 1) (iVar 1)) (iC (.int 7919)))) (iBin gMul (iVar 1) (iC (.int 104729)))) (iC (.int 17))) iNil)) (iC (.int 2147483543))) (iCons (iC (.int 0)) iNil)))))))
def Z3Q : Mi.Fn := fnOf 2 Zfm
abbrev N_law : List Str := ["_law_script", "_law_place"]
theorem sc_law : FnScope N_law ["_law_script"] (defScope s_law) := ⟨rfl, rfl, rfl, by decide +kernel, rfl, by decide +kernel, by decide +kernel⟩
def ZhE : IS :=
  (iIfS (iNot (iTest (iCall (arity 1 Z4Q) (iCons (iCall (arity 2 Z3Q) (iCons (iVar 0) (iCons (iVar 1) iNil))) iNil))))
  (iRet (iC (.bl false)))
  iSkip)
def B_law : IS :=
  (iSeq (iFor (iRng gRng1 (iCons (Ze gMax (iCons (iC (.int 1)) (iCons (Ze gMin (iCons (iC (.int 5)) (iCons (Ze gLen (iCons (iVar 0) iNil)) iNil))) iNil))) iNil)) (Zf 1)
  ZhE)
  (iRet (iC (.bl true))))
def F_law : Mi.Fn := fnOf 1 B_law
theorem ZdV : FnScope ["self", "at"] ["self", "at"] (defScope ZW) := ⟨rfl, rfl, rfl, by decide +kernel, rfl, by decide +kernel, by decide +kernel⟩
theorem ZgR : FnScope ["self", "at"] ["self", "at"] (defScope Z14) := ⟨rfl, rfl, rfl, by decide +kernel, rfl, by decide +kernel, by decide +kernel⟩
theorem ZjQ : FnScope ["self", "name"] ["self", "name"] (defScope Z1q) := ⟨rfl, rfl, rfl, by decide +kernel, rfl, by decide +kernel, by decide +kernel⟩
theorem ZbX : FnScope ["self", "given"] ["self", "given"] (defScope ZP) := ⟨rfl, rfl, rfl, by decide +kernel, rfl, by decide +kernel, by decide +kernel⟩
theorem Zkj : FnScope ["self", "name"] ["self", "name"] (defScope Z1F) := ⟨rfl, rfl, rfl, by decide +kernel, rfl, by decide +kernel, by decide +kernel⟩
section
variable {P : Program} {w : World} {K : PySem.W.Frag} {mg : Str → Option Value} {base : Heap} {Zd Z6 Z9 Za Zb Z8 cHeld Z5 : Addr}
theorem ZtW {f : Addr} {fd : FuncData} (F : L2.Fun K "_law_draw" "_law_draw" Z4s f fd) (T : Tx K mg Zd Z6 Z9 Za Zb Z8 cHeld Z5)  : FnOk P w K mg base (L2.CX P w) 1 f fd ["_law_spring_here", "_law_many"] (spOf ⟨K, mg, P, w⟩ 2 Z11) := by
  refine fn_ok (k := 0) F sc_draw rfl fun cdv A outer s H E hr => ?_
  unfold Zkh 
  exact (Z3 (ms_if (Zq ZoT (me_ix (Z1 (pv 0)) Z4) Z4 (nomark _))
  (Z3 (ZX (i := 2) sc_draw.nd rfl (by first | exact Or.inl rfl | exact Or.inr rfl) (Zj Z6L (Z17 Za2 (by rfl) T.b_int rfl (Z0 (me_ix (Z1 (pv 0)) Z4) Z2)) (Z1 (pv 1))))
  (Z3 (Z4b (Zj Znl (me_ix (Z1 (pv 0)) Z4) (Z1 (pv 1))) (ZkL (Z1 (pv 0)) Z4) (hT := (ZeT).use))
  (Z7 (Zi (Z1 (pv 2))))))
  Zp)
  (Z3 (Z4b (Zj Z1b (me_ix (Z1 (pv 0)) Z4) Z4) (ZkL (Z1 (pv 0)) Z4) (hT := (ZeT).use))
  (Z3 (Z4b (Zj Z6L (Z17 Za2 (by rfl) T.b_int rfl (Z0 (Zj Z1b (Zj Z1b (Zj Z3i (me_ix (Z1 (pv 0)) Z4) Z4) (Zj Z3i (Zj Z3i (me_ix (Z1 (pv 0)) Z4) (me_ix (Z1 (pv 0)) Z4)) Z4)) Z4) Z2)) Z4) (ZkL (Z1 (pv 0)) Z4) (hT := (ZeT).use))
  (Z7 (Zi (Zj Z6L (Zj Z6L (Z17 Za2 (by rfl) T.b_int rfl (Z0 (Zj Z7c (Zj Znl (me_ix (Z1 (pv 0)) Z4) Z4) Z4) Z2)) Z4) (Z1 (pv 1))))))))
theorem Ztb {f : Addr} {fd : FuncData} (F : L2.Fun K "_law_pick" "_law_pick" Z49 f fd) (T : Tx K mg Zd Z6 Z9 Za Zb Z8 cHeld Z5) (ZM : FnM P w K mg base "_law_draw" 1 2 Z11) : FnOk P w K mg base (L2.CX P w) 2 f fd ["_law_spring_here", "_law_some"] (spOf ⟨K, mg, P, w⟩ 2 Z1K) := by
  refine fn_ok (k := 1) F ZsT rfl fun cdv A outer s H E hr => ?_
  unfold Zg0 
  exact (Z7 (Zi (me_ix (Z1 (pv 1)) (Zt ZM (hr.mono (by decide)) (by exact takes_of rfl rfl rfl rfl) (by rfl) (Z0 (Z1 (pv 0)) (Z0 (Zg Z25 (by rfl) T.b_len rfl (Z0 (Z1 (pv 1)) Z2)) Z2))))))
theorem ZnG {f : Addr} {fd : FuncData} (F : L2.Fun K "_law_columns" "_law_columns" Z1S f fd) (T : Tx K mg Zd Z6 Z9 Za Zb Z8 cHeld Z5) (Z1B : FnM P w K mg base "_law_pick" 2 2 Z1K) : FnOk P w K mg base (L2.CX P w) 3 f fd ["_law_spring_here"] (spOf ⟨K, mg, P, w⟩ 1 Z2p) := by
  refine fn_ok (k := 2) F ZnB rfl fun cdv A outer s H E hr => ?_
  unfold Zbe 
  exact (Z7 (Zi (Zt Z1B (hr.mono (by decide)) (by exact takes_of rfl rfl rfl rfl) (by rfl) (Z0 (Z1 (pv 0)) (Z0 (Z2S (Z0 (Z2S (Z0 (ZN (Z0 Z2Q (Z0 Z4 Z2))) Z2)) (Z0 (Z2S (Z0 (ZN (Z0 Z2Q (Z0 Z4 Z2))) Z2)) (Z0 (Z2S (Z0 (ZN (Z0 Z2Q (Z0 Z4 Z2))) (Z0 (ZN (Z0 Z2Q (Z0 Z4 Z2))) Z2))) (Z0 (Z2S (Z0 (ZN (Z0 Z2Q (Z0 Z4 Z2))) (Z0 (ZN (Z0 Z2Q (Z0 Z4 Z2))) Z2))) (Z0 (Z2S (Z0 (ZN (Z0 Z2Q (Z0 Z4 Z2))) (Z0 (ZN (Z0 Z2Q (Z0 Z4 Z2))) (Z0 (ZN (Z0 Z2Q (Z0 Z4 Z2))) Z2)))) (Z0 (Z2S (Z0 (ZN (Z0 Z2Q (Z0 Z4 Z2))) Z2)) Z2))))))) Z2)))))
theorem Zi6 {f : Addr} {fd : FuncData} (F : L2.Fun K "is_column" "is_column" Z10 f fd) (T : Tx K mg Zd Z6 Z9 Za Zb Z8 cHeld Z5)  : FnOk P w K mg base (L2.CX P w) 1 f fd ["entry"] (spOf ⟨K, mg, P, w⟩ 1 Zy) := by
  refine fn_ok (k := 0) F sc_P_is_column rfl fun cdv A outer s H E hr => ?_
  unfold ZZ 
  exact (Z3 (ms_if (PW.pt (mw_or (Z1z (Z1A (Zg Z2i (by rfl) T.b_isinstance rfl (Z0 (Z1 (pv 0)) (Z0 (Z2t (by rfl) T.b_tuple rfl) Z2))))) (Z3q (Zq (Z4p (by exact hr.units)) (Zg Z25 (by rfl) T.b_len rfl (Z0 (Z1 (pv 0)) Z2)) Z4 (nomark _)))))
  (Z7 (Zi me_bl))
  Zp)
  (Z3 (Z4b (Z1 (pv 0)) (Z5v rfl (ZV (Zl (i := 1) sc_P_is_column.nd rfl (by first | exact Or.inl rfl | exact Or.inr rfl)) (ZV (Zl (i := 2) sc_P_is_column.nd rfl (by first | exact Or.inl rfl | exact Or.inr rfl)) Z3P))) (hT := ((ZdM (Z2z Z3o (Z2z Z3o Zas)))).use))
  (Z3 (ms_if (PW.pt (mw_or (Z1z (Z1A (Zg Z2i (by rfl) T.b_isinstance rfl (Z0 (Z1 (pv 1)) (Z0 (Z2t (by rfl) T.b_str rfl) Z2))))) (mw_or (Z1z (ZeL Z4k Z4k Z4 (Zg Z25 (by rfl) T.b_len rfl (Z0 (Z1 (pv 1)) Z2)) Z4)) (Z3q (Zq ZvW (Z1 (pv 1)) (Zr7 (by rfl) T.g_KEPT) (by rfl))))))
  (Z7 (Zi me_bl))
  Zp)
  (Z3 (Z1i (passes_of rfl) rfl (Z1P (Z1 (pv 1))) (Zl (i := 3) sc_P_is_column.nd rfl (by first | exact Or.inl rfl | exact Or.inr rfl))
  (Z7 (ms_if (Zq ZpQ (Z1 (pv 3)) (ZrJ (by rfl) T.g_LETTERS) (by rfl))
  (Z7 (Zi me_bl))
  Zp)))
  (Z7 (Zi (Za8 (Zg Z2i (by rfl) T.b_isinstance rfl (Z0 (Z1 (pv 2)) (Z0 (Z2t (by rfl) T.b_int rfl) Z2))) (Za8 (ZvI (Zg Z2i (by rfl) T.b_isinstance rfl (Z0 (Z1 (pv 2)) (Z0 (Z2t (by rfl) T.b_bool rfl) Z2)))) (Zkm (ZqY Z4k Z4k Z4 (Z1 (pv 2)) Z4))))))))))
theorem ZfB {f : Addr} {fd : FuncData} (F : L2.Fun K "__init__" "Table.__init__" Zz f fd) (T : Tx K mg Zd Z6 Z9 Za Zb Z8 cHeld Z5) (Z1d : FnM P w K mg base "is_column" 1 1 Zy) (Z3r : ExcM P w K mg base "BadTable" "at" 1) : FnOk P w K mg base (L2.CX P w) 3 f fd ["self", "columns"] (spOf ⟨K, mg, P, w⟩ 2 ZA) := by
  refine fn_ok (k := 2) F sc_P_Table_init rfl fun cdv A outer s H E hr => ?_
  unfold Z3X 
  exact (Z3 (ms_if (Z1z (ZeL Z4k Z4k Z4 (Zg Z25 (by rfl) T.b_len rfl (Z0 (Z1 (pv 1)) Z2)) Z4))
  (Z7 (Z1Y rfl Z3r (hr.mono (by decide)) (by exact takes_of rfl rfl rfl rfl) (by rfl) (ZfG Z4)))
  Zp)
  (Z3 (Zpk (i := 2) sc_P_Table_init.nd rfl (by first | exact Or.inl rfl | exact Or.inr rfl) (Zv2 Z2))
  (Z3 (Z1i (passes_of rfl) rfl (ZnA (by rfl) T.b_enumerate (Z0 (Z1 (pv 1)) Z2)) (Z5v rfl (ZV (Zl (i := 3) sc_P_Table_init.nd rfl (by first | exact Or.inl rfl | exact Or.inr rfl)) (ZV (Zl (i := 4) sc_P_Table_init.nd rfl (by first | exact Or.inl rfl | exact Or.inr rfl)) Z3P)))
  (Z3 (ms_if (PW.pt (mw_or (Z1z (Z1A (Zt Z1d (hr.mono (by decide)) (by exact takes_of rfl rfl rfl rfl) (by rfl) (Z0 (Z1 (pv 4)) Z2)))) (Z3q (Zrf (me_ix (Z1 (pv 4)) Z4) (pv 2) (by rfl)))))
  (Z7 (Z1Y rfl Z3r (hr.mono (by decide)) (by exact takes_of rfl rfl rfl rfl) (by rfl) (Z1 (pv 3))))
  Zp)
  (Z7 (Zp2 (pv 2) (me_ix (Z1 (pv 4)) Z4)))))
  (Z3 (Z2P (T.fd_Table_columns) (Z1 (pv 0)) (ZnJ (pv 2) (by rfl) T.b_tuple rfl))
  (Z3 (Z2P (T.fd_Table_tops) (Z1 (pv 0)) (Z17 Zfh (by rfl) T.b_tuple rfl (Z0 (me_F (by exact mf_lc (own := [("_", 5), ("top", 6)]) rfl sc_P_Table_init.nd (Z1P (Z1 (pv 1))) (blkOk_by (N := Z3R) (sc := defScope Zz) (own := [("_", 5), ("top", 6)]) (by decide +kernel)) (fun _ _ _ _ _ => pg_tup rfl (pgs_cons (pg_name (i := 5) sc_P_Table_init.nd rfl (by first | exact Or.inl rfl | exact Or.inr rfl)) (pgs_cons (pg_name (i := 6) sc_P_Table_init.nd rfl (by first | exact Or.inl rfl | exact Or.inr rfl)) pgs_nil))) (Zm1 (by decide) (by decide)) (ZiJ (i := 5) (j := 6)) (fun _ _ _ _ _ => pts_nil) Z3K (fun _ _ _ _ _ => (Z1 (pv 6))))) Z2)))
  (Z3 (ZX (i := 7) sc_P_Table_init.nd rfl (by first | exact Or.inl rfl | exact Or.inr rfl) (Z2S (Z0 (ZN Z2) Z2)))
  (Z3 (Z1i (passes_of rfl) rfl (Z1P (ZD (T.fd_Table_tops) (Z1 (pv 0)))) (Zl (i := 6) sc_P_Table_init.nd rfl (by first | exact Or.inl rfl | exact Or.inr rfl))
  (Z7 (ZvG (i := 7) (own := [("values", 8), ("value", 9)]) (vs1 := [9]) rfl sc_P_Table_init.nd rfl rfl (by rfl) (Z1P (Z1 (pv 7))) (blkOk_by (N := Z3R) (sc := defScope Zz) (own := [("values", 8), ("value", 9)]) (by decide +kernel)) (by decide) (fun _ _ _ _ _ => pg_name (i := 8) sc_P_Table_init.nd rfl (by first | exact Or.inl rfl | exact Or.inr rfl)) (Z86 (by decide)) (Z5Y (i := 8)) (fun _ _ _ _ _ => pts_nil) Z3K (fun _ _ _ _ _ => (Z2k (by rfl) T.b_range (Z0 (Zj Z1b (Z1 (pv 6)) Z4) Z2))) (fun _ _ _ _ _ => pg_name (i := 9) sc_P_Table_init.nd rfl (by first | exact Or.inl rfl | exact Or.inr rfl)) (Z86 (by decide)) (Z5Y (i := 9)) (fun _ _ _ _ _ => pts_nil) Z3K (fun _ _ _ _ _ => (Zj Z1b (Z1 (pv 8)) (ZN (Z0 (Z1 (pv 9)) Z2)))) hw_in)))
  (Z3 (ms_if (Zq ZoT (Zg Z25 (by rfl) T.b_len rfl (Z0 (Z1 (pv 7)) Z2)) (ZqQ (by rfl) T.g_MOST_VALUES) (nomark _))
  (Z7 (Z1Y rfl Z3r (hr.mono (by decide)) (by exact takes_of rfl rfl rfl rfl) (by rfl) (ZfG Z4)))
  Zp)
  (Z7 (Z2P (T.fd_Table_every) (Z1 (pv 0)) (Z17 Zfh (by rfl) T.b_tuple rfl (Z0 (Z1 (pv 7)) Z2))))))))))))
theorem ZqW {f : Addr} {fd : FuncData} (F : L2.Fun K "_law_names" "_law_names" Z3n f fd) (T : Tx K mg Zd Z6 Z9 Za Zb Z8 cHeld Z5) (ZM : FnM P w K mg base "_law_draw" 1 2 Z11) (Z1B : FnM P w K mg base "_law_pick" 2 2 Z1K) : FnOk P w K mg base (L2.CX P w) 3 f fd ["_law_spring_here", "_law_many"] (spOf ⟨K, mg, P, w⟩ 2 Z3H) := by
  refine fn_ok (k := 2) F sc_names rfl fun cdv A outer s H E hr => ?_
  unfold Zij Z5X Z5Z
  exact (Z3 (ZX (i := 2) sc_names.nd rfl (by first | exact Or.inl rfl | exact Or.inr rfl) (Zt Z1B (hr.mono (by decide)) (by exact takes_of rfl rfl rfl rfl) (by rfl) (Z0 (Z1 (pv 0)) (Z0 (Z2S (Z0 Z4 (Z0 (ZfG Z4) (Z0 Z4 (Z0 (ZfG (Zj Z7c Z4 Z4)) (Z0 (Zj Z7c Z4 Z4) Z2)))))) Z2))))
  (Z3 (Z6W (i := 3) (j := 4) rfl sc_names.nd rfl rfl (by decide) rfl rfl (Z0 (Z2v Z2) (Z0 (Z2v Z2) Z2)) (by rfl))
  (Z3 (Z1i (passes_of rfl) rfl (Z2k (by rfl) T.b_range (Z0 (Z1 (pv 1)) Z2)) (Zl (i := 5) sc_names.nd rfl (by first | exact Or.inl rfl | exact Or.inr rfl))
  (Z3 (Z1w (Z51 Z3C PySem.F.slot_list_append PySem.F.type_list_append (Z1 (pv 3)) (Z0 (Z1 (pv 2)) Z2)))
  (Z7 (ZX (i := 2) sc_names.nd rfl (by first | exact Or.inl rfl | exact Or.inr rfl) (Zj Z1b (Zj Z1b (Z1 (pv 2)) Z4) (Zj Z3i (Zt ZM (hr.mono (by decide)) (by exact takes_of rfl rfl rfl rfl) (by rfl) (Z0 (Z1 (pv 0)) (Z0 Z4 Z2))) (Zt Z1B (hr.mono (by decide)) (by exact takes_of rfl rfl rfl rfl) (by rfl) (Z0 (Z1 (pv 0)) (Z0 (Z2S (Z0 Z4 (Z0 Z4 (Z0 (Zj Z7c Z4 Z4) Z2)))) Z2)))))))))
  (Z3 (Z1i (passes_of rfl) rfl (Z2k (by rfl) T.b_range (Z0 (Z1 (pv 1)) Z2)) (Zl (i := 5) sc_names.nd rfl (by first | exact Or.inl rfl | exact Or.inr rfl))
  (Z7 (Z1w (Z51 Z3C PySem.F.slot_list_append PySem.F.type_list_append (Z1 (pv 4)) (Z0 (Z51 ZoS PySem.F.slot_list_pop PySem.F.type_list_pop (Z1 (pv 3)) (Z0 (Zt ZM (hr.mono (by decide)) (by exact takes_of rfl rfl rfl rfl) (by rfl) (Z0 (Z1 (pv 0)) (Z0 (Zg Z25 (by rfl) T.b_len rfl (Z0 (Z1 (pv 3)) Z2)) Z2))) Z2)) Z2)))))
  (Z7 (Zi (Z1 (pv 4))))))))
theorem ZpX {f : Addr} {fd : FuncData} (F : L2.Fun K "_law_values" "_law_values" Z21 f fd) (T : Tx K mg Zd Z6 Z9 Za Zb Z8 cHeld Z5) (ZM : FnM P w K mg base "_law_draw" 1 2 Z11) : FnOk P w K mg base (L2.CX P w) 2 f fd ["_law_spring_here", "_law_columns_here"] (spOf ⟨K, mg, P, w⟩ 2 Z2u) := by
  refine fn_ok (k := 1) F sc_values rfl fun cdv A outer s H E hr => ?_
  unfold Ze2 
  exact (Z7 (Zi (Z17 Zfh (by rfl) T.b_tuple rfl (Z0 (me_F (by exact mf_lc (own := [("_law_word", 2), ("_law_top", 3)]) rfl sc_values.nd (Z1P (Z1 (pv 1))) (blkOk_by (N := ZlB) (sc := defScope Z21) (own := [("_law_word", 2), ("_law_top", 3)]) (by decide +kernel)) (fun _ _ _ _ _ => pg_tup rfl (pgs_cons (pg_name (i := 2) sc_values.nd rfl (by first | exact Or.inl rfl | exact Or.inr rfl)) (pgs_cons (pg_name (i := 3) sc_values.nd rfl (by first | exact Or.inl rfl | exact Or.inr rfl)) pgs_nil))) (Zm1 (by decide) (by decide)) (ZiJ (i := 2) (j := 3)) (fun _ _ _ _ _ => pts_nil) Z3K (fun _ _ _ _ _ => (Zt ZM (hr.mono (by decide)) takes0 (by rfl) (Z0 (Z1 (pv 0)) (Z0 (Zj Z1b (Z1 (pv 3)) Z4) Z2)))))) Z2))))
theorem Zu3 {f : Addr} {fd : FuncData} (F : L2.Fun K "_law_rows" "_law_rows" Z3A f fd) (T : Tx K mg Zd Z6 Z9 Za Zb Z8 cHeld Z5) (Z1E : FnM P w K mg base "_law_values" 2 2 Z2u) : FnOk P w K mg base (L2.CX P w) 3 f fd ["_law_spring_here", "_law_columns_here", "_law_names_here"] (spOf ⟨K, mg, P, w⟩ 3 Z6U) := by
  refine fn_ok (k := 2) F sc_rows rfl fun cdv A outer s H E hr => ?_
  unfold Zl2 
  exact (Z7 (Zi (me_FS (by exact mf_lc (own := [("_law_name", 3)]) rfl sc_rows.nd (Z1P (Z1 (pv 2))) (blkOk_by (N := Zp6) (sc := defScope Z3A) (own := [("_law_name", 3)]) (by decide +kernel)) (fun _ _ _ _ _ => pg_name (i := 3) sc_rows.nd rfl (by first | exact Or.inl rfl | exact Or.inr rfl)) (Z86 (by decide)) (Z5Y (i := 3)) (fun _ _ _ _ _ => pts_nil) Z3K (fun _ _ _ _ _ => (ZN (Z0 (Z1 (pv 3)) (Z0 (Zt Z1E (hr.mono (by decide)) takes0 (by rfl) (Z0 (Z1 (pv 0)) (Z0 (Z1 (pv 1)) Z2))) Z2))))))))
theorem Z96 {f : Addr} {fd : FuncData} (F : L2.Fun K "__contains__" "Table.__contains__" Zv f fd) (T : Tx K mg Zd Z6 Z9 Za Zb Z8 cHeld Z5)  : FnOk P w K mg base (L2.CX P w) 1 f fd ["self", "thing"] (spOf ⟨K, mg, P, w⟩ 2 Zw) := by
  refine fn_ok (k := 0) F sc_P_Table_contains rfl fun cdv A outer s H E hr => ?_
  unfold Z2c 
  exact (Z3 (ms_if (PW.pt (mw_or (Z1z (Z1A (Zg Z2i (by rfl) T.b_isinstance rfl (Z0 (Z1 (pv 1)) (Z0 (Z2t (by rfl) T.b_tuple rfl) Z2))))) (Z3q (Zq (Z4p (by exact hr.units)) (Zg Z25 (by rfl) T.b_len rfl (Z0 (Z1 (pv 1)) Z2)) (Zg Z25 (by rfl) T.b_len rfl (Z0 (ZD (T.fd_Table_tops) (Z1 (pv 0))) Z2)) (nomark _)))))
  (Z7 (Zi me_bl))
  Zp)
  (Z3 (Z1i (passes_of rfl) rfl (Zv7 (by rfl) T.b_zip (Z0 (Z1 (pv 1)) (Z0 (ZD (T.fd_Table_tops) (Z1 (pv 0))) Z2))) (Z5v rfl (ZV (Zl (i := 2) sc_P_Table_contains.nd rfl (by first | exact Or.inl rfl | exact Or.inr rfl)) (ZV (Zl (i := 3) sc_P_Table_contains.nd rfl (by first | exact Or.inl rfl | exact Or.inr rfl)) Z3P)))
  (Z7 (ms_if (PW.pt (mw_or (Z1z (Z1A (Zg Z2i (by rfl) T.b_isinstance rfl (Z0 (Z1 (pv 2)) (Z0 (Z2t (by rfl) T.b_int rfl) Z2))))) (mw_or (Z1A (Zg Z2i (by rfl) T.b_isinstance rfl (Z0 (Z1 (pv 2)) (Z0 (Z2t (by rfl) T.b_bool rfl) Z2)))) (Z3q (Z1z (ZeL Z4k Z4k Z4 (Z1 (pv 2)) (Z1 (pv 3))))))))
  (Z7 (Zi me_bl))
  Zp)))
  (Z7 (Zi me_bl))))
theorem ZgJ {f : Addr} {fd : FuncData} (F : L2.Fun K "check_rows" "check_rows" ZS f fd) (T : Tx K mg Zd Z6 Z9 Za Zb Z8 cHeld Z5) (ZQ : MethM P w K mg base "Table" "__contains__" 1 2 Zw) (Z47 : ExcM P w K mg base "BadRows" "at" 1) : FnOk P w K mg base (L2.CX P w) 3 f fd ["table", "rows"] (spOf ⟨K, mg, P, w⟩ 2 Z1p) := by
  refine fn_ok (k := 2) F sc_P_check_rows rfl fun cdv A outer s H E hr => ?_
  unfold Z3U Z3a
  exact (Z3 (ZX (i := 2) sc_P_check_rows.nd rfl (by first | exact Or.inl rfl | exact Or.inr rfl) (Zq0 (by rfl) T.b_set rfl))
  (Z7 (Z1i (passes_of rfl) rfl (ZnA (by rfl) T.b_enumerate (Z0 (Z1 (pv 1)) Z2)) (Z5v rfl (ZV (Zl (i := 3) sc_P_check_rows.nd rfl (by first | exact Or.inl rfl | exact Or.inr rfl)) (ZV (Zl (i := 4) sc_P_check_rows.nd rfl (by first | exact Or.inl rfl | exact Or.inr rfl)) Z3P)))
  (Z3 (ms_if (PW.pt (mw_or (Z1z (Z1A (Zg Z2i (by rfl) T.b_isinstance rfl (Z0 (Z1 (pv 4)) (Z0 (Z2t (by rfl) T.b_tuple rfl) Z2))))) (Z3q (Zq (Z4p (by exact hr.units)) (Zg Z25 (by rfl) T.b_len rfl (Z0 (Z1 (pv 4)) Z2)) Z4 (nomark _)))))
  (Z7 (Z1Y rfl Z47 (hr.mono (by decide)) (by exact takes_of rfl rfl rfl rfl) (by rfl) (Z1 (pv 3))))
  Zp)
  (Z3 (Z4b (Z1 (pv 4)) (Z5v rfl (ZV (Zl (i := 5) sc_P_check_rows.nd rfl (by first | exact Or.inl rfl | exact Or.inr rfl)) (ZV (Zl (i := 6) sc_P_check_rows.nd rfl (by first | exact Or.inl rfl | exact Or.inr rfl)) Z3P))) (hT := ((ZdM (Z2z Z3o (Z2z Z3o Zas)))).use))
  (Z3 (ms_if (PW.pt (mw_or (Z1z (Z1A (Zg Z2i (by rfl) T.b_isinstance rfl (Z0 (Z1 (pv 5)) (Z0 (Z2t (by rfl) T.b_int rfl) Z2))))) (mw_or (Z1A (Zg Z2i (by rfl) T.b_isinstance rfl (Z0 (Z1 (pv 5)) (Z0 (Z2t (by rfl) T.b_bool rfl) Z2)))) (Z3q (Zq (by exact ZtQ) (Z1 (pv 5)) (Z1 (pv 2)) (by rfl))))))
  (Z7 (Z1Y rfl Z47 (hr.mono (by decide)) (by exact takes_of rfl rfl rfl rfl) (by rfl) (Z1 (pv 3))))
  Zp)
  (Z3 (ms_if (Zq (by exact Z7B true ZQ (hr.mono (by decide))) (Z1 (pv 6)) (Z1 (pv 0)) (by rfl))
  (Z7 (Z1Y rfl Z47 (hr.mono (by decide)) (by exact takes_of rfl rfl rfl rfl) (by rfl) (Z1 (pv 3))))
  Zp)
  (Z7 (Z1w (Zu0 (Z1 (pv 2)) (Z0 (Z1 (pv 5)) Z2)))))))))))
theorem Zbr {f : Addr} {fd : FuncData} (F : L2.Fun K "give" "Database.give" ZB f fd) (T : Tx K mg Zd Z6 Z9 Za Zb Z8 cHeld Z5)  : FnOk P w K mg base (L2.CX P w) 1 f fd ["self", "name", "values"] (spOf ⟨K, mg, P, w⟩ 3 Zn) := by
  refine fn_ok (k := 0) F sc_P_Database_give rfl fun cdv A outer s H E hr => ?_
  unfold Z1H 
  exact (Z3 (ZpT (T.fd_Database_events) (Z1 (pv 0)) Z4)
  (Z3 (ZX (i := 3) sc_P_Database_give.nd rfl (by first | exact Or.inl rfl | exact Or.inr rfl) (ZD (T.fd_Database_events) (Z1 (pv 0))))
  (Z3 (ms_if (Zq (by exact Z7d (by exact Nat.lt_of_le_of_lt (Nat.add_le_add_left (by decide : 1 ≤ 64) _) hr.units)) (Z1 (pv 1)) (ZD (T.fd_Database_kept_rows) (Z1 (pv 0))) (by rfl))
  (Z7 (ZX (i := 3) sc_P_Database_give.nd rfl (by first | exact Or.inl rfl | exact Or.inr rfl) (me_ix (me_ix (Zhb (by exact Nat.lt_of_le_of_lt (Nat.add_le_add_left (by decide : 1 ≤ 64) _) hr.units) (ZD (T.fd_Database_kept_rows) (Z1 (pv 0))) (Z1 (pv 1))) Z4) Z4)))
  Zp)
  (Z7 (Z4b (ZN (Z0 (Z1 (pv 2)) (Z0 (ZN (Z0 (Z1 (pv 3)) (Z0 (ZD (T.fd_Database_events) (Z1 (pv 0))) Z2))) Z2))) (Znv (by exact Nat.lt_of_le_of_lt (Nat.add_le_add_left (by decide : 1 ≤ 64) _) hr.units) (ZD (T.fd_Database_kept_rows) (Z1 (pv 0))) (Z1 (pv 1))) (hT := (ZiX).use))))))
theorem ZaU {f : Addr} {fd : FuncData} (F : L2.Fun K "__init__" "Database.__init__" ZC f fd) (T : Tx K mg Zd Z6 Z9 Za Zb Z8 cHeld Z5) (Z12 : FnM P w K mg base "check_rows" 3 2 Z1p) (ZY : MethM P w K mg base "Database" "give" 1 3 Zn) : FnOk P w K mg base (L2.CX P w) 4 f fd ["self", "table", "rows"] (spOf ⟨K, mg, P, w⟩ 3 ZK) := by
  refine fn_ok (k := 3) F sc_P_Database_init rfl fun cdv A outer s H E hr => ?_
  unfold Z2F Z1v
  exact (Z3 (Z1w (Zt Z12 (hr.mono (by decide)) (by exact takes_of rfl rfl rfl rfl) (by rfl) (Z0 (Z1 (pv 1)) (Z0 (Z1 (pv 2)) Z2))))
  (Z3 (Z2P (T.fd_Database_table) (Z1 (pv 0)) (Z1 (pv 1)))
  (Z3 (Z2P (T.fd_Database_events) (Z1 (pv 0)) Z4)
  (Z3 (Z2P (T.fd_Database_kept_rows) (Z1 (pv 0)) Zts)
  (Z3 (Z2P (T.fd_Database_written) (Z1 (pv 0)) (Z2v Z2))
  (Z3 (Z2P (T.fd_Database_points) (Z1 (pv 0)) (Z2v Z2))
  (Z3 (Z2P (T.fd_Database_cursors) (Z1 (pv 0)) (Z2v Z2))
  (Z3 (Z2P (T.fd_Database_begun_at) (Z1 (pv 0)) Z4)
  (Z7 (Z1i (passes_of rfl) rfl (Z1P (Z1 (pv 2))) (Z5v rfl (ZV (Zl (i := 3) sc_P_Database_init.nd rfl (by first | exact Or.inl rfl | exact Or.inr rfl)) (ZV (Zl (i := 4) sc_P_Database_init.nd rfl (by first | exact Or.inl rfl | exact Or.inr rfl)) Z3P)))
  (Z7 (Z1w (Z71 ZY (hr.mono (by decide)) (by exact takes_of rfl rfl rfl rfl) (Z1 (pv 0)) (Z0 (Z1 (pv 3)) (Z0 (Z1 (pv 4)) Z2)))))))))))))))
theorem Zbm {f : Addr} {fd : FuncData} (F : L2.Fun K "rows" "Database.rows" Zu f fd) (T : Tx K mg Zd Z6 Z9 Za Zb Z8 cHeld Z5)  : FnOk P w K mg base (L2.CX P w) 1 f fd ["self"] (spOf ⟨K, mg, P, w⟩ 1 Zk) := by
  refine fn_ok (k := 0) F sc_P_Database_rows rfl fun cdv A outer s H E hr => ?_
  unfold Z2I 
  exact (Z7 (Zi (me_FS (by exact mf_lc (own := [("name", 1)]) rfl sc_P_Database_rows.nd (Z1P (Zg ZqP (by rfl) T.b_sorted rfl (Z0 (Z17 (Zqp rfl) (by rfl) T.b_list rfl (Z0 (ZD (T.fd_Database_kept_rows) (Z1 (pv 0))) Z2)) Z2))) (blkOk_by (N := Z4G) (sc := defScope Zu) (own := [("name", 1)]) (by decide +kernel)) (fun _ _ _ _ _ => pg_name (i := 1) sc_P_Database_rows.nd rfl (by first | exact Or.inl rfl | exact Or.inr rfl)) (Z86 (by decide)) (Z5Y (i := 1)) (fun _ _ _ _ _ => pts_nil) Z3K (fun _ _ _ _ _ => (ZN (Z0 (Z1 (pv 1)) (Z0 (me_ix (Zhb (by exact Nat.lt_of_le_of_lt (Nat.add_le_add_left (by decide : 1 ≤ 64) _) hr.units) (ZD (T.fd_Database_kept_rows) (Z1 (pv 0))) (Z1 (pv 1))) Z4) Z2))))))))
theorem Z74 {f : Addr} {fd : FuncData} (F : L2.Fun K "is_held" "Database.is_held" Zr f fd) (T : Tx K mg Zd Z6 Z9 Za Zb Z8 cHeld Z5)  : FnOk P w K mg base (L2.CX P w) 1 f fd ["self", "name"] (spOf ⟨K, mg, P, w⟩ 2 ZI) := by
  refine fn_ok (k := 0) F sc_P_Database_is_held rfl fun cdv A outer s H E hr => ?_
  unfold Z20 Z2T Z2O
  exact (Z3 (Z1i (passes_of rfl) rfl (Z1P (ZD (T.fd_Database_written) (Z1 (pv 0)))) (Zl (i := 2) sc_P_Database_is_held.nd rfl (by first | exact Or.inl rfl | exact Or.inr rfl))
  (Z7 (ms_if (Zq (Z6S (by exact hr.units)) (me_ix (Z1 (pv 2)) Z4) (Z1 (pv 1)) (nomark _))
  (Z7 (Zi me_bl))
  Zp)))
  (Z3 (Z1i (passes_of rfl) rfl (Z1P (ZD (T.fd_Database_cursors) (Z1 (pv 0)))) (Zl (i := 3) sc_P_Database_is_held.nd rfl (by first | exact Or.inl rfl | exact Or.inr rfl))
  (Z7 Zv9))
  (Z7 (Zi me_bl))))
theorem ZcK {f : Addr} {fd : FuncData} (F : L2.Fun K "put" "Database.put" ZF f fd) (T : Tx K mg Zd Z6 Z9 Za Zb Z8 cHeld Z5) (ZY : MethM P w K mg base "Database" "give" 1 3 Zn) (Z24 : MethM P w K mg base "Database" "is_held" 1 2 ZI) (ZQ : MethM P w K mg base "Table" "__contains__" 1 2 Zw) (Z6s : ExcM P w K mg base "BadValues" "given" 1) (Zla : ExcM P w K mg base "Held" "name" 1) (Ziu : ExcM P w K mg base "NoRow" "name" 1) : FnOk P w K mg base (L2.CX P w) 3 f fd ["self", "name", "values"] (spOf ⟨K, mg, P, w⟩ 3 Zs) := by
  refine fn_ok (k := 2) F ZcA rfl fun cdv A outer s H E hr => ?_
  unfold Z1u 
  exact (Z3 (ms_if (PW.pt (ZoW (Zq Z7L (Z1 (pv 2)) Z2d (nomark _)) (Znh (Zq (by exact Z7B true ZQ (hr.mono (by decide))) (Z1 (pv 2)) (ZD (T.fd_Database_table) (Z1 (pv 0))) (by rfl)))))
  (Z7 (Z1Y rfl Z6s (hr.mono (by decide)) (by exact takes_of rfl rfl rfl rfl) (by rfl) (Z1 (pv 2))))
  Zp)
  (Z3 (ms_if (Z1A (Z71 Z24 (hr.mono (by decide)) (by exact takes_of rfl rfl rfl rfl) (Z1 (pv 0)) (Z0 (Z1 (pv 1)) Z2)))
  (Z7 (Z1Y rfl Zla (hr.mono (by decide)) (by exact takes_of rfl rfl rfl rfl) (by rfl) (Z1 (pv 1))))
  Zp)
  (Z7 (ms_if (Zq Z7L (Z1 (pv 2)) Z2d (nomark _))
  (Z7 (Z1w (Z71 ZY (hr.mono (by decide)) (by exact takes_of rfl rfl rfl rfl) (Z1 (pv 0)) (Z0 (Z1 (pv 1)) (Z0 (Z1 (pv 2)) Z2)))))
  (Z7 (ms_if (Zq (by exact Zof (by exact Nat.lt_of_le_of_lt (Nat.add_le_add_left (by decide : 1 ≤ 64) _) hr.units)) (Z1 (pv 1)) (ZD (T.fd_Database_kept_rows) (Z1 (pv 0))) (by rfl))
  (Z7 (Z1Y rfl Ziu (hr.mono (by decide)) (by exact takes_of rfl rfl rfl rfl) (by rfl) (Z1 (pv 1))))
  (Z7 (ZvA (ZD (T.fd_Database_kept_rows) (Z1 (pv 0))) (Z1 (pv 1))))))))))
theorem ZvJ {f : Addr} {fd : FuncData} (F : L2.Fun K "_law_put" "_law_put" s_put f fd) (T : Tx K mg Zd Z6 Z9 Za Zb Z8 cHeld Z5) (Z2Y : MethM P w K mg base "Database" "put" 3 3 Zs) : FnOk P w K mg base (L2.CX P w) 4 f fd ["_law_base", "_law_rows_here", "_law_name", "_law_values_here"] (spOf ⟨K, mg, P, w⟩ 4 F_put) := by
  refine fn_ok (k := 3) F sc_put rfl fun cdv A outer s H E hr => ?_
  unfold B_put 
  exact (Z3 (Z4b (hT := ((ZdM (Z2z Z3o (Z2z Z3o Zas)))).use) (ZN (Z0 Z2d (Z0 Z2d Z2))) (Z5v rfl (ZV (Zl (i := 4) sc_put.nd rfl (by first | exact Or.inl rfl | exact Or.inr rfl)) (ZV (Zl (i := 5) sc_put.nd rfl (by first | exact Or.inl rfl | exact Or.inr rfl)) Z3P))))
  (Z3 (Zrs (i := 6) (M := fun c => if c = "NoRow" then some true else none) (q := fun v => v = .ref Zb) rfl rfl sc_put.nd rfl rfl ⟨rfl, by decide, Or.inl T.k_NoRow⟩ (by exact takes_of rfl rfl rfl rfl) (Zso T.k_NoRow T.te_NoRow)
  (fun W pn xe tk pass => (Z7 (ZX (i := 5) sc_put.nd rfl (by first | exact Or.inl rfl | exact Or.inr rfl) (Z71 Z2Y (hr.mono (by decide)) tk (Z1 (pv 0)) (Z0 (Z1 (pv 2)) (Z0 (Z1 (pv 3)) Z2))))))
  (fun a oe cls dd pn hq hz hf => (Z7 (ZX (i := 4) sc_put.nd rfl (by first | exact Or.inl rfl | exact Or.inr rfl) (ZN (Z0 (ZvX T.xf_NoRow T.xn_NoRow_name hq hz hf (pv 6)) (Z0 (Zpo T.xi_NoRow T.ko_NoRow_HeldcursorsError hq hz hf (by rfl) T.b_isinstance (by rfl) (pv 6) (pe_glob (by rfl) T.k_HeldcursorsError rfl)) (Z0 (Zpo T.xi_NoRow T.ko_NoRow_Held hq hz hf (by rfl) T.b_isinstance (by rfl) (pv 6) (pe_glob (by rfl) T.k_Held rfl)) Z2))))))))
  (Z3 (ms_if (Zq Z7L (Z1 (pv 5)) Z2d (nomark _))
  (Z7 (Zi me_bl))
  Zp)
  (Z3 (ms_if (Zq Z7L (Z1 (pv 3)) Z2d (nomark _))
  (Z3 (Z4b (Z1 (pv 3)) (Znv (by exact Nat.lt_of_le_of_lt (Nat.add_le_add_left (by decide : 1 ≤ 64) _) hr.units) (Z1 (pv 1)) (Z1 (pv 2))) (hT := (ZiX).use))
  (Z7 (Zi (Z2U Zni (Z1 (pv 4)) Z2d (nomark _)))))
  Zp)
  (Z3 (ms_if (Zq (by exact Z7d (by exact Nat.lt_of_le_of_lt (Nat.add_le_add_left (by decide : 1 ≤ 64) _) hr.units)) (Z1 (pv 2)) (Z1 (pv 1)) (by rfl))
  (Z3 (Z1w (ZtA (Z1 (pv 1)) (Z1 (pv 2)) ⟨rfl, rfl, rfl, rfl⟩))
  (Z7 (Zi (Z2U Zni (Z1 (pv 4)) Z2d (nomark _)))))
  Zp)
  (Z7 (Zi (Z2U (Z6S (by exact hr.units)) (Z1 (pv 4)) (ZN (Z0 (Z1 (pv 2)) (Z0 me_bl (Z0 me_bl Z2)))) (nomark _)))))))))
theorem Zkn {f : Addr} {fd : FuncData} (F : L2.Fun K "_law_ascending" "_law_ascending" Z1o f fd) (T : Tx K mg Zd Z6 Z9 Za Zb Z8 cHeld Z5)  : FnOk P w K mg base (L2.CX P w) 1 f fd ["_law_rows_here"] (spOf ⟨K, mg, P, w⟩ 1 Z2a) := by
  refine fn_ok (k := 0) F sc_ascending rfl fun cdv A outer s H E hr => ?_
  unfold Z6v Z4z Z4y
  exact (Z3 (ZX (i := 1) sc_ascending.nd rfl (by first | exact Or.inl rfl | exact Or.inr rfl) (Z2v Z2))
  (Z3 (Zth (A := (iVar 0)) (Z1i (passes_of rfl) rfl (Zss (Z1 (pv 0))) (Zl (i := 2) sc_ascending.nd rfl (by first | exact Or.inl rfl | exact Or.inr rfl))
  (Z3 (ZX (i := 3) sc_ascending.nd rfl (by first | exact Or.inl rfl | exact Or.inr rfl) Z4)
  (Z3 (Zqg (n := 20) (passes_of rfl) (PW.pt (ZoW (Zq Zki (Z1 (pv 3)) (Zg Z25 (by rfl) T.b_len rfl (Z0 (Z1 (pv 1)) Z2)) (nomark _)) (Znh (Zq Zki (me_ix (me_ix (Z1 (pv 1)) (Z1 (pv 3))) Z4) (Z1 (pv 2)) (nomark _)))))
  (Z7 (ZX (i := 3) sc_ascending.nd rfl (by first | exact Or.inl rfl | exact Or.inr rfl) (Zj Z1b (Z1 (pv 3)) Z4))))
  (Z7 (Z1w (Z51 Zol PySem.F.slot_list_insert PySem.F.type_list_insert (Z1 (pv 1)) (Z0 (Z1 (pv 3)) (Z0 (ZN (Z0 (Z1 (pv 2)) (Z0 (Zhb (by exact Nat.lt_of_le_of_lt (Nat.add_le_add_left (by decide : 1 ≤ 64) _) hr.units) (Z1 (pv 0)) (Z1 (pv 2))) Z2))) Z2)))))))))
  (Z7 (Zi (Z1 (pv 1))))))
theorem ZbI {f : Addr} {fd : FuncData} (F : L2.Fun K "__len__" "Database.__len__" ZG f fd) (T : Tx K mg Zd Z6 Z9 Za Zb Z8 cHeld Z5)  : FnOk P w K mg base (L2.CX P w) 1 f fd ["self"] (spOf ⟨K, mg, P, w⟩ 1 Z16) := by
  refine fn_ok (k := 0) F Zdu rfl fun cdv A outer s H E hr => ?_
  unfold Z33 
  exact (Z7 (Zi (Zg Znx (by rfl) T.b_len rfl (Z0 (ZD (T.fd_Database_kept_rows) (Z1 (pv 0))) Z2))))
theorem Z6A {f : Addr} {fd : FuncData} (F : L2.Fun K "__contains__" "Database.__contains__" Zm f fd) (T : Tx K mg Zd Z6 Z9 Za Zb Z8 cHeld Z5)  : FnOk P w K mg base (L2.CX P w) 1 f fd ["self", "name"] (spOf ⟨K, mg, P, w⟩ 2 ZE) := by
  refine fn_ok (k := 0) F Z6h rfl fun cdv A outer s H E hr => ?_
  unfold Z1Q 
  exact (Z7 (Zi (Z2U (by exact Z7d (by exact Nat.lt_of_le_of_lt (Nat.add_le_add_left (by decide : 1 ≤ 64) _) hr.units)) (Z1 (pv 1)) (ZD (T.fd_Database_kept_rows) (Z1 (pv 0))) (by rfl))))
theorem Zds {f : Addr} {fd : FuncData} (F : L2.Fun K "row" "Database.row" ZH f fd) (T : Tx K mg Zd Z6 Z9 Za Zb Z8 cHeld Z5)  : FnOk P w K mg base (L2.CX P w) 1 f fd ["self", "name"] (spOf ⟨K, mg, P, w⟩ 2 Z15) := by
  refine fn_ok (k := 0) F ZbU rfl fun cdv A outer s H E hr => ?_
  unfold Z32 
  exact (Z7 (Zi (me_if (Zq (by exact Z7d (by exact Nat.lt_of_le_of_lt (Nat.add_le_add_left (by decide : 1 ≤ 64) _) hr.units)) (Z1 (pv 1)) (ZD (T.fd_Database_kept_rows) (Z1 (pv 0))) (by rfl)) (me_ix (Zhb (by exact Nat.lt_of_le_of_lt (Nat.add_le_add_left (by decide : 1 ≤ 64) _) hr.units) (ZD (T.fd_Database_kept_rows) (Z1 (pv 0))) (Z1 (pv 1))) Z4) Z2d)))
theorem Ztr {f : Addr} {fd : FuncData} (F : L2.Fun K "_law_same" "_law_same" Z4t f fd) (T : Tx K mg Zd Z6 Z9 Za Zb Z8 cHeld Z5) (Z1D : FnM P w K mg base "_law_ascending" 1 1 Z2a) (Z1M : MethM P w K mg base "Database" "__contains__" 1 2 ZE) (Z35 : MethM P w K mg base "Database" "__len__" 1 1 Z16) (Z38 : MethM P w K mg base "Database" "row" 1 2 Z15) (ZJ : MethM P w K mg base "Database" "rows" 1 1 Zk) : FnOk P w K mg base (L2.CX P w) 3 f fd ["_law_base", "_law_rows_here", "_law_names_here"] (spOf ⟨K, mg, P, w⟩ 3 Z6H) := by
  refine fn_ok (k := 2) F sc_same rfl fun cdv A outer s H E hr => ?_
  unfold ZkS Zex
  exact (Z3 (ZX (i := 3) sc_same.nd rfl (by first | exact Or.inl rfl | exact Or.inr rfl) (ZeB ZJ (hr.mono (by decide)) (by exact takes_of rfl rfl rfl rfl) (Z1 (pv 0))))
  (Z3 (ms_if (PW.pt (mw_or (Z1z (Z1A (Zg Z2i (by rfl) T.b_isinstance rfl (Z0 (Z1 (pv 3)) (Z0 (Z2t (by rfl) T.b_list rfl) Z2))))) (mw_or (Zq (Z4p (by exact hr.units)) (Z1 (pv 3)) (Zt Z1D (hr.mono (by decide)) (by exact takes_of rfl rfl rfl rfl) (by rfl) (Z0 (Z1 (pv 1)) Z2)) (nomark _)) (Z3q (Zq (Z4p (by exact hr.units)) (Zg (by exact ZpW Z35 (hr.mono (by decide))) (by rfl) T.b_len rfl (Z0 (Z1 (pv 0)) Z2)) (Zg Znx (by rfl) T.b_len rfl (Z0 (Z1 (pv 1)) Z2)) (nomark _))))))
  (Z7 (Zi me_bl))
  Zp)
  (Z3 (Z1w (Z51 Z3C PySem.F.slot_list_append PySem.F.type_list_append (Z1 (pv 3)) (Z0 (ZN (Z0 Z4 (Z0 Z2d Z2))) Z2)))
  (Z3 (Z1i (passes_of rfl) rfl (Z1P (Z1 (pv 2))) (Zl (i := 4) sc_same.nd rfl (by first | exact Or.inl rfl | exact Or.inr rfl))
  (Z7 (ms_if (PW.pt (mw_or (Zq (Z4p (by exact hr.units)) (Z2U (by exact Z7B false Z1M (hr.mono (by decide))) (Z1 (pv 4)) (Z1 (pv 0)) (by rfl)) (Z2U (by exact Z7d (by exact Nat.lt_of_le_of_lt (Nat.add_le_add_left (by decide : 1 ≤ 64) _) hr.units)) (Z1 (pv 4)) (Z1 (pv 1)) (by rfl)) (nomark _)) (Z3q (Zq (Z4p (by exact hr.units)) (Z71 Z38 (hr.mono (by decide)) (by exact takes_of rfl rfl rfl rfl) (Z1 (pv 0)) (Z0 (Z1 (pv 4)) Z2)) (ZsG (by exact Nat.lt_of_le_of_lt (Nat.add_le_add_left (by decide : 1 ≤ 64) _) hr.units) (Z1 (pv 1)) (Z1 (pv 4)) ⟨rfl, rfl, rfl, rfl⟩) (nomark _)))))
  (Z7 (Zi me_bl))
  Zp)))
  (Z7 (Zi me_bl))))))
theorem ZjA {f : Addr} {fd : FuncData} (F : L2.Fun K "__eq__" "Table.__eq__" Z18 f fd) (T : Tx K mg Zd Z6 Z9 Za Zb Z8 cHeld Z5)  : FnOk P w K mg base (L2.CX P w) 1 f fd ["self", "other"] (spOf ⟨K, mg, P, w⟩ 2 Z19) := by
  refine fn_ok (k := 0) F ZjX rfl fun cdv A outer s H E hr => ?_
  unfold Z5g 
  exact (Z7 (Zi (Za8 (Zv3 T.is_Table (by rfl) T.b_isinstance (by rfl) (Z1 (pv 1))) (Za8 (Z2U (Z6S (by exact hr.units)) (me_un (ZD (T.fd_Table_columns) (Z1 (pv 0)))) (me_un (ZD (T.fd_Table_columns) (Z1 (pv 1)))) (nomark _)) (Zkm (Z2U (Z6S (by exact hr.units)) (ZD (T.fd_Table_tops) (Z1 (pv 0))) (ZD (T.fd_Table_tops) (Z1 (pv 1))) (nomark _)))))))
theorem ZrP {f : Addr} {fd : FuncData} (F : L2.Fun K "_law_right" "_law_right" Z3g f fd) (T : Tx K mg Zd Z6 Z9 Za Zb Z8 cHeld Z5) (Z2r : FnM P w K mg base "_law_columns" 3 1 Z2p) (ZM : FnM P w K mg base "_law_draw" 1 2 Z11) (Z3T : FnM P w K mg base "_law_names" 3 2 Z3H) (Z1B : FnM P w K mg base "_law_pick" 2 2 Z1K) (c_put : FnM P w K mg base "_law_put" 4 4 F_put) (Z5b : FnM P w K mg base "_law_rows" 3 3 Z6U) (Z5u : FnM P w K mg base "_law_same" 3 3 Z6H) (Z1E : FnM P w K mg base "_law_values" 2 2 Z2u) (Z6q : MkM P w K mg base "Database" 4 3 ZK) (Zfa : MkM P w K mg base "Table" 3 2 ZA) (ZJ : MethM P w K mg base "Database" "rows" 1 1 Zk) (ZhH : EqM P w K mg base "Table" 1 Z19) : FnOkG P w K mg base (L2.CX P w) 6 f fd ["_law_spring_here"] (spOf ⟨K, mg, P, w⟩ 1 Z4Q) := by
  refine Zp7 (k := 5) F sc_right rfl fun cdv A outer s H E hg hr => ?_
  unfold ZhK Z4e Z4l Z4g
  exact (Z3 (ZX (i := 1) sc_right.nd rfl (by first | exact Or.inl rfl | exact Or.inr rfl) (Zt Z2r (hr.mono (by decide)) (by exact takes_of rfl rfl rfl rfl) (by rfl) (Z0 (Z1 (pv 0)) Z2)))
  (Z3 (Z6W (i := 2) (j := 3) rfl sc_right.nd rfl rfl (by decide) rfl rfl (Z0 (Zn6 Zfa (hr.mono (by decide)) (by exact takes_of rfl rfl rfl rfl) (by rfl) (Z0 (Z1 (pv 1)) Z2)) (Z0 (Zt Z3T (hr.mono (by decide)) (by exact takes_of rfl rfl rfl rfl) (by rfl) (Z0 (Z1 (pv 0)) (Z0 Z4 Z2))) Z2)) (by rfl))
  (Z3 (Z6W (i := 4) (j := 5) rfl sc_right.nd rfl rfl (by decide) rfl rfl (Z0 (Z2v Z2) (Z0 (Z2v Z2) Z2)) (by rfl))
  (Z3 (Z1i (passes_of rfl) rfl (Z2k (by rfl) T.b_range (Z0 Z4 Z2)) (Zl (i := 6) sc_right.nd rfl (by first | exact Or.inl rfl | exact Or.inr rfl))
  (Z3 (ZX (i := 7) sc_right.nd rfl (by first | exact Or.inl rfl | exact Or.inr rfl) (Zt Z5b (hr.mono (by decide)) (by exact takes_of rfl rfl rfl rfl) (by rfl) (Z0 (Z1 (pv 0)) (Z0 (Z1 (pv 1)) (Z0 (Zuu (Z1 (pv 3)) (Znt (Zt ZM (hr.mono (by decide)) (by exact takes_of rfl rfl rfl rfl) (by rfl) (Z0 (Z1 (pv 0)) (Z0 Z4 Z2)))) (Znt (Zj Z1b Z4 (Zt ZM (hr.mono (by decide)) (by exact takes_of rfl rfl rfl rfl) (by rfl) (Z0 (Z1 (pv 0)) (Z0 Z4 Z2)))))) Z2)))))
  (Z3 (ZX (i := 8) sc_right.nd rfl (by first | exact Or.inl rfl | exact Or.inr rfl) (Z17 Zsm (by rfl) T.b_list rfl (Z0 (Z1 (pv 7)) Z2)))
  (Z3 (Z1w (Z51 Z3C PySem.F.slot_list_append PySem.F.type_list_append (Z1 (pv 4)) (Z0 (Zn6 Z6q (hr.mono (by decide)) (by exact takes_of rfl rfl rfl rfl) (by rfl) (Z0 (Z1 (pv 2)) (Z0 (Z1 (pv 7)) Z2))) Z2)))
  (Z3 (Z1w (Z51 Z3C PySem.F.slot_list_append PySem.F.type_list_append (Z1 (pv 5)) (Z0 (Z17 (Zr1 rfl) (by rfl) T.b_dict rfl (Z0 (Z1 (pv 7)) Z2)) Z2)))
  (Z3 (ms_if (Zq (Z4p (by exact hr.units)) (Z1 (pv 7)) (Z1 (pv 8)) (nomark _))
  (Z7 (Zi me_bl))
  Zp)
  (Z7 (Z1w (Zt9 Zpf PySem.F.slot_list_clear PySem.F.type_list_clear (Z1 (pv 7)))))))))))
  (Z3 (Z6W (i := 9) (j := 8) rfl sc_right.nd rfl rfl (by decide) rfl rfl (Z0 (ZeB ZJ (hr.mono (by decide)) (by exact takes_of rfl rfl rfl rfl) (me_ix (Z1 (pv 4)) Z4)) (Z0 (Zg (ZkF hg (by exact hr.units)) (by rfl) T.b_repr rfl (Z0 (ZeB ZJ (hr.mono (by decide)) (by exact takes_of rfl rfl rfl rfl) (me_ix (Z1 (pv 4)) Z4)) Z2)) Z2)) (by rfl))
  (Z3 (Z1i (passes_of rfl) rfl (Z2k (by rfl) T.b_range (Z0 (Zj Z1b Z4 (Zt ZM (hr.mono (by decide)) (by exact takes_of rfl rfl rfl rfl) (by rfl) (Z0 (Z1 (pv 0)) (Z0 Z4 Z2)))) Z2)) (Zl (i := 6) sc_right.nd rfl (by first | exact Or.inl rfl | exact Or.inr rfl))
  (Z3 (Z6W (i := 10) (j := 11) rfl sc_right.nd rfl rfl (by decide) rfl rfl (Z0 (Zt ZM (hr.mono (by decide)) (by exact takes_of rfl rfl rfl rfl) (by rfl) (Z0 (Z1 (pv 0)) (Z0 Z4 Z2))) (Z0 (Zt Z1B (hr.mono (by decide)) (by exact takes_of rfl rfl rfl rfl) (by rfl) (Z0 (Z1 (pv 0)) (Z0 (Z1 (pv 3)) Z2))) Z2)) (by rfl))
  (Z3 (ZX (i := 12) sc_right.nd rfl (by first | exact Or.inl rfl | exact Or.inr rfl) (me_if (Zq (Z6S (by exact hr.units)) (Zt ZM (hr.mono (by decide)) (by exact takes_of rfl rfl rfl rfl) (by rfl) (Z0 (Z1 (pv 0)) (Z0 Z4 Z2))) Z4 (nomark _)) Z2d (Zt Z1E (hr.mono (by decide)) (by exact takes_of rfl rfl rfl rfl) (by rfl) (Z0 (Z1 (pv 0)) (Z0 (Z1 (pv 1)) Z2)))))
  (Z3 (ms_if (Z1z (Z1A (Zt c_put (hr.mono (by decide)) (by exact takes_of rfl rfl rfl rfl) (by rfl) (Z0 (me_ix (Z1 (pv 4)) (Z1 (pv 10))) (Z0 (me_ix (Z1 (pv 5)) (Z1 (pv 10))) (Z0 (Z1 (pv 11)) (Z0 (Z1 (pv 12)) Z2)))))))
  (Z7 (Zi me_bl))
  Zp)
  (Z7 (Z1i (passes_of rfl) rfl (Z2k (by rfl) T.b_range (Z0 Z4 Z2)) (Zl (i := 13) sc_right.nd rfl (by first | exact Or.inl rfl | exact Or.inr rfl))
  (Z7 (ms_if (Z1z (Z1A (Zt Z5u (hr.mono (by decide)) (by exact takes_of rfl rfl rfl rfl) (by rfl) (Z0 (me_ix (Z1 (pv 4)) (Z1 (pv 13))) (Z0 (me_ix (Z1 (pv 5)) (Z1 (pv 13))) (Z0 (Z1 (pv 3)) Z2))))))
  (Z7 (Zi me_bl))
  Zp))))))))
  (Z7 (Zi (Za8 (Z2U (by exact ZpY ZhH (hr.mono (by decide))) (ZD (T.fd_Database_table) (me_ix (Z1 (pv 4)) Z4)) (Z1 (pv 2)) (nomark _)) (Zkm (Z2U (Z6S (by exact hr.units)) (Zg (ZkF hg (by exact hr.units)) (by rfl) T.b_repr rfl (Z0 (Z1 (pv 9)) Z2)) (Z1 (pv 8)) (nomark _))))))))))))
theorem ZpB {f : Addr} {fd : FuncData} (F : L2.Fun K "_law_spring" "_law_spring" Z2m f fd) (T : Tx K mg Zd Z6 Z9 Za Zb Z8 cHeld Z5)  : FnOk P w K mg base (L2.CX P w) 1 f fd ["_law_script", "_law_place"] (spOf ⟨K, mg, P, w⟩ 2 Z3Q) := by
  refine fn_ok (k := 0) F sc_spring rfl fun cdv A outer s H E hr => ?_
  unfold Zfm 
  exact (Z3 (ZX (i := 2) sc_spring.nd rfl (by first | exact Or.inl rfl | exact Or.inr rfl) (me_if (Zq Zki (Z1 (pv 1)) (Zg Z25 (by rfl) T.b_len rfl (Z0 (Z1 (pv 0)) Z2)) (nomark _)) (Z17 Za2 (by rfl) T.b_int rfl (Z0 (me_ix (Z1 (pv 0)) (Z1 (pv 1))) Z2)) Z4))
  (Z3 (ZX (i := 3) sc_spring.nd rfl (by first | exact Or.inl rfl | exact Or.inr rfl) (me_if (Zq Zvu (Zg ZoM (by rfl) T.b_abs rfl (Z0 (Z1 (pv 2)) Z2)) (Zj Z7c Z4 Z4) (nomark _)) (Zg ZoM (by rfl) T.b_abs rfl (Z0 (Z1 (pv 2)) Z2)) Z4))
  (Z7 (Zi (Z2v (Z0 (Z1 (pv 3)) (Z0 (Zj Z6L (Z17 Za2 (by rfl) T.b_int rfl (Z0 (Zj Z1b (Zj Z1b (Zj Z1b (Zj Z3i (Z1 (pv 2)) Z4) (Zj Z3i (Zj Z3i (Z1 (pv 1)) (Z1 (pv 1))) Z4)) (Zj Z3i (Z1 (pv 1)) Z4)) Z4) Z2)) Z4) (Z0 Z4 Z2))))))))
theorem Zur {f : Addr} {fd : FuncData} (F : L2.Fun K "law" "law" s_law f fd) (T : Tx K mg Zd Z6 Z9 Za Zb Z8 cHeld Z5) (Z40 : FnMG P w K mg base "_law_right" 6 1 Z4Q) (Z3d : FnM P w K mg base "_law_spring" 1 2 Z3Q) : FnOkG P w K mg base (L2.CX P w) 7 f fd ["_law_script"] (spOf ⟨K, mg, P, w⟩ 1 F_law) := by
  refine Zp7 (k := 6) F sc_law rfl fun cdv A outer s H E hg hr => ?_
  unfold B_law ZhE
  exact (Z3 (Z1i (passes_of rfl) rfl (Z2k (by rfl) T.b_range (Z0 (Zg (Zvj rfl) (by rfl) T.b_max rfl (Z0 Z4 (Z0 (Zg (Zvr rfl) (by rfl) T.b_min rfl (Z0 Z4 (Z0 (Zg Z25 (by rfl) T.b_len rfl (Z0 (Z1 (pv 0)) Z2)) Z2))) Z2))) Z2)) (Zl (i := 1) sc_law.nd rfl (by first | exact Or.inl rfl | exact Or.inr rfl))
  (Z7 (ms_if (Z1z (Z1A (Zrb Z40 hg (hr.mono (by decide)) (by exact takes_of rfl rfl rfl rfl) (by rfl) (Z0 (Zt Z3d (hr.mono (by decide)) (by exact takes_of rfl rfl rfl rfl) (by rfl) (Z0 (Z1 (pv 0)) (Z0 (Z1 (pv 1)) Z2))) Z2))))
  (Z7 (Zi me_bl))
  Zp)))
  (Z7 (Zi me_bl)))
end
theorem ZuS {l : PySem.W.OpenLaw} {w : World} {K : PySem.W.Frag} {h : Heap} {mg : Str → Option Value} {fa : Addr} (X : K.In h) (G : h.Ns mainGlobals mg) (hfa : mg "law" = some (.ref fa))
    {ZoZ : Addr} {o_KEPT : Obj} {ZpF : Nat} {ZjC : Nat} {Zd Z6 Z9 Za Zb Z8 cHeld Z5 : Addr} {ZmP Zoc : Str} {Zo9 : Addr} {Zn1 ZdD : List Value} {Zn4 : List Str} {Zm2 : List Value} {Zmv : Bool} {Zm5 : Option Bool} {ZmZ : Option Addr} {ZmH ZmJ ZmW Zmt ZmK : Option Value} {Z2M : Addr} {Zf6 ZeW : Option Addr} {Zfl : Array (Option Value)} {ZeD Zfk ZdZ Zel Z4S Zf7 : Value} {ZnU Zpa : Str} {Zpc : Addr} {Zo0 ZfT : List Value} {Zo7 : List Str} {Zn3 : List Value} {Zod : Bool} {ZmE : Option Bool} {ZnD : Option Addr} {ZnQ ZnN ZnE ZnV Zo2 : Option Value} {Z3z : Addr} {Zh8 Zgv : Option Addr} {Zh3 : Array (Option Value)} {ZgO Zgs Zg1 Zh9 Z5P ZgZ : Value} {Zri Zsg : Str} {Zta : Addr} {Zrd Zl5 : List Value} {Zqf : List Str} {Zpt : List Value} {Zqw : Bool} {ZpR : Option Bool} {Zr5 : Option Addr} {ZqM Zqj Zqm Zrh ZrA : Option Value} {Z5i : Addr} {Zjg Zju : Option Addr} {Zk1 : Array (Option Value)} {Zjz Zj1 ZjP Zk7 Z8B Zjt : Value} {Zkv ZmA : Str} {Zmq : Addr} {Zlv ZaZ : List Value} {Zm0 : List Str} {Zj9 : List Value} {Zlh : Bool} {Zk3 : Option Bool} {ZlO : Option Addr} {Zmh ZlG Zll ZlN Zkl : Option Value} {Z2s : Addr} {ZcL Zcv : Option Addr} {ZcC : Array (Option Value)} {Zc0 ZbF Zdi Zd9 Z4D Zc2 : Value} {ZtR ZuF : Str} {ZuT : Addr} {Zsx Znr : List Value} {Zsd : List Str} {Zqk : List Value} {ZtX : Bool} {ZqO : Option Bool} {Ztx : Option Addr} {Zu5 Ztg Zu4 Zt5 ZsJ : Option Value} {Z7h : Addr} {ZlR ZlF : Option Addr} {Zm8 : Array (Option Value)} {Zke Zkx Zk8 ZlM ZaF Zkk : Value} {ZfF : Addr} {Zty Ztf : Option Addr} {Zt2 : Array (Option Value)} {Zua ZtL Zsr Zs4 Znn Ztj : Value} {ZgV : Addr} {Ztk ZsL : Option Addr} {ZtV : Array (Option Value)} {Zuc ZtK Zt8 Zsp Zno Zs9 : Value} {Z5S : Addr} {Zon Zob : Option Addr} {Zoe : Array (Option Value)} {ZnF Zo8 Zo4 ZnS ZgD Zok : Value} {Z2W : Addr} {ZhZ Zhr : Option Addr} {ZhS : Array (Option Value)} {Zir ZhD Ziw Zhy Z6M Zik : Value} {Z1N : Addr} {Zgl Zh7 : Option Addr} {Zg3 : Array (Option Value)} {ZfH ZfZ ZgA Zft Z5W ZgY : Value} {Zbz : Addr} {ZrI Zra : Option Addr} {ZqU : Array (Option Value)} {ZqN Zrn Zrq Zrz ZkI Zrg : Value} {Z7Y : Addr} {Zos Zpu : Option Addr} {Zoz : Array (Option Value)} {Zp4 Zp5 ZpL Zp0 ZiO ZpM : Value} {ZgM : Addr} {Ztu Zsb : Option Addr} {ZsX : Array (Option Value)} {ZtI ZsQ Zsi ZtH Znm ZsF : Value} {Z1a : Addr} {Z9b Z8Q : Option Addr} {Z98 : Array (Option Value)} {Z8K Z8E Z9m Z9c Z3F Z9w : Value} {Z2y : Addr} {Zgk Zgo : Option Addr} {Zgj : Array (Option Value)} {Zh1 Zgq ZfL Zfz Z5N Zh4 : Value} {Z1g : Addr} {Zal Z9B : Option Addr} {Zae : Array (Option Value)} {ZaI ZaR Z9z ZaL Z4j ZaN : Value} {Z1f : Addr} {Zbf Zau : Option Addr} {Zb4 : Array (Option Value)} {Za4 Z9N Za1 Zao Z48 Zaq : Value} {Z1h : Addr} {Za0 ZaX : Option Addr} {ZaA : Array (Option Value)} {Zaa Zah Z9F Zad Z4o Zax : Value} {ZU : Addr} {Z7q Z6E : Option Addr} {Z6P : Array (Option Value)} {Z6F Z7u Z6D Z6G Z3k Z7n : Value} {Z1s : Addr} {Zcx Zdo : Option Addr} {Zcl : Array (Option Value)} {Zdz Zdl ZcB Zca Z4A Zcc : Value} {f_put : Addr} {ZvC Zun : Option Addr} {ZuA : Array (Option Value)} {ZvF Zve Zvl ZuZ ZoO Zuw : Value} {Z43 : Addr} {ZkR Zkr : Option Addr} {ZkH : Array (Option Value)} {ZlP Zl4 Zma ZlC Z9R Zl8 : Value} {Z1r : Addr} {Zdv Zct : Option Addr} {ZcS : Array (Option Value)} {Zc1 Zd8 Zc9 Zc5 Z4C Zd4 : Value} {ZR : Addr} {Z69 Z6B : Option Addr} {Z6n : Array (Option Value)} {Z6k Z63 Z6i Z65 Z2R Z6l : Value} {Z1t : Addr} {Zdq Zdt : Option Addr} {Zc7 : Array (Option Value)} {ZcQ ZcI ZcE Zce Z4B Zdc : Value} {Zfw : Addr} {Ztd ZsO : Option Addr} {Zsv : Array (Option Value)} {ZtZ ZsA Zse ZsM Zne Zs3 : Value} {Z2f : Addr} {Zji Zjl : Option Addr} {ZjF : Array (Option Value)} {ZjT Zjn Zk2 Zjy Z8D Zjs : Value} {Zbv : Addr} {Zqs Zr8 : Option Addr} {Zrv : Array (Option Value)} {Zru ZqA Zq9 Zqx ZlY Zqh : Value} {Z8k : Addr} {Zp3 ZoD : Option Addr} {Zp9 : Array (Option Value)} {Zpx ZpU ZpC ZpA ZiN ZpI : Value} {f_law : Addr} {ZvM ZoP : Option Addr} {Zw3 : Array (Option Value)} {Zw0 Zpr ZoJ Zpw Zlj ZoF : Value}
    (z_abs : PySem.W.nsIn K mainGlobals "abs" = some none)
    (Zvd : PySem.W.nsIn K mainGlobals "bool" = some none)
    (Zut : PySem.W.nsIn K mainGlobals "dict" = some none)
    (Zmr : PySem.W.nsIn K mainGlobals "enumerate" = some none)
    (z_int : PySem.W.nsIn K mainGlobals "int" = some none)
    (Zlw : PySem.W.nsIn K mainGlobals "isinstance" = some none)
    (z_len : PySem.W.nsIn K mainGlobals "len" = some none)
    (ZuW : PySem.W.nsIn K mainGlobals "list" = some none)
    (z_max : PySem.W.nsIn K mainGlobals "max" = some none)
    (z_min : PySem.W.nsIn K mainGlobals "min" = some none)
    (Zu9 : PySem.W.nsIn K mainGlobals "range" = some none)
    (Zvt : PySem.W.nsIn K mainGlobals "repr" = some none)
    (z_set : PySem.W.nsIn K mainGlobals "set" = some none)
    (Zqc : PySem.W.nsIn K mainGlobals "sorted" = some none)
    (z_str : PySem.W.nsIn K mainGlobals "str" = some none)
    (Ztw : PySem.W.nsIn K mainGlobals "tuple" = some none)
    (z_zip : PySem.W.nsIn K mainGlobals "zip" = some none)
    (Zus : PySem.W.nsIn K mainGlobals "KEPT" = some (some (.ref ZoZ)))
    (ZlD : K.lookup ZoZ = some o_KEPT)
    (ZuK : o_KEPT.cls = .type "tuple" ∧ ∃ (its : Array Value) (n : Nat), o_KEPT.data = .seq its n ∧ its.size ≤ 1000 ∧ its.toList.map absV = (g_KEPT.map fun x => some (vOf x)))
    (Zb9 : PySem.W.nsIn K mainGlobals "LETTERS" = some (some (.str "abcdefghijklmnopqrstuvwxyz" ZpF)))
    (Z4w : PySem.W.nsIn K mainGlobals "MOST_VALUES" = some (some (.int 36 ZjC)))
    (Z7l : PySem.W.nsIn K mainGlobals "Table" = some (some (.ref Zd)))
    (Z1y : PySem.W.nsIn K mainGlobals "Database" = some (some (.ref Z6)))
    (ZnW : PySem.W.nsIn K mainGlobals "BadTable" = some (some (.ref Z9)))
    (ZoI : PySem.W.nsIn K mainGlobals "BadRows" = some (some (.ref Za)))
    (Zsz : PySem.W.nsIn K mainGlobals "NoRow" = some (some (.ref Zb)))
    (Zn5 : PySem.W.nsIn K mainGlobals "BadValues" = some (some (.ref Z8)))
    (ZuN : PySem.W.nsIn K mainGlobals "Held" = some (some (.ref cHeld)))
    (ZaP : PySem.W.nsIn K mainGlobals "HeldcursorsError" = some (some (.ref Z5)))
    (ZoU : (PySem.W.clsIn K Zb).isSome = true)
    (Zpi : PySem.W.findIn K (.ref Zb) "__getattribute__" = some (some (.builtin "BaseException.__getattribute__")))
    (ZoB : PySem.W.findIn K (.ref Zb) "__getattr__" = some none)
    (Zpp : PySem.W.subIn K (.ref Zb) (.type "BaseException") = some true)
    (Zou : PySem.W.findIn K (.ref Zb) "__class__" = some (some (.builtin "object.__class__")))
    (Zov : PySem.W.mroIn K Zb (.type "object") = some true)
    (xi6_ : PySem.W.specialIn K (.builtin "object.__class__") "__get__" = some (some (.builtin "getset_descriptor.__get__")))
    (xi7_ : PySem.W.takesIn K (.builtin "object.__class__") = some true)
    (ko_NoRow_Held : PySem.W.kitOne K (.ref Zb) (.ref cHeld) = some false)
    (ko_NoRow_HeldcursorsError : PySem.W.kitOne K (.ref Zb) (.ref Z5) = some true)
    (Z5c : PySem.W.plainGet K Zd Str.empty = true)
    (Z5m : PySem.W.hasDictIn K Zd = true)
    (Z4U : PySem.W.plainOver K Zd = true)
    (Z4V : PySem.W.findIn K (.ref Zd) "__setattr__" = some (some (.builtin "object.__setattr__")))
    (Z1m : PySem.W.plainGet K Z6 Str.empty = true)
    (Z1n : PySem.W.hasDictIn K Z6 = true)
    (Z1k : PySem.W.plainOver K Z6 = true)
    (Z1l : PySem.W.findIn K (.ref Z6) "__setattr__" = some (some (.builtin "object.__setattr__")))
    (Z6q : PySem.W.makesIn K Z6 = true)
    (Zmz : PySem.W.keepIn K (.ref Z6) = true)
    (Zfa : PySem.W.makesIn K Zd = true)
    (Zrm : PySem.W.keepIn K (.ref Zd) = true)
    (Z8c : PySem.W.findIn K (.ref Z6) "begun_at" = some none)
    (Z9h : PySem.W.findIn K (.ref Z6) "cursors" = some none)
    (Zbj : PySem.W.findIn K (.ref Z6) "events" = some none)
    (Z7j : PySem.W.findIn K (.ref Z6) "kept_rows" = some none)
    (ZaM : PySem.W.findIn K (.ref Z6) "points" = some none)
    (ZbO : PySem.W.findIn K (.ref Z6) "table" = some none)
    (Z92 : PySem.W.findIn K (.ref Z6) "written" = some none)
    (Ze0 : PySem.W.findIn K (.ref Zd) "columns" = some none)
    (Zi5 : PySem.W.findIn K (.ref Zd) "every" = some none)
    (Zjq : PySem.W.findIn K (.ref Zd) "tops" = some none)
    (Z4F : PySem.W.subIn K (.type "NoneType") (.ref Zd) = some false)
    (Z8C : PySem.W.subIn K (.type "bool") (.ref Zd) = some false)
    (Z9Y : PySem.W.subIn K (.type "int") (.ref Zd) = some false)
    (Z9G : PySem.W.subIn K (.type "str") (.ref Zd) = some false)
    (Z6R : PySem.W.subIn K (.type "tuple") (.ref Zd) = some false)
    (Z8x : PySem.W.subIn K (.type "list") (.ref Zd) = some false)
    (Z8y : PySem.W.subIn K (.type "dict") (.ref Zd) = some false)
    (ZkN : PySem.W.mroIn K Zd (.type "object") = some true)
    (Zqn : PySem.W.findIn K (.ref Zd) "__ne__" = some (some (.builtin "object.__ne__")))
    (Z3f : PySem.W.isClsIn K Zd = true)
    (Z31 : PySem.W.typeIn K (.ref Zd) = some (.type "type"))
    (ZrF : PySem.W.findIn K (.ref Zd) "__class__" = some (some (.builtin "object.__class__")))
    (gs : PySem.W.specialIn K (.builtin "object.__class__") "__get__" = some (some (.builtin "getset_descriptor.__get__")))
    (tk : PySem.W.takesIn K (.builtin "object.__class__") = some true)
    (Z6a : K.lookup Z9 = some (excClassObj ZmP Zoc Z9 Zo9 Zn1 ZdD true Zn4 Zm2 Zmv Zm5 ZmZ ZmH ZmJ ZmW Zmt ZmK "ValueError.__new__"))
    (Z6u : PySem.HandSPX.refsVE ZdD = true)
    (Zmu : PySem.W.findIn K (.ref Z9) "__setattr__" = some (some (.builtin "object.__setattr__")))
    (Z6o : PySem.W.subIn K (.ref Z9) (.type "BaseException") = some true)
    (ZdE : PySem.W.typeIn K (.ref Z9) = some (.type "type"))
    (ZmR : PySem.W.keepIn K (.ref Z9) = true)
    (Zmx : PySem.W.findIn K (.ref Z9) "__getattribute__" = some (some (.builtin "BaseException.__getattribute__")))
    (Zn2 : PySem.W.findIn K (.ref Z9) "__getattr__" = some none)
    (ZmG : PySem.W.hasDictIn K Z9 = true)
    (ZmS : PySem.W.findIn K (.ref Z9) "at" = some none)
    (ZmO : PySem.W.isClsIn K Z9 = true)
    (Zmp : PySem.W.subIn K (.ref Z9) (.ref Z9) = some true)
    (Zmo : PySem.W.findIn K (.ref Z9) "__init__" = some (some (.ref Z2M)))
    (xf_BadTable : PySem.W.typeIn K (.ref Z2M) = some (.type "function"))
    (Z3s : K.lookup Z2M = some ⟨ZeD, Zf6, .func (PySem.W.fnOf "__init__" "BadTable.__init__" (defArgs ZW) (defBody ZW) (defScope ZW) .none Zfk ZdZ Zel ZeW Z4S Zf7), Zfl⟩)
    (Z3p : PySem.W.codeIn K Z4S "BadTable.__init__" = true)
    (Z3u : PySem.W.keepIn K (.ref Z2M) = true)
    (Z8j : K.lookup Za = some (excClassObj ZnU Zpa Za Zpc Zo0 ZfT true Zo7 Zn3 Zod ZmE ZnD ZnQ ZnN ZnE ZnV Zo2 "ValueError.__new__"))
    (Z8n : PySem.HandSPX.refsVE ZfT = true)
    (ZnL : PySem.W.findIn K (.ref Za) "__setattr__" = some (some (.builtin "object.__setattr__")))
    (Z8m : PySem.W.subIn K (.ref Za) (.type "BaseException") = some true)
    (Zgt : PySem.W.typeIn K (.ref Za) = some (.type "type"))
    (ZnI : PySem.W.keepIn K (.ref Za) = true)
    (ZnZ : PySem.W.findIn K (.ref Za) "__getattribute__" = some (some (.builtin "BaseException.__getattribute__")))
    (Zop : PySem.W.findIn K (.ref Za) "__getattr__" = some none)
    (ZnH : PySem.W.hasDictIn K Za = true)
    (Zoa : PySem.W.findIn K (.ref Za) "at" = some none)
    (ZnO : PySem.W.isClsIn K Za = true)
    (Zo6 : PySem.W.subIn K (.ref Za) (.ref Za) = some true)
    (Zoq : PySem.W.findIn K (.ref Za) "__init__" = some (some (.ref Z3z)))
    (xf_BadRows : PySem.W.typeIn K (.ref Z3z) = some (.type "function"))
    (Z3S : K.lookup Z3z = some ⟨ZgO, Zh8, .func (PySem.W.fnOf "__init__" "BadRows.__init__" (defArgs Z14) (defBody Z14) (defScope Z14) .none Zgs Zg1 Zh9 Zgv Z5P ZgZ), Zh3⟩)
    (Z3Z : PySem.W.codeIn K Z5P "BadRows.__init__" = true)
    (Z3W : PySem.W.keepIn K (.ref Z3z) = true)
    (ZeH : K.lookup Zb = some (excClassObj Zri Zsg Zb Zta Zrd Zl5 true Zqf Zpt Zqw ZpR Zr5 ZqM Zqj Zqm Zrh ZrA "ValueError.__new__"))
    (Zeh : PySem.HandSPX.refsVE Zl5 = true)
    (Zr3 : PySem.W.findIn K (.ref Zb) "__setattr__" = some (some (.builtin "object.__setattr__")))
    (Zeu : PySem.W.subIn K (.ref Zb) (.type "BaseException") = some true)
    (ZkP : PySem.W.typeIn K (.ref Zb) = some (.type "type"))
    (Zr0 : PySem.W.keepIn K (.ref Zb) = true)
    (ZqD : PySem.W.findIn K (.ref Zb) "__getattribute__" = some (some (.builtin "BaseException.__getattribute__")))
    (Zrr : PySem.W.findIn K (.ref Zb) "__getattr__" = some none)
    (Zql : PySem.W.hasDictIn K Zb = true)
    (Zq6 : PySem.W.findIn K (.ref Zb) "name" = some none)
    (Zqb : PySem.W.isClsIn K Zb = true)
    (Zrw : PySem.W.subIn K (.ref Zb) (.ref Zb) = some true)
    (xi_NoRow : PySem.W.findIn K (.ref Zb) "__init__" = some (some (.ref Z5i)))
    (xf_NoRow : PySem.W.typeIn K (.ref Z5i) = some (.type "function"))
    (Z5o : K.lookup Z5i = some ⟨Zjz, Zjg, .func (PySem.W.fnOf "__init__" "NoRow.__init__" (defArgs Z1q) (defBody Z1q) (defScope Z1q) .none Zj1 ZjP Zk7 Zju Z8B Zjt), Zk1⟩)
    (Z50 : PySem.W.codeIn K Z8B "NoRow.__init__" = true)
    (Z5n : PySem.W.keepIn K (.ref Z5i) = true)
    (Z4Z : K.lookup Z8 = some (excClassObj Zkv ZmA Z8 Zmq Zlv ZaZ true Zm0 Zj9 Zlh Zk3 ZlO Zmh ZlG Zll ZlN Zkl "ValueError.__new__"))
    (Z5f : PySem.HandSPX.refsVE ZaZ = true)
    (Zlb : PySem.W.findIn K (.ref Z8) "__setattr__" = some (some (.builtin "object.__setattr__")))
    (Z4Y : PySem.W.subIn K (.ref Z8) (.type "BaseException") = some true)
    (Zbq : PySem.W.typeIn K (.ref Z8) = some (.type "type"))
    (Zko : PySem.W.keepIn K (.ref Z8) = true)
    (Zky : PySem.W.findIn K (.ref Z8) "__getattribute__" = some (some (.builtin "BaseException.__getattribute__")))
    (Zmb : PySem.W.findIn K (.ref Z8) "__getattr__" = some none)
    (Zku : PySem.W.hasDictIn K Z8 = true)
    (Zld : PySem.W.findIn K (.ref Z8) "given" = some none)
    (Zks : PySem.W.isClsIn K Z8 = true)
    (ZlH : PySem.W.subIn K (.ref Z8) (.ref Z8) = some true)
    (Zkc : PySem.W.findIn K (.ref Z8) "__init__" = some (some (.ref Z2s)))
    (xf_BadValues : PySem.W.typeIn K (.ref Z2s) = some (.type "function"))
    (Z34 : K.lookup Z2s = some ⟨Zc0, ZcL, .func (PySem.W.fnOf "__init__" "BadValues.__init__" (defArgs ZP) (defBody ZP) (defScope ZP) .none ZbF Zdi Zd9 Zcv Z4D Zc2), ZcC⟩)
    (Z39 : PySem.W.codeIn K Z4D "BadValues.__init__" = true)
    (Z3e : PySem.W.keepIn K (.ref Z2s) = true)
    (Zhk : K.lookup cHeld = some (excClassObj ZtR ZuF cHeld ZuT Zsx Znr true Zsd Zqk ZtX ZqO Ztx Zu5 Ztg Zu4 Zt5 ZsJ "ValueError.__new__"))
    (ZhG : PySem.HandSPX.refsVE Znr = true)
    (Zsq : PySem.W.findIn K (.ref cHeld) "__setattr__" = some (some (.builtin "object.__setattr__")))
    (ZiA : PySem.W.subIn K (.ref cHeld) (.type "BaseException") = some true)
    (Znd : PySem.W.typeIn K (.ref cHeld) = some (.type "type"))
    (ZsB : PySem.W.keepIn K (.ref cHeld) = true)
    (Zsf : PySem.W.findIn K (.ref cHeld) "__getattribute__" = some (some (.builtin "BaseException.__getattribute__")))
    (Zu8 : PySem.W.findIn K (.ref cHeld) "__getattr__" = some none)
    (ZtE : PySem.W.hasDictIn K cHeld = true)
    (ZsR : PySem.W.findIn K (.ref cHeld) "name" = some none)
    (ZsW : PySem.W.isClsIn K cHeld = true)
    (ZsE : PySem.W.subIn K (.ref cHeld) (.ref cHeld) = some true)
    (Zt6 : PySem.W.findIn K (.ref cHeld) "__init__" = some (some (.ref Z7h)))
    (xf_Held : PySem.W.typeIn K (.ref Z7h) = some (.type "function"))
    (Z6w : K.lookup Z7h = some ⟨Zke, ZlR, .func (PySem.W.fnOf "__init__" "Held.__init__" (defArgs Z1F) (defBody Z1F) (defScope Z1F) .none Zkx Zk8 ZlM ZlF ZaF Zkk), Zm8⟩)
    (Z67 : PySem.W.codeIn K ZaF "Held.__init__" = true)
    (Z6g : PySem.W.keepIn K (.ref Z7h) = true)
    (Zv6 : PySem.W.nsIn K mainGlobals "_law_draw" = some (some (.ref ZfF)))
    (Zm3 : K.lookup ZfF = some ⟨Zua, Zty, .func (PySem.W.fnOf "_law_draw" "_law_draw" (defArgs Z4s) (defBody Z4s) (defScope Z4s) .none ZtL Zsr Zs4 Ztf Znn Ztj), Zt2⟩)
    (ZM : PySem.W.codeIn K Znn "_law_draw" = true)
    (Zgp : PySem.W.keepIn K (.ref ZfF) = true)
    (ZvU : PySem.W.nsIn K mainGlobals "_law_pick" = some (some (.ref ZgV)))
    (Zkz : K.lookup ZgV = some ⟨Zuc, Ztk, .func (PySem.W.fnOf "_law_pick" "_law_pick" (defArgs Z49) (defBody Z49) (defScope Z49) .none ZtK Zt8 Zsp ZsL Zno Zs9), ZtV⟩)
    (Z1B : PySem.W.codeIn K Zno "_law_pick" = true)
    (Zgr : PySem.W.keepIn K (.ref ZgV) = true)
    (Zpv : PySem.W.nsIn K mainGlobals "_law_columns" = some (some (.ref Z5S)))
    (Z9y : K.lookup Z5S = some ⟨ZnF, Zon, .func (PySem.W.fnOf "_law_columns" "_law_columns" (defArgs Z1S) (defBody Z1S) (defScope Z1S) .none Zo8 Zo4 ZnS Zob ZgD Zok), Zoe⟩)
    (Z2r : PySem.W.codeIn K ZgD "_law_columns" = true)
    (Z5R : PySem.W.keepIn K (.ref Z5S) = true)
    (Zk6 : PySem.W.nsIn K mainGlobals "is_column" = some (some (.ref Z2W)))
    (Z4v : K.lookup Z2W = some ⟨Zir, ZhZ, .func (PySem.W.fnOf "is_column" "is_column" (defArgs Z10) (defBody Z10) (defScope Z10) .none ZhD Ziw Zhy Zhr Z6M Zik), ZhS⟩)
    (Z1d : PySem.W.codeIn K Z6M "is_column" = true)
    (Z2V : PySem.W.keepIn K (.ref Z2W) = true)
    (Ziz : PySem.W.findIn K (.ref Zd) "__init__" = some (some (.ref Z1N)))
    (ZiC : PySem.W.isFn K (.ref Z1N) = true)
    (Z3V : K.lookup Z1N = some ⟨ZfH, Zgl, .func (PySem.W.fnOf "__init__" "Table.__init__" (defArgs Zz) (defBody Zz) (defScope Zz) .none ZfZ ZgA Zft Zh7 Z5W ZgY), Zg3⟩)
    (Z41 : PySem.W.codeIn K Z5W "Table.__init__" = true)
    (Z3J : PySem.W.keepIn K (.ref Z1N) = true)
    (Ztq : PySem.W.nsIn K mainGlobals "_law_names" = some (some (.ref Zbz)))
    (ZhM : K.lookup Zbz = some ⟨ZqN, ZrI, .func (PySem.W.fnOf "_law_names" "_law_names" (defArgs Z3n) (defBody Z3n) (defScope Z3n) .none Zrn Zrq Zrz Zra ZkI Zrg), ZqU⟩)
    (Z3T : PySem.W.codeIn K ZkI "_law_names" = true)
    (Zbw : PySem.W.keepIn K (.ref Zbz) = true)
    (Zr9 : PySem.W.nsIn K mainGlobals "_law_values" = some (some (.ref Z7Y)))
    (Zfe : K.lookup Z7Y = some ⟨Zp4, Zos, .func (PySem.W.fnOf "_law_values" "_law_values" (defArgs Z21) (defBody Z21) (defScope Z21) .none Zp5 ZpL Zp0 Zpu ZiO ZpM), Zoz⟩)
    (Z1E : PySem.W.codeIn K ZiO "_law_values" = true)
    (Z7C : PySem.W.keepIn K (.ref Z7Y) = true)
    (ZvZ : PySem.W.nsIn K mainGlobals "_law_rows" = some (some (.ref ZgM)))
    (ZlL : K.lookup ZgM = some ⟨ZtI, Ztu, .func (PySem.W.fnOf "_law_rows" "_law_rows" (defArgs Z3A) (defBody Z3A) (defScope Z3A) .none ZsQ Zsi ZtH Zsb Znm ZsF), ZsX⟩)
    (Z5b : PySem.W.codeIn K Znm "_law_rows" = true)
    (ZfI : PySem.W.keepIn K (.ref ZgM) = true)
    (Zar : PySem.W.findIn K (.ref Zd) "__contains__" = some (some (.ref Z1a)))
    (Za7 : PySem.W.isFn K (.ref Z1a) = true)
    (Z2o : K.lookup Z1a = some ⟨Z8K, Z9b, .func (PySem.W.fnOf "__contains__" "Table.__contains__" (defArgs Zv) (defBody Zv) (defScope Zv) .none Z8E Z9m Z9c Z8Q Z3F Z9w), Z98⟩)
    (Z2h : PySem.W.codeIn K Z3F "Table.__contains__" = true)
    (Z1C : PySem.W.keepIn K (.ref Z1a) = true)
    (Zhx : PySem.W.nsIn K mainGlobals "check_rows" = some (some (.ref Z2y)))
    (Z3I : K.lookup Z2y = some ⟨Zh1, Zgk, .func (PySem.W.fnOf "check_rows" "check_rows" (defArgs ZS) (defBody ZS) (defScope ZS) .none Zgq ZfL Zfz Zgo Z5N Zh4), Zgj⟩)
    (Z12 : PySem.W.codeIn K Z5N "check_rows" = true)
    (Z2B : PySem.W.keepIn K (.ref Z2y) = true)
    (Zd0 : PySem.W.findIn K (.ref Z6) "give" = some (some (.ref Z1g)))
    (ZbS : PySem.W.isFn K (.ref Z1g) = true)
    (Z2G : K.lookup Z1g = some ⟨ZaI, Zal, .func (PySem.W.fnOf "give" "Database.give" (defArgs ZB) (defBody ZB) (defScope ZB) .none ZaR Z9z ZaL Z9B Z4j ZaN), Zae⟩)
    (Z2D : PySem.W.codeIn K Z4j "Database.give" = true)
    (Z1I : PySem.W.keepIn K (.ref Z1g) = true)
    (ZbW : PySem.W.findIn K (.ref Z6) "__init__" = some (some (.ref Z1f)))
    (ZcO : PySem.W.isFn K (.ref Z1f) = true)
    (Z2H : K.lookup Z1f = some ⟨Za4, Zbf, .func (PySem.W.fnOf "__init__" "Database.__init__" (defArgs ZC) (defBody ZC) (defScope ZC) .none Z9N Za1 Zao Zau Z48 Zaq), Zb4⟩)
    (Z2E : PySem.W.codeIn K Z48 "Database.__init__" = true)
    (Z2J : PySem.W.keepIn K (.ref Z1f) = true)
    (ZcG : PySem.W.findIn K (.ref Z6) "rows" = some (some (.ref Z1h)))
    (ZcW : PySem.W.isFn K (.ref Z1h) = true)
    (Z2L : K.lookup Z1h = some ⟨Zaa, Za0, .func (PySem.W.fnOf "rows" "Database.rows" (defArgs Zu) (defBody Zu) (defScope Zu) .none Zah Z9F Zad ZaX Z4o Zax), ZaA⟩)
    (Z2K : PySem.W.codeIn K Z4o "Database.rows" = true)
    (Z1J : PySem.W.keepIn K (.ref Z1h) = true)
    (Z7X : PySem.W.findIn K (.ref Z6) "is_held" = some (some (.ref ZU)))
    (Z8l : PySem.W.isFn K (.ref ZU) = true)
    (Z1V : K.lookup ZU = some ⟨Z6F, Z7q, .func (PySem.W.fnOf "is_held" "Database.is_held" (defArgs Zr) (defBody Zr) (defScope Zr) .none Z7u Z6D Z6G Z6E Z3k Z7n), Z6P⟩)
    (Z1Z : PySem.W.codeIn K Z3k "Database.is_held" = true)
    (Z1j : PySem.W.keepIn K (.ref ZU) = true)
    (ZeO : PySem.W.findIn K (.ref Z6) "put" = some (some (.ref Z1s)))
    (ZeZ : PySem.W.isFn K (.ref Z1s) = true)
    (Z2X : K.lookup Z1s = some ⟨Zdz, Zcx, .func (PySem.W.fnOf "put" "Database.put" (defArgs ZF) (defBody ZF) (defScope ZF) .none Zdl ZcB Zca Zdo Z4A Zcc), Zcl⟩)
    (Z3c : PySem.W.codeIn K Z4A "Database.put" = true)
    (Z1X : PySem.W.keepIn K (.ref Z1s) = true)
    (a_put : PySem.W.nsIn K mainGlobals "_law_put" = some (some (.ref f_put)))
    (l_put : K.lookup f_put = some ⟨ZvF, ZvC, .func (PySem.W.fnOf "_law_put" "_law_put" (defArgs s_put) (defBody s_put) (defScope s_put) .none Zve Zvl ZuZ Zun ZoO Zuw), ZuA⟩)
    (c_put : PySem.W.codeIn K ZoO "_law_put" = true)
    (k_put : PySem.W.keepIn K (.ref f_put) = true)
    (ZmM : PySem.W.nsIn K mainGlobals "_law_ascending" = some (some (.ref Z43)))
    (Z6p : K.lookup Z43 = some ⟨ZlP, ZkR, .func (PySem.W.fnOf "_law_ascending" "_law_ascending" (defArgs Z1o) (defBody Z1o) (defScope Z1o) .none Zl4 Zma ZlC Zkr Z9R Zl8), ZkH⟩)
    (Z1D : PySem.W.codeIn K Z9R "_law_ascending" = true)
    (Z42 : PySem.W.keepIn K (.ref Z43) = true)
    (Zfd : PySem.W.findIn K (.ref Z6) "__len__" = some (some (.ref Z1r)))
    (Zey : PySem.W.isFn K (.ref Z1r) = true)
    (Z3b : K.lookup Z1r = some ⟨Zc1, Zdv, .func (PySem.W.fnOf "__len__" "Database.__len__" (defArgs ZG) (defBody ZG) (defScope ZG) .none Zd8 Zc9 Zc5 Zct Z4C Zd4), ZcS⟩)
    (Z36 : PySem.W.codeIn K Z4C "Database.__len__" = true)
    (Z1W : PySem.W.keepIn K (.ref Z1r) = true)
    (Z6I : PySem.W.findIn K (.ref Z6) "__contains__" = some (some (.ref ZR)))
    (Z7w : PySem.W.isFn K (.ref ZR) = true)
    (Z1R : K.lookup ZR = some ⟨Z6k, Z69, .func (PySem.W.fnOf "__contains__" "Database.__contains__" (defArgs Zm) (defBody Zm) (defScope Zm) .none Z63 Z6i Z65 Z6B Z2R Z6l), Z6n⟩)
    (Z1O : PySem.W.codeIn K Z2R "Database.__contains__" = true)
    (Z1c : PySem.W.keepIn K (.ref ZR) = true)
    (Ze6 : PySem.W.findIn K (.ref Z6) "row" = some (some (.ref Z1t)))
    (ZdQ : PySem.W.isFn K (.ref Z1t) = true)
    (Z2Z : K.lookup Z1t = some ⟨ZcQ, Zdq, .func (PySem.W.fnOf "row" "Database.row" (defArgs ZH) (defBody ZH) (defScope ZH) .none ZcI ZcE Zce Zdt Z4B Zdc), Zc7⟩)
    (Z37 : PySem.W.codeIn K Z4B "Database.row" = true)
    (Z23 : PySem.W.keepIn K (.ref Z1t) = true)
    (Zvh : PySem.W.nsIn K mainGlobals "_law_same" = some (some (.ref Zfw)))
    (Zka : K.lookup Zfw = some ⟨ZtZ, Ztd, .func (PySem.W.fnOf "_law_same" "_law_same" (defArgs Z4t) (defBody Z4t) (defScope Z4t) .none ZsA Zse ZsM ZsO Zne Zs3), Zsv⟩)
    (Z5u : PySem.W.codeIn K Zne "_law_same" = true)
    (ZfR : PySem.W.keepIn K (.ref Zfw) = true)
    (ZkD : PySem.W.findIn K (.ref Zd) "__eq__" = some (some (.ref Z2f)))
    (Zlq : PySem.W.isFn K (.ref Z2f) = true)
    (Z5a : K.lookup Z2f = some ⟨ZjT, Zji, .func (PySem.W.fnOf "__eq__" "Table.__eq__" (defArgs Z18) (defBody Z18) (defScope Z18) .none Zjn Zk2 Zjy Zjl Z8D Zjs), ZjF⟩)
    (Z5d : PySem.W.codeIn K Z8D "Table.__eq__" = true)
    (Z3t : PySem.W.keepIn K (.ref Z2f) = true)
    (ZsC : PySem.W.nsIn K mainGlobals "_law_right" = some (some (.ref Zbv)))
    (Zhw : K.lookup Zbv = some ⟨Zru, Zqs, .func (PySem.W.fnOf "_law_right" "_law_right" (defArgs Z3g) (defBody Z3g) (defScope Z3g) .none ZqA Zq9 Zqx Zr8 ZlY Zqh), Zrv⟩)
    (Z40 : PySem.W.codeIn K ZlY "_law_right" = true)
    (ZbC : PySem.W.keepIn K (.ref Zbv) = true)
    (ZrB : PySem.W.nsIn K mainGlobals "_law_spring" = some (some (.ref Z8k)))
    (ZeU : K.lookup Z8k = some ⟨Zpx, Zp3, .func (PySem.W.fnOf "_law_spring" "_law_spring" (defArgs Z2m) (defBody Z2m) (defScope Z2m) .none ZpU ZpC ZpA ZoD ZiN ZpI), Zp9⟩)
    (Z3d : PySem.W.codeIn K ZiN "_law_spring" = true)
    (Z7A : PySem.W.keepIn K (.ref Z8k) = true)
    (a_law : PySem.W.nsIn K mainGlobals "law" = some (some (.ref f_law)))
    (l_law : K.lookup f_law = some ⟨Zw0, ZvM, .func (PySem.W.fnOf "law" "law" (defArgs s_law) (defBody s_law) (defScope s_law) .none Zpr ZoJ Zpw ZoP Zlj ZoF), Zw3⟩)
    (c_law : PySem.W.codeIn K Zlj "law" = true)
    (k_law : PySem.W.keepIn K (.ref f_law) = true)
    (hF : ∀ ns : List Int, ns.length ≤ 63 → ∃ st', F_law [.lst (ns.map .int)] [] = .ok (.bl true) st') :
    ∃ fd : FuncData, (∀ (s : Shared) (v : Value), BindsTo s fd ⟨[v], []⟩ [("_law_script", v)]) ∧ ∀ base : Heap, K.In base → base.Ns mainGlobals mg → FnOkG l.prog w K mg base (L2.CX l.prog w) 7 fa fd ["_law_script"] (spLaw K) := by
  have e := hfa.symm.trans (PySem.W.mg_of X G a_law)
  cases e
  have T : Tx K mg Zd Z6 Z9 Za Zb Z8 cHeld Z5 :=
    { b_abs := PySem.W.mg_none_of X G z_abs,
      b_bool := PySem.W.mg_none_of X G Zvd,
      b_dict := PySem.W.mg_none_of X G Zut,
      b_enumerate := PySem.W.mg_none_of X G Zmr,
      b_int := PySem.W.mg_none_of X G z_int,
      b_isinstance := PySem.W.mg_none_of X G Zlw,
      b_len := PySem.W.mg_none_of X G z_len,
      b_list := PySem.W.mg_none_of X G ZuW,
      b_max := PySem.W.mg_none_of X G z_max,
      b_min := PySem.W.mg_none_of X G z_min,
      b_range := PySem.W.mg_none_of X G Zu9,
      b_repr := PySem.W.mg_none_of X G Zvt,
      b_set := PySem.W.mg_none_of X G z_set,
      b_sorted := PySem.W.mg_none_of X G Zqc,
      b_str := PySem.W.mg_none_of X G z_str,
      b_tuple := PySem.W.mg_none_of X G Ztw,
      b_zip := PySem.W.mg_none_of X G z_zip,
      g_KEPT := Zsk (PySem.W.mg_of X G Zus) ZlD ZuK,
      g_LETTERS := ⟨_, PySem.W.mg_of X G Zb9⟩,
      g_MOST_VALUES := ⟨_, PySem.W.mg_of X G Z4w⟩,
      k_Table := PySem.W.mg_of X G Z7l,
      k_Database := PySem.W.mg_of X G Z1y,
      k_BadTable := PySem.W.mg_of X G ZnW,
      k_BadRows := PySem.W.mg_of X G ZoI,
      k_NoRow := PySem.W.mg_of X G Zsz,
      k_BadValues := PySem.W.mg_of X G Zn5,
      k_Held := PySem.W.mg_of X G ZuN,
      k_HeldcursorsError := PySem.W.mg_of X G ZaP,
      xi_NoRow := ⟨ZoU, Zpi, ZoB, Zpp, Zou, xi6_, xi7_, Zov⟩,
      ko_NoRow_Held := ko_NoRow_Held,
      ko_NoRow_HeldcursorsError := ko_NoRow_HeldcursorsError,
      is_Table := Zt1 (PySem.W.mg_of X G Z7l) ⟨Z5c, Z5m, Z4U, Z4V⟩ ZrF gs tk ZkN (ZiY (Z52 Z3f Z31 Z4F) (Z52 Z3f Z31 Z8C) (Z52 Z3f Z31 Z9Y) (Z52 Z3f Z31 Z9G) (Z52 Z3f Z31 Z6R) (Z52 Z3f Z31 Z8x) (Z52 Z3f Z31 Z8y)),
      cl_Table := ⟨Z5c, Z5m, Z4U, Z4V⟩,
      cl_Database := ⟨Z1m, Z1n, Z1k, Z1l⟩,
      fd_Database_begun_at := Z2b (PySem.W.mg_of X G Z1y) ⟨Z1m, Z1n, Z1k, Z1l⟩ Z8c,
      fd_Table_columns := Z2b (PySem.W.mg_of X G Z7l) ⟨Z5c, Z5m, Z4U, Z4V⟩ Ze0,
      fd_Database_cursors := Z2b (PySem.W.mg_of X G Z1y) ⟨Z1m, Z1n, Z1k, Z1l⟩ Z9h,
      fd_Database_events := Z2b (PySem.W.mg_of X G Z1y) ⟨Z1m, Z1n, Z1k, Z1l⟩ Zbj,
      fd_Table_every := Z2b (PySem.W.mg_of X G Z7l) ⟨Z5c, Z5m, Z4U, Z4V⟩ Zi5,
      fd_Database_kept_rows := Z2b (PySem.W.mg_of X G Z1y) ⟨Z1m, Z1n, Z1k, Z1l⟩ Z7j,
      fd_Database_points := Z2b (PySem.W.mg_of X G Z1y) ⟨Z1m, Z1n, Z1k, Z1l⟩ ZaM,
      fd_Database_table := Z2b (PySem.W.mg_of X G Z1y) ⟨Z1m, Z1n, Z1k, Z1l⟩ ZbO,
      fd_Table_tops := Z2b (PySem.W.mg_of X G Z7l) ⟨Z5c, Z5m, Z4U, Z4V⟩ Zjq,
      fd_Database_written := Z2b (PySem.W.mg_of X G Z1y) ⟨Z1m, Z1n, Z1k, Z1l⟩ Z92,
      xo_BadTable := ⟨⟨_, _, _, _, _, _, _, _, _, _, _, _, _, _, _, Z6a, Z6u⟩, Zmu, Z6o, ZdE, ZmR⟩,
      xf_BadTable := ⟨Zmx, Zn2, Z6o, ZmG⟩,
      xn_BadTable_at := ZmS,
      te_BadTable := Z4W Z6o ZmO ZdE Zmp,
      xo_BadRows := ⟨⟨_, _, _, _, _, _, _, _, _, _, _, _, _, _, _, Z8j, Z8n⟩, ZnL, Z8m, Zgt, ZnI⟩,
      xf_BadRows := ⟨ZnZ, Zop, Z8m, ZnH⟩,
      xn_BadRows_at := Zoa,
      te_BadRows := Z4W Z8m ZnO Zgt Zo6,
      xo_NoRow := ⟨⟨_, _, _, _, _, _, _, _, _, _, _, _, _, _, _, ZeH, Zeh⟩, Zr3, Zeu, ZkP, Zr0⟩,
      xf_NoRow := ⟨ZqD, Zrr, Zeu, Zql⟩,
      xn_NoRow_name := Zq6,
      te_NoRow := Z4W Zeu Zqb ZkP Zrw,
      xo_BadValues := ⟨⟨_, _, _, _, _, _, _, _, _, _, _, _, _, _, _, Z4Z, Z5f⟩, Zlb, Z4Y, Zbq, Zko⟩,
      xf_BadValues := ⟨Zky, Zmb, Z4Y, Zku⟩,
      xn_BadValues_given := Zld,
      te_BadValues := Z4W Z4Y Zks Zbq ZlH,
      xo_Held := ⟨⟨_, _, _, _, _, _, _, _, _, _, _, _, _, _, _, Zhk, ZhG⟩, Zsq, ZiA, Znd, ZsB⟩,
      xf_Held := ⟨Zsf, Zu8, ZiA, ZtE⟩,
      xn_Held_name := ZsR,
      te_Held := Z4W ZiA ZsW Znd ZsE }
  have G_BadTable_init := fun_mk (st := ZW) Z3s Z3p Z3u
  have ZfE := G_BadTable_init.binds (ps := ["self", "at"]) fun _ _ _ _ _ _ us hl => match us, hl with | [_, _], _ => rfl
  have G_BadRows_init := fun_mk (st := Z14) Z3S Z3Z Z3W
  have ZhQ := G_BadRows_init.binds (ps := ["self", "at"]) fun _ _ _ _ _ _ us hl => match us, hl with | [_, _], _ => rfl
  have G_NoRow_init := fun_mk (st := Z1q) Z5o Z50 Z5n
  have Zmg := G_NoRow_init.binds (ps := ["self", "name"]) fun _ _ _ _ _ _ us hl => match us, hl with | [_, _], _ => rfl
  have G_BadValues_init := fun_mk (st := ZP) Z34 Z39 Z3e
  have ZeA := G_BadValues_init.binds (ps := ["self", "given"]) fun _ _ _ _ _ _ us hl => match us, hl with | [_, _], _ => rfl
  have G_Held_init := fun_mk (st := Z1F) Z6w Z67 Z6g
  have Zmm := G_Held_init.binds (ps := ["self", "name"]) fun _ _ _ _ _ _ us hl => match us, hl with | [_, _], _ => rfl
  have G_draw := fun_mk (st := Z4s) Zm3 ZM Zgp
  have Zvc := G_draw.binds (ps := ["_law_spring_here", "_law_many"]) fun _ _ _ _ _ _ us hl => match us, hl with | [_, _], _ => rfl
  have G_pick := fun_mk (st := Z49) Zkz Z1B Zgr
  have Zvk := G_pick.binds (ps := ["_law_spring_here", "_law_some"]) fun _ _ _ _ _ _ us hl => match us, hl with | [_, _], _ => rfl
  have G_columns := fun_mk (st := Z1S) Z9y Z2r Z5R
  have ZpG := G_columns.binds (ps := ["_law_spring_here"]) fun _ _ _ _ _ _ us hl => match us, hl with | [_], _ => rfl
  have G_P_is_column := fun_mk (st := Z10) Z4v Z1d Z2V
  have ZjY := G_P_is_column.binds (ps := ["entry"]) fun _ _ _ _ _ _ us hl => match us, hl with | [_], _ => rfl
  have G_P_Table_init := fun_mk (st := Zz) Z3V Z41 Z3J
  have ZhJ := G_P_Table_init.binds (ps := ["self", "columns"]) fun _ _ _ _ _ _ us hl => match us, hl with | [_, _], _ => rfl
  have G_names := fun_mk (st := Z3n) ZhM Z3T Zbw
  have Zt0 := G_names.binds (ps := ["_law_spring_here", "_law_many"]) fun _ _ _ _ _ _ us hl => match us, hl with | [_, _], _ => rfl
  have G_values := fun_mk (st := Z21) Zfe Z1E Z7C
  have Zrp := G_values.binds (ps := ["_law_spring_here", "_law_columns_here"]) fun _ _ _ _ _ _ us hl => match us, hl with | [_, _], _ => rfl
  have G_rows := fun_mk (st := Z3A) ZlL Z5b ZfI
  have ZuM := G_rows.binds (ps := ["_law_spring_here", "_law_columns_here", "_law_names_here"]) fun _ _ _ _ _ _ us hl => match us, hl with | [_, _, _], _ => rfl
  have G_P_Table_contains := fun_mk (st := Zv) Z2o Z2h Z1C
  have ZaT := G_P_Table_contains.binds (ps := ["self", "thing"]) fun _ _ _ _ _ _ us hl => match us, hl with | [_, _], _ => rfl
  have G_P_check_rows := fun_mk (st := ZS) Z3I Z12 Z2B
  have ZiI := G_P_check_rows.binds (ps := ["table", "rows"]) fun _ _ _ _ _ _ us hl => match us, hl with | [_, _], _ => rfl
  have G_P_Database_give := fun_mk (st := ZB) Z2G Z2D Z1I
  have Zd3 := G_P_Database_give.binds (ps := ["self", "name", "values"]) fun _ _ _ _ _ _ us hl => match us, hl with | [_, _, _], _ => rfl
  have G_P_Database_init := fun_mk (st := ZC) Z2H Z2E Z2J
  have Zdy := G_P_Database_init.binds (ps := ["self", "table", "rows"]) fun _ _ _ _ _ _ us hl => match us, hl with | [_, _, _], _ => rfl
  have G_P_Database_rows := fun_mk (st := Zu) Z2L Z2K Z1J
  have ZcY := G_P_Database_rows.binds (ps := ["self"]) fun _ _ _ _ _ _ us hl => match us, hl with | [_], _ => rfl
  have G_P_Database_is_held := fun_mk (st := Zr) Z1V Z1Z Z1j
  have Z89 := G_P_Database_is_held.binds (ps := ["self", "name"]) fun _ _ _ _ _ _ us hl => match us, hl with | [_, _], _ => rfl
  have G_P_Database_put := fun_mk (st := ZF) Z2X Z3c Z1X
  have Zfq := G_P_Database_put.binds (ps := ["self", "name", "values"]) fun _ _ _ _ _ _ us hl => match us, hl with | [_, _, _], _ => rfl
  have G_put := fun_mk (st := s_put) l_put c_put k_put
  have b_put := G_put.binds (ps := ["_law_base", "_law_rows_here", "_law_name", "_law_values_here"]) fun _ _ _ _ _ _ us hl => match us, hl with | [_, _, _, _], _ => rfl
  have G_ascending := fun_mk (st := Z1o) Z6p Z1D Z42
  have ZmD := G_ascending.binds (ps := ["_law_rows_here"]) fun _ _ _ _ _ _ us hl => match us, hl with | [_], _ => rfl
  have G_P_Database_len := fun_mk (st := ZG) Z3b Z36 Z1W
  have ZdU := G_P_Database_len.binds (ps := ["self"]) fun _ _ _ _ _ _ us hl => match us, hl with | [_], _ => rfl
  have G_P_Database_contains := fun_mk (st := Zm) Z1R Z1O Z1c
  have Z7m := G_P_Database_contains.binds (ps := ["self", "name"]) fun _ _ _ _ _ _ us hl => match us, hl with | [_, _], _ => rfl
  have G_P_Database_row := fun_mk (st := ZH) Z2Z Z37 Z23
  have Zea := G_P_Database_row.binds (ps := ["self", "name"]) fun _ _ _ _ _ _ us hl => match us, hl with | [_, _], _ => rfl
  have G_same := fun_mk (st := Z4t) Zka Z5u ZfR
  have ZuU := G_same.binds (ps := ["_law_base", "_law_rows_here", "_law_names_here"]) fun _ _ _ _ _ _ us hl => match us, hl with | [_, _, _], _ => rfl
  have G_P_Table_eq := fun_mk (st := Z18) Z5a Z5d Z3t
  have Zkf := G_P_Table_eq.binds (ps := ["self", "other"]) fun _ _ _ _ _ _ us hl => match us, hl with | [_, _], _ => rfl
  have G_right := fun_mk (st := Z3g) Zhw Z40 ZbC
  have ZtF := G_right.binds (ps := ["_law_spring_here"]) fun _ _ _ _ _ _ us hl => match us, hl with | [_], _ => rfl
  have G_spring := fun_mk (st := Z2m) ZeU Z3d Z7A
  have ZqL := G_spring.binds (ps := ["_law_script", "_law_place"]) fun _ _ _ _ _ _ us hl => match us, hl with | [_, _], _ => rfl
  have G_law := fun_mk (st := s_law) l_law c_law k_law
  have b_law := G_law.binds (ps := ["_law_script"]) fun _ _ _ _ _ _ us hl => match us, hl with | [_], _ => rfl
  refine ⟨PySem.W.fnOf "law" "law" (defArgs s_law) (defBody s_law) (defScope s_law) .none Zpr ZoJ Zpw ZoP Zlj ZoF, fun s v => .of_eq rfl, fun base _ _ => ?_⟩
  have Z3r : ExcM l.prog w K mg base "BadTable" "at" 1 := ⟨Z9, Z2M, _, _, T.k_BadTable, T.xo_BadTable, T.xf_BadTable, T.xn_BadTable_at, Zmo, xf_BadTable, ZfE, Z5e G_BadTable_init ZdV T.xo_BadTable T.xn_BadTable_at rfl (Or.inl rfl) (Or.inl rfl) (by decide) (by decide) (by decide) (by decide)⟩
  have Z47 : ExcM l.prog w K mg base "BadRows" "at" 1 := ⟨Za, Z3z, _, _, T.k_BadRows, T.xo_BadRows, T.xf_BadRows, T.xn_BadRows_at, Zoq, xf_BadRows, ZhQ, Z5e G_BadRows_init ZgR T.xo_BadRows T.xn_BadRows_at rfl (Or.inl rfl) (Or.inl rfl) (by decide) (by decide) (by decide) (by decide)⟩
  have Ziu : ExcM l.prog w K mg base "NoRow" "name" 1 := ⟨Zb, Z5i, _, _, T.k_NoRow, T.xo_NoRow, T.xf_NoRow, T.xn_NoRow_name, xi_NoRow, xf_NoRow, Zmg, Z5e G_NoRow_init ZjQ T.xo_NoRow T.xn_NoRow_name rfl (Or.inl rfl) (Or.inl rfl) (by decide) (by decide) (by decide) (by decide)⟩
  have Z6s : ExcM l.prog w K mg base "BadValues" "given" 1 := ⟨Z8, Z2s, _, _, T.k_BadValues, T.xo_BadValues, T.xf_BadValues, T.xn_BadValues_given, Zkc, xf_BadValues, ZeA, Z5e G_BadValues_init ZbX T.xo_BadValues T.xn_BadValues_given rfl (Or.inl rfl) (Or.inl rfl) (by decide) (by decide) (by decide) (by decide)⟩
  have Zla : ExcM l.prog w K mg base "Held" "name" 1 := ⟨cHeld, Z7h, _, _, T.k_Held, T.xo_Held, T.xf_Held, T.xn_Held_name, Zt6, xf_Held, Zmm, Z5e G_Held_init Zkj T.xo_Held T.xn_Held_name rfl (Or.inl rfl) (Or.inl rfl) (by decide) (by decide) (by decide) (by decide)⟩
  have Zvw := ZtW (P := l.prog) (w := w) (base := base) G_draw T 
  have ZM : FnM l.prog w K mg base "_law_draw" 1 2 Z11 := ⟨ZfF, _, _, PySem.W.mg_of X G Zv6, Zgp, Zvc, Zvw⟩
  have Zuq := Ztb (P := l.prog) (w := w) (base := base) G_pick T ZM
  have Z1B : FnM l.prog w K mg base "_law_pick" 2 2 Z1K := ⟨ZgV, _, _, PySem.W.mg_of X G ZvU, Zgr, Zvk, Zuq⟩
  have Zot := ZnG (P := l.prog) (w := w) (base := base) G_columns T Z1B
  have Z2r : FnM l.prog w K mg base "_law_columns" 3 1 Z2p := ⟨Z5S, _, _, PySem.W.mg_of X G Zpv, Z5R, ZpG, Zot⟩
  have Zja := Zi6 (P := l.prog) (w := w) (base := base) G_P_is_column T 
  have Z1d : FnM l.prog w K mg base "is_column" 1 1 Zy := ⟨Z2W, _, _, PySem.W.mg_of X G Zk6, Z2V, ZjY, Zja⟩
  have Zif := ZfB (P := l.prog) (w := w) (base := base) G_P_Table_init T Z1d Z3r
  have ZpN : MkM l.prog w K mg base "Table" 3 2 ZA := ⟨Zd, Z1N, _, _, T.k_Table, ⟨Zfa, Ziz, ZiC, Zrm⟩, ZhJ, Zif⟩
  have Zsw := ZqW (P := l.prog) (w := w) (base := base) G_names T ZM Z1B
  have Z3T : FnM l.prog w K mg base "_law_names" 3 2 Z3H := ⟨Zbz, _, _, PySem.W.mg_of X G Ztq, Zbw, Zt0, Zsw⟩
  have ZqB := ZpX (P := l.prog) (w := w) (base := base) G_values T ZM
  have Z1E : FnM l.prog w K mg base "_law_values" 2 2 Z2u := ⟨Z7Y, _, _, PySem.W.mg_of X G Zr9, Z7C, Zrp, ZqB⟩
  have ZvB := Zu3 (P := l.prog) (w := w) (base := base) G_rows T Z1E
  have Z5b : FnM l.prog w K mg base "_law_rows" 3 3 Z6U := ⟨ZgM, _, _, PySem.W.mg_of X G ZvZ, ZfI, ZuM, ZvB⟩
  have Z9K := Z96 (P := l.prog) (w := w) (base := base) G_P_Table_contains T 
  have ZQ : MethM l.prog w K mg base "Table" "__contains__" 1 2 Zw := ⟨Zd, Z1a, _, _, T.k_Table, T.cl_Table, ⟨Zar, Za7, Z1C⟩, ZaT, Z9K⟩
  have Zim := ZgJ (P := l.prog) (w := w) (base := base) G_P_check_rows T ZQ Z47
  have Z12 : FnM l.prog w K mg base "check_rows" 3 2 Z1p := ⟨Z2y, _, _, PySem.W.mg_of X G Zhx, Z2B, ZiI, Zim⟩
  have ZcN := Zbr (P := l.prog) (w := w) (base := base) G_P_Database_give T 
  have ZY : MethM l.prog w K mg base "Database" "give" 1 3 Zn := ⟨Z6, Z1g, _, _, T.k_Database, T.cl_Database, ⟨Zd0, ZbS, Z1I⟩, Zd3, ZcN⟩
  have ZbR := ZaU (P := l.prog) (w := w) (base := base) G_P_Database_init T Z12 ZY
  have Zkd : MkM l.prog w K mg base "Database" 4 3 ZK := ⟨Z6, Z1f, _, _, T.k_Database, ⟨Z6q, ZbW, ZcO, Zmz⟩, Zdy, ZbR⟩
  have Zdm := Zbm (P := l.prog) (w := w) (base := base) G_P_Database_rows T 
  have ZJ : MethM l.prog w K mg base "Database" "rows" 1 1 Zk := ⟨Z6, Z1h, _, _, T.k_Database, T.cl_Database, ⟨ZcG, ZcW, Z1J⟩, ZcY, Zdm⟩
  have Z7J := Z74 (P := l.prog) (w := w) (base := base) G_P_Database_is_held T 
  have Z24 : MethM l.prog w K mg base "Database" "is_held" 1 2 ZI := ⟨Z6, ZU, _, _, T.k_Database, T.cl_Database, ⟨Z7X, Z8l, Z1j⟩, Z89, Z7J⟩
  have ZeP := ZcK (P := l.prog) (w := w) (base := base) G_P_Database_put T ZY Z24 ZQ Z6s Zla Ziu
  have Z2Y : MethM l.prog w K mg base "Database" "put" 3 3 Zs := ⟨Z6, Z1s, _, _, T.k_Database, T.cl_Database, ⟨ZeO, ZeZ, Z1X⟩, Zfq, ZeP⟩
  have o_put := ZvJ (P := l.prog) (w := w) (base := base) G_put T Z2Y
  have c_put : FnM l.prog w K mg base "_law_put" 4 4 F_put := ⟨f_put, _, _, PySem.W.mg_of X G a_put, k_put, b_put, o_put⟩
  have ZmL := Zkn (P := l.prog) (w := w) (base := base) G_ascending T 
  have Z1D : FnM l.prog w K mg base "_law_ascending" 1 1 Z2a := ⟨Z43, _, _, PySem.W.mg_of X G ZmM, Z42, ZmD, ZmL⟩
  have Zem := ZbI (P := l.prog) (w := w) (base := base) G_P_Database_len T 
  have Z35 : MethM l.prog w K mg base "Database" "__len__" 1 1 Z16 := ⟨Z6, Z1r, _, _, T.k_Database, T.cl_Database, ⟨Zfd, Zey, Z1W⟩, ZdU, Zem⟩
  have Z6Y := Z6A (P := l.prog) (w := w) (base := base) G_P_Database_contains T 
  have Z1M : MethM l.prog w K mg base "Database" "__contains__" 1 2 ZE := ⟨Z6, ZR, _, _, T.k_Database, T.cl_Database, ⟨Z6I, Z7w, Z1c⟩, Z7m, Z6Y⟩
  have Zf8 := Zds (P := l.prog) (w := w) (base := base) G_P_Database_row T 
  have Z38 : MethM l.prog w K mg base "Database" "row" 1 2 Z15 := ⟨Z6, Z1t, _, _, T.k_Database, T.cl_Database, ⟨Ze6, ZdQ, Z23⟩, Zea, Zf8⟩
  have Zuo := Ztr (P := l.prog) (w := w) (base := base) G_same T Z1D Z1M Z35 Z38 ZJ
  have Z5u : FnM l.prog w K mg base "_law_same" 3 3 Z6H := ⟨Zfw, _, _, PySem.W.mg_of X G Zvh, ZfR, ZuU, Zuo⟩
  have Zlt := ZjA (P := l.prog) (w := w) (base := base) G_P_Table_eq T 
  have Zkt : MethM l.prog w K mg base "Table" "__eq__" 1 2 Z19 := ⟨Zd, Z2f, _, _, T.k_Table, T.cl_Table, ⟨ZkD, Zlq, Z3t⟩, Zkf, Zlt⟩
  have ZhH : EqM l.prog w K mg base "Table" 1 Z19 := ⟨Zkt, fun C hC => by have z := (T.k_Table).symm.trans hC; cases z; exact ⟨Zqn, ZkN, ZiY (Z1G Z4F) (Z1G Z8C) (Z1G Z9Y) (Z1G Z9G) (Z1G Z6R) (Z1G Z8x) (Z1G Z8y)⟩⟩
  have Zu1 := ZrP (P := l.prog) (w := w) (base := base) G_right T Z2r ZM Z3T Z1B c_put Z5b Z5u Z1E Zkd ZpN ZJ ZhH
  have Z40 : FnMG l.prog w K mg base "_law_right" 6 1 Z4Q := ⟨Zbv, _, _, PySem.W.mg_of X G ZsC, ZbC, ZtF, Zu1⟩
  have ZqG := ZpB (P := l.prog) (w := w) (base := base) G_spring T 
  have Z3d : FnM l.prog w K mg base "_law_spring" 1 2 Z3Q := ⟨Z8k, _, _, PySem.W.mg_of X G ZrB, Z7A, ZqL, ZqG⟩
  have o_law := Zur (P := l.prog) (w := w) (base := base) G_law T Z40 Z3d
  exact Zqd o_law hF
end K22
namespace K22
open PySem PySem.Spec PyProof.Rows L2 Mi
structure Ups (l : Nat) (st st' : Sto) : Prop where
  len : st'.length = st.length
  get : ∀ j, j ≠ l → st'[j]? = st[j]?
theorem Ups.refl (l : Nat) (st : Sto) : Ups l st st := ⟨rfl, fun _ _ => rfl⟩
theorem Ups.trans {l : Nat} {a b c : Sto} (x : Ups l a b) (y : Ups l b c) : Ups l a c := ⟨y.len.trans x.len, fun j h => (y.get j h).trans (x.get j h)⟩
theorem Ups.set {l : Nat} {st : Sto} {o : IO} : Ups l st (st.set l o) := ⟨by simp, fun j h => List.getElem?_set_ne (Ne.symm h)⟩
def BagAt (n l : Nat) (st : Sto) : Prop := ∃ g a b c : Int, st[l]? = some (.lst [.int g, .int a, .int b, .int c]) ∧ 0 ≤ g ∧ 0 ≤ a ∧ a ≤ 1000000000000 ∧ 0 ≤ b ∧ b ≤ 1000000000000 ∧ 0 ≤ c ∧ c ≤ n
theorem BagAt.mono {n m l : Nat} {st : Sto} (h : BagAt n l st) (hm : n ≤ m) : BagAt m l st := by
  obtain ⟨g, a, b, c, e, h1, h2, h3, h4, h5, h6, h7⟩ := h
  exact ⟨g, a, b, c, e, h1, h2, h3, h4, h5, h6, by omega⟩
theorem Z2w {st : Sto} {l : Nat} {o o' : IO} (h : st[l]? = some o) : (st.set l o')[l]? = some o' := by
  rw [List.getElem?_set_self (List.getElem?_eq_some_iff.mp h).1]
structure Keeps (n : Nat) (st st' : Sto) : Prop where
  len : st.length ≤ st'.length
  get : ∀ j, j < n → st'[j]? = st[j]?
def keptL : List IV := g_KEPT
def inAbc (c : Nat) : Bool := decide (c ∈ ("abcdefghijklmnopqrstuvwxyz" : Str).cps.toList)
theorem ZuB {neg : Bool} {c : Nat} {st : Sto} : gIn neg (.str ⟨#[c]⟩) (.str "abcdefghijklmnopqrstuvwxyz") st = .ok (.bl (if neg then !inAbc c else inAbc c)) st := rfl
def wOk (w : Str) : Bool := decide (1 ≤ w.length) && (decide (w.length ≤ 8) && (!inI (.str w) keptL && w.cps.toList.all inAbc))
theorem Zoi : keptL.all flatI = true := by decide +kernel
theorem Zox {xs : List IV} (h : ∀ x ∈ xs, ∃ s : Str, x = .str s) : xs.all flatI = true := List.all_eq_true.mpr fun x hx => by obtain ⟨s, rfl⟩ := h x hx; rfl
end K22
namespace K22
open PySem PySem.Spec PyProof.Rows L2 Mi
def tOk : IV → Bool
  | .int t => decide (1 ≤ t) && decide (t ≤ 5)
  | _ => false
def colOk : IV → Bool
  | .tup [.str w, t] => wOk w && tOk t
  | _ => false
theorem ZtC {a : IV} : colOk (.tup [a]) = false := by cases a <;> rfl
theorem ZrD {a b c : IV} {r : List IV} : colOk (.tup (a :: b :: c :: r)) = false := by cases a <;> rfl
end K22
namespace K22
open PySem PySem.Spec PyProof.Rows L2 Mi
theorem Zt3 {n : Nat} {ρ : Slots} {i : Nat} {t : IV} {st : Sto} {P : IV → Sto → Prop} {E : Str → List (Str × IV) → Sto → Prop} (hi : ρ[i]? = some (some (.v t))) (h : okV n t = true) (k : P (.bl (tOk t)) st) :
    ((iAndV (Ze gIsi (iCons (iVar i) (iCons (iC (.ty "int")) iNil))) (iAndV (iNotV (Ze gIsi (iCons (iVar i) (iCons (iC (.ty "bool")) iNil)))) (Z3v gLe gLe (iC (.int 1)) (iVar i) (iC (.int 5))))) ρ st).wp P E := by
  simp [hi]
  cases t with
  | int t =>
    simp [hi, askT, ZT]
    simp only [tOk] at k
    by_cases c1 : 1 ≤ t
    · simpa [c1] using k
    · simpa [c1] using k
  | _ => first | (simp [hi, askT, ZT]; exact k) | (cases n <;> cases h)
theorem col_2 {a t : IV} (h : ∀ w, a ≠ .str w) : colOk (.tup [a, t]) = false := by cases a <;> first | rfl | exact absurd rfl (h _)
theorem ZqI {n : Nat} {x : IV} {st : Sto} {P : IV → Sto → Prop} {E : Str → List (Str × IV) → Sto → Prop} (h : okV n x = true) (k : P (.bl (colOk x)) st) : (Zy [x] st).wp P E := by
  cases x with
  | tup xs =>
    match xs with
    | [] => simp [Zy, ZZ, askT, ZT]; exact k
    | [a] => rw [ZtC] at k; simp [Zy, ZZ, askT, ZT]; exact k
    | a :: b :: c :: r =>
      have e : ¬ ((r.length : Int) + 1 + 1 + 1 = 2) := by omega
      rw [ZrD] at k; simp [Zy, ZZ, askT, ZT, e]; exact k
    | [a, t] =>
      cases n with
      | zero => cases h
      | succ n =>
      simp only [okV, List.all_cons, Bool.and_eq_true, List.all_nil, and_true] at h
      cases a with
      | str w =>
        have hw : okS w = true := by cases n <;> exact h.1
        have wl := Zsh hw
        have e0 : w.length ≤ 100000 := by omega
        simp [Zy, ZZ, askT, ZT, e0]
        by_cases c1 : 1 ≤ w.length
        · have c1' : (1 : Int) ≤ (w.length : Int) := by omega
          by_cases c2 : w.length ≤ 8
          · have c2' : (w.length : Int) ≤ 8 := by omega
            have c2b : ¬ (8 : Int) < (w.length : Int) := by omega
            simp [c1', c2', c2b, Zo3 (ys := g_KEPT) Zoi]
            cases c3 : inI (.str w) keptL with
            | true =>
              have c3' : inI (.str w) g_KEPT = true := c3
              simp [c3', c2b]
              simpa [colOk, wOk, c3] using k
            | false =>
              have c3' : inI (.str w) g_KEPT = false := c3
              simp [c3', c2b]
              have e : colOk (.tup [.str w, t]) = (w.cps.toList.all inAbc && tOk t) := by
                show (wOk w && tOk t) = _
                unfold wOk
                rw [c3]
                simp only [c1, c2, decide_true, Bool.true_and, Bool.not_false]
              rw [e] at k
              refine Z1e (fun i ρ st' => st' = st ∧ (∃ s, ρ = [some (.v (.tup [.str w, t])), some (.v (.str w)), some (.v t), s]) ∧ ∀ c ∈ w.cps.toList.take i, inAbc c = true) ⟨rfl, ⟨_, rfl⟩, by simp⟩ ?_ ?_
              · rintro i x ρ st' hx ⟨rfl, ⟨s, rfl⟩, hall⟩
                refine ⟨rfl, ?_⟩
                rw [List.getElem?_map] at hx
                cases hc : w.cps.toList[i]? with
                | none => rw [hc] at hx; cases hx
                | some c =>
                  rw [hc] at hx
                  cases hx
                  have hm : c ∈ w.cps.toList := List.mem_of_getElem? hc
                  simp only [wp_q, wps_q, ZnC]
                  simp [ZuB]
                  cases q : inAbc c with
                  | false =>
                    have : w.cps.toList.all inAbc = false := by
                      rw [List.all_eq_false]; exact ⟨c, hm, by simp [q]⟩
                    rw [this] at k
                    simpa using k
                  | true =>
                    simp
                    intro d hd
                    rw [List.take_add_one, hc] at hd
                    rcases List.mem_append.mp hd with hd | hd
                    · exact hall d hd
                    · have : d = c := by simpa using hd
                      rw [this]; exact q
              · rintro ρ st' ⟨rfl, ⟨s, rfl⟩, hall⟩
                refine ⟨rfl, ?_⟩
                rw [List.length_map, List.take_length] at hall
                have : w.cps.toList.all inAbc = true := List.all_eq_true.mpr hall
                rw [this, Bool.true_and] at k
                have z := Zt3 (E := E) (ρ := [some (.v (.tup [.str w, t])), some (.v (.str w)), some (.v t), s]) (i := 2) rfl h.2 k
                simpa using z
          · have c2' : ¬ (w.length : Int) ≤ 8 := by omega
            have c2b : (8 : Int) < (w.length : Int) := by omega
            simp [c1', c2', c2b]
            simpa [colOk, wOk, c2] using k
        · have c1' : ¬ (1 : Int) ≤ (w.length : Int) := by omega
          simp [c1']
          have : w.length = 0 := by omega
          simpa [colOk, wOk, this] using k
      | _ => first | (rw [col_2 (fun _ => by simp)] at k; simp [Zy, ZZ, askT, ZT]; exact k) | (cases n <;> cases h.1)
  | _ => first | (simp [Zy, ZZ, askT, ZT]; exact k) | (cases n <;> cases h)
end K22
namespace K22
open PySem PySem.Spec PyProof.Rows L2 Mi
def fst : IV → IV
  | .tup (a :: _) => a
  | _ => .non
def snd : IV → Int
  | .tup [_, .int t] => t
  | _ => 0
def badAt (es : List IV) (k : Nat) : Bool := match es[k]? with
  | some x => !colOk x || inI (fst x) ((es.take k).map fst)
  | none => false
def many (es : List IV) : Int := es.foldl (fun m x => m * (snd x + 1)) 1
def Z2n (es : List IV) : Option Nat := (List.range es.length).find? (badAt es)
def dueV (es : List IV) : IV := if 1 ≤ es.length ∧ es.length ≤ 3 then (match Z2n es with
  | some i => .int i
  | none => if 36 < many es then .int (-1) else .non) else .int (-1)
theorem Z1T {x : IV} (h : colOk x = true) : ∃ w t, x = .tup [.str w, .int t] ∧ 1 ≤ t ∧ t ≤ 5 ∧ wOk w = true := by
  unfold colOk at h
  split at h
  · rename_i w t
    rw [Bool.and_eq_true] at h
    cases t with
    | int t =>
      have h2 := h.2
      simp only [tOk, Bool.and_eq_true, decide_eq_true_eq] at h2
      exact ⟨w, t, rfl, h2.1, h2.2, h.1⟩
    | _ => exact absurd h.2 (by simp [tOk])
  · cases h
theorem Zh0 {es : List IV} {i : Nat} (hi : i < es.length) (hb : badAt es i = true) (h : ∀ j < i, badAt es j = false) : Z2n es = some i := by
  unfold Z2n
  rw [List.find?_eq_some_iff_getElem]
  refine ⟨hb, i, by simpa using hi, by simp, fun j hj => ?_⟩
  simp [h j hj]
theorem ZgP {es : List IV} (h : ∀ j < es.length, badAt es j = false) : Z2n es = none := by
  unfold Z2n
  rw [List.find?_eq_none]
  intro j hj
  rw [h j (by simpa using hj)]
  simp
theorem Zpb {es : List IV} {i : Nat} {x : IV} (h : es[i]? = some x) : many (es.take (i + 1)) = many (es.take i) * (snd x + 1) := by
  unfold many
  rw [List.take_add_one, h]
  simp
theorem Zs6 {es : List IV} {j : Nat} {x : IV} (e : es[j]? = some x) (h : badAt es j = false) : colOk x = true ∧ inI (fst x) ((es.take j).map fst) = false := by
  unfold badAt at h
  rw [e] at h
  simpa using h
theorem goods {es : List IV} {i : Nat} (h : ∀ j < i, badAt es j = false) : ∀ x ∈ es.take i, colOk x = true := by
  intro x hx
  obtain ⟨j, hj, e⟩ := List.mem_iff_getElem.mp hx
  have hj2 : j < i := by rw [List.length_take] at hj; omega
  have e2 : es[j]? = some x := by
    rw [List.length_take] at hj
    rw [List.getElem_take] at e
    rw [List.getElem?_eq_getElem (by omega), e]
  exact (Zs6 e2 (h j hj2)).1
theorem Zmw {es : List IV} (h : ∀ x ∈ es, colOk x = true) : ∀ y ∈ es.map fst, ∃ s : Str, y = .str s := by
  intro y hy
  obtain ⟨x, hx, rfl⟩ := List.mem_map.mp hy
  obtain ⟨w, t, rfl, _⟩ := Z1T (h x hx)
  exact ⟨w, rfl⟩
end K22
namespace K22
open PySem PySem.Spec PyProof.Rows L2 Mi
theorem kne1 : ¬ (("columns" : Str) = "tops") := by decide +kernel
theorem kne2 : ¬ (("columns" : Str) = "every") := by decide +kernel
theorem kne3 : ¬ (("tops" : Str) = "every") := by decide +kernel
theorem kb1 : (("tops" : Str) == "columns") = false := by decide +kernel
theorem put1 {x : IV} : putI "columns" x [] = [(("columns" : Str), x)] := rfl
theorem put2 {x y : IV} : putI "tops" y [(("columns" : Str), x)] = [(("columns" : Str), x), (("tops" : Str), y)] := by simp [putI, kne1]
theorem put3 {x y z : IV} : putI "every" z [(("columns" : Str), x), (("tops" : Str), y)] = [(("columns" : Str), x), (("tops" : Str), y), (("every" : Str), z)] := by simp [putI, kne2, kne3]
theorem Znf {es : List IV} {i : Nat} (h1 : 1 ≤ es.length) (h2 : es.length ≤ 3) (h : Z2n es = some i) : dueV es = .int i := by
  unfold dueV; rw [if_pos ⟨h1, h2⟩, h]
theorem Ztv {es : List IV} (h1 : 1 ≤ es.length) (h2 : es.length ≤ 3) (h : Z2n es = none) (h3 : 36 < many es) : dueV es = .int (-1) := by
  unfold dueV; rw [if_pos ⟨h1, h2⟩, h]; simp [h3]
theorem ZkA {es : List IV} (h1 : 1 ≤ es.length) (h2 : es.length ≤ 3) (h : Z2n es = none) (h3 : ¬ 36 < many es) : dueV es = .non := by
  unfold dueV; rw [if_pos ⟨h1, h2⟩, h]; simp [h3]
theorem Zqe {es : List IV} {i : Nat} {y : IV} (ei : es[i]? = some y) : (es.take (i + 1)).map fst = (es.take i).map fst ++ [fst y] := by
  rw [List.take_add_one, ei]; simp
theorem Zoy {es : List IV} {i : Nat} {y : IV} (ei : es[i]? = some y) : badAt es i = (!colOk y || inI (fst y) ((es.take i).map fst)) := by
  unfold badAt; rw [ei]
def Z45 (t : Int) (x : IV) : List IV := match x with
  | .tup vs => (rngI 0 (t + 1).toNat).map fun y => .tup (vs ++ [y])
  | _ => []
theorem Z8p {t : Int} {xs : List IV} (h : ∀ x ∈ xs, ∃ vs, x = .tup vs) : (xs.flatMap (Z45 t)).length = xs.length * (t + 1).toNat := by
  induction xs with
  | nil => simp
  | cons x xs ih =>
    obtain ⟨vs, rfl⟩ := h x List.mem_cons_self
    rw [List.flatMap_cons, List.length_append, ih fun y hy => h y (List.mem_cons_of_mem _ hy), List.length_cons, Nat.succ_mul]
    simp only [Z45, List.length_map, Z3L]
    omega
theorem Zmk {t : Int} {n : Nat} {xs : List IV} (h : ∀ x ∈ xs, ∃ vs, x = .tup vs ∧ vs.length ≤ n) : ∀ x ∈ xs.flatMap (Z45 t), ∃ vs, x = .tup vs ∧ vs.length ≤ n + 1 := by
  intro x hx
  obtain ⟨y, hy, hx⟩ := List.mem_flatMap.mp hx
  obtain ⟨vs, rfl, hl⟩ := h y hy
  obtain ⟨z, _, rfl⟩ := List.mem_map.mp hx
  exact ⟨_, rfl, by rw [List.length_append]; simp; omega⟩
def allV (es : List IV) : List IV := es.foldl (fun ev x => ev.flatMap (Z45 (snd x))) [.tup []]
theorem Zow {es : List IV} {x : IV} : allV (es ++ [x]) = (allV es).flatMap (Z45 (snd x)) := by unfold allV; rw [List.foldl_append]; rfl
theorem Z61 {es : List IV} {i : Nat} {x : IV} (h : es[i]? = some x) : allV (es.take (i + 1)) = (allV (es.take i)).flatMap (Z45 (snd x)) := by
  rw [List.take_add_one, h]; exact Zow
theorem Z62 {es : List IV} : ∀ {i : Nat}, i ≤ es.length → ∀ x ∈ allV (es.take i), ∃ vs, x = .tup vs ∧ vs.length ≤ i
  | 0, _ => fun x hx => by
    have : x = .tup [] := by simpa [allV] using hx
    exact ⟨[], this, by simp⟩
  | i + 1, h => by
    have ei : es[i]? = some es[i] := List.getElem?_eq_getElem (by omega)
    rw [Z61 ei]
    exact Zmk (Z62 (by omega))
theorem Zlr {es : List IV} (gd : ∀ x ∈ es, colOk x = true) : ∀ {i : Nat}, i ≤ es.length → ((allV (es.take i)).length : Int) = many (es.take i)
  | 0, _ => rfl
  | i + 1, h => by
    have hi : i < es.length := by omega
    have ei : es[i]? = some es[i] := List.getElem?_eq_getElem hi
    obtain ⟨w, t, ey, t1, t2, _⟩ := Z1T (gd _ (List.getElem_mem hi))
    have es' : snd es[i] = t := by rw [ey]; rfl
    rw [Z61 ei, Z8p fun x hx => by obtain ⟨vs, e, _⟩ := Z62 (by omega) x hx; exact ⟨vs, e⟩, Zpb ei, ← Zlr gd (by omega), es', Int.natCast_mul]
    congr 1
    omega
theorem Zl7 {es : List IV} (gd : ∀ x ∈ es, colOk x = true) : ∀ {i : Nat}, i ≤ es.length → (allV (es.take i)).length ≤ 6 ^ i
  | 0, _ => by simp [allV]
  | i + 1, h => by
    have hi : i < es.length := by omega
    have ei : es[i]? = some es[i] := List.getElem?_eq_getElem hi
    obtain ⟨w, t, ey, t1, t2, _⟩ := Z1T (gd _ (List.getElem_mem hi))
    have es' : snd es[i] = t := by rw [ey]; rfl
    rw [Z61 ei, Z8p fun x hx => by obtain ⟨vs, e, _⟩ := Z62 (by omega) x hx; exact ⟨vs, e⟩, es', Nat.pow_succ]
    exact Nat.mul_le_mul (Zl7 gd (by omega)) (by omega)
theorem ZtO {l : Nat} {cv : IV} {es : List IV} {st : Sto} {P : IV → Sto → Prop} {E : Str → List (Str × IV) → Sto → Prop} (h : st[l]? = some (.ins "Table" [])) (hk : es.all (okV 3) = true) (hl : es.length ≤ 5)
    (hlen : gLen [cv] st = .ok (.int es.length) st) (henum : ∃ g, gEnum [cv] st = .ok (enumI 0 es, g) st ∧ ∀ zs, gokB g st zs = true) (hit : ∀ o, ∃ g, Z27 (st.set l o) cv = some (es, g) ∧ ∀ zs, gokB g (st.set l o) zs = true)
    (kE : ∀ i st', dueV es = .int i → Ups l st st' → E "BadTable" [("at", .int i)] st') (kP : ∀ st', dueV es = .non → (∀ x ∈ es, colOk x = true) → Ups l st st' → st'[l]? = some (.ins "Table" [("columns", .ptp (es.map fst)), ("tops", .tup (es.map fun x => .int (snd x))), ("every", .tup (allV es))]) → P .non st') :
    (ZA [.ref l, cv] st).wp P E := by
  obtain ⟨g0, en1, en2⟩ := henum
  simp [ZA, Z3X, hlen]
  by_cases c1 : 1 ≤ es.length
  · have c1' : (1 : Int) ≤ (es.length : Int) := by omega
    by_cases c2 : es.length ≤ 3
    · have c2' : (es.length : Int) ≤ 3 := by omega
      have c2b : ¬ (3 : Int) < (es.length : Int) := by omega
      simp [c1', c2', c2b, en1]
      refine Z1e (fun i ρ st' => st' = st ∧ (∃ s u, ρ = [some (.v (.ref l)), some (.v cv), some (.own ((es.take i).map fst)), s, u, none, none, none, none, none]) ∧ ∀ j < i, badAt es j = false) ⟨rfl, ⟨_, _, rfl⟩, fun j hj => by omega⟩ ?_ ?_
      · rintro i x ρ st' hx ⟨rfl, ⟨s, u, rfl⟩, hall⟩
        obtain ⟨y, ei, rfl⟩ := enumI_get _ _ _ _ hx
        refine ⟨en2 _, ?_⟩
        have hi2 : i < es.length := (List.getElem?_eq_some_iff.mp ei).1
        have ok : okV 3 y = true := List.all_eq_true.mp hk _ (List.mem_of_getElem? ei)
        have be := Zoy ei
        have gd := goods hall
        have fl := Zox (Zmw gd)
        have ln : ((es.take i).map fst).length ≤ 5 := by rw [List.length_map, List.length_take]; omega
        rw [Zqe ei]
        generalize (es.take i).map fst = fs at be fl ln ⊢
        simp
        refine ZqI ok ?_
        cases q : colOk y with
        | false =>
          have z := kE (i : Int) st' (Znf c1 c2 (Zh0 hi2 (by rw [be, q]; rfl) hall)) (.refl _ _)
          simp
          exact z
        | true =>
          obtain ⟨w, t, ex, t1, t2, _⟩ := Z1T q
          subst ex
          have fw : flatI (.str w) = true := rfl
          rw [q] at be
          cases c3 : inI (.str w) fs with
          | true =>
            have z := kE (i : Int) st' (Znf c1 c2 (Zh0 hi2 (by rw [be]; simp [fst, c3]) hall)) (.refl _ _)
            simp [ownAt, fl, fw, c3, -List.all_eq_true]
            exact z
          | false =>
            have hb : badAt es i = false := by rw [be]; simp [fst, c3]
            simp [ownAt, fl, fw, c3, -List.all_eq_true]
            refine ⟨by omega, rfl, fun j hj => ?_⟩
            rcases Nat.lt_succ_iff_lt_or_eq.mp hj with h | rfl
            · exact hall j h
            · exact hb
      · rintro ρ st' ⟨rfl, ⟨s, u, rfl⟩, hall⟩
        refine ⟨en2 _, ?_⟩
        rw [enumI_len] at hall
        have fn := ZgP hall
        have gd : ∀ x ∈ es, colOk x = true := fun x hx => by
          have := goods hall
          rw [List.take_length] at this
          exact this x hx
        have e1 : (es.take (enumI 0 es).length).map fst = es.map fst := by rw [enumI_len, List.take_length]
        rw [e1]
        have hi : ∀ o, (st'.set l o)[l]? = some o := fun o => Z2w h
        obtain ⟨g1, it1, it2⟩ := hit (.ins "Table" [("columns", .ptp (es.map fst))])
        simp [ownAt, ZL h, put1, it1]
        refine ZoN (fun x => some (.int (snd x))) (it2 _) (fun x hx => ?_) (by simp only [List.length_nil]; omega) ?_
        · obtain ⟨w, t, rfl, _⟩ := Z1T (gd x hx)
          simp [wipeI, snd]
        have em : List.filterMap (fun x => some (IV.int (snd x))) es = es.map fun x => .int (snd x) := by rw [List.filterMap_eq_map']
        rw [List.nil_append, em]
        have lk1 : ∀ a b : IV, List.lookup ("tops" : Str) [(("columns" : Str), a), (("tops" : Str), b)] = some b := fun a b => by simp [List.lookup, kb1]
        simp [ZL (hi _), put2, lk1]
        refine Z1e (fun i ρ st2 => st2 = st'.set l (.ins "Table" [("columns", .ptp (es.map fst)), ("tops", .tup (es.map fun x => .int (snd x)))]) ∧ ∃ s6, ρ = [some (.v (.ref l)), some (.v cv), some (.own (es.map fst)), s, u, none, s6, some (.v (.lst (allV (es.take i)))), none, none])
          ⟨rfl, none, rfl⟩ ?_ ?_
        · rintro i x ρ st2 hx ⟨rfl, s6, rfl⟩
          rw [List.getElem?_map] at hx
          cases ei : es[i]? with
          | none => rw [ei] at hx; cases hx
          | some y =>
            rw [ei] at hx
            have hxe : IV.int (snd y) = x := Option.some.inj hx
            have hi2 : i < es.length := (List.getElem?_eq_some_iff.mp ei).1
            obtain ⟨w, t, ey, t1, t2, _⟩ := Z1T (gd y (List.mem_of_getElem? ei))
            have es' : snd y = t := by rw [ey]; rfl
            rw [es'] at hxe
            subst hxe
            have v2 := Z62 (es := es) (i := i) (by omega)
            have v3 := Zl7 gd (i := i) (by omega)
            have p6 : 6 ^ i ≤ 36 := by
              have : i ≤ 2 := by omega
              exact Nat.le_trans (Nat.pow_le_pow_right (by decide) this) (by decide)
            rw [Z61 ei, es']
            generalize allV (es.take i) = ev at v2 v3 ⊢
            have sl := Z8p (t := t) (xs := ev) fun x hx => by obtain ⟨vs, e, _⟩ := v2 x hx; exact ⟨vs, e⟩
            have sl2 : ev.length * (t + 1).toNat ≤ 6 ^ i * 6 := Nat.mul_le_mul v3 (by omega)
            refine ⟨rfl, ?_⟩
            simp
            refine Zu7 (Z45 t) rfl (fun x hx => ?_) (by rw [sl]; simp only [List.length_nil]; omega) ?_
            · obtain ⟨vs, rfl, hvl⟩ := v2 x hx
              simp [wipeI]
              refine ⟨by omega, fun acc ha => ?_⟩
              refine ZoN (fun y => some (.tup (vs ++ [y]))) rfl (fun y hy => ?_) (by simpa [Z45] using ha) ?_
              · simp [wipeI]; omega
              · exact ⟨rfl, by rw [List.filterMap_eq_map']; rfl⟩
            · rw [List.nil_append]
              exact ⟨rfl, _, rfl⟩
        · rintro ρ st2 ⟨rfl, s6, rfl⟩
          refine ⟨rfl, ?_⟩
          have v1 := Zlr gd (i := es.length) (by omega)
          rw [List.take_length] at v1
          rw [List.length_map, List.take_length]
          simp [v1]
          by_cases c : 36 < many es
          · simp [c]
            exact kE _ _ (Ztv c1 c2 fn c) .set
          · simp [c, ZL (hi _), put3]
            exact kP _ (ZkA c1 c2 fn c) gd .set (hi _)
    · have c2' : ¬ (es.length : Int) ≤ 3 := by omega
      have c2b : (3 : Int) < (es.length : Int) := by omega
      have dv : dueV es = .int (-1) := by unfold dueV; rw [if_neg (by omega)]
      have z := kE (-1) st dv (.refl _ _)
      simp [c1', c2', c2b]
      exact z
  · have c1' : ¬ (1 : Int) ≤ (es.length : Int) := by omega
    have dv : dueV es = .int (-1) := by unfold dueV; rw [if_neg (by omega)]
    have z := kE (-1) st dv (.refl _ _)
    have c0 : es = [] := List.eq_nil_of_length_eq_zero (by omega)
    simp [c1']
    simpa [c0] using z
theorem ZuV {l : Nat} {es : List IV} {st : Sto} {P : IV → Sto → Prop} {E : Str → List (Str × IV) → Sto → Prop} (h : st[l]? = some (.ins "Table" [])) (hk : es.all (okV 3) = true) (hl : es.length ≤ 5)
    (kE : ∀ i st', dueV es = .int i → Ups l st st' → E "BadTable" [("at", .int i)] st') (kP : ∀ st', dueV es = .non → (∀ x ∈ es, colOk x = true) → Ups l st st' → st'[l]? = some (.ins "Table" [("columns", .ptp (es.map fst)), ("tops", .tup (es.map fun x => .int (snd x))), ("every", .tup (allV es))]) → P .non st') :
    (ZA [.ref l, .lst es] st).wp P E :=
  ZtO h hk hl rfl ⟨none, rfl, fun _ => rfl⟩ (fun _ => ⟨none, rfl, fun _ => rfl⟩) kE kP
end K22
namespace K22
open PySem PySem.Spec PyProof.Rows L2 Mi
structure Good (cs : List IV) : Prop where
  len : cs.length ≤ 3
  col : ∀ x ∈ cs, colOk x = true
  okv : cs.all (okV 1) = true
  nd : (cs.map fst).Nodup
structure Keep2 (l : Nat) (st st' : Sto) : Prop where
  len : st.length ≤ st'.length
  get : ∀ j, j < st.length → j ≠ l → st'[j]? = st[j]?
theorem Keep2.refl (l : Nat) (st : Sto) : Keep2 l st st := ⟨Nat.le_refl _, fun _ _ _ => rfl⟩
theorem Keep2.trans {l : Nat} {a b c : Sto} (x : Keep2 l a b) (y : Keep2 l b c) : Keep2 l a c := ⟨Nat.le_trans x.len y.len, fun j h n => (y.get j (Nat.lt_of_lt_of_le h x.len) n).trans (x.get j h n)⟩
theorem Keep2.of {l : Nat} {a b : Sto} (x : Ups l a b) : Keep2 l a b := ⟨Nat.le_of_eq x.len.symm, fun j _ n => x.get j n⟩
end K22
namespace K22
open PySem PySem.Spec PyProof.Rows L2 Mi
def tabF (cs : List IV) : List (Str × IV) := [("columns", .ptp (cs.map fst)), ("tops", .tup (cs.map fun x => .int (snd x))), ("every", .tup (allV cs))]
def TabAt (lt : Nat) (cs : List IV) (st : Sto) : Prop := st[lt]? = some (.ins "Table" (tabF cs))
theorem lkc {cs : List IV} : (tabF cs).lookup ("columns" : Str) = some (.ptp (cs.map fst)) := rfl
theorem lkt {cs : List IV} : (tabF cs).lookup ("tops" : Str) = some (.tup (cs.map fun x => .int (snd x))) := by simp [tabF, List.lookup, kb1]
section
variable {lt : Nat} {cs : List IV} {st : Sto} {P : IV → Sto → Prop} {E : Str → List (Str × IV) → Sto → Prop}
theorem TabAt.ins (h : TabAt lt cs st) : insAt st [("Table" : Str)] (.ref lt) = some (lt, ("Table" : Str), tabF cs) := ZL (c := ("Table" : Str)) h List.mem_cons_self
end
def inTs : List IV → List IV → Bool
  | [], [] => true
  | .int v :: vs, c :: cs => (decide (0 ≤ v) && decide (v ≤ snd c)) && inTs vs cs
  | _, _ => false
theorem Z3M : ∀ {vs cs : List IV}, inTs vs cs = true → vs.length = cs.length
  | [], [], _ => rfl
  | .int v :: vs, c :: cs, h => by
    simp only [inTs, Bool.and_eq_true] at h
    simp only [List.length_cons, Z3M h.2]
  | [], c :: cs, h => by simp [inTs] at h
  | x :: vs, [], h => by cases x <;> simp [inTs] at h
  | .non :: _, _ :: _, h | .bl _ :: _, _ :: _, h | .str _ :: _, _ :: _, h | .ty _ :: _, _ :: _, h | .ref _ :: _, _ :: _, h | .tup _ :: _, _ :: _, h | .lst _ :: _, _ :: _, h => by simp [inTs] at h
def okAt (v c : IV) : Bool := match v with
  | .int v => decide (0 ≤ v) && decide (v ≤ snd c)
  | _ => false
theorem Z3m {v c : IV} {vs cs : List IV} : inTs (v :: vs) (c :: cs) = (okAt v c && inTs vs cs) := by
  cases v <;> simp [inTs, okAt]
theorem Zlx : ∀ {vs cs : List IV} {r : Nat} {c : IV}, inTs vs cs = true → cs[r]? = some c → ∃ v : Int, vs[r]? = some (.int v) ∧ 0 ≤ v ∧ v ≤ snd c
  | [], [], r, c, _, e => by simp at e
  | [], c :: cs, r, _, h, e => by simp [inTs] at h
  | x :: vs, [], r, _, h, e => by simp at e
  | x :: vs, c :: cs, 0, c', h, e => by
    rw [Z3m, Bool.and_eq_true] at h
    have : c = c' := by simpa using e
    subst this
    cases x with
    | int v =>
      have h1 := h.1
      simp only [okAt, Bool.and_eq_true, decide_eq_true_eq] at h1
      exact ⟨v, rfl, h1.1, h1.2⟩
    | _ => exact absurd h.1 (by simp [okAt])
  | x :: vs, c :: cs, r + 1, c', h, e => by
    rw [Z3m, Bool.and_eq_true] at h
    obtain ⟨v, e1, e2⟩ := Zlx (r := r) h.2 (by simpa using e)
    exact ⟨v, by simpa using e1, e2⟩
theorem ZiK {v c : IV} : ∀ {vs cs : List IV}, inTs vs cs = true → okAt v c = true → inTs (vs ++ [v]) (cs ++ [c]) = true
  | [], [], _, h2 => by rw [List.nil_append, List.nil_append, Z3m, h2]; rfl
  | [], c :: cs, h, _ => by simp [inTs] at h
  | x :: vs, [], h, _ => by cases x <;> simp [inTs] at h
  | x :: vs, c :: cs, h, h2 => by
    rw [Z3m, Bool.and_eq_true] at h
    rw [List.cons_append, List.cons_append, Z3m, h.1, ZiK h.2 h2]; rfl
end K22
namespace K22
open PySem PySem.Spec PyProof.Rows L2 Mi
theorem Zlz {cs : List IV} (g : Good cs) {x : IV} (h : x ∈ cs) : ∃ w t, x = .tup [.str w, .int t] ∧ 1 ≤ t ∧ t ≤ 5 ∧ wOk w = true ∧ okS w = true := by
  obtain ⟨w, t, rfl, t1, t2, hw⟩ := Z1T (g.col x h)
  have := List.all_eq_true.mp g.okv _ h
  simp only [okV, List.all_cons, Bool.and_eq_true] at this
  exact ⟨w, t, rfl, t1, t2, hw, this.1⟩
theorem ZfD {cs : List IV} (g : Good cs) : okV 1 (.tup (cs.map fst)) = true := by
  simp only [okV, List.all_eq_true]
  intro y hy
  obtain ⟨x, hx, rfl⟩ := List.mem_map.mp hy
  obtain ⟨w, t, rfl, _, _, _, hw⟩ := Zlz g hx
  simpa [fst, okV] using hw
theorem ZkV {cs : List IV} : okV 1 (.tup (cs.map fun x => .int (snd x))) = true := by
  simp only [okV, List.all_eq_true]
  intro y hy
  obtain ⟨x, hx, rfl⟩ := List.mem_map.mp hy
  rfl
theorem ZiM {cs : List IV} (g : Good cs) : nb (.tup (cs.map fst)) = true := by
  simp only [nb, ZhB, List.all_eq_true]
  intro y hy
  obtain ⟨x, hx, rfl⟩ := List.mem_map.mp hy
  obtain ⟨w, t, rfl, _⟩ := Zlz g hx
  simp [fst, nb]
theorem Znj {cs : List IV} : nb (.tup (cs.map fun x => .int (snd x))) = true := by
  simp only [nb, ZhB, List.all_eq_true]
  intro y hy
  obtain ⟨x, hx, rfl⟩ := List.mem_map.mp hy
  simp [nb]
section
variable {lt lo : Nat} {cs cs2 : List IV} {st : Sto} {P : IV → Sto → Prop} {E : Str → List (Str × IV) → Sto → Prop}
theorem TabAt.cls (h : TabAt lt cs st) : Zx st (.ref lt) = none ∧ clsOf st (.ref lt) = some ("Table" : Str) := by
  have h' : st[lt]? = some (.ins "Table" (tabF cs)) := h
  constructor
  · simp only [Zx, h']
  · simp only [clsOf, h']
end
end K22
namespace K22
open PySem PySem.Spec PyProof.Rows L2 Mi
def sortN (c : Nat) : Int := if isL c then 0 else if isD c then 1 else if c ∈ ([40, 41, 44] : List Nat) then 2 else 3
def Zv8 (its : List (Nat × List Nat)) : List Nat := its.flatMap fun p => List.replicate p.1 32 ++ p.2
end K22
namespace K22
open PySem PySem.Spec PyProof.Rows L2 Mi
def Fol (t u : List Nat) : Prop := ∃ c r d, u = c :: r ∧ t[t.length - 1]? = some d ∧ (sortN d ≠ sortN c ∨ sortN d = 2)
def Adj (its : List (Nat × List Nat)) : Prop := ∀ (i : Nat) p q, its[i]? = some p → its[i + 1]? = some q → 1 ≤ q.1 ∨ Fol p.2 q.2
structure Toks (ss : List Str) : Prop where
  tok : ∀ s ∈ ss, tokOk s.cps.toList = true
  len : ∀ s ∈ ss, s.length ≤ 8
  few : ss.length ≤ 160
structure SpI (n l n0 : Nat) (ss : List Str) (st0 : Sto) (i : Nat) (text : Str) (its : List (Nat × List Nat)) (gk : Nat) (pl : List IV) (st : Sto) : Prop where
  txt : text.cps.toList = Zv8 its ++ List.replicate gk 32
  itm : its.map (·.2) = (ss.take i).map fun s => s.cps.toList
  tok : ∀ p ∈ its, tokOk p.2 = true
  adj : Adj its
  pend : ∀ p, its[its.length - 1]? = some p → ∀ s, ss[i]? = some s → 1 ≤ gk ∨ Fol p.2 s.cps.toList
  last : ss[i]? = none → 0 < i → gk = 0
  len : text.length ≤ 1 + i * 11
  plc : st[n0]? = some (.lst pl)
  pln : pl.length = i
  bag : BagAt (n + 1 + i) l st
  sz : st.length = n0 + 1
  keep : ∀ j, j < n0 → j ≠ l → st[j]? = st0[j]?
  ofs : pl = (ZoR its 0).map fun p => .int p.2
end K22
namespace K22
open PySem PySem.Spec PyProof.Rows L2 Mi
def wd (cs : List IV) (k : Nat) : Str := match cs[k]? with
  | some (.tup [.str w, _]) => w
  | _ => Str.empty
def Named (T : List IV) (W : List Str) : Prop := T.length = W.length ∧ ∀ (i : Nat) w, W[i]? = some w → ∃ off : Int, T[i]? = some (.tup [.str w, .int off])
def colIx (cs : List IV) (w : Str) : Option Nat := (List.range cs.length).find? fun k => decide (wd cs k = w)
structure TxtG (z : Str) (W : List Str) (gs : List (Nat × List Nat)) : Prop where
  b : ∃ ge, z.cps.toList = build gs ge
  w : gs.map (·.2) = W.map (fun s => s.cps.toList)
  f : fits gs = true
  len : z.length ≤ 1990
end K22
namespace K22
open PySem PySem.Spec PyProof.Rows L2 Mi
def isNum (w : Str) : Bool := decide (1 ≤ w.length) && (decide (w.length ≤ 3) && (w.cps.toList.all isD && (decide (w.cps.toList.head? ≠ some 48) || decide (w.length = 1))))
def numO (w : Str) : Option Int := if isNum w then PySem.intText? w else none
end K22
namespace K22
open PySem PySem.Spec PyProof.Rows L2 Mi
section
variable {T : List IV} {n : Nat} {w : Str} {o : Int} {lt : Nat} {cs : List IV} {st : Sto} {P : IV → Sto → Prop} {E : Str → List (Str × IV) → Sto → Prop}
def termT (cs : List IV) (t : Str) : Option (Bool × Int) := match colIx cs t with
  | some j => some (true, (j : Int))
  | none => (numO t).map fun v => (false, v)
def trmIV (p : Bool × Int) : IV := .tup [.bl p.1, .int p.2]
end
end K22
namespace K22
open PySem PySem.Spec PyProof.Rows L2 Mi
mutual
inductive Tr
  | word (b : Bool) | inn (k : Nat) (lo hi : Int) | is (k : Nat) (s : Str) (t : Bool × Int) | not (t : Tr) | or (ts : Trs) | and (ts : Trs)
inductive Trs
  | nil | cons (t : Tr) (r : Trs)
end
def sgC : List Str := ["=", "!=", "<", "<=", ">", ">="]
mutual
def TrAt (lo : Nat) (st : Sto) : Tr → IV → Prop
  | .word b, x => x = .tup [.str (if b then "true" else "false"), .non]
  | .inn k a b, x => x = .tup [.str "in", .tup [.int k, .int a, .int b]]
  | .is k s t, x => x = .tup [.str "is", .tup [.int k, .str s, trmIV t]]
  | .not t, x => ∃ y, x = .tup [.str "not", y] ∧ TrAt lo st t y
  | .or ts, x => ∃ l xs, x = .tup [.str "or", .ref l] ∧ lo ≤ l ∧ st[l]? = some (.lst xs) ∧ xs.length ≤ 1000 ∧ TrsAt lo st ts xs
  | .and ts, x => ∃ l xs, x = .tup [.str "and", .ref l] ∧ lo ≤ l ∧ st[l]? = some (.lst xs) ∧ xs.length ≤ 1000 ∧ TrsAt lo st ts xs
def TrsAt (lo : Nat) (st : Sto) : Trs → List IV → Prop
  | .nil, xs => xs = []
  | .cons t r, xs => ∃ y ys, xs = y :: ys ∧ TrAt lo st t y ∧ TrsAt lo st r ys
end
def cmpC (a : Int) (s : Str) (b : Int) : Bool :=
  if s = "=" then decide (a = b) else if s = "!=" then !decide (a = b) else if s = "<" ∨ s = "<=" then decide (a < b) || (decide (s = "<=") && decide (a = b)) else decide (a > b) || (decide (s = ">=") && decide (a = b))
mutual
def ev (ns : List Int) : Tr → Bool
  | .word b => b
  | .inn k a b => decide (a ≤ ns.getD k 0) && decide (ns.getD k 0 ≤ b)
  | .is k s t => cmpC (ns.getD k 0) s (if t.1 then ns.getD t.2.toNat 0 else t.2)
  | .not t => !ev ns t
  | .or ts => evAny ns ts
  | .and ts => evAll ns ts
def evAny (ns : List Int) : Trs → Bool
  | .nil => false
  | .cons t r => ev ns t || evAny ns r
def evAll (ns : List Int) : Trs → Bool
  | .nil => true
  | .cons t r => ev ns t && evAll ns r
end
mutual
def TrOk (n : Nat) : Tr → Prop
  | .word _ => True
  | .inn k _ _ => k < n
  | .is k s t => k < n ∧ s ∈ sgC ∧ (t.1 = true → ∃ j : Nat, t.2 = j ∧ j < n)
  | .not t => TrOk n t
  | .or ts => TrsOk n ts
  | .and ts => TrsOk n ts
def TrsOk (n : Nat) : Trs → Prop
  | .nil => True
  | .cons t r => TrOk n t ∧ TrsOk n r
end
mutual
def dp : Tr → Nat
  | .not t => dp t + 1
  | .or ts => dps ts + 1
  | .and ts => dps ts + 1
  | _ => 1
def dps : Trs → Nat
  | .nil => 0
  | .cons t r => max (dp t) (dps r)
end
def tl : Trs → List Tr
  | .nil => []
  | .cons t r => t :: tl r
theorem TrsAt.get {lo : Nat} {st : Sto} : ∀ {ts : Trs} {xs : List IV}, TrsAt lo st ts xs → (tl ts).length = xs.length ∧ ∀ (i : Nat) t x, (tl ts)[i]? = some t → xs[i]? = some x → TrAt lo st t x
  | .nil, xs, h => by
    simp only [TrsAt] at h
    subst h
    exact ⟨rfl, fun i t x e => by simp [tl] at e⟩
  | .cons t r, xs, h => by
    simp only [TrsAt] at h
    obtain ⟨y, ys, e, h1, h2⟩ := h
    subst e
    obtain ⟨a, b⟩ := TrsAt.get h2
    refine ⟨by simp [tl, a], fun i t' x e1 e2 => ?_⟩
    cases i with
    | zero => simp [tl] at e1 e2; rw [← e1, ← e2]; exact h1
    | succ i => exact b i t' x (by simpa [tl] using e1) (by simpa using e2)
end K22
namespace K22
open PySem PySem.Spec PyProof.Rows L2 Mi
inductive Rp (α : Type) where
  | deep | stuck (j : Nat) | done (x : α) (j : Nat)
def Rp.map {α β : Type} (f : α → β) : Rp α → Rp β
  | .deep => .deep
  | .stuck j => .stuck j
  | .done x j => .done (f x) j
def wAt (W : List Str) (i : Nat) : Str := ((W ++ [("" : Str)])[i]?).getD ""
def pMany (W : List Str) (sep : Str) (pa : Nat → Rp Tr) : Nat → Nat → Rp Trs
  | 0, _ => .deep
  | m + 1, i => match pa i with
    | .deep => .deep
    | .stuck j => .stuck j
    | .done t j => if wAt W j = sep then (pMany W sep pa m (j + 1)).map (.cons t) else .done (.cons t .nil) j
def pPart (W : List Str) (pa : Nat → Rp Tr) (i : Nat) : Rp Tr := (pMany W "and" pa 209 i).map .and
def pCond (W : List Str) (pa : Nat → Rp Tr) (i : Nat) : Rp Tr := (pMany W "or" (pPart W pa) 209 i).map .or
def pLeaf (cs : List IV) (W : List Str) (i : Nat) : Rp Tr := match colIx cs (wAt W i) with
  | none => .stuck i
  | some k => if wAt W (i + 1) = "in" then match numO (wAt W (i + 2)) with
      | none => .stuck (i + 2)
      | some a => if wAt W (i + 3) = ".." then match numO (wAt W (i + 4)) with
          | none => .stuck (i + 4)
          | some b => .done (.inn k a b) (i + 5)
        else .stuck (i + 3)
    else if wAt W (i + 1) ∈ sgC then match termT cs (wAt W (i + 2)) with
      | none => .stuck (i + 2)
      | some p => .done (.is k (wAt W (i + 1)) p) (i + 3)
    else .stuck (i + 1)
def pAtom (cs : List IV) (W : List Str) : Nat → Nat → Rp Tr
  | 0, _ => .deep
  | n + 1, i =>
    if wAt W i = "not" then (pAtom cs W n (i + 1)).map .not
    else if wAt W i = "(" then match pCond W (pAtom cs W n) (i + 1) with
      | .done t j => if wAt W j = ")" then .done t (j + 1) else .stuck j
      | .stuck j => .stuck j
      | .deep => .deep
    else if wAt W i = "true" ∨ wAt W i = "false" then .done (.word (decide (wAt W i = "true"))) (i + 1)
    else pLeaf cs W i
def Ext (a b : Sto) : Prop := ∀ j, j < a.length → b[j]? = a[j]?
theorem Ext.len {a b : Sto} (h : Ext a b) : a.length ≤ b.length := by
  apply Classical.byContradiction
  intro z
  have h1 := h b.length (by omega)
  rw [List.getElem?_eq_none (Nat.le_refl _), List.getElem?_eq_getElem (by omega)] at h1
  cases h1
theorem Ext.refl (a : Sto) : Ext a a := fun _ _ => rfl
theorem Ext.trans {a b c : Sto} (x : Ext a b) (y : Ext b c) : Ext a c := fun j hj => (y j (Nat.lt_of_lt_of_le hj x.len)).trans (x j hj)
mutual
theorem TrAt.mono {lo lo' : Nat} {st st' : Sto} (hl : lo' ≤ lo) (hk : ∀ j o, lo ≤ j → st[j]? = some o → st'[j]? = some o) : ∀ (t : Tr) (x : IV), TrAt lo st t x → TrAt lo' st' t x
  | .word b, x, h => by simp only [TrAt] at h ⊢; exact h
  | .inn k a b, x, h => by simp only [TrAt] at h ⊢; exact h
  | .is k s t, x, h => by simp only [TrAt] at h ⊢; exact h
  | .not t, x, h => by
    simp only [TrAt] at h ⊢
    obtain ⟨y, e, h⟩ := h
    exact ⟨y, e, TrAt.mono hl hk t y h⟩
  | .or ts, x, h => by
    simp only [TrAt] at h ⊢
    obtain ⟨l, xs, e, h1, h2, h3, h4⟩ := h
    exact ⟨l, xs, e, Nat.le_trans hl h1, hk l _ h1 h2, h3, TrsAt.mono hl hk ts xs h4⟩
  | .and ts, x, h => by
    simp only [TrAt] at h ⊢
    obtain ⟨l, xs, e, h1, h2, h3, h4⟩ := h
    exact ⟨l, xs, e, Nat.le_trans hl h1, hk l _ h1 h2, h3, TrsAt.mono hl hk ts xs h4⟩
theorem TrsAt.mono {lo lo' : Nat} {st st' : Sto} (hl : lo' ≤ lo) (hk : ∀ j o, lo ≤ j → st[j]? = some o → st'[j]? = some o) : ∀ (ts : Trs) (xs : List IV), TrsAt lo st ts xs → TrsAt lo' st' ts xs
  | .nil, xs, h => by simp only [TrsAt] at h ⊢; exact h
  | .cons t r, xs, h => by
    simp only [TrsAt] at h ⊢
    obtain ⟨y, ys, e, h1, h2⟩ := h
    exact ⟨y, ys, e, TrAt.mono hl hk t y h1, TrsAt.mono hl hk r ys h2⟩
end
end K22
namespace K22
open PySem PySem.Spec PyProof.Rows L2 Mi
def app : Trs → Trs → Trs
  | .nil, b => b
  | .cons t r, b => .cons t (app r b)
section
variable {T : List IV} {W : List Str} {lt : Nat} {cs : List IV} {Xf : Mi.Fn} {pa : Nat → Rp Tr}
structure MI (T : List IV) (W : List Str) (lt lp i0 : Nat) (cs : List IV) (sep : Str) (pa : Nat → Rp Tr) (full : Rp Trs) (st0 : Sto) (k : Nat) (ρ : Slots) (st : Sto) (a : Nat) (xs : List IV) (dn : Trs) : Prop where
  rho : ∃ a4, ρ = [some (.v (.lst T)), some (.v (.int a)), some (.v (.ref lt)), some (.v (.ref lp)), a4]
  le : a ≤ W.length
  ext : Ext st0 st
  lst : st[lp]? = some (.lst xs)
  tr : TrsAt (lp + 1) st dn xs
  ok : TrsOk cs.length dn
  ms : W.length + 1 ≤ a + k
  few : xs.length ≤ a
  gt : xs ≠ [] → i0 < a
  ge : i0 ≤ a
  res : (xs = [] ∧ ∃ m, full = (pMany W sep pa m a).map (app dn)) ∨ (xs ≠ [] ∧ wAt W a = sep ∧ ∃ m, full = (pMany W sep pa m (a + 1)).map (app dn)) ∨ (xs ≠ [] ∧ wAt W a ≠ sep ∧ full = .done dn a)
theorem ZtP : wAt W W.length = "" := by
  unfold wAt
  rw [List.getElem?_append_right (Nat.le_refl _)]; simp
end
end K22
namespace K22
open PySem PySem.Spec PyProof.Rows L2 Mi
section
variable {T : List IV} {W : List Str} {n : Nat} {w : Str} {o : Int} {lt : Nat} {cs : List IV} {st : Sto} {P : IV → Sto → Prop} {E : Str → List (Str × IV) → Sto → Prop}
structure Txs (T : List IV) (W : List Str) : Prop where
  nm : Named T (W ++ [("" : Str)])
  le : W.length ≤ 200
  tk : ∀ j, wAt W j ≠ "" → tokOk (wAt W j).cps.toList = true
  ln : ∀ j, (wAt W j).length ≤ 100000
end
end K22
namespace K22
open PySem PySem.Spec PyProof.Rows L2 Mi
section
variable {z : Str} {W : List Str} {gs : List (Nat × List Nat)} {cs : List IV} {its : List SI} {lo lt : Nat} {st : Sto} {P : IV → Sto → Prop} {E : Str → List (Str × IV) → Sto → Prop}
def intsV : IV → List Int
  | .tup vs => vs.map fun v => match v with | .int i => i | _ => 0
  | _ => []
end
end K22
namespace K22
open PySem PySem.Spec PyProof.Rows L2 Mi
def rdT (cs : List IV) (W : List Str) : Rp Tr := pCond W (pAtom cs W 48) 0
def fitF (t : Tr) : IV → Option IV := fun x => if ev (intsV x) t = true then some x else none
def fitsV (cs : List IV) (t : Tr) : List IV := (allV cs).filterMap (fitF t)
def cndF (cs : List IV) (lt : Nat) (W : List Str) (t : Tr) : List (Str × IV) := [("table", .ref lt), ("text", .str (Txt.join " " W)), ("fits", .tup (fitsV cs t))]
end K22
namespace K22
open PySem PySem.Spec PyProof.Rows L2 Mi
def CndAt (lo lt : Nat) (cs : List IV) (W : List Str) (t : Tr) (st : Sto) : Prop := st[lo]? = some (.ins "Condition" (cndF cs lt W t))
section
variable {W : List Str} {cs : List IV} {lo lt : Nat} {t : Tr} {st st' : Sto} {P : IV → Sto → Prop} {E : Str → List (Str × IV) → Sto → Prop}
theorem CndAt.ins (h : CndAt lo lt cs W t st) : insAt st [("Condition" : Str)] (.ref lo) = some (lo, ("Condition" : Str), cndF cs lt W t) := ZL (c := ("Condition" : Str)) h List.mem_cons_self
end
end K22
namespace K22
open PySem PySem.Spec PyProof.Rows L2 Mi
section
variable {W W2 : List Str} {cs cs2 : List IV} {lo lt lo2 lt2 : Nat} {t t2 : Tr} {st st' : Sto} {P : IV → Sto → Prop} {E : Str → List (Str × IV) → Sto → Prop}
theorem CndAt.cls (h : CndAt lo lt cs W t st) : Zx st (.ref lo) = none ∧ clsOf st (.ref lo) = some ("Condition" : Str) := by
  have h' : st[lo]? = some (.ins "Condition" (cndF cs lt W t)) := h
  constructor
  · simp only [Zx, h']
  · simp only [clsOf, h']
end
end K22
namespace K22
open PySem PySem.Spec PyProof.Rows L2 Mi
structure Its (cs : List IV) (its : List (Nat × Int)) : Prop where
  lt : ∀ p ∈ its, p.1 < cs.length
  nd : (its.map (·.1)).Nodup
  way : ∀ p ∈ its, p.2 = 1 ∨ p.2 = -1
def itIV (p : Nat × Int) : IV := .tup [.int p.1, .int p.2]
def ordF (lt : Nat) (its : List (Nat × Int)) (way : Int) : List (Str × IV) := [("table", .ref lt), ("parts", .tup (its.map itIV)), ("name_way", .int way)]
def OrdAt (lo lt : Nat) (its : List (Nat × Int)) (way : Int) (st : Sto) : Prop := st[lo]? = some (.ins "Order" (ordF lt its way))
theorem OrdAt.ins {lo lt : Nat} {its : List (Nat × Int)} {way : Int} {st : Sto} (h : OrdAt lo lt its way st) : insAt st [("Order" : Str)] (.ref lo) = some (lo, ("Order" : Str), ordF lt its way) := ZL (c := ("Order" : Str)) h List.mem_cons_self
section
variable {cs : List IV} {its : List (Nat × Int)} {way : Int} {lc lo lt : Nat} {iv : IV} {st : Sto} {P : IV → Sto → Prop} {E : Str → List (Str × IV) → Sto → Prop}
def keyV (vs : List IV) (its : List (Nat × Int)) : List IV := its.map fun p => (vs[p.1]?).getD .non
end
inductive Rd
  | stuck (j : Nat)
  | done (its : List (Nat × Int)) (nm : Int) (j : Nat)
end K22
namespace K22
open PySem PySem.Spec PyProof.Rows L2 Mi PySem.W
def iv0 : IV → Int
  | .int i => i
  | _ => 0
def rkV (vs : List IV) (its : List (Nat × Int)) : List Int := its.map fun p => p.2 * iv0 ((vs[p.1]?).getD .non)
def lab (way side label : Int) : Int := if side = 0 then way * label else 0
def plF (vs : List IV) (its : List (Nat × Int)) (way side label : Int) : List (Str × IV) := [("key", .tup (keyV vs its)), ("name", if side = 0 then .int label else .non), ("rank", rkI (rkV vs its) side (lab way side label))]
def PlAt (l : Nat) (vs : List IV) (its : List (Nat × Int)) (way side label : Int) (st : Sto) : Prop := st[l]? = some (.ins "Place" (plF vs its way side label))
section
variable {cs vs vs' : List IV} {its : List (Nat × Int)} {way side label side' label' : Int} {lc lo lt l l' : Nat} {iv : IV} {st : Sto} {P : IV → Sto → Prop} {E : Str → List (Str × IV) → Sto → Prop}
theorem PlAt.ins (h : PlAt l vs its way side label st) : insAt st [("Place" : Str)] (.ref l) = some (l, ("Place" : Str), plF vs its way side label) := ZL (c := ("Place" : Str)) h List.mem_cons_self
theorem PlAt.cls (h : PlAt l vs its way side label st) : Zx st (.ref l) = none ∧ clsOf st (.ref l) = some ("Place" : Str) := by
  constructor
  · simp only [Zx]; rw [show st[l]? = _ from h]
  · simp only [clsOf]; rw [show st[l]? = _ from h]
end
section
variable {cs vs vs' ks : List IV} {its : List (Nat × Int)} {way side label side' label' : Int} {lc lo lt l l' : Nat} {iv : IV} {st : Sto} {P : IV → Sto → Prop} {E : Str → List (Str × IV) → Sto → Prop}
abbrev rk (vs : List IV) (its : List (Nat × Int)) (way side label : Int) : PyData := rkD (rkV vs its) side (lab way side label)
end
abbrev Rk := List IV × Int × Int
def PlR (l : Nat) (its : List (Nat × Int)) (way : Int) (R : Rk) (st : Sto) : Prop := PlAt l R.1 its way R.2.1 R.2.2 st
def stF (lo hi : IV) : List (Str × IV) := [("low", lo), ("high", hi)]
def StAt (l : Nat) (lo hi : IV) (st : Sto) : Prop := st[l]? = some (.ins "Stretch" (stF lo hi))
section
variable {its : List (Nat × Int)} {way : Int} {l l' p : Nat} {lo hi lo' hi' : IV} {a b c d : Option Rk} {R : Rk} {st : Sto} {P : IV → Sto → Prop} {E : Str → List (Str × IV) → Sto → Prop}
theorem StAt.ins (h : StAt l lo hi st) : insAt st [("Stretch" : Str)] (.ref l) = some (l, ("Stretch" : Str), stF lo hi) := ZL (c := ("Stretch" : Str)) h List.mem_cons_self
end
end K22
namespace K22
open PySem PySem.Spec PyProof.Rows L2 Mi PySem.W
structure En where
  name : Int
  vs : List IV
  life : Int
  last : Int
  lifer : Int
  pl : Rk
  hol : Bool
abbrev Sd := Int × Option Rk
structure Cu where
  ld : Nat
  db : Nat
  es : List En
  ix : Int
  full : Bool
  low : Sd
  high : Sd
  row : Bool
  shut : Bool
  many : Int
structure Rw where
  name : Int
  vs : List IV
  life : Int
  last : Int
structure Db where
  lt : Nat
  ev : Int
  rows : List Rw
  wr : List Rw
  pts : List (Int × Int)
  cus : List Nat
  bg : Int
structure Dc where
  lt : Nat
  lw : Nat
  lo : Nat
  W : List Str
  t : Tr
  its : List (Nat × Int)
  way : Int
  reach : Int
  copied : Bool
  hold : Str
  locked : Bool
  check : Str
def refs (rs : List Nat) : List IV := rs.map .ref
@[simp] theorem Zx4 : refs [] = [] := rfl
@[simp] theorem ZkO {rs : List Nat} : (refs rs).length = rs.length := List.length_map ..
def enF (e : En) (lp : Nat) : List (Str × IV) := [("name", .int e.name), ("seen", .tup e.vs), ("mark", .tup [.int e.life, .int e.last]), ("life_read", .int e.lifer), ("place_read", .ref lp), ("is_hollow", .bl e.hol)]
theorem ZkE : (("seen" : Str) == "name") = false := by decide +kernel
theorem ZkX : ¬ (("name" : Str) = "seen") := by decide +kernel
theorem ZlI : (("mark" : Str) == "name") = false := by decide +kernel
theorem Zme : ¬ (("name" : Str) = "mark") := by decide +kernel
theorem Zl1 : (("mark" : Str) == "seen") = false := by decide +kernel
theorem Zlc : ¬ (("seen" : Str) = "mark") := by decide +kernel
theorem ZbV : (("life_read" : Str) == "name") = false := by decide +kernel
theorem ZcV : (("life_read" : Str) == "seen") = false := by decide +kernel
theorem Zd1 : (("life_read" : Str) == "mark") = false := by decide +kernel
theorem Zay : (("place_read" : Str) == "name") = false := by decide +kernel
theorem Zag : (("place_read" : Str) == "seen") = false := by decide +kernel
theorem Z9Z : (("place_read" : Str) == "mark") = false := by decide +kernel
theorem Z5B : (("place_read" : Str) == "life_read") = false := by decide +kernel
theorem ZcR : (("is_hollow" : Str) == "name") = false := by decide +kernel
theorem Zc4 : ¬ (("name" : Str) = "is_hollow") := by decide +kernel
theorem ZbQ : (("is_hollow" : Str) == "seen") = false := by decide +kernel
theorem ZcZ : ¬ (("seen" : Str) = "is_hollow") := by decide +kernel
theorem Zck : (("is_hollow" : Str) == "mark") = false := by decide +kernel
theorem Zd7 : ¬ (("mark" : Str) = "is_hollow") := by decide +kernel
theorem Z6f : (("is_hollow" : Str) == "life_read") = false := by decide +kernel
theorem Z6e : ¬ (("life_read" : Str) = "is_hollow") := by decide +kernel
theorem Z5C : (("is_hollow" : Str) == "place_read") = false := by decide +kernel
theorem Z5H : ¬ (("place_read" : Str) = "is_hollow") := by decide +kernel
@[simp] theorem Zyl {e : En} {lp : Nat} : (enF e lp).length < 1000 := by show 6 < 1000; decide
@[simp] theorem ZwL {e : En} {lp : Nat} : (enF e lp).lookup ("name" : Str) = some (.int e.name) := by rfl
@[simp] theorem Zwv {e : En} {lp : Nat} : (enF e lp).lookup ("seen" : Str) = some (.tup e.vs) := by simp [enF, List.lookup, ZkE]
@[simp] theorem ZwH {e : En} {lp : Nat} : (enF e lp).lookup ("mark" : Str) = some (.tup [.int e.life, .int e.last]) := by simp [enF, List.lookup, ZlI, Zl1]
@[simp] theorem ZrZ {e : En} {lp : Nat} : (enF e lp).lookup ("life_read" : Str) = some (.int e.lifer) := by simp [enF, List.lookup, ZbV, ZcV, Zd1]
@[simp] theorem Zr4 {e : En} {lp : Nat} : (enF e lp).lookup ("place_read" : Str) = some (.ref lp) := by simp [enF, List.lookup, Zay, Zag, Z9Z, Z5B]
@[simp] theorem ZrQ {e : En} {lp : Nat} : (enF e lp).lookup ("is_hollow" : Str) = some (.bl e.hol) := by simp [enF, List.lookup, ZcR, ZbQ, Zck, Z6f, Z5C]
@[simp] theorem Zwa {e : En} {lp : Nat} {x : Int} : putI "name" (.int x) (enF e lp) = enF { e with name := x } lp := by simp [enF, putI]
@[simp] theorem Zwi {e : En} {lp : Nat} {x : List IV} : putI "seen" (.tup x) (enF e lp) = enF { e with vs := x } lp := by simp [enF, putI, ZkX]
@[simp] theorem ZmY {e : En} {lp : Nat} {x : Int × Int} : putI "mark" (.tup [.int x.1, .int x.2]) (enF e lp) = enF { e with life := x.1, last := x.2 } lp := by simp [enF, putI, Zme, Zlc]
@[simp] theorem ZqX {e : En} {lp : Nat} {x : Bool} : putI "is_hollow" (.bl x) (enF e lp) = enF { e with hol := x } lp := by simp [enF, putI, Zc4, ZcZ, Zd7, Z6e, Z5H]
def cuF (c : Cu) (rs : List Nat) (lo hi : IV) : List (Str × IV) := [("declaration", .ref c.ld), ("store", .ref c.db), ("window", .lst (refs rs)), ("index", .int c.ix), ("full_now", .bl c.full), ("low", lo), ("high", hi), ("row_now", .bl c.row), ("shut_now", .bl c.shut), ("many", .int c.many)]
theorem Z8r : (("store" : Str) == "declaration") = false := by decide +kernel
theorem Z6Q : (("window" : Str) == "declaration") = false := by decide +kernel
theorem Z6V : ¬ (("declaration" : Str) = "window") := by decide +kernel
theorem Zga : (("window" : Str) == "store") = false := by decide +kernel
theorem Zh5 : ¬ (("store" : Str) = "window") := by decide +kernel
theorem Z85 : (("index" : Str) == "declaration") = false := by decide +kernel
theorem Z81 : ¬ (("declaration" : Str) = "index") := by decide +kernel
theorem Zio : (("index" : Str) == "store") = false := by decide +kernel
theorem Zi3 : ¬ (("store" : Str) = "index") := by decide +kernel
theorem Zfy : (("index" : Str) == "window") = false := by decide +kernel
theorem Zhf : ¬ (("window" : Str) = "index") := by decide +kernel
theorem Z5y : (("full_now" : Str) == "declaration") = false := by decide +kernel
theorem Z5L : ¬ (("declaration" : Str) = "full_now") := by decide +kernel
theorem ZbE : (("full_now" : Str) == "store") = false := by decide +kernel
theorem Zcy : ¬ (("store" : Str) = "full_now") := by decide +kernel
theorem ZaV : (("full_now" : Str) == "window") = false := by decide +kernel
theorem Z9L : ¬ (("window" : Str) = "full_now") := by decide +kernel
theorem Zdd : (("full_now" : Str) == "index") = false := by decide +kernel
theorem ZbD : ¬ (("index" : Str) = "full_now") := by decide +kernel
theorem Za9 : (("low" : Str) == "declaration") = false := by decide +kernel
theorem Zaf : ¬ (("declaration" : Str) = "low") := by decide +kernel
theorem Zkb : (("low" : Str) == "store") = false := by decide +kernel
theorem ZkZ : ¬ (("store" : Str) = "low") := by decide +kernel
theorem ZjK : (("low" : Str) == "window") = false := by decide +kernel
theorem Zk4 : ¬ (("window" : Str) = "low") := by decide +kernel
theorem ZkT : (("low" : Str) == "index") = false := by decide +kernel
theorem ZkU : ¬ (("index" : Str) = "low") := by decide +kernel
theorem Zg6 : (("low" : Str) == "full_now") = false := by decide +kernel
theorem Zgn : ¬ (("full_now" : Str) = "low") := by decide +kernel
theorem Z8L : (("high" : Str) == "declaration") = false := by decide +kernel
theorem Z93 : ¬ (("declaration" : Str) = "high") := by decide +kernel
theorem Zjj : (("high" : Str) == "store") = false := by decide +kernel
theorem ZjM : ¬ (("store" : Str) = "high") := by decide +kernel
theorem ZhL : (("high" : Str) == "window") = false := by decide +kernel
theorem ZhC : ¬ (("window" : Str) = "high") := by decide +kernel
theorem Zk5 : (("high" : Str) == "index") = false := by decide +kernel
theorem Zjk : ¬ (("index" : Str) = "high") := by decide +kernel
theorem Zez : (("high" : Str) == "full_now") = false := by decide +kernel
theorem Ze9 : ¬ (("full_now" : Str) = "high") := by decide +kernel
theorem Zmi : (("high" : Str) == "low") = false := by decide +kernel
theorem Zml : ¬ (("low" : Str) = "high") := by decide +kernel
theorem Z66 : (("row_now" : Str) == "declaration") = false := by decide +kernel
theorem Z6j : ¬ (("declaration" : Str) = "row_now") := by decide +kernel
theorem Zf4 : (("row_now" : Str) == "store") = false := by decide +kernel
theorem ZeQ : ¬ (("store" : Str) = "row_now") := by decide +kernel
theorem Zdx : (("row_now" : Str) == "window") = false := by decide +kernel
theorem ZdB : ¬ (("window" : Str) = "row_now") := by decide +kernel
theorem ZdN : (("row_now" : Str) == "index") = false := by decide +kernel
theorem Zf2 : ¬ (("index" : Str) = "row_now") := by decide +kernel
theorem Z8R : (("row_now" : Str) == "full_now") = false := by decide +kernel
theorem Z9t : ¬ (("full_now" : Str) = "row_now") := by decide +kernel
theorem Zid : (("row_now" : Str) == "low") = false := by decide +kernel
theorem ZiB : ¬ (("low" : Str) = "row_now") := by decide +kernel
theorem Zha : (("row_now" : Str) == "high") = false := by decide +kernel
theorem Zhc : ¬ (("high" : Str) = "row_now") := by decide +kernel
theorem Z5A : (("shut_now" : Str) == "declaration") = false := by decide +kernel
theorem Z5J : ¬ (("declaration" : Str) = "shut_now") := by decide +kernel
theorem Zdp : (("shut_now" : Str) == "store") = false := by decide +kernel
theorem Zdj : ¬ (("store" : Str) = "shut_now") := by decide +kernel
theorem Z9M : (("shut_now" : Str) == "window") = false := by decide +kernel
theorem Z9D : ¬ (("window" : Str) = "shut_now") := by decide +kernel
theorem Zdb : (("shut_now" : Str) == "index") = false := by decide +kernel
theorem Zcb : ¬ (("index" : Str) = "shut_now") := by decide +kernel
theorem Z7F : (("shut_now" : Str) == "full_now") = false := by decide +kernel
theorem Z83 : ¬ (("full_now" : Str) = "shut_now") := by decide +kernel
theorem ZgS : (("shut_now" : Str) == "low") = false := by decide +kernel
theorem Zgb : ¬ (("low" : Str) = "shut_now") := by decide +kernel
theorem Zfi : (("shut_now" : Str) == "high") = false := by decide +kernel
theorem Ze3 : ¬ (("high" : Str) = "shut_now") := by decide +kernel
theorem Z9l : (("shut_now" : Str) == "row_now") = false := by decide +kernel
theorem Z9i : ¬ (("row_now" : Str) = "shut_now") := by decide +kernel
theorem Z94 : (("many" : Str) == "declaration") = false := by decide +kernel
theorem Z8F : ¬ (("declaration" : Str) = "many") := by decide +kernel
theorem Zjb : (("many" : Str) == "store") = false := by decide +kernel
theorem ZjJ : ¬ (("store" : Str) = "many") := by decide +kernel
theorem Zhz : (("many" : Str) == "window") = false := by decide +kernel
theorem Zhp : ¬ (("window" : Str) = "many") := by decide +kernel
theorem Zjo : (("many" : Str) == "index") = false := by decide +kernel
theorem ZjE : ¬ (("index" : Str) = "many") := by decide +kernel
theorem Zfc : (("many" : Str) == "full_now") = false := by decide +kernel
theorem Zet : ¬ (("full_now" : Str) = "many") := by decide +kernel
theorem ZmT : (("many" : Str) == "low") = false := by decide +kernel
theorem ZmN : ¬ (("low" : Str) = "many") := by decide +kernel
theorem Zli : (("many" : Str) == "high") = false := by decide +kernel
theorem ZkJ : ¬ (("high" : Str) = "many") := by decide +kernel
theorem ZfV : (("many" : Str) == "row_now") = false := by decide +kernel
theorem ZgQ : ¬ (("row_now" : Str) = "many") := by decide +kernel
theorem ZeV : (("many" : Str) == "shut_now") = false := by decide +kernel
theorem ZeE : ¬ (("shut_now" : Str) = "many") := by decide +kernel
theorem Z59 : (("set_batch" : Str) == "declaration") = false := by decide +kernel
theorem Zav : (("set_batch" : Str) == "store") = false := by decide +kernel
theorem Z9n : (("set_batch" : Str) == "window") = false := by decide +kernel
theorem Zbl : (("set_batch" : Str) == "index") = false := by decide +kernel
theorem Z70 : (("set_batch" : Str) == "full_now") = false := by decide +kernel
theorem Zer : (("set_batch" : Str) == "low") = false := by decide +kernel
theorem ZcT : (("set_batch" : Str) == "high") = false := by decide +kernel
theorem Z7G : (("set_batch" : Str) == "row_now") = false := by decide +kernel
theorem Z6C : (("set_batch" : Str) == "shut_now") = false := by decide +kernel
theorem Zde : (("set_batch" : Str) == "many") = false := by decide +kernel
theorem Z8f : (("names" : Str) == "declaration") = false := by decide +kernel
theorem Ziv : (("names" : Str) == "store") = false := by decide +kernel
theorem Zg4 : (("names" : Str) == "window") = false := by decide +kernel
theorem Zho : (("names" : Str) == "index") = false := by decide +kernel
theorem Zcn : (("names" : Str) == "full_now") = false := by decide +kernel
theorem ZkM : (("names" : Str) == "low") = false := by decide +kernel
theorem Zjw : (("names" : Str) == "high") = false := by decide +kernel
theorem ZdY : (("names" : Str) == "row_now") = false := by decide +kernel
theorem ZbJ : (("names" : Str) == "shut_now") = false := by decide +kernel
theorem Zjv : (("names" : Str) == "many") = false := by decide +kernel
theorem Z5z : (("standing" : Str) == "declaration") = false := by decide +kernel
theorem ZbK : (("standing" : Str) == "store") = false := by decide +kernel
theorem ZaQ : (("standing" : Str) == "window") = false := by decide +kernel
theorem ZdC : (("standing" : Str) == "index") = false := by decide +kernel
theorem Z7H : (("standing" : Str) == "full_now") = false := by decide +kernel
theorem ZfC : (("standing" : Str) == "low") = false := by decide +kernel
theorem Zej : (("standing" : Str) == "high") = false := by decide +kernel
theorem Z8T : (("standing" : Str) == "row_now") = false := by decide +kernel
theorem Z7V : (("standing" : Str) == "shut_now") = false := by decide +kernel
theorem ZdL : (("standing" : Str) == "many") = false := by decide +kernel
theorem Z5p : (("read_rows" : Str) == "declaration") = false := by decide +kernel
theorem Zac : (("read_rows" : Str) == "store") = false := by decide +kernel
theorem Z99 : (("read_rows" : Str) == "window") = false := by decide +kernel
theorem Zat : (("read_rows" : Str) == "index") = false := by decide +kernel
theorem Z6Z : (("read_rows" : Str) == "full_now") = false := by decide +kernel
theorem Zek : (("read_rows" : Str) == "low") = false := by decide +kernel
theorem Zcq : (("read_rows" : Str) == "high") = false := by decide +kernel
theorem Z7O : (("read_rows" : Str) == "row_now") = false := by decide +kernel
theorem Z6J : (("read_rows" : Str) == "shut_now") = false := by decide +kernel
theorem Zcz : (("read_rows" : Str) == "many") = false := by decide +kernel
theorem Z5E : (("low_edge" : Str) == "declaration") = false := by decide +kernel
theorem Zda : (("low_edge" : Str) == "store") = false := by decide +kernel
theorem Z9H : (("low_edge" : Str) == "window") = false := by decide +kernel
theorem ZbH : (("low_edge" : Str) == "index") = false := by decide +kernel
theorem Z7z : (("low_edge" : Str) == "full_now") = false := by decide +kernel
theorem Zg9 : (("low_edge" : Str) == "low") = false := by decide +kernel
theorem Zed : (("low_edge" : Str) == "high") = false := by decide +kernel
theorem Z9x : (("low_edge" : Str) == "row_now") = false := by decide +kernel
theorem Z8d : (("low_edge" : Str) == "shut_now") = false := by decide +kernel
theorem Zen : (("low_edge" : Str) == "many") = false := by decide +kernel
theorem Z5h : (("high_edge" : Str) == "declaration") = false := by decide +kernel
theorem Zam : (("high_edge" : Str) == "store") = false := by decide +kernel
theorem Z8M : (("high_edge" : Str) == "window") = false := by decide +kernel
theorem Zak : (("high_edge" : Str) == "index") = false := by decide +kernel
theorem Z75 : (("high_edge" : Str) == "full_now") = false := by decide +kernel
theorem ZeG : (("high_edge" : Str) == "low") = false := by decide +kernel
theorem ZcJ : (("high_edge" : Str) == "high") = false := by decide +kernel
theorem Z8e : (("high_edge" : Str) == "row_now") = false := by decide +kernel
theorem Z6K : (("high_edge" : Str) == "shut_now") = false := by decide +kernel
theorem Zcw : (("high_edge" : Str) == "many") = false := by decide +kernel
theorem Z5D : (("empty_at" : Str) == "declaration") = false := by decide +kernel
theorem ZbN : (("empty_at" : Str) == "store") = false := by decide +kernel
theorem Zb8 : (("empty_at" : Str) == "window") = false := by decide +kernel
theorem ZbY : (("empty_at" : Str) == "index") = false := by decide +kernel
theorem Z7T : (("empty_at" : Str) == "full_now") = false := by decide +kernel
theorem ZgB : (("empty_at" : Str) == "low") = false := by decide +kernel
theorem Zfs : (("empty_at" : Str) == "high") = false := by decide +kernel
theorem Z8H : (("empty_at" : Str) == "row_now") = false := by decide +kernel
theorem Z88 : (("empty_at" : Str) == "shut_now") = false := by decide +kernel
theorem ZdH : (("empty_at" : Str) == "many") = false := by decide +kernel
theorem Z68 : (("step_on" : Str) == "declaration") = false := by decide +kernel
theorem ZeK : (("step_on" : Str) == "store") = false := by decide +kernel
theorem Zcr : (("step_on" : Str) == "window") = false := by decide +kernel
theorem Zfj : (("step_on" : Str) == "index") = false := by decide +kernel
theorem Z9v : (("step_on" : Str) == "full_now") = false := by decide +kernel
theorem Zhs : (("step_on" : Str) == "low") = false := by decide +kernel
theorem Zfv : (("step_on" : Str) == "high") = false := by decide +kernel
theorem Zaj : (("step_on" : Str) == "row_now") = false := by decide +kernel
theorem Z97 : (("step_on" : Str) == "shut_now") = false := by decide +kernel
theorem Zgg : (("step_on" : Str) == "many") = false := by decide +kernel
theorem Z4X : (("step_back" : Str) == "declaration") = false := by decide +kernel
theorem ZaB : (("step_back" : Str) == "store") = false := by decide +kernel
theorem Z8G : (("step_back" : Str) == "window") = false := by decide +kernel
theorem ZaC : (("step_back" : Str) == "index") = false := by decide +kernel
theorem Z7r : (("step_back" : Str) == "full_now") = false := by decide +kernel
theorem Ze8 : (("step_back" : Str) == "low") = false := by decide +kernel
theorem ZcH : (("step_back" : Str) == "high") = false := by decide +kernel
theorem Z7R : (("step_back" : Str) == "row_now") = false := by decide +kernel
theorem Z77 : (("step_back" : Str) == "shut_now") = false := by decide +kernel
theorem Zcf : (("step_back" : Str) == "many") = false := by decide +kernel
theorem Z84 : (("go_to" : Str) == "declaration") = false := by decide +kernel
theorem Zia : (("go_to" : Str) == "store") = false := by decide +kernel
theorem ZgU : (("go_to" : Str) == "window") = false := by decide +kernel
theorem Ziq : (("go_to" : Str) == "index") = false := by decide +kernel
theorem ZcD : (("go_to" : Str) == "full_now") = false := by decide +kernel
theorem Zmd : (("go_to" : Str) == "low") = false := by decide +kernel
theorem ZjS : (("go_to" : Str) == "high") = false := by decide +kernel
theorem Zec : (("go_to" : Str) == "row_now") = false := by decide +kernel
theorem ZdA : (("go_to" : Str) == "shut_now") = false := by decide +kernel
theorem ZjB : (("go_to" : Str) == "many") = false := by decide +kernel
theorem Z9d : (("move" : Str) == "declaration") = false := by decide +kernel
theorem ZjI : (("move" : Str) == "store") = false := by decide +kernel
theorem Zig : (("move" : Str) == "window") = false := by decide +kernel
theorem Zj2 : (("move" : Str) == "index") = false := by decide +kernel
theorem ZeI : (("move" : Str) == "full_now") = false := by decide +kernel
theorem Zms : (("move" : Str) == "low") = false := by decide +kernel
theorem ZkB : (("move" : Str) == "high") = false := by decide +kernel
theorem Zgi : (("move" : Str) == "row_now") = false := by decide +kernel
theorem Zeb : (("move" : Str) == "shut_now") = false := by decide +kernel
theorem Zl0 : (("move" : Str) == "many") = false := by decide +kernel
theorem Z4L : (("take_again" : Str) == "declaration") = false := by decide +kernel
theorem Z9a : (("take_again" : Str) == "store") = false := by decide +kernel
theorem Z7U : (("take_again" : Str) == "window") = false := by decide +kernel
theorem Z8Y : (("take_again" : Str) == "index") = false := by decide +kernel
theorem Z6r : (("take_again" : Str) == "full_now") = false := by decide +kernel
theorem ZbT : (("take_again" : Str) == "low") = false := by decide +kernel
theorem ZaG : (("take_again" : Str) == "high") = false := by decide +kernel
theorem Z7b : (("take_again" : Str) == "row_now") = false := by decide +kernel
theorem Z6y : (("take_again" : Str) == "shut_now") = false := by decide +kernel
theorem Z9Q : (("take_again" : Str) == "many") = false := by decide +kernel
theorem Z7Z : (("fetch" : Str) == "declaration") = false := by decide +kernel
theorem Zic : (("fetch" : Str) == "store") = false := by decide +kernel
theorem Zgf : (("fetch" : Str) == "window") = false := by decide +kernel
theorem Zhq : (("fetch" : Str) == "index") = false := by decide +kernel
theorem Zd5 : (("fetch" : Str) == "full_now") = false := by decide +kernel
theorem Zl3 : (("fetch" : Str) == "low") = false := by decide +kernel
theorem ZjG : (("fetch" : Str) == "high") = false := by decide +kernel
theorem ZdW : (("fetch" : Str) == "row_now") = false := by decide +kernel
theorem ZcM : (("fetch" : Str) == "shut_now") = false := by decide +kernel
theorem ZjV : (("fetch" : Str) == "many") = false := by decide +kernel
theorem Z9u : (("tell" : Str) == "declaration") = false := by decide +kernel
theorem Zjd : (("tell" : Str) == "store") = false := by decide +kernel
theorem Zit : (("tell" : Str) == "window") = false := by decide +kernel
theorem Zjc : (("tell" : Str) == "index") = false := by decide +kernel
theorem Zee : (("tell" : Str) == "full_now") = false := by decide +kernel
theorem ZmU : (("tell" : Str) == "low") = false := by decide +kernel
theorem ZkG : (("tell" : Str) == "high") = false := by decide +kernel
theorem Zgx : (("tell" : Str) == "row_now") = false := by decide +kernel
theorem ZdR : (("tell" : Str) == "shut_now") = false := by decide +kernel
theorem Zlo : (("tell" : Str) == "many") = false := by decide +kernel
theorem Z5F : (("writable" : Str) == "declaration") = false := by decide +kernel
theorem Zcd : (("writable" : Str) == "store") = false := by decide +kernel
theorem Zb3 : (("writable" : Str) == "window") = false := by decide +kernel
theorem Zcu : (("writable" : Str) == "index") = false := by decide +kernel
theorem Z7P : (("writable" : Str) == "full_now") = false := by decide +kernel
theorem ZgC : (("writable" : Str) == "low") = false := by decide +kernel
theorem ZeS : (("writable" : Str) == "high") = false := by decide +kernel
theorem Z8X : (("writable" : Str) == "row_now") = false := by decide +kernel
theorem Z7Q : (("writable" : Str) == "shut_now") = false := by decide +kernel
theorem Zfo : (("writable" : Str) == "many") = false := by decide +kernel
theorem Z7k : (("change" : Str) == "declaration") = false := by decide +kernel
theorem Zg7 : (("change" : Str) == "store") = false := by decide +kernel
theorem ZeR : (("change" : Str) == "window") = false := by decide +kernel
theorem ZgF : (("change" : Str) == "index") = false := by decide +kernel
theorem ZaJ : (("change" : Str) == "full_now") = false := by decide +kernel
theorem ZjW : (("change" : Str) == "low") = false := by decide +kernel
theorem ZhP : (("change" : Str) == "high") = false := by decide +kernel
theorem ZbL : (("change" : Str) == "row_now") = false := by decide +kernel
theorem Zbo : (("change" : Str) == "shut_now") = false := by decide +kernel
theorem Zi2 : (("change" : Str) == "many") = false := by decide +kernel
theorem Z7t : (("remove" : Str) == "declaration") = false := by decide +kernel
theorem ZgE : (("remove" : Str) == "store") = false := by decide +kernel
theorem ZeX : (("remove" : Str) == "window") = false := by decide +kernel
theorem Zg8 : (("remove" : Str) == "index") = false := by decide +kernel
theorem Z9V : (("remove" : Str) == "full_now") = false := by decide +kernel
theorem Zjx : (("remove" : Str) == "low") = false := by decide +kernel
theorem Zhj : (("remove" : Str) == "high") = false := by decide +kernel
theorem Zdr : (("remove" : Str) == "row_now") = false := by decide +kernel
theorem Zb6 : (("remove" : Str) == "shut_now") = false := by decide +kernel
theorem Zix : (("remove" : Str) == "many") = false := by decide +kernel
theorem Z9k : (("shut" : Str) == "declaration") = false := by decide +kernel
theorem Zk0 : (("shut" : Str) == "store") = false := by decide +kernel
theorem Ziy : (("shut" : Str) == "window") = false := by decide +kernel
theorem ZjN : (("shut" : Str) == "index") = false := by decide +kernel
theorem Zew : (("shut" : Str) == "full_now") = false := by decide +kernel
theorem Zmj : (("shut" : Str) == "low") = false := by decide +kernel
theorem Zlp : (("shut" : Str) == "high") = false := by decide +kernel
theorem Zfu : (("shut" : Str) == "row_now") = false := by decide +kernel
theorem Zff : (("shut" : Str) == "shut_now") = false := by decide +kernel
theorem Zlf : (("shut" : Str) == "many") = false := by decide +kernel
theorem Z7e : (("let_go" : Str) == "declaration") = false := by decide +kernel
theorem Zgc : (("let_go" : Str) == "store") = false := by decide +kernel
theorem ZdK : (("let_go" : Str) == "window") = false := by decide +kernel
theorem ZgG : (("let_go" : Str) == "index") = false := by decide +kernel
theorem Zb5 : (("let_go" : Str) == "full_now") = false := by decide +kernel
theorem Zjp : (("let_go" : Str) == "low") = false := by decide +kernel
theorem Zhm : (("let_go" : Str) == "high") = false := by decide +kernel
theorem Zci : (("let_go" : Str) == "row_now") = false := by decide +kernel
theorem Za6 : (("let_go" : Str) == "shut_now") = false := by decide +kernel
theorem ZhF : (("let_go" : Str) == "many") = false := by decide +kernel
theorem Z4x : (("pass_commit" : Str) == "declaration") = false := by decide +kernel
theorem Z7D : (("pass_commit" : Str) == "store") = false := by decide +kernel
theorem Z7g : (("pass_commit" : Str) == "window") = false := by decide +kernel
theorem Z8t : (("pass_commit" : Str) == "index") = false := by decide +kernel
theorem Z5K : (("pass_commit" : Str) == "full_now") = false := by decide +kernel
theorem Zba : (("pass_commit" : Str) == "low") = false := by decide +kernel
theorem Z9e : (("pass_commit" : Str) == "high") = false := by decide +kernel
theorem Z6m : (("pass_commit" : Str) == "row_now") = false := by decide +kernel
theorem Z5I : (("pass_commit" : Str) == "shut_now") = false := by decide +kernel
theorem Z8J : (("pass_commit" : Str) == "many") = false := by decide +kernel
theorem Z95 : (("fill" : Str) == "declaration") = false := by decide +kernel
theorem Zj6 : (("fill" : Str) == "store") = false := by decide +kernel
theorem Zin : (("fill" : Str) == "window") = false := by decide +kernel
theorem Zje : (("fill" : Str) == "index") = false := by decide +kernel
theorem Zf5 : (("fill" : Str) == "full_now") = false := by decide +kernel
theorem Zmy : (("fill" : Str) == "low") = false := by decide +kernel
theorem Zmc : (("fill" : Str) == "high") = false := by decide +kernel
theorem Zh2 : (("fill" : Str) == "row_now") = false := by decide +kernel
theorem Zfr : (("fill" : Str) == "shut_now") = false := by decide +kernel
theorem Zkp : (("fill" : Str) == "many") = false := by decide +kernel
theorem Z6N : (("forget" : Str) == "declaration") = false := by decide +kernel
theorem ZfX : (("forget" : Str) == "store") = false := by decide +kernel
theorem Zei : (("forget" : Str) == "window") = false := by decide +kernel
theorem ZfO : (("forget" : Str) == "index") = false := by decide +kernel
theorem Zan : (("forget" : Str) == "full_now") = false := by decide +kernel
theorem ZjL : (("forget" : Str) == "low") = false := by decide +kernel
theorem ZiE : (("forget" : Str) == "high") = false := by decide +kernel
theorem ZbM : (("forget" : Str) == "row_now") = false := by decide +kernel
theorem Zbp : (("forget" : Str) == "shut_now") = false := by decide +kernel
theorem Zih : (("forget" : Str) == "many") = false := by decide +kernel
@[simp] theorem Zyx {c : Cu} {rs : List Nat} {lo hi : IV} : (cuF c rs lo hi).length < 1000 := by show 10 < 1000; decide
@[simp] theorem Zq3 {c : Cu} {rs : List Nat} {lo hi : IV} : (cuF c rs lo hi).lookup ("declaration" : Str) = some (.ref c.ld) := by rfl
@[simp] theorem Zwf {c : Cu} {rs : List Nat} {lo hi : IV} : (cuF c rs lo hi).lookup ("store" : Str) = some (.ref c.db) := by simp [cuF, List.lookup, Z8r]
@[simp] theorem Zvg {c : Cu} {rs : List Nat} {lo hi : IV} : (cuF c rs lo hi).lookup ("window" : Str) = some (.lst (refs rs)) := by simp [cuF, List.lookup, Z6Q, Zga]
@[simp] theorem Zw7 {c : Cu} {rs : List Nat} {lo hi : IV} : (cuF c rs lo hi).lookup ("index" : Str) = some (.int c.ix) := by simp [cuF, List.lookup, Z85, Zio, Zfy]
@[simp] theorem ZtN {c : Cu} {rs : List Nat} {lo hi : IV} : (cuF c rs lo hi).lookup ("full_now" : Str) = some (.bl c.full) := by simp [cuF, List.lookup, Z5y, ZbE, ZaV, Zdd]
@[simp] theorem ZwT {c : Cu} {rs : List Nat} {lo hi : IV} : (cuF c rs lo hi).lookup ("low" : Str) = some (lo) := by simp [cuF, List.lookup, Za9, Zkb, ZjK, ZkT, Zg6]
@[simp] theorem ZwI {c : Cu} {rs : List Nat} {lo hi : IV} : (cuF c rs lo hi).lookup ("high" : Str) = some (hi) := by simp [cuF, List.lookup, Z8L, Zjj, ZhL, Zk5, Zez, Zmi]
@[simp] theorem Zuh {c : Cu} {rs : List Nat} {lo hi : IV} : (cuF c rs lo hi).lookup ("row_now" : Str) = some (.bl c.row) := by simp [cuF, List.lookup, Z66, Zf4, Zdx, ZdN, Z8R, Zid, Zha]
@[simp] theorem ZtJ {c : Cu} {rs : List Nat} {lo hi : IV} : (cuF c rs lo hi).lookup ("shut_now" : Str) = some (.bl c.shut) := by simp [cuF, List.lookup, Z5A, Zdp, Z9M, Zdb, Z7F, ZgS, Zfi, Z9l]
@[simp] theorem ZwC {c : Cu} {rs : List Nat} {lo hi : IV} : (cuF c rs lo hi).lookup ("many" : Str) = some (.int c.many) := by simp [cuF, List.lookup, Z94, Zjb, Zhz, Zjo, Zfc, ZmT, Zli, ZfV, ZeV]
@[simp] theorem ZjO {c : Cu} {rs : List Nat} {lo hi : IV} {x : List Nat} : putI "window" (.lst (refs x)) (cuF c rs lo hi) = cuF c x lo hi := by simp [cuF, putI, Z6V, Zh5]
@[simp] theorem Zva {c : Cu} {rs : List Nat} {lo hi : IV} {x : Int} : putI "index" (.int x) (cuF c rs lo hi) = cuF { c with ix := x } rs lo hi := by simp [cuF, putI, Z81, Zi3, Zhf]
@[simp] theorem ZrW {c : Cu} {rs : List Nat} {lo hi : IV} {x : Bool} : putI "full_now" (.bl x) (cuF c rs lo hi) = cuF { c with full := x } rs lo hi := by simp [cuF, putI, Z5L, Zcy, Z9L, ZbD]
@[simp] theorem ZwJ {c : Cu} {rs : List Nat} {lo hi : IV} {x : IV} : putI "low" (x) (cuF c rs lo hi) = cuF c rs x hi := by simp [cuF, putI, Zaf, ZkZ, Zk4, ZkU, Zgn]
@[simp] theorem Zwe {c : Cu} {rs : List Nat} {lo hi : IV} {x : IV} : putI "high" (x) (cuF c rs lo hi) = cuF c rs lo x := by simp [cuF, putI, Z93, ZjM, ZhC, Zjk, Ze9, Zml]
@[simp] theorem ZsY {c : Cu} {rs : List Nat} {lo hi : IV} {x : Bool} : putI "row_now" (.bl x) (cuF c rs lo hi) = cuF { c with row := x } rs lo hi := by simp [cuF, putI, Z6j, ZeQ, ZdB, Zf2, Z9t, ZiB, Zhc]
@[simp] theorem ZrS {c : Cu} {rs : List Nat} {lo hi : IV} {x : Bool} : putI "shut_now" (.bl x) (cuF c rs lo hi) = cuF { c with shut := x } rs lo hi := by simp [cuF, putI, Z5J, Zdj, Z9D, Zcb, Z83, Zgb, Ze3, Z9i]
@[simp] theorem Zwd {c : Cu} {rs : List Nat} {lo hi : IV} {x : Int} : putI "many" (.int x) (cuF c rs lo hi) = cuF { c with many := x } rs lo hi := by simp [cuF, putI, Z8F, ZjJ, Zhp, ZjE, Zet, ZmN, ZkJ, ZgQ, ZeE]
@[simp] theorem ZrT {c : Cu} {rs : List Nat} {lo hi : IV} : ((cuF c rs lo hi).lookup ("set_batch" : Str)).isNone = true := by simp [cuF, List.lookup, Z59, Zav, Z9n, Zbl, Z70, Zer, ZcT, Z7G, Z6C, Zde]
@[simp] theorem Zw9 {c : Cu} {rs : List Nat} {lo hi : IV} : ((cuF c rs lo hi).lookup ("names" : Str)).isNone = true := by simp [cuF, List.lookup, Z8f, Ziv, Zg4, Zho, Zcn, ZkM, Zjw, ZdY, ZbJ, Zjv]
@[simp] theorem Zsj {c : Cu} {rs : List Nat} {lo hi : IV} : ((cuF c rs lo hi).lookup ("standing" : Str)).isNone = true := by simp [cuF, List.lookup, Z5z, ZbK, ZaQ, ZdC, Z7H, ZfC, Zej, Z8T, Z7V, ZdL]
@[simp] theorem ZrU {c : Cu} {rs : List Nat} {lo hi : IV} : ((cuF c rs lo hi).lookup ("read_rows" : Str)).isNone = true := by simp [cuF, List.lookup, Z5p, Zac, Z99, Zat, Z6Z, Zek, Zcq, Z7O, Z6J, Zcz]
@[simp] theorem Zt4 {c : Cu} {rs : List Nat} {lo hi : IV} : ((cuF c rs lo hi).lookup ("low_edge" : Str)).isNone = true := by simp [cuF, List.lookup, Z5E, Zda, Z9H, ZbH, Z7z, Zg9, Zed, Z9x, Z8d, Zen]
@[simp] theorem ZrY {c : Cu} {rs : List Nat} {lo hi : IV} : ((cuF c rs lo hi).lookup ("high_edge" : Str)).isNone = true := by simp [cuF, List.lookup, Z5h, Zam, Z8M, Zak, Z75, ZeG, ZcJ, Z8e, Z6K, Zcw]
@[simp] theorem Zu6 {c : Cu} {rs : List Nat} {lo hi : IV} : ((cuF c rs lo hi).lookup ("empty_at" : Str)).isNone = true := by simp [cuF, List.lookup, Z5D, ZbN, Zb8, ZbY, Z7T, ZgB, Zfs, Z8H, Z88, ZdH]
@[simp] theorem Zul {c : Cu} {rs : List Nat} {lo hi : IV} : ((cuF c rs lo hi).lookup ("step_on" : Str)).isNone = true := by simp [cuF, List.lookup, Z68, ZeK, Zcr, Zfj, Z9v, Zhs, Zfv, Zaj, Z97, Zgg]
@[simp] theorem ZrV {c : Cu} {rs : List Nat} {lo hi : IV} : ((cuF c rs lo hi).lookup ("step_back" : Str)).isNone = true := by simp [cuF, List.lookup, Z4X, ZaB, Z8G, ZaC, Z7r, Ze8, ZcH, Z7R, Z77, Zcf]
@[simp] theorem Zwb {c : Cu} {rs : List Nat} {lo hi : IV} : ((cuF c rs lo hi).lookup ("go_to" : Str)).isNone = true := by simp [cuF, List.lookup, Z84, Zia, ZgU, Ziq, ZcD, Zmd, ZjS, Zec, ZdA, ZjB]
@[simp] theorem Zwz {c : Cu} {rs : List Nat} {lo hi : IV} : ((cuF c rs lo hi).lookup ("move" : Str)).isNone = true := by simp [cuF, List.lookup, Z9d, ZjI, Zig, Zj2, ZeI, Zms, ZkB, Zgi, Zeb, Zl0]
@[simp] theorem Zqz {c : Cu} {rs : List Nat} {lo hi : IV} : ((cuF c rs lo hi).lookup ("take_again" : Str)).isNone = true := by simp [cuF, List.lookup, Z4L, Z9a, Z7U, Z8Y, Z6r, ZbT, ZaG, Z7b, Z6y, Z9Q]
@[simp] theorem Zwj {c : Cu} {rs : List Nat} {lo hi : IV} : ((cuF c rs lo hi).lookup ("fetch" : Str)).isNone = true := by simp [cuF, List.lookup, Z7Z, Zic, Zgf, Zhq, Zd5, Zl3, ZjG, ZdW, ZcM, ZjV]
@[simp] theorem ZwD {c : Cu} {rs : List Nat} {lo hi : IV} : ((cuF c rs lo hi).lookup ("tell" : Str)).isNone = true := by simp [cuF, List.lookup, Z9u, Zjd, Zit, Zjc, Zee, ZmU, ZkG, Zgx, ZdR, Zlo]
@[simp] theorem Zud {c : Cu} {rs : List Nat} {lo hi : IV} : ((cuF c rs lo hi).lookup ("writable" : Str)).isNone = true := by simp [cuF, List.lookup, Z5F, Zcd, Zb3, Zcu, Z7P, ZgC, ZeS, Z8X, Z7Q, Zfo]
@[simp] theorem ZvP {c : Cu} {rs : List Nat} {lo hi : IV} : ((cuF c rs lo hi).lookup ("change" : Str)).isNone = true := by simp [cuF, List.lookup, Z7k, Zg7, ZeR, ZgF, ZaJ, ZjW, ZhP, ZbL, Zbo, Zi2]
@[simp] theorem ZvR {c : Cu} {rs : List Nat} {lo hi : IV} : ((cuF c rs lo hi).lookup ("remove" : Str)).isNone = true := by simp [cuF, List.lookup, Z7t, ZgE, ZeX, Zg8, Z9V, Zjx, Zhj, Zdr, Zb6, Zix]
@[simp] theorem Zwr {c : Cu} {rs : List Nat} {lo hi : IV} : ((cuF c rs lo hi).lookup ("shut" : Str)).isNone = true := by simp [cuF, List.lookup, Z9k, Zk0, Ziy, ZjN, Zew, Zmj, Zlp, Zfu, Zff, Zlf]
@[simp] theorem ZvH {c : Cu} {rs : List Nat} {lo hi : IV} : ((cuF c rs lo hi).lookup ("let_go" : Str)).isNone = true := by simp [cuF, List.lookup, Z7e, Zgc, ZdK, ZgG, Zb5, Zjp, Zhm, Zci, Za6, ZhF]
@[simp] theorem Zq2 {c : Cu} {rs : List Nat} {lo hi : IV} : ((cuF c rs lo hi).lookup ("pass_commit" : Str)).isNone = true := by simp [cuF, List.lookup, Z4x, Z7D, Z7g, Z8t, Z5K, Zba, Z9e, Z6m, Z5I, Z8J]
@[simp] theorem Zwt {c : Cu} {rs : List Nat} {lo hi : IV} : ((cuF c rs lo hi).lookup ("fill" : Str)).isNone = true := by simp [cuF, List.lookup, Z95, Zj6, Zin, Zje, Zf5, Zmy, Zmc, Zh2, Zfr, Zkp]
@[simp] theorem Zv4 {c : Cu} {rs : List Nat} {lo hi : IV} : ((cuF c rs lo hi).lookup ("forget" : Str)).isNone = true := by simp [cuF, List.lookup, Z6N, ZfX, Zei, ZfO, Zan, ZjL, ZiE, ZbM, Zbp, Zih]
def dbF (d : Db) (lk lw lp lc : Nat) : List (Str × IV) := [("table", .ref d.lt), ("events", .int d.ev), ("kept_rows", .ref lk), ("written", .ref lw), ("points", .ref lp), ("cursors", .ref lc), ("begun_at", .int d.bg)]
theorem ZfS : (("events" : Str) == "table") = false := by decide +kernel
theorem Z5V : ¬ (("table" : Str) = "events") := by decide +kernel
theorem Z9I : (("kept_rows" : Str) == "table") = false := by decide +kernel
theorem ZaS : ¬ (("table" : Str) = "kept_rows") := by decide +kernel
theorem Z9g : (("kept_rows" : Str) == "events") = false := by decide +kernel
theorem Z9r : ¬ (("events" : Str) = "kept_rows") := by decide +kernel
theorem Zeq : (("written" : Str) == "table") = false := by decide +kernel
theorem Z54 : ¬ (("table" : Str) = "written") := by decide +kernel
theorem Zch : (("written" : Str) == "events") = false := by decide +kernel
theorem Z4I : ¬ (("events" : Str) = "written") := by decide +kernel
theorem Z8s : (("written" : Str) == "kept_rows") = false := by decide +kernel
theorem Z3B : ¬ (("kept_rows" : Str) = "written") := by decide +kernel
theorem Zgy : (("points" : Str) == "table") = false := by decide +kernel
theorem Z5U : ¬ (("table" : Str) = "points") := by decide +kernel
theorem Zfb : (("points" : Str) == "events") = false := by decide +kernel
theorem Z5l : ¬ (("events" : Str) = "points") := by decide +kernel
theorem Z8I : (("points" : Str) == "kept_rows") = false := by decide +kernel
theorem Z3E : ¬ (("kept_rows" : Str) = "points") := by decide +kernel
theorem Zcp : (("points" : Str) == "written") = false := by decide +kernel
theorem Z4K : ¬ (("written" : Str) = "points") := by decide +kernel
theorem ZdJ : (("cursors" : Str) == "table") = false := by decide +kernel
theorem Z5s : ¬ (("table" : Str) = "cursors") := by decide +kernel
theorem Zdg : (("cursors" : Str) == "events") = false := by decide +kernel
theorem Z4E : ¬ (("events" : Str) = "cursors") := by decide +kernel
theorem Z7y : (("cursors" : Str) == "kept_rows") = false := by decide +kernel
theorem Z3y : ¬ (("kept_rows" : Str) = "cursors") := by decide +kernel
theorem Zb1 : (("cursors" : Str) == "written") = false := by decide +kernel
theorem Z4i : ¬ (("written" : Str) = "cursors") := by decide +kernel
theorem Zc3 : (("cursors" : Str) == "points") = false := by decide +kernel
theorem Z4H : ¬ (("points" : Str) = "cursors") := by decide +kernel
theorem Zdw : (("begun_at" : Str) == "table") = false := by decide +kernel
theorem Z4J : ¬ (("table" : Str) = "begun_at") := by decide +kernel
theorem Z9O : (("begun_at" : Str) == "events") = false := by decide +kernel
theorem Z4m : ¬ (("events" : Str) = "begun_at") := by decide +kernel
theorem Z7f : (("begun_at" : Str) == "kept_rows") = false := by decide +kernel
theorem Z3j : ¬ (("kept_rows" : Str) = "begun_at") := by decide +kernel
theorem Z9o : (("begun_at" : Str) == "written") = false := by decide +kernel
theorem Z3D : ¬ (("written" : Str) = "begun_at") := by decide +kernel
theorem Zab : (("begun_at" : Str) == "points") = false := by decide +kernel
theorem Z4c : ¬ (("points" : Str) = "begun_at") := by decide +kernel
theorem Z91 : (("begun_at" : Str) == "cursors") = false := by decide +kernel
theorem Z3G : ¬ (("cursors" : Str) = "begun_at") := by decide +kernel
theorem Zjm : (("give" : Str) == "table") = false := by decide +kernel
theorem ZhO : (("give" : Str) == "events") = false := by decide +kernel
theorem Zdn : (("give" : Str) == "kept_rows") = false := by decide +kernel
theorem ZfJ : (("give" : Str) == "written") = false := by decide +kernel
theorem ZhX : (("give" : Str) == "points") = false := by decide +kernel
theorem ZfA : (("give" : Str) == "cursors") = false := by decide +kernel
theorem Zeo : (("give" : Str) == "begun_at") = false := by decide +kernel
theorem Zjr : (("rows" : Str) == "table") = false := by decide +kernel
theorem Zhn : (("rows" : Str) == "events") = false := by decide +kernel
theorem Zdh : (("rows" : Str) == "kept_rows") = false := by decide +kernel
theorem Zg2 : (("rows" : Str) == "written") = false := by decide +kernel
theorem Zhi : (("rows" : Str) == "points") = false := by decide +kernel
theorem ZfN : (("rows" : Str) == "cursors") = false := by decide +kernel
theorem ZeF : (("rows" : Str) == "begun_at") = false := by decide +kernel
theorem Zkg : (("row" : Str) == "table") = false := by decide +kernel
theorem ZjR : (("row" : Str) == "events") = false := by decide +kernel
theorem ZdI : (("row" : Str) == "kept_rows") = false := by decide +kernel
theorem ZhA : (("row" : Str) == "written") = false := by decide +kernel
theorem Zjf : (("row" : Str) == "points") = false := by decide +kernel
theorem Zhv : (("row" : Str) == "cursors") = false := by decide +kernel
theorem ZfQ : (("row" : Str) == "begun_at") = false := by decide +kernel
theorem ZiG : (("stamp" : Str) == "table") = false := by decide +kernel
theorem Zgz : (("stamp" : Str) == "events") = false := by decide +kernel
theorem Zbc : (("stamp" : Str) == "kept_rows") = false := by decide +kernel
theorem Ze4 : (("stamp" : Str) == "written") = false := by decide +kernel
theorem ZfK : (("stamp" : Str) == "points") = false := by decide +kernel
theorem ZeY : (("stamp" : Str) == "cursors") = false := by decide +kernel
theorem ZbP : (("stamp" : Str) == "begun_at") = false := by decide +kernel
theorem Zfn : (("is_held" : Str) == "table") = false := by decide +kernel
theorem Zd6 : (("is_held" : Str) == "events") = false := by decide +kernel
theorem Z7M : (("is_held" : Str) == "kept_rows") = false := by decide +kernel
theorem Zbk : (("is_held" : Str) == "written") = false := by decide +kernel
theorem ZcU : (("is_held" : Str) == "points") = false := by decide +kernel
theorem Z9E : (("is_held" : Str) == "cursors") = false := by decide +kernel
theorem Z9p : (("is_held" : Str) == "begun_at") = false := by decide +kernel
theorem ZjU : (("held" : Str) == "table") = false := by decide +kernel
theorem Zib : (("held" : Str) == "events") = false := by decide +kernel
theorem ZbZ : (("held" : Str) == "kept_rows") = false := by decide +kernel
theorem ZgT : (("held" : Str) == "written") = false := by decide +kernel
theorem ZhY : (("held" : Str) == "points") = false := by decide +kernel
theorem ZgI : (("held" : Str) == "cursors") = false := by decide +kernel
theorem ZeJ : (("held" : Str) == "begun_at") = false := by decide +kernel
theorem ZlW : (("put" : Str) == "table") = false := by decide +kernel
theorem Zj7 : (("put" : Str) == "events") = false := by decide +kernel
theorem ZdT : (("put" : Str) == "kept_rows") = false := by decide +kernel
theorem ZiF : (("put" : Str) == "written") = false := by decide +kernel
theorem Zj5 : (("put" : Str) == "points") = false := by decide +kernel
theorem ZhR : (("put" : Str) == "cursors") = false := by decide +kernel
theorem ZfP : (("put" : Str) == "begun_at") = false := by decide +kernel
theorem Zhh : (("write" : Str) == "table") = false := by decide +kernel
theorem ZfU : (("write" : Str) == "events") = false := by decide +kernel
theorem Z9X : (("write" : Str) == "kept_rows") = false := by decide +kernel
theorem Ze5 : (("write" : Str) == "written") = false := by decide +kernel
theorem ZgW : (("write" : Str) == "points") = false := by decide +kernel
theorem Zf1 : (("write" : Str) == "cursors") = false := by decide +kernel
theorem Zcs : (("write" : Str) == "begun_at") = false := by decide +kernel
theorem Zf3 : (("undo_to" : Str) == "table") = false := by decide +kernel
theorem Zcm : (("undo_to" : Str) == "events") = false := by decide +kernel
theorem Z7E : (("undo_to" : Str) == "kept_rows") = false := by decide +kernel
theorem Za5 : (("undo_to" : Str) == "written") = false := by decide +kernel
theorem Zco : (("undo_to" : Str) == "points") = false := by decide +kernel
theorem Zbi : (("undo_to" : Str) == "cursors") = false := by decide +kernel
theorem Z8Z : (("undo_to" : Str) == "begun_at") = false := by decide +kernel
theorem Zgh : (("answer" : Str) == "table") = false := by decide +kernel
theorem Ze7 : (("answer" : Str) == "events") = false := by decide +kernel
theorem Z8U : (("answer" : Str) == "kept_rows") = false := by decide +kernel
theorem Zcg : (("answer" : Str) == "written") = false := by decide +kernel
theorem ZeM : (("answer" : Str) == "points") = false := by decide +kernel
theorem Zdk : (("answer" : Str) == "cursors") = false := by decide +kernel
theorem Zbh : (("answer" : Str) == "begun_at") = false := by decide +kernel
theorem ZdX : (("declare" : Str) == "table") = false := by decide +kernel
theorem ZcX : (("declare" : Str) == "events") = false := by decide +kernel
theorem Z80 : (("declare" : Str) == "kept_rows") = false := by decide +kernel
theorem Z9P : (("declare" : Str) == "written") = false := by decide +kernel
theorem ZbG : (("declare" : Str) == "points") = false := by decide +kernel
theorem ZaK : (("declare" : Str) == "cursors") = false := by decide +kernel
theorem Z9s : (("declare" : Str) == "begun_at") = false := by decide +kernel
theorem Zap : (("savepoint" : Str) == "table") = false := by decide +kernel
theorem Z8W : (("savepoint" : Str) == "events") = false := by decide +kernel
theorem Z6c : (("savepoint" : Str) == "kept_rows") = false := by decide +kernel
theorem Z7W : (("savepoint" : Str) == "written") = false := by decide +kernel
theorem Z8P : (("savepoint" : Str) == "points") = false := by decide +kernel
theorem Z82 : (("savepoint" : Str) == "cursors") = false := by decide +kernel
theorem Z7a : (("savepoint" : Str) == "begun_at") = false := by decide +kernel
theorem Z7I : (("rollback_to" : Str) == "table") = false := by decide +kernel
theorem Z7o : (("rollback_to" : Str) == "events") = false := by decide +kernel
theorem Z53 : (("rollback_to" : Str) == "kept_rows") = false := by decide +kernel
theorem Z6t : (("rollback_to" : Str) == "written") = false := by decide +kernel
theorem Z72 : (("rollback_to" : Str) == "points") = false := by decide +kernel
theorem Z64 : (("rollback_to" : Str) == "cursors") = false := by decide +kernel
theorem Z5G : (("rollback_to" : Str) == "begun_at") = false := by decide +kernel
theorem Z87 : (("let_go_from" : Str) == "table") = false := by decide +kernel
theorem Z6T : (("let_go_from" : Str) == "events") = false := by decide +kernel
theorem Z5q : (("let_go_from" : Str) == "kept_rows") = false := by decide +kernel
theorem Z6b : (("let_go_from" : Str) == "written") = false := by decide +kernel
theorem Z7p : (("let_go_from" : Str) == "points") = false := by decide +kernel
theorem Z6d : (("let_go_from" : Str) == "cursors") = false := by decide +kernel
theorem Z5M : (("let_go_from" : Str) == "begun_at") = false := by decide +kernel
theorem ZeN : (("attempt" : Str) == "table") = false := by decide +kernel
theorem Zcj : (("attempt" : Str) == "events") = false := by decide +kernel
theorem Z7K : (("attempt" : Str) == "kept_rows") = false := by decide +kernel
theorem ZaO : (("attempt" : Str) == "written") = false := by decide +kernel
theorem ZcF : (("attempt" : Str) == "points") = false := by decide +kernel
theorem Zbd : (("attempt" : Str) == "cursors") = false := by decide +kernel
theorem Z8O : (("attempt" : Str) == "begun_at") = false := by decide +kernel
theorem ZfY : (("commit" : Str) == "table") = false := by decide +kernel
theorem Zf0 : (("commit" : Str) == "events") = false := by decide +kernel
theorem Z9j : (("commit" : Str) == "kept_rows") = false := by decide +kernel
theorem Zdf : (("commit" : Str) == "written") = false := by decide +kernel
theorem ZeC : (("commit" : Str) == "points") = false := by decide +kernel
theorem Zd2 : (("commit" : Str) == "cursors") = false := by decide +kernel
theorem Za3 : (("commit" : Str) == "begun_at") = false := by decide +kernel
theorem Zc8 : (("rollback" : Str) == "table") = false := by decide +kernel
theorem Zb2 : (("rollback" : Str) == "events") = false := by decide +kernel
theorem Z7i : (("rollback" : Str) == "kept_rows") = false := by decide +kernel
theorem Z8N : (("rollback" : Str) == "written") = false := by decide +kernel
theorem Z9S : (("rollback" : Str) == "points") = false := by decide +kernel
theorem Z9f : (("rollback" : Str) == "cursors") = false := by decide +kernel
theorem Z8q : (("rollback" : Str) == "begun_at") = false := by decide +kernel
@[simp] theorem ZoG {d : Db} {lk lw lp lc : Nat} : (dbF d lk lw lp lc).length < 1000 := by show 7 < 1000; decide
@[simp] theorem Zwl {d : Db} {lk lw lp lc : Nat} : (dbF d lk lw lp lc).lookup ("table" : Str) = some (.ref d.lt) := by rfl
@[simp] theorem Zbn {d : Db} {lk lw lp lc : Nat} : (dbF d lk lw lp lc).lookup ("events" : Str) = some (.int d.ev) := by simp [dbF, List.lookup, ZfS]
@[simp] theorem Zs0 {d : Db} {lk lw lp lc : Nat} : (dbF d lk lw lp lc).lookup ("kept_rows" : Str) = some (.ref lk) := by simp [dbF, List.lookup, Z9I, Z9g]
@[simp] theorem Zuk {d : Db} {lk lw lp lc : Nat} : (dbF d lk lw lp lc).lookup ("written" : Str) = some (.ref lw) := by simp [dbF, List.lookup, Zeq, Zch, Z8s]
@[simp] theorem Zw5 {d : Db} {lk lw lp lc : Nat} : (dbF d lk lw lp lc).lookup ("points" : Str) = some (.ref lp) := by simp [dbF, List.lookup, Zgy, Zfb, Z8I, Zcp]
@[simp] theorem Zui {d : Db} {lk lw lp lc : Nat} : (dbF d lk lw lp lc).lookup ("cursors" : Str) = some (.ref lc) := by simp [dbF, List.lookup, ZdJ, Zdg, Z7y, Zb1, Zc3]
@[simp] theorem Zte {d : Db} {lk lw lp lc : Nat} : (dbF d lk lw lp lc).lookup ("begun_at" : Str) = some (.int d.bg) := by simp [dbF, List.lookup, Zdw, Z9O, Z7f, Z9o, Zab, Z91]
@[simp] theorem Z8z {d : Db} {lk lw lp lc : Nat} {x : Int} : putI "events" (.int x) (dbF d lk lw lp lc) = dbF { d with ev := x } lk lw lp lc := by simp [dbF, putI, Z5V]
@[simp] theorem ZsP {d : Db} {lk lw lp lc : Nat} {x : Nat} : putI "written" (.ref x) (dbF d lk lw lp lc) = dbF d lk x lp lc := by simp [dbF, putI, Z54, Z4I, Z3B]
@[simp] theorem Zum {d : Db} {lk lw lp lc : Nat} {x : Nat} : putI "points" (.ref x) (dbF d lk lw lp lc) = dbF d lk lw x lc := by simp [dbF, putI, Z5U, Z5l, Z3E, Z4K]
@[simp] theorem Zs5 {d : Db} {lk lw lp lc : Nat} {x : Nat} : putI "cursors" (.ref x) (dbF d lk lw lp lc) = dbF d lk lw lp x := by simp [dbF, putI, Z5s, Z4E, Z3y, Z4i, Z4H]
@[simp] theorem ZrX {d : Db} {lk lw lp lc : Nat} {x : Int} : putI "begun_at" (.int x) (dbF d lk lw lp lc) = dbF { d with bg := x } lk lw lp lc := by simp [dbF, putI, Z4J, Z4m, Z3j, Z3D, Z4c, Z3G]
@[simp] theorem ZwE {d : Db} {lk lw lp lc : Nat} : ((dbF d lk lw lp lc).lookup ("give" : Str)).isNone = true := by simp [dbF, List.lookup, Zjm, ZhO, Zdn, ZfJ, ZhX, ZfA, Zeo]
@[simp] theorem ZwM {d : Db} {lk lw lp lc : Nat} : ((dbF d lk lw lp lc).lookup ("rows" : Str)).isNone = true := by simp [dbF, List.lookup, Zjr, Zhn, Zdh, Zg2, Zhi, ZfN, ZeF]
@[simp] theorem ZwN {d : Db} {lk lw lp lc : Nat} : ((dbF d lk lw lp lc).lookup ("row" : Str)).isNone = true := by simp [dbF, List.lookup, Zkg, ZjR, ZdI, ZhA, Zjf, Zhv, ZfQ]
@[simp] theorem Zwn {d : Db} {lk lw lp lc : Nat} : ((dbF d lk lw lp lc).lookup ("stamp" : Str)).isNone = true := by simp [dbF, List.lookup, ZiG, Zgz, Zbc, Ze4, ZfK, ZeY, ZbP]
@[simp] theorem Zug {d : Db} {lk lw lp lc : Nat} : ((dbF d lk lw lp lc).lookup ("is_held" : Str)).isNone = true := by simp [dbF, List.lookup, Zfn, Zd6, Z7M, Zbk, ZcU, Z9E, Z9p]
@[simp] theorem Zwp {d : Db} {lk lw lp lc : Nat} : ((dbF d lk lw lp lc).lookup ("held" : Str)).isNone = true := by simp [dbF, List.lookup, ZjU, Zib, ZbZ, ZgT, ZhY, ZgI, ZeJ]
@[simp] theorem Zx3 {d : Db} {lk lw lp lc : Nat} : ((dbF d lk lw lp lc).lookup ("put" : Str)).isNone = true := by simp [dbF, List.lookup, ZlW, Zj7, ZdT, ZiF, Zj5, ZhR, ZfP]
@[simp] theorem Zwk {d : Db} {lk lw lp lc : Nat} : ((dbF d lk lw lp lc).lookup ("write" : Str)).isNone = true := by simp [dbF, List.lookup, Zhh, ZfU, Z9X, Ze5, ZgW, Zf1, Zcs]
@[simp] theorem Zuj {d : Db} {lk lw lp lc : Nat} : ((dbF d lk lw lp lc).lookup ("undo_to" : Str)).isNone = true := by simp [dbF, List.lookup, Zf3, Zcm, Z7E, Za5, Zco, Zbi, Z8Z]
@[simp] theorem Zvm {d : Db} {lk lw lp lc : Nat} : ((dbF d lk lw lp lc).lookup ("answer" : Str)).isNone = true := by simp [dbF, List.lookup, Zgh, Ze7, Z8U, Zcg, ZeM, Zdk, Zbh]
@[simp] theorem Zue {d : Db} {lk lw lp lc : Nat} : ((dbF d lk lw lp lc).lookup ("declare" : Str)).isNone = true := by simp [dbF, List.lookup, ZdX, ZcX, Z80, Z9P, ZbG, ZaK, Z9s]
@[simp] theorem ZrR {d : Db} {lk lw lp lc : Nat} : ((dbF d lk lw lp lc).lookup ("savepoint" : Str)).isNone = true := by simp [dbF, List.lookup, Zap, Z8W, Z6c, Z7W, Z8P, Z82, Z7a]
@[simp] theorem Zq4 {d : Db} {lk lw lp lc : Nat} : ((dbF d lk lw lp lc).lookup ("rollback_to" : Str)).isNone = true := by simp [dbF, List.lookup, Z7I, Z7o, Z53, Z6t, Z72, Z64, Z5G]
@[simp] theorem Zq1 {d : Db} {lk lw lp lc : Nat} : ((dbF d lk lw lp lc).lookup ("let_go_from" : Str)).isNone = true := by simp [dbF, List.lookup, Z87, Z6T, Z5q, Z6b, Z7p, Z6d, Z5M]
@[simp] theorem Zuf {d : Db} {lk lw lp lc : Nat} : ((dbF d lk lw lp lc).lookup ("attempt" : Str)).isNone = true := by simp [dbF, List.lookup, ZeN, Zcj, Z7K, ZaO, ZcF, Zbd, Z8O]
@[simp] theorem Zux {d : Db} {lk lw lp lc : Nat} : ((dbF d lk lw lp lc).lookup ("commit" : Str)).isNone = true := by simp [dbF, List.lookup, ZfY, Zf0, Z9j, Zdf, ZeC, Zd2, Za3]
@[simp] theorem Zu2 {d : Db} {lk lw lp lc : Nat} : ((dbF d lk lw lp lc).lookup ("rollback" : Str)).isNone = true := by simp [dbF, List.lookup, Zc8, Zb2, Z7i, Z8N, Z9S, Z9f, Z8q]
theorem Zv1 {v0 : IV} : putI "table" v0 [] = [(("table" : Str), v0)] := by rfl
theorem ZvS {v0 v1 : IV} : putI "events" v1 [(("table" : Str), v0)] = [(("table" : Str), v0), (("events" : Str), v1)] := by simp [putI, Z5V]
theorem Zv0 {v0 v1 v2 : IV} : putI "kept_rows" v2 [(("table" : Str), v0), (("events" : Str), v1)] = [(("table" : Str), v0), (("events" : Str), v1), (("kept_rows" : Str), v2)] := by simp [putI, ZaS, Z9r]
theorem Zvi {v0 v1 v2 v3 : IV} : putI "written" v3 [(("table" : Str), v0), (("events" : Str), v1), (("kept_rows" : Str), v2)] = [(("table" : Str), v0), (("events" : Str), v1), (("kept_rows" : Str), v2), (("written" : Str), v3)] := by simp [putI, Z54, Z4I, Z3B]
theorem Zvz {v0 v1 v2 v3 v4 : IV} : putI "points" v4 [(("table" : Str), v0), (("events" : Str), v1), (("kept_rows" : Str), v2), (("written" : Str), v3)] = [(("table" : Str), v0), (("events" : Str), v1), (("kept_rows" : Str), v2), (("written" : Str), v3), (("points" : Str), v4)] := by simp [putI, Z5U, Z5l, Z3E, Z4K]
theorem ZvV {v0 v1 v2 v3 v4 v5 : IV} : putI "cursors" v5 [(("table" : Str), v0), (("events" : Str), v1), (("kept_rows" : Str), v2), (("written" : Str), v3), (("points" : Str), v4)] = [(("table" : Str), v0), (("events" : Str), v1), (("kept_rows" : Str), v2), (("written" : Str), v3), (("points" : Str), v4), (("cursors" : Str), v5)] := by simp [putI, Z5s, Z4E, Z3y, Z4i, Z4H]
theorem ZuR {v0 v1 v2 v3 v4 v5 v6 : IV} : putI "begun_at" v6 [(("table" : Str), v0), (("events" : Str), v1), (("kept_rows" : Str), v2), (("written" : Str), v3), (("points" : Str), v4), (("cursors" : Str), v5)] = [(("table" : Str), v0), (("events" : Str), v1), (("kept_rows" : Str), v2), (("written" : Str), v3), (("points" : Str), v4), (("cursors" : Str), v5), (("begun_at" : Str), v6)] := by simp [putI, Z4J, Z4m, Z3j, Z3D, Z4c, Z3G]
def dcF (d : Dc) : List (Str × IV) := [("where", .ref d.lw), ("by", .ref d.lo), ("table", .ref d.lt), ("reach", .int d.reach), ("copied", .bl d.copied), ("hold", .str d.hold), ("locked", .bl d.locked), ("check", .str d.check)]
theorem ZmI : (("by" : Str) == "where") = false := by decide +kernel
theorem Zi8 : (("table" : Str) == "where") = false := by decide +kernel
theorem ZmX : (("table" : Str) == "by") = false := by decide +kernel
theorem ZhT : (("reach" : Str) == "where") = false := by decide +kernel
theorem ZmV : (("reach" : Str) == "by") = false := by decide +kernel
theorem Zhu : (("reach" : Str) == "table") = false := by decide +kernel
theorem Zhe : (("copied" : Str) == "where") = false := by decide +kernel
theorem ZlU : (("copied" : Str) == "by") = false := by decide +kernel
theorem Zhg : (("copied" : Str) == "table") = false := by decide +kernel
theorem ZfM : (("copied" : Str) == "reach") = false := by decide +kernel
theorem ZjH : (("hold" : Str) == "where") = false := by decide +kernel
theorem Zo1 : (("hold" : Str) == "by") = false := by decide +kernel
theorem Zj8 : (("hold" : Str) == "table") = false := by decide +kernel
theorem ZjZ : (("hold" : Str) == "reach") = false := by decide +kernel
theorem ZiH : (("hold" : Str) == "copied") = false := by decide +kernel
theorem ZgN : (("locked" : Str) == "where") = false := by decide +kernel
theorem Zlu : (("locked" : Str) == "by") = false := by decide +kernel
theorem Zg5 : (("locked" : Str) == "table") = false := by decide +kernel
theorem ZgK : (("locked" : Str) == "reach") = false := by decide +kernel
theorem ZdO : (("locked" : Str) == "copied") = false := by decide +kernel
theorem ZhV : (("locked" : Str) == "hold") = false := by decide +kernel
theorem Zie : (("check" : Str) == "where") = false := by decide +kernel
theorem ZmQ : (("check" : Str) == "by") = false := by decide +kernel
theorem Zil : (("check" : Str) == "table") = false := by decide +kernel
theorem Zi9 : (("check" : Str) == "reach") = false := by decide +kernel
theorem Zge : (("check" : Str) == "copied") = false := by decide +kernel
theorem Zj4 : (("check" : Str) == "hold") = false := by decide +kernel
theorem Zgm : (("check" : Str) == "locked") = false := by decide +kernel
theorem ZlZ : (("ALL" : Str) == "where") = false := by decide +kernel
theorem Zpe : (("ALL" : Str) == "by") = false := by decide +kernel
theorem Zlm : (("ALL" : Str) == "table") = false := by decide +kernel
theorem Zkq : (("ALL" : Str) == "reach") = false := by decide +kernel
theorem Zj3 : (("ALL" : Str) == "copied") = false := by decide +kernel
theorem ZmC : (("ALL" : Str) == "hold") = false := by decide +kernel
theorem Zjh : (("ALL" : Str) == "locked") = false := by decide +kernel
theorem ZlQ : (("ALL" : Str) == "check") = false := by decide +kernel
theorem Z9q : (("with_parts" : Str) == "where") = false := by decide +kernel
theorem Zf9 : (("with_parts" : Str) == "by") = false := by decide +kernel
theorem Z90 : (("with_parts" : Str) == "table") = false := by decide +kernel
theorem Z8V : (("with_parts" : Str) == "reach") = false := by decide +kernel
theorem Z8u : (("with_parts" : Str) == "copied") = false := by decide +kernel
theorem Zb7 : (("with_parts" : Str) == "hold") = false := by decide +kernel
theorem Z7S : (("with_parts" : Str) == "locked") = false := by decide +kernel
theorem Z8S : (("with_parts" : Str) == "check") = false := by decide +kernel
@[simp] theorem ZyA {d : Dc} : (dcF d).length < 1000 := by show 8 < 1000; decide
@[simp] theorem Zw6 {d : Dc} : (dcF d).lookup ("where" : Str) = some (.ref d.lw) := by rfl
@[simp] theorem Zxw {d : Dc} : (dcF d).lookup ("by" : Str) = some (.ref d.lo) := by simp [dcF, List.lookup, ZmI]
@[simp] theorem Zwh {d : Dc} : (dcF d).lookup ("table" : Str) = some (.ref d.lt) := by simp [dcF, List.lookup, Zi8, ZmX]
@[simp] theorem Zw8 {d : Dc} : (dcF d).lookup ("reach" : Str) = some (.int d.reach) := by simp [dcF, List.lookup, ZhT, ZmV, Zhu]
@[simp] theorem ZvT {d : Dc} : (dcF d).lookup ("copied" : Str) = some (.bl d.copied) := by simp [dcF, List.lookup, Zhe, ZlU, Zhg, ZfM]
@[simp] theorem ZwG {d : Dc} : (dcF d).lookup ("hold" : Str) = some (.str d.hold) := by simp [dcF, List.lookup, ZjH, Zo1, Zj8, ZjZ, ZiH]
@[simp] theorem ZuO {d : Dc} : (dcF d).lookup ("locked" : Str) = some (.bl d.locked) := by simp [dcF, List.lookup, ZgN, Zlu, Zg5, ZgK, ZdO, ZhV]
@[simp] theorem Zwg {d : Dc} : (dcF d).lookup ("check" : Str) = some (.str d.check) := by simp [dcF, List.lookup, Zie, ZmQ, Zil, Zi9, Zge, Zj4, Zgm]
@[simp] theorem ZwU {d : Dc} : ((dcF d).lookup ("ALL" : Str)).isNone = true := by simp [dcF, List.lookup, ZlZ, Zpe, Zlm, Zkq, Zj3, ZmC, Zjh, ZlQ]
@[simp] theorem Zq5 {d : Dc} : ((dcF d).lookup ("with_parts" : Str)).isNone = true := by simp [dcF, List.lookup, Z9q, Zf9, Z90, Z8V, Z8u, Zb7, Z7S, Z8S]
@[simp] theorem ZwK {c : Cu} {rs : List Nat} {lo hi : IV} : putI "window" (.lst []) (cuF c rs lo hi) = cuF c [] lo hi := ZjO (x := [])
@[simp] theorem ZvE {e : En} {lp : Nat} {x y : Int} : putI "mark" (.tup [.int x, .int y]) (enF e lp) = enF { e with life := x, last := y } lp := ZmY (x := (x, y))
end K22
namespace K22
open PySem PySem.Spec PyProof.Rows L2 Mi PySem.W
abbrev Ow := Nat → Nat
structure Xt (ow : Ow) (st : Sto) (S : Nat → Prop) (ow' : Ow) (st' : Sto) : Prop where
  len : st.length ≤ st'.length
  own : ∀ p, p < st.length → ow' p = ow p
  keep : ∀ p, p < st.length → ¬ S (ow p) → st'[p]? = st[p]?
abbrev none0 : Nat → Prop := fun _ => False
def Cel (ow : Ow) (k : Nat) (st : Sto) (p : Nat) (o : Mi.IO) : Prop := ow p = k ∧ st[p]? = some o
section
variable {ow ow' ow2 : Ow} {st st' st2 : Sto} {S S' : Nat → Prop} {k p q : Nat} {o u : Mi.IO}
theorem Xt.refl : Xt ow st S ow st := ⟨Nat.le_refl _, fun _ _ => rfl, fun _ _ _ => rfl⟩
theorem Xt.trans (a : Xt ow st S ow' st') (b : Xt ow' st' S ow2 st2) : Xt ow st S ow2 st2 :=
  ⟨Nat.le_trans a.len b.len, fun p h => (b.own p (Nat.lt_of_lt_of_le h a.len)).trans (a.own p h), fun p h n => (b.keep p (Nat.lt_of_lt_of_le h a.len) (by rw [a.own p h]; exact n)).trans (a.keep p h n)⟩
theorem Xt.mono (a : Xt ow st S ow' st') (h : ∀ k, S k → S' k) : Xt ow st S' ow' st' := ⟨a.len, a.own, fun p hp n => a.keep p hp fun z => n (h _ z)⟩
theorem Cel.lt (h : Cel ow k st p o) : p < st.length := (List.getElem?_eq_some_iff.mp h.2).1
theorem Cel.xt (h : Cel ow k st p o) (x : Xt ow st S ow' st') (n : ¬ S k) : Cel ow' k st' p o :=
  ⟨(x.own p h.lt).trans h.1, (x.keep p h.lt (by rw [h.1]; exact n)).trans h.2⟩
def owN (ow : Ow) (p k : Nat) : Ow := fun q => if q = p then k else ow q
theorem Zvs : owN ow p k p = k := if_pos rfl
theorem ZuP (h : q ≠ p) : owN ow p k q = ow q := if_neg h
theorem ZvL (hl : st'.length = st.length + 1) (hk : ∀ j, j < st.length → st'[j]? = st[j]?) : Xt ow st S (owN ow st.length k) st' :=
  ⟨by omega, fun p h => ZuP (by omega), fun p h _ => hk p h⟩
theorem Zng : Xt ow st S (owN ow st.length k) (st ++ [o]) := ZvL (by simp) fun j hj => List.getElem?_append_left hj
theorem Zlg : Cel (owN ow st.length k) k (st ++ [o]) st.length o := ⟨Zvs, by simp⟩
theorem ZaW (h : ow p = k) (hS : S k) : Xt ow st S ow (st.set p o) := ⟨by simp, fun _ _ => rfl, fun q hq n => List.getElem?_set_ne fun z => n (by rw [← z, h]; exact hS)⟩
theorem Cel.set (h : Cel ow k st p u) : Cel ow k (st.set p o) p o := ⟨h.1, List.getElem?_set_self h.lt⟩
theorem Cel.setN (h : Cel ow k st p u) (n : q ≠ p) : Cel ow k (st.set q o) p u := ⟨h.1, by rw [List.getElem?_set_ne n]; exact h.2⟩
end
def PlO (ow : Ow) (l : Nat) (its : List (Nat × Int)) (way : Int) (R : Rk) (st : Sto) : Prop := ow l = 0 ∧ PlR l its way R st
def BdO (ow : Ow) (its : List (Nat × Int)) (way : Int) (st : Sto) (v : IV) : Option Rk → Prop
  | none => v = .non
  | some R => ∃ l, v = .ref l ∧ PlO ow l its way R st
structure DcAt (ow : Ow) (st : Sto) (ld : Nat) (cs : List IV) (d : Dc) : Prop where
  hd : Cel ow 0 st ld (.ins "Declaration" (dcF d))
  hw : ow d.lw = 0 ∧ CndAt d.lw d.lt cs d.W d.t st
  ho : ow d.lo = 0 ∧ OrdAt d.lo d.lt d.its d.way st
  ht : ow d.lt = 0 ∧ TabAt d.lt cs st
  hits : Its cs d.its
  hway : d.way = 1 ∨ d.way = -1
  hrch : 0 ≤ d.reach ∧ d.reach ≤ 9
section
variable {ow ow' : Ow} {st st' : Sto} {S : Nat → Prop} {its : List (Nat × Int)} {way : Int} {R : Rk} {l ld : Nat} {v : IV} {b : Option Rk} {cs : List IV} {d : Dc}
theorem PlO.xt (h : PlO ow l its way R st) (x : Xt ow st S ow' st') (n : ¬ S 0) : PlO ow' l its way R st' := Cel.xt (k := 0) h x n
theorem BdO.xt (h : BdO ow its way st v b) (x : Xt ow st S ow' st') (n : ¬ S 0) : BdO ow' its way st' v b := by
  cases b with
  | none => exact h
  | some R => obtain ⟨l, e, h⟩ := h; exact ⟨l, e, h.xt x n⟩
theorem DcAt.xt (h : DcAt ow st ld cs d) (x : Xt ow st S ow' st') (n : ¬ S 0) : DcAt ow' st' ld cs d :=
  ⟨h.hd.xt x n, Cel.xt (k := 0) h.hw x n, Cel.xt (k := 0) h.ho x n, Cel.xt (k := 0) h.ht x n, h.hits, h.hway, h.hrch⟩
theorem DcAt.ins (h : DcAt ow st ld cs d) : insAt st [("Declaration" : Str)] (.ref ld) = some (ld, ("Declaration" : Str), dcF d) := ZL h.hd.2 List.mem_cons_self
end
def rwV (r : Rw) : IV := .tup [.tup r.vs, .tup [.int r.life, .int r.last]]
def rwI (r : Rw) : Key × IV := (.inl r.name, rwV r)
def wrV (r : Rw) : IV := .tup [.int r.name, rwV r]
def ptV (p : Int × Int) : IV := .tup [.int p.1, .int p.2]
structure DbAt (ow : Ow) (st : Sto) (b lk lw lp lc : Nat) (d : Db) : Prop where
  hb : Cel ow (b + 1) st b (.ins "Database" (dbF d lk lw lp lc))
  hk : Cel ow (b + 1) st lk (.dic (d.rows.map rwI))
  hw : Cel ow (b + 1) st lw (.lst (d.wr.map wrV))
  hp : Cel ow (b + 1) st lp (.lst (d.pts.map ptV))
  hc : Cel ow (b + 1) st lc (.lst (refs d.cus))
  n1 : lw ≠ lp
  n2 : lw ≠ lc
  n3 : lp ≠ lc
structure RwsOk (cs : List IV) (rs : List Rw) : Prop where
  nd : (rs.map (·.name)).Nodup
  vs : ∀ r ∈ rs, inTs r.vs cs = true
  few : rs.length ≤ 1000
def EnAt (ow : Ow) (k : Nat) (st : Sto) (its : List (Nat × Int)) (way : Int) (r : Nat) (e : En) : Prop := ∃ lp, Cel ow k st r (.ins "Entry" (enF e lp)) ∧ PlO ow lp its way e.pl st
def EnsAt (ow : Ow) (k : Nat) (st : Sto) (its : List (Nat × Int)) (way : Int) : List Nat → List En → Prop
  | [], [] => True
  | r :: rs, e :: es => EnAt ow k st its way r e ∧ EnsAt ow k st its way rs es
  | _, _ => False
def SdAt (ow : Ow) (its : List (Nat × Int)) (way : Int) (st : Sto) (v : IV) (s : Sd) : Prop := ∃ w, v = .tup [.int s.1, w] ∧ BdO ow its way st w s.2
structure CuAt (ow : Ow) (st : Sto) (its : List (Nat × Int)) (way : Int) (r : Nat) (rs : List Nat) (lo hi : IV) (c : Cu) : Prop where
  hc : Cel ow (r + 1) st r (.ins "Cursor" (cuF c rs lo hi))
  hes : EnsAt ow (r + 1) st its way rs c.es
  nd : rs.Nodup
  hlo : SdAt ow its way st lo c.low
  hhi : SdAt ow its way st hi c.high
section
variable {ow ow' : Ow} {st st' : Sto} {S : Nat → Prop} {its : List (Nat × Int)} {way : Int} {b lk lw lp lc k r q : Nat} {d : Db} {e e' : En} {es : List En} {rs : List Nat} {v lo hi : IV} {s : Sd} {c : Cu} {cs : List IV}
theorem DbAt.xt (h : DbAt ow st b lk lw lp lc d) (x : Xt ow st S ow' st') (n : ¬ S (b + 1)) : DbAt ow' st' b lk lw lp lc d := ⟨h.hb.xt x n, h.hk.xt x n, h.hw.xt x n, h.hp.xt x n, h.hc.xt x n, h.n1, h.n2, h.n3⟩
theorem DbAt.ins (h : DbAt ow st b lk lw lp lc d) : insAt st [("Database" : Str)] (.ref b) = some (b, ("Database" : Str), dbF d lk lw lp lc) := ZL h.hb.2 List.mem_cons_self
theorem DbAt.nk (h : DbAt ow st b lk lw lp lc d) : lk ≠ b ∧ lw ≠ b ∧ lp ≠ b ∧ lc ≠ b ∧ lk ≠ lw ∧ lk ≠ lp ∧ lk ≠ lc := by
  have e1 := h.hb.2; have e2 := h.hk.2; have e3 := h.hw.2; have e4 := h.hp.2; have e5 := h.hc.2
  refine ⟨?_, ?_, ?_, ?_, ?_, ?_, ?_⟩ <;> rintro rfl
  · rw [e1] at e2; cases e2
  · rw [e1] at e3; cases e3
  · rw [e1] at e4; cases e4
  · rw [e1] at e5; cases e5
  · rw [e2] at e3; cases e3
  · rw [e2] at e4; cases e4
  · rw [e2] at e5; cases e5
theorem EnAt.xt (h : EnAt ow k st its way r e) (x : Xt ow st S ow' st') (n : ¬ S k) (n0 : ¬ S 0) : EnAt ow' k st' its way r e := by
  obtain ⟨lp, h1, h2⟩ := h
  exact ⟨lp, h1.xt x n, h2.xt x n0⟩
theorem EnAt.setN (h : EnAt ow k st its way r e) (hq : ow q ≠ 0) {o : Mi.IO} (n : q ≠ r) : EnAt ow k (st.set q o) its way r e := by
  obtain ⟨lp, h1, h2⟩ := h
  exact ⟨lp, h1.setN n, Cel.setN (k := 0) h2 fun z => hq (by rw [z]; exact h2.1)⟩
theorem EnsAt.xt (x : Xt ow st S ow' st') (n : ¬ S k) (n0 : ¬ S 0) : ∀ {rs : List Nat} {es : List En}, EnsAt ow k st its way rs es → EnsAt ow' k st' its way rs es
  | [], [], _ => trivial
  | _ :: _, _ :: _, h => ⟨h.1.xt x n n0, EnsAt.xt x n n0 h.2⟩
  | [], _ :: _, h => h.elim
  | _ :: _, [], h => h.elim
theorem EnsAt.len : ∀ {rs : List Nat} {es : List En}, EnsAt ow k st its way rs es → rs.length = es.length
  | [], [], _ => rfl
  | _ :: _, _ :: _, h => by rw [List.length_cons, List.length_cons, EnsAt.len h.2]
  | [], _ :: _, h => h.elim
  | _ :: _, [], h => h.elim
theorem EnsAt.get : ∀ {rs : List Nat} {es : List En} {i : Nat} {e : En}, EnsAt ow k st its way rs es → es[i]? = some e → ∃ r, rs[i]? = some r ∧ EnAt ow k st its way r e
  | [], [], i, e, _, he => by simp at he
  | r :: rs, e0 :: es, 0, e, h, he => by
    have : e0 = e := by simpa using he
    subst this
    exact ⟨r, rfl, h.1⟩
  | r :: rs, e0 :: es, i + 1, e, h, he => by
    obtain ⟨q, h1, h2⟩ := EnsAt.get (i := i) h.2 (by simpa using he)
    exact ⟨q, by simpa using h1, h2⟩
  | [], _ :: _, _, _, h, _ => h.elim
  | _ :: _, [], _, _, h, _ => h.elim
theorem EnsAt.mem : ∀ {rs : List Nat} {es : List En} {r : Nat}, EnsAt ow k st its way rs es → r ∈ rs → ∃ e, EnAt ow k st its way r e
  | [], _, _, _, h => by cases h
  | r :: rs, e0 :: es, q, h, hm => by
    rcases List.mem_cons.mp hm with rfl | hm
    · exact ⟨e0, h.1⟩
    · exact EnsAt.mem h.2 hm
  | _ :: _, [], _, h, _ => h.elim
theorem EnsAt.take : ∀ {rs : List Nat} {es : List En} (n : Nat), EnsAt ow k st its way rs es → EnsAt ow k st its way (rs.take n) (es.take n)
  | _, _, 0, _ => by simp [EnsAt]
  | [], [], n + 1, _ => by simp [EnsAt]
  | _ :: _, _ :: _, n + 1, h => ⟨h.1, EnsAt.take n h.2⟩
  | [], _ :: _, _ + 1, h => h.elim
  | _ :: _, [], _ + 1, h => h.elim
theorem EnsAt.drop : ∀ {rs : List Nat} {es : List En} (n : Nat), EnsAt ow k st its way rs es → EnsAt ow k st its way (rs.drop n) (es.drop n)
  | _, _, 0, h => by simpa using h
  | [], [], n + 1, _ => by simp [EnsAt]
  | _ :: _, _ :: _, n + 1, h => by simpa using EnsAt.drop n h.2
  | [], _ :: _, _ + 1, h => h.elim
  | _ :: _, [], _ + 1, h => h.elim
theorem EnsAt.app : ∀ {rs rs' : List Nat} {es es' : List En}, EnsAt ow k st its way rs es → EnsAt ow k st its way rs' es' → EnsAt ow k st its way (rs ++ rs') (es ++ es')
  | [], _, [], _, _, h => h
  | _ :: _, _, _ :: _, _, h, h' => ⟨h.1, EnsAt.app h.2 h'⟩
  | [], _, _ :: _, _, h, _ => h.elim
  | _ :: _, _, [], _, h, _ => h.elim
theorem EnsAt.set (hk : k ≠ 0) : ∀ {rs : List Nat} {es : List En} {i q : Nat} {e' : En} {lp : Nat}, EnsAt ow k st its way rs es → rs.Nodup → rs[i]? = some q → PlO ow lp its way e'.pl st → EnsAt ow k (st.set q (.ins "Entry" (enF e' lp))) its way rs (es.set i e')
  | [], _, i, q, _, _, _, _, h, _ => by simp at h
  | r :: rs, e0 :: es, 0, q, e', lp, h, nd, he, hp => by
    have : r = q := by simpa using he
    subst this
    obtain ⟨l0, h1, h2⟩ := h.1
    have nin := (List.nodup_cons.mp nd).1
    refine ⟨⟨lp, h1.set, Cel.setN (k := 0) hp fun z => hk (by rw [← h1.1, z]; exact hp.1)⟩, ?_⟩
    have key : ∀ {rs : List Nat} {es : List En}, EnsAt ow k st its way rs es → r ∉ rs → EnsAt ow k (st.set r (.ins "Entry" (enF e' lp))) its way rs es := by
      intro rs
      induction rs with
      | nil => intro es h _; cases es <;> exact h
      | cons a rs ih =>
        intro es h n
        cases es with
        | nil => exact h.elim
        | cons e es => exact ⟨h.1.setN (by rw [h1.1]; exact hk) fun z => n (by rw [z]; exact List.mem_cons_self), ih h.2 fun z => n (List.mem_cons_of_mem _ z)⟩
    exact key h.2 nin
  | r :: rs, e0 :: es, i + 1, q, e', lp, h, nd, he, hp => by
    have he' : rs[i]? = some q := by simpa using he
    obtain ⟨n1, n2⟩ := List.nodup_cons.mp nd
    have qm : q ∈ rs := List.mem_of_getElem? he'
    obtain ⟨e1, l1, hq, _⟩ := EnsAt.mem h.2 qm
    exact ⟨h.1.setN (by rw [hq.1]; exact hk) fun z => n1 (by rw [← z]; exact qm), EnsAt.set hk h.2 n2 he' hp⟩
  | _ :: _, [], _, _, _, _, h, _, _, _ => h.elim
theorem SdAt.xt (h : SdAt ow its way st v s) (x : Xt ow st S ow' st') (n : ¬ S 0) : SdAt ow' its way st' v s := by
  obtain ⟨w, e, h⟩ := h
  exact ⟨w, e, h.xt x n⟩
theorem CuAt.xt (h : CuAt ow st its way r rs lo hi c) (x : Xt ow st S ow' st') (n : ¬ S (r + 1)) (n0 : ¬ S 0) : CuAt ow' st' its way r rs lo hi c := ⟨h.hc.xt x n, EnsAt.xt x n n0 h.hes, h.nd, h.hlo.xt x n0, h.hhi.xt x n0⟩
theorem CuAt.ins (h : CuAt ow st its way r rs lo hi c) : insAt st [("Cursor" : Str)] (.ref r) = some (r, ("Cursor" : Str), cuF c rs lo hi) := ZL h.hc.2 List.mem_cons_self
theorem EnAt.ins (h : Cel ow k st r (.ins "Entry" (enF e q))) : insAt st [("Entry" : Str)] (.ref r) = some (r, ("Entry" : Str), enF e q) := ZL h.2 List.mem_cons_self
theorem CuAt.put (h : CuAt ow st its way r rs lo hi c) {c' : Cu} {lo' hi' : IV} (hes : c'.es = c.es) (hl : SdAt ow its way st lo' c'.low) (hh : SdAt ow its way st hi' c'.high) : CuAt ow (st.set r (.ins "Cursor" (cuF c' rs lo' hi'))) its way r rs lo' hi' c' := by
  have x : Xt ow st (fun k => k = r + 1) ow (st.set r (.ins "Cursor" (cuF c' rs lo' hi'))) := ZaW h.hc.1 rfl
  have n0 : ¬ (0 : Nat) = r + 1 := by omega
  refine ⟨h.hc.set, ?_, h.nd, hl.xt x n0, hh.xt x n0⟩
  rw [hes]
  have gen : ∀ {rs' : List Nat} {es : List En}, EnsAt ow (r + 1) st its way rs' es → ∀ o, (∀ fs, st[r]? ≠ some (.ins "Entry" fs)) → EnsAt ow (r + 1) (st.set r o) its way rs' es := by
    intro rs'
    induction rs' with
    | nil => intro es h o _; cases es <;> exact h
    | cons a rs' ih =>
      intro es hh o hn
      cases es with
      | nil => exact hh.elim
      | cons e es =>
        obtain ⟨lp, h1, h2⟩ := hh.1
        refine ⟨EnAt.setN ⟨lp, h1, h2⟩ (by rw [h.hc.1]; omega) fun z => hn _ (by rw [z]; exact h1.2), ih hh.2 o hn⟩
  refine gen h.hes _ fun fs z => ?_
  rw [h.hc.2] at z
  have z := Option.some.inj z
  injection z with z1 z2
  exact absurd z1 (by decide +kernel)
end
end K22
namespace K22
open PySem PySem.Spec PyProof.Rows L2 Mi PySem.W
def Spr (n l : Nat) (st : Sto) : Prop := ∃ s x c : Int, st[l]? = some (.lst [.int s, .int x, .int c]) ∧ 0 ≤ s ∧ 0 ≤ x ∧ x ≤ 1000000000000 ∧ 0 ≤ c ∧ c ≤ n
theorem Spr.mono {n m l : Nat} {st : Sto} (h : Spr n l st) (hm : n ≤ m) : Spr m l st := by
  obtain ⟨s, x, c, e, h1, h2, h3, h4, h5⟩ := h
  exact ⟨s, x, c, e, h1, h2, h3, h4, by omega⟩
theorem Spr.lt {n l : Nat} {st : Sto} (h : Spr n l st) : l < st.length := by
  obtain ⟨s, x, c, e, _⟩ := h
  exact (List.getElem?_eq_some_iff.mp e).1
theorem Spr.keep {n l : Nat} {st st' : Sto} (h : Spr n l st) (k : st'[l]? = st[l]?) : Spr n l st' := by
  obtain ⟨s, x, c, e, h1⟩ := h
  exact ⟨s, x, c, k.trans e, h1⟩
theorem Z29 {n l : Nat} {m : Int} {st : Sto} {P : IV → Sto → Prop} {E : Str → List (Str × IV) → Sto → Prop} (hm : 0 < m) (hm2 : m ≤ 1000000000000000000000000000000000000) (hn : n < 1000000000000000) (h : Spr n l st)
    (k : ∀ r st', 0 ≤ r → r < m → Spr (n + 1) l st' → Ups l st st' → P (.int r) st') : (Z11 [.ref l, .int m] st).wp P E := by
  obtain ⟨s, a, c, e, h1, h2, h3, h4, h5⟩ := h
  have e3 : ∀ xs, (st.set l (.lst xs))[l]? = some (.lst xs) := fun xs => Z2w e
  have ix3 : ∀ xs i (P : IV → Sto → Prop) E, (gIx (.ref l) (.int i) (st.set l (.lst xs))).wq P E .mk = match atI xs i with | some v => P v (st.set l (.lst xs)) | none => False := fun xs i P E => Z2l (e3 xs)
  simp [Z11, Zkh, gSetL, ixN, Z2l e, e, atI, ix3, e3]
  split
  · rename_i hg
    have q1 : 0 ≤ s / m := Int.ediv_nonneg h1 (by omega)
    exact ⟨hm, ⟨hm, by omega⟩, k _ _ (Int.emod_nonneg _ (by omega)) (Int.emod_lt_of_pos _ hm) ⟨_, _, _, e3 _, q1, h2, h3, h4, by omega⟩ .set⟩
  · have x1 : 0 ≤ (a * 48271 + (c + 1) * (c + 1) * 30011 + 11) % 2147483543 := Int.emod_nonneg _ (by decide)
    have x2 : (a * 48271 + (c + 1) * (c + 1) * 30011 + 11) % 2147483543 < 2147483543 := Int.emod_lt_of_pos _ (by decide)
    generalize (a * 48271 + (c + 1) * (c + 1) * 30011 + 11) % 2147483543 = z at x1 x2 ⊢
    have y1 : 0 ≤ z / 128 := Int.ediv_nonneg x1 (by decide)
    have y2 : z / 128 ≤ z := Int.ediv_le_self _ x1
    have y3 : (z / 128).natAbs < 18446744073709551616 := by omega
    refine ⟨by omega, y3, hm, ?_⟩
    exact k _ _ (Int.emod_nonneg _ (by omega)) (Int.emod_lt_of_pos _ hm) ⟨_, _, _, e3 _, h1, x1, by omega, by omega, by omega⟩ .set
theorem Zhl {n l : Nat} {xs : List IV} {st : Sto} {P : IV → Sto → Prop} {E : Str → List (Str × IV) → Sto → Prop} (h0 : 0 < xs.length) (h1 : xs.length ≤ 1000) (hn : n < 1000000000000000) (h : Spr n l st)
    (k : ∀ r st', r ∈ xs → Spr (n + 1) l st' → Ups l st st' → P r st') : (Z1K [.ref l, .lst xs] st).wp P E := by
  simp [Z1K, Zg0]
  refine Z29 (by omega) (by omega) hn h fun r st' r0 r1 hb hu => ?_
  obtain ⟨v, e1, e2, e3⟩ := Zmf r0 r1
  simp [e1]
  exact k _ _ e3 hb hu
theorem Zro {n l le : Nat} {xs : List IV} {st : Sto} {P : IV → Sto → Prop} {E : Str → List (Str × IV) → Sto → Prop} (hl : le ≠ l) (he : st[le]? = some (.lst xs)) (h0 : 0 < xs.length) (h1 : xs.length ≤ 1000) (hn : n < 1000000000000000) (h : Spr n l st)
    (k : ∀ r st', r ∈ xs → Spr (n + 1) l st' → Ups l st st' → P r st') : (Z1K [.ref l, .ref le] st).wp P E := by
  simp [Z1K, Zg0, ZhU he]
  refine Z29 (by omega) (by omega) hn h fun r st' r0 r1 hb hu => ?_
  obtain ⟨v, e1, e2, e3⟩ := Zmf r0 r1
  have he' : st'[le]? = some (.lst xs) := (hu.get le hl).trans he
  simp [Z2l he', e1]
  exact k _ _ e3 hb hu
def cols6 : List (List IV) := [[.tup [.str "a", .int 2]], [.tup [.str "b", .int 5]], [.tup [.str "a", .int 1], .tup [.str "b", .int 2]], [.tup [.str "pq", .int 3], .tup [.str "a", .int 1]],
  [.tup [.str "x", .int 1], .tup [.str "y", .int 1], .tup [.str "z", .int 2]], [.tup [.str "k", .int 1]]]
theorem n6 : ¬ (("a" : Str) = "b") ∧ ¬ (("pq" : Str) = "a") ∧ ¬ (("x" : Str) = "y") ∧ ¬ (("x" : Str) = "z") ∧ ¬ (("y" : Str) = "z") := by decide +kernel
theorem good6 : ∀ cs ∈ cols6, Good cs := by
  intro cs h
  simp only [cols6, List.mem_cons, List.not_mem_nil, or_false] at h
  rcases h with rfl | rfl | rfl | rfl | rfl | rfl <;> exact ⟨by decide, by decide +kernel, by decide +kernel, by simp [fst, n6]⟩
theorem pos6 : ∀ cs ∈ cols6, 0 < cs.length := by
  intro cs h
  simp only [cols6, List.mem_cons, List.not_mem_nil, or_false] at h
  rcases h with rfl | rfl | rfl | rfl | rfl | rfl <;> decide
theorem ZnX {n l : Nat} {st : Sto} {P : IV → Sto → Prop} {E : Str → List (Str × IV) → Sto → Prop} (hn : n < 1000000000000000) (h : Spr n l st)
    (k : ∀ cs st', cs ∈ cols6 → Spr (n + 1) l st' → Ups l st st' → P (.lst cs) st') : (Z2p [.ref l] st).wp P E := by
  simp [Z2p, Zbe]
  refine Zhl (by decide) (by decide) hn h fun r st' hr hb hu => ?_
  simp only [List.mem_cons, List.not_mem_nil, or_false] at hr
  rcases hr with rfl | rfl | rfl | rfl | rfl | rfl <;> exact k _ st' (by simp [cols6]) hb hu
def VI (n l : Nat) (cs : List IV) (st0 : Sto) (i : Nat) (acc : List IV) (st : Sto) : Prop := inTs acc (cs.take i) = true ∧ Spr (n + i) l st ∧ Ups l st0 st
theorem Zj0 {n l : Nat} {cs : List IV} {st : Sto} {P : IV → Sto → Prop} {E : Str → List (Str × IV) → Sto → Prop} (hn : n < 100000000000000) (h : Spr n l st) (g : Good cs)
    (k : ∀ vs st', inTs vs cs = true → Spr (n + 3) l st' → Ups l st st' → P (.tup vs) st') : (Z2u [.ref l, .lst cs] st).wp P E := by
  have gl := g.len
  simp [Z2u, Ze2]
  refine Zl9 (VI n l cs st) ⟨by simp [inTs], h, .refl _ _⟩ ?_ ?_
  · rintro i x acc st1 hx ⟨e1, e2, e3⟩
    have hi := (List.getElem?_eq_some_iff.mp hx).1
    obtain ⟨w, t, ex, t1, t2, _⟩ := Zlz g (List.mem_of_getElem? hx)
    have al := Z3M e1
    rw [List.length_take] at al
    subst ex
    refine ⟨rfl, by omega, ?_⟩
    simp [wipeI]
    refine Z29 (by omega) (by omega) (by omega) e2 fun r st2 r0 r1 hb hu => ?_
    refine ⟨?_, hb, e3.trans hu⟩
    have tk : cs.take (i + 1) = cs.take i ++ [.tup [.str w, .int t]] := by rw [List.take_add_one, hx]; rfl
    rw [tk]
    exact ZiK e1 (by show (decide (0 ≤ r) && decide (r ≤ t)) = true; rw [decide_eq_true r0, decide_eq_true (show r ≤ t by omega)]; rfl)
  · rintro acc st1 ⟨e1, e2, e3⟩
    refine ⟨rfl, ?_⟩
    simp
    rw [List.take_length] at e1
    exact k acc st1 e1 (e2.mono (by omega)) e3
end K22
namespace K22
open PySem PySem.Spec PyProof.Rows L2 Mi PySem.W
theorem Zqt {rows : List Rw} {n : Int} (h : ∀ r ∈ rows, r.name ≠ n) : valI (rows.map rwI) (.inl n) = none := by
  unfold valI
  rw [Option.map_eq_none_iff, List.find?_eq_none]
  intro p hp
  obtain ⟨r, hr, rfl⟩ := List.mem_map.mp hp
  have := h r hr
  simp [rwI, this]
end K22
namespace K22
open PySem PySem.Spec PyProof.Rows L2 Mi PySem.W
def owE (n : Nat) (ow : Ow) : Ow := fun p => if p < n then ow p else 0
theorem ZvY {n p : Nat} {ow : Ow} (h : p < n) : owE n ow p = ow p := if_pos h
theorem ZvN {n p : Nat} {ow : Ow} (h : n ≤ p) : owE n ow p = 0 := if_neg (by omega)
theorem Zvq {ow : Ow} {st st' : Sto} {S : Nat → Prop} (hl : st.length ≤ st'.length) (hk : ∀ p, p < st.length → ¬ S (ow p) → st'[p]? = st[p]?) : Xt ow st S (owE st.length ow) st' := ⟨hl, fun p h => ZvY h, hk⟩
end K22
namespace K22
open PySem PySem.Spec PyProof.Rows L2 Mi PySem.W
def ZvQ (c : Cu) : Option En := if 0 ≤ c.ix ∧ c.ix < c.es.length then c.es[c.ix.toNat]? else none
def Zhd (c : Cu) (s : Int) : Cu := { c with es := [], ix := -1, low := (s, none), high := (s, none) }
section
variable {ow : Ow} {st : Sto} {cs : List IV} {dc : Dc} {d : Db} {b lk lw lp lc ld ls r lq : Nat} {lo hi : IV} {a0 b0 : Option Rk} {P : IV → Sto → Prop} {E : Str → List (Str × IV) → Sto → Prop} {c : Cu} {rs : List Nat} {Q : Sto → Prop} {its : List (Nat × Int)} {way : Int}
theorem CuAt.rl (h : CuAt ow st its way r rs lo hi c) : rs.length = c.es.length := h.hes.len
end
end K22
namespace K22
open PySem PySem.Spec PyProof.Rows L2 Mi PySem.W
def rowOf (rows : List Rw) (n : Int) : Option Rw := rows.find? fun w => decide (w.name = n)
theorem Z2g {n : Int} : ∀ {rows : List Rw}, valI (rows.map rwI) (.inl n) = (rowOf rows n).map rwV
  | [] => rfl
  | r :: rows => by
    have ih := Z2g (n := n) (rows := rows)
    unfold valI rowOf at ih ⊢
    rw [List.map_cons, List.find?_cons, List.find?_cons]
    by_cases c : r.name = n
    · subst c; simp [rwI]
    · have : ¬ ((Sum.inl r.name : Key) = .inl n) := fun z => c (Sum.inl.inj z)
      simp only [rwI, this, c, decide_false]
      exact ih
theorem Z4r {rows : List Rw} {n : Int} {w : Rw} (h : rowOf rows n = some w) : w ∈ rows ∧ w.name = n := ⟨List.mem_of_find?_eq_some h, by have := List.find?_some h; simpa using this⟩
@[simp] theorem ZyI {i : Int} : (DC.int i).iv = .int i := rfl
def rowV : Option Rw → IV
  | some w => .tup w.vs
  | none => .non
section
variable {ow : Ow} {st : Sto} {cs : List IV} {dc : Dc} {d : Db} {b lk lw lp lc ld ls r lq : Nat} {lo hi : IV} {a0 b0 : Option Rk} {P : IV → Sto → Prop} {E : Str → List (Str × IV) → Sto → Prop} {c : Cu} {rs : List Nat} {Q : Sto → Prop} {its : List (Nat × Int)} {way : Int} {q i : Nat} {e e' : En}
theorem Z5j {p k : Nat} {o : Mi.IO} (h : ow p = k) : Xt ow st (fun z => z = k) ow (st.set p o) := ZaW h rfl
theorem CuAt.neB (h : CuAt ow st its way r rs lo hi c) (hD : DbAt ow st b lk lw lp lc d) : r ≠ b := by
  rintro rfl
  have := h.hc.2.symm.trans hD.hb.2
  injection this with this
  injection this with z1 z2
  exact absurd z1 (by decide +kernel)
theorem ZuY {n : Int} (hD : DbAt ow st b lk lw lp lc d) (k : P (rowV (rowOf d.rows n)) st) : (Z15 [.ref b, .int n] st).wp P E := by
  have v := Z2g (n := n) (rows := d.rows)
  have in1 : gInK false (.int n) (.ref lk) st = .ok (.bl (valI (d.rows.map rwI) (.inl n)).isSome) st := by rw [Z2x hD.hk.2 (k := .inl n) rfl]; rfl
  simp [Z15, Z32, hD.ins, in1, v]
  cases q : rowOf d.rows n with
  | none => rw [q] at k; simp; exact k
  | some w =>
    rw [q] at k v
    have ix1 : gIxK (.ref lk) (.int n) st = .ok (rwV w) st := by simp only [gIxK, Z2j hD.hk.2, keyK, v]; rfl
    simp [hD.ins, ix1, rwV]
    exact k
end
end K22
namespace K22
open PySem PySem.Spec PyProof.Rows L2 Mi PySem.W
structure Ck where
  r : Nat
  dc : Dc
  c : Cu
def CkAt (ow : Ow) (st : Sto) (cs : List IV) (b : Nat) (x : Ck) : Prop := (∃ rs lo hi, CuAt ow st x.dc.its x.dc.way x.r rs lo hi x.c) ∧ DcAt ow st x.c.ld cs x.dc ∧ x.c.db = b ∧ 0 ≤ x.c.many
structure CksAt (ow : Ow) (st : Sto) (cs : List IV) (b : Nat) (ks : List Ck) : Prop where
  nd : (ks.map (·.r)).Nodup
  at' : ∀ x ∈ ks, CkAt ow st cs b x
def ofCks (ks : List Ck) : Nat → Prop := fun k => ∃ x ∈ ks, k = x.r + 1
def mix (f : Nat → Ck → Ck) (i : Nat) (ks : List Ck) : List Ck := ks.mapIdx fun j x => if j < i then f j x else x
theorem Z7v {f : Nat → Ck → Ck} {i j : Nat} {ks : List Ck} : (mix f i ks)[j]? = (ks[j]?).map fun x => if j < i then f j x else x := by
  unfold mix; rw [List.getElem?_mapIdx]
theorem Ztn {f : Nat → Ck → Ck} {i : Nat} {ks : List Ck} : (mix f i ks).length = ks.length := by unfold mix; rw [List.length_mapIdx]
theorem Zry {f : Nat → Ck → Ck} {ks : List Ck} : mix f 0 ks = ks := by
  refine List.ext_getElem? fun j => ?_
  rw [Z7v]; cases ks[j]? <;> simp
theorem Ztp {f : Nat → Ck → Ck} {ks : List Ck} : mix f ks.length ks = ks.mapIdx f := by
  refine List.ext_getElem? fun j => ?_
  rw [Z7v, List.getElem?_mapIdx]
  cases q : ks[j]? with
  | none => rfl
  | some x => have := (List.getElem?_eq_some_iff.mp q).1; simp [this]
theorem Zqi {f : Nat → Ck → Ck} {i : Nat} {ks : List Ck} {x : Ck} (h : ks[i]? = some x) : mix f (i + 1) ks = (mix f i ks).set i (f i x) := by
  refine List.ext_getElem? fun j => ?_
  rw [Z7v, List.getElem?_set, Ztn, Z7v]
  have hi := (List.getElem?_eq_some_iff.mp h).1
  by_cases c : i = j
  · subst c
    have e : ks[i] = x := by
      rw [List.getElem?_eq_getElem hi] at h
      exact Option.some.inj h
    simp [hi, e]
  · simp only [c, if_false]
    cases ks[j]? with
    | none => rfl
    | some y =>
      have : (j < i + 1) = (j < i) := by
        refine propext ⟨fun z => by omega, fun z => by omega⟩
      simp [this]
section
variable {ow ow' : Ow} {st st' : Sto} {S : Nat → Prop} {cs : List IV} {dc : Dc} {d : Db} {b lk lw lp lc ld ls r lq : Nat} {lo hi : IV} {P : IV → Sto → Prop} {E : Str → List (Str × IV) → Sto → Prop} {c : Cu} {rs : List Nat} {Q : Sto → Prop} {its : List (Nat × Int)} {way : Int} {ks : List Ck} {x : Ck} {i : Nat}
theorem CkAt.xt (h : CkAt ow st cs b x) (t : Xt ow st S ow' st') (n : ¬ S (x.r + 1)) (n0 : ¬ S 0) : CkAt ow' st' cs b x := by
  obtain ⟨⟨rs, lo, hi, h1⟩, h2, h3⟩ := h
  exact ⟨⟨rs, lo, hi, h1.xt t n n0⟩, h2.xt t n0, h3⟩
theorem CksAt.xt (h : CksAt ow st cs b ks) (t : Xt ow st S ow' st') (n : ∀ x ∈ ks, ¬ S (x.r + 1)) (n0 : ¬ S 0) : CksAt ow' st' cs b ks := ⟨h.nd, fun x hx => (h.at' x hx).xt t (n x hx) n0⟩
theorem CksAt.one (h : CksAt ow st cs b ks) (hi : ks[i]? = some x) (t : Xt ow st (fun k => k = x.r + 1) ow' st') {y : Ck} (hr : y.r = x.r) (hy : CkAt ow' st' cs b y) : CksAt ow' st' cs b (ks.set i y) := by
  have hl := (List.getElem?_eq_some_iff.mp hi).1
  have em : (ks.set i y).map (·.r) = ks.map (·.r) := by
    refine List.ext_getElem? fun j => ?_
    rw [List.getElem?_map, List.getElem?_map, List.getElem?_set]
    by_cases c : i = j
    · subst c
      have e : ks[i] = x := by
        rw [List.getElem?_eq_getElem hl] at hi
        exact Option.some.inj hi
      simp [hl, hr, e]
    · simp [c]
  refine ⟨by rw [em]; exact h.nd, fun z hz => ?_⟩
  obtain ⟨j, hj⟩ := List.getElem?_of_mem hz
  rw [List.getElem?_set] at hj
  by_cases c : i = j
  · subst c
    simp [hl] at hj
    rw [← hj]; exact hy
  · simp only [c, if_false] at hj
    refine (h.at' z (List.mem_of_getElem? hj)).xt t (fun e => c ?_) (by omega)
    have e : z.r = x.r := by omega
    have h1 : (ks.map (·.r))[j]? = some z.r := by rw [List.getElem?_map, hj]; rfl
    have h2 : (ks.map (·.r))[i]? = some x.r := by rw [List.getElem?_map, hi]; rfl
    rw [e] at h1
    have hl' : i < (ks.map (·.r)).length := by rw [List.length_map]; exact hl
    exact (List.getElem?_inj hl' h.nd).mp (h2.trans h1.symm)
theorem Xt.of (t : Xt ow st (fun k => k = x.r + 1) ow' st') (hx : x ∈ ks) : Xt ow st (ofCks ks) ow' st' := t.mono fun k z => ⟨x, hx, z⟩
theorem CksAt.notb (h : CksAt ow st cs b ks) (hD : DbAt ow st b lk lw lp lc d) : ¬ ofCks ks (b + 1) := by
  rintro ⟨x, hx, e⟩
  obtain ⟨⟨rs, lo, hi, h1⟩, _⟩ := h.at' x hx
  exact h1.neB hD (by omega)
def CrI (ow : Ow) (st : Sto) (cs : List IV) (b : Nat) (f : Nat → Ck → Ck) (ks : List Ck) (i : Nat) (st1 : Sto) : Prop := ∃ ow1, Xt ow st (ofCks ks) ow1 st1 ∧ CksAt ow1 st1 cs b (mix f i ks)
theorem CrI.zero {f : Nat → Ck → Ck} (h : CksAt ow st cs b ks) : CrI ow st cs b f ks 0 st := ⟨ow, .refl, by rw [Zry]; exact h⟩
theorem CrI.done {f : Nat → Ck → Ck} (h : CrI ow st cs b f ks ks.length st') : ∃ ow1, Xt ow st (ofCks ks) ow1 st' ∧ CksAt ow1 st' cs b (ks.mapIdx f) := by
  obtain ⟨ow1, h1, h2⟩ := h
  exact ⟨ow1, h1, by rw [← Ztp]; exact h2⟩
theorem CrI.at {f : Nat → Ck → Ck} (h : CrI ow st cs b f ks i st') (hi : ks[i]? = some x) : ∃ ow1, Xt ow st (ofCks ks) ow1 st' ∧ CkAt ow1 st' cs b x ∧ ∀ ow2 st2, Xt ow1 st' (fun k => k = x.r + 1) ow2 st2 → (f i x).r = x.r → CkAt ow2 st2 cs b (f i x) → CrI ow st cs b f ks (i + 1) st2 := by
  obtain ⟨ow1, h1, h2⟩ := h
  have g : (mix f i ks)[i]? = some x := by rw [Z7v, hi]; simp
  refine ⟨ow1, h1, h2.at' x (List.mem_of_getElem? g), fun ow2 st2 t hr hy => ⟨ow2, h1.trans (t.of (List.mem_of_getElem? hi)), ?_⟩⟩
  rw [Zqi hi]
  exact h2.one g t hr hy
end
section
variable {ow ow' : Ow} {st st' : Sto} {cs : List IV} {dc : Dc} {d : Db} {b lk lw lp lc ld ls r lq : Nat} {lo hi : IV} {P : IV → Sto → Prop} {E : Str → List (Str × IV) → Sto → Prop} {c : Cu} {rs : List Nat} {Q : Sto → Prop} {its : List (Nat × Int)} {way : Int} {ks : List Ck} {x : Ck} {i : Nat}
theorem enumI_get {xs : List IV} {n i : Nat} {z : IV} : (enumI n xs)[i]? = some z → ∃ v, xs[i]? = some v ∧ z = .tup [.int ((n + i : Nat) : Int), v] := by
  induction xs generalizing n i with
  | nil => intro h; simp [enumI] at h
  | cons x xs ih =>
    intro h
    cases i with
    | zero => simp [enumI] at h; exact ⟨x, rfl, by rw [← h]; simp⟩
    | succ i =>
      simp only [enumI, List.getElem?_cons_succ] at h
      obtain ⟨v, e1, e2⟩ := ih h
      exact ⟨v, by simpa using e1, by rw [e2, show n + 1 + i = n + (i + 1) by omega]⟩
theorem enumI_len {xs : List IV} {n : Nat} : (enumI n xs).length = xs.length := by
  induction xs generalizing n with
  | nil => rfl
  | cons x xs ih => simp [enumI, ih]
end
end K22
namespace K22
open PySem PySem.Spec PyProof.Rows L2 Mi PySem.W
section
variable {ow ow' : Ow} {st st' : Sto} {cs : List IV} {dc : Dc} {d : Db} {b lk lw lp lc lt ld ls r lq : Nat} {lo hi : IV} {P : IV → Sto → Prop} {E : Str → List (Str × IV) → Sto → Prop} {Q : Sto → Prop} {vs : List IV}
theorem Znb (h : TabAt lt cs st) (hv : inTs vs cs = true) (k : P (.bl true) st) : (Zw [.ref lt, .tup vs] st).wp P E := by
  have hl := Z3M hv
  have hl' : (vs.length : Int) = (cs.length : Int) := by omega
  simp [Zw, Z2c, h.ins, lkt, askT, ZT, hl']
  refine Z1e (fun i ρ st' => st' = st ∧ (∃ a b, ρ = [some (.v (.ref lt)), some (.v (.tup vs)), a, b])) ⟨rfl, ⟨_, _, rfl⟩⟩ ?_ ?_
  · rintro i x ρ st' hx' ⟨rfl, ⟨a, b, rfl⟩⟩
    obtain ⟨v, t, e1, e2, rfl⟩ := Z8i _ _ _ _ hx'
    rw [List.getElem?_map, Option.map_eq_some_iff] at e2
    obtain ⟨c, e2, rfl⟩ := e2
    obtain ⟨v', e3, h0, h1⟩ := Zlx hv e2
    rw [e1] at e3
    have : v = .int v' := Option.some.inj e3
    subst this
    have c3 : ¬ snd c < v' := by omega
    refine ⟨rfl, ?_⟩
    simp [tyOf, ZT, askT, h0, h1, c3]
  · rintro ρ st' ⟨rfl, ⟨a, b, rfl⟩⟩
    exact ⟨rfl, by simpa using k⟩
def Zh (r : Int × List IV) : IV := .tup [.int r.1, .tup r.2]
structure RsOk (cs : List IV) (rs : List (Int × List IV)) : Prop where
  nd : (rs.map (·.1)).Nodup
  vs : ∀ r ∈ rs, inTs r.2 cs = true
  few : rs.length ≤ 1000
def CkI (st0 : Sto) (ls lt : Nat) (rs : List (Int × List IV)) (rv : IV) (i : Nat) (ρ : Slots) (st : Sto) : Prop := (∃ s3 s4 s5 s6, ρ = [some (.v (.ref lt)), some (.v rv), some (.v (.ref ls)), s3, s4, s5, s6]) ∧
  st[ls]? = some (.set ((rs.take i).map fun r => .inl r.1)) ∧ (∀ j, j < st0.length → st[j]? = st0[j]?) ∧ st.length = st0.length + 1
def giveR (d : Db) (n : Int) (vs : List IV) : Db := { d with ev := d.ev + 1, rows := d.rows ++ [⟨n, vs, d.ev + 1, d.ev + 1⟩] }
theorem ZlA {n : Int} (hD : DbAt ow st b lk lw lp lc d) (hn : ∀ r ∈ d.rows, r.name ≠ n) (few : d.rows.length < 1000) (k : ∀ st', Xt ow st (fun k => k = b + 1) ow st' → DbAt ow st' b lk lw lp lc (giveR d n vs) → P .non st') : (Zn [.ref b, .int n, .tup vs] st).wp P E := by
  have nk := hD.nk
  have vn := Zqt hn
  have bl := hD.hb.lt
  have in1 : gInK false (.int n) (.ref lk) (st.set b (.ins "Database" (dbF { d with ev := d.ev + 1 } lk lw lp lc))) = .ok (.bl false) (st.set b (.ins "Database" (dbF { d with ev := d.ev + 1 } lk lw lp lc))) := by
    rw [Z2x (by rw [List.getElem?_set_ne (Ne.symm nk.1)]; exact hD.hk.2) (k := .inl n) rfl, vn]; rfl
  have i1 : insAt (st.set b (.ins "Database" (dbF { d with ev := d.ev + 1 } lk lw lp lc))) [("Database" : Str)] (.ref b) = some (b, ("Database" : Str), dbF { d with ev := d.ev + 1 } lk lw lp lc) := Z9W bl List.mem_cons_self
  have lkk : (st.set b (.ins "Database" (dbF { d with ev := d.ev + 1 } lk lw lp lc)))[lk]? = some (.dic (d.rows.map rwI)) := by rw [List.getElem?_set_ne (Ne.symm nk.1)]; exact hD.hk.2
  have sd := fun x => Z9C (x := x) lkk (k := .inl n) (y := .int n) rfl (by rw [List.length_map]; omega)
  have pd : putD (d.rows.map rwI) (.inl n) (.tup [.tup vs, .tup [.int (d.ev + 1), .int (d.ev + 1)]]) = (giveR d n vs).rows.map rwI := by
    unfold putD
    rw [if_neg, giveR, List.map_append]; rfl
    rw [List.any_eq_true]
    rintro ⟨p, hp, e⟩
    obtain ⟨r, hr, rfl⟩ := List.mem_map.mp hp
    have e : (Sum.inl r.name : Key) = .inl n := by simpa [rwI] using e
    exact hn r hr (Sum.inl.inj e)
  simp [Zn, Z1H]
  refine Zfx ?_
  simp [hD.ins]
  refine ⟨b, _, _, ⟨rfl, rfl, rfl⟩, d.ev, Zbn, _, ⟨rfl, rfl, rfl⟩, ZoG, ?_⟩
  rw [Z8z]
  simp [i1, in1, sd, pd]
  have x1 : Xt ow st (fun k => k = b + 1) ow (st.set b (.ins "Database" (dbF { d with ev := d.ev + 1 } lk lw lp lc))) := ZaW hD.hb.1 rfl
  refine k _ (x1.trans (ZaW (k := b + 1) hD.hk.1 rfl)) ?_
  exact ⟨hD.hb.set.setN nk.1, (hD.hk.setN (Ne.symm nk.1)).set, (hD.hw.setN (Ne.symm nk.2.1)).setN nk.2.2.2.2.1, (hD.hp.setN (Ne.symm nk.2.2.1)).setN nk.2.2.2.2.2.1, (hD.hc.setN (Ne.symm nk.2.2.2.1)).setN nk.2.2.2.2.2.2, hD.n1, hD.n2, hD.n3⟩
def ZO (lt : Nat) : List (Int × List IV) → Db
  | rs => rs.foldl (fun d r => giveR d r.1 r.2) ⟨lt, 0, [], [], [], [], 0⟩
theorem ZmF {lt : Nat} {rs : List (Int × List IV)} {r : Int × List IV} : ZO lt (rs ++ [r]) = giveR (ZO lt rs) r.1 r.2 := by unfold ZO; rw [List.foldl_append]; rfl
theorem ZdF : ∀ (rs : List (Int × List IV)) (d : Db), let z := rs.foldl (fun d r => giveR d r.1 r.2) d; z.lt = d.lt ∧ z.wr = d.wr ∧ z.pts = d.pts ∧ z.cus = d.cus ∧ z.bg = d.bg ∧ (z.rows.map fun r => (r.name, r.vs)) = (d.rows.map fun r => (r.name, r.vs)) ++ rs
  | [], d => by simp
  | r :: rs, d => by
    have ih := ZdF rs (giveR d r.1 r.2)
    simp only [List.foldl_cons] at ih ⊢
    refine ⟨ih.1, ih.2.1, ih.2.2.1, ih.2.2.2.1, ih.2.2.2.2.1, ih.2.2.2.2.2.trans ?_⟩
    show ((d.rows ++ [_]).map _) ++ rs = _
    rw [List.map_append, List.append_assoc]; rfl
theorem ZgL {lt : Nat} (rs : List (Int × List IV)) : (ZO lt rs).lt = lt ∧ (ZO lt rs).wr = [] ∧ (ZO lt rs).pts = [] ∧ (ZO lt rs).cus = [] ∧ (ZO lt rs).bg = 0 ∧ ((ZO lt rs).rows.map fun r => (r.name, r.vs)) = rs := by
  have h := ZdF rs ⟨lt, 0, [], [], [], [], 0⟩
  exact h
end
end K22
namespace K22
open PySem PySem.Spec PyProof.Rows L2 Mi PySem.W
section
variable {ow ow' : Ow} {st st' : Sto} {cs : List IV} {b lk lw lp lc lt r : Nat} {P : IV → Sto → Prop} {E : Str → List (Str × IV) → Sto → Prop} {Q : Sto → Prop}
def GvI (ow : Ow) (st : Sto) (b lk lw lp lc lt : Nat) (rv : IV) (rs : List (Int × List IV)) (i : Nat) (ρ : Slots) (st1 : Sto) : Prop := (∃ s3 s4, ρ = [some (.v (.ref b)), some (.v (.ref lt)), some (.v rv), s3, s4]) ∧ Xt ow st (fun k => k = b + 1) ow st1 ∧ DbAt ow st1 b lk lw lp lc (ZO lt (rs.take i))
end
end K22
namespace K22
open PySem PySem.Spec PyProof.Rows L2 Mi PySem.W
theorem Zbb {ow : Ow} {st st' : Sto} {S : Nat → Prop} (hk : ∀ j, j < st.length → st'[j]? = st[j]?) (hl : st.length ≤ st'.length) : Xt ow st S (owE st.length ow) st' := Zvq hl fun p hp _ => hk p hp
end K22
namespace K22
open PySem PySem.Spec PyProof.Rows L2 Mi
section
variable {lt lo : Nat} {cs cs2 : List IV} {st : Sto} {P : IV → Sto → Prop} {E : Str → List (Str × IV) → Sto → Prop}
theorem Zvf (h : TabAt lt cs st) (h2 : TabAt lo cs2 st) (g : Good cs) (g2 : Good cs2) (k : ∀ b : Bool, (b = true ↔ cs.map fst = cs2.map fst ∧ cs.map snd = cs2.map snd) → P (.bl b) st) : (Z19 [.ref lt, .ref lo] st).wp P E := by
  have e1 := eq_pE (st := st) (n := 1) (x := .tup (cs.map fst)) (y := .tup (cs2.map fst)) (ZfD g) (ZfD g2) (by decide)
  have e2 := eq_pE (st := st) (n := 1) (x := .tup (cs.map fun x => .int (snd x))) (y := .tup (cs2.map fun x => .int (snd x))) ZkV ZkV (by decide)
  simp only [Zsy] at e1 e2
  have i1 := Zgu (.tup (cs.map fst)) (.tup (cs2.map fst)) (ZiM g) (ZiM g2)
  have i2 := Zgu (.tup (cs.map fun x => .int (snd x))) (.tup (cs2.map fun x => .int (snd x))) Znj Znj
  have i3 : (IV.tup (cs.map fun x => .int (snd x)) = IV.tup (cs2.map fun x => .int (snd x))) ↔ cs.map snd = cs2.map snd := by
    rw [IV.tup.injEq]
    have a : ∀ l : List IV, (l.map fun x => IV.int (snd x)) = (l.map snd).map IV.int := fun l => by rw [List.map_map]; rfl
    rw [a, a]
    exact List.map_inj_right (fun x y z => by cases z; rfl)
  rw [IV.tup.injEq] at i1
  rw [i3] at i2
  simp [Z19, Z5g, h2.cls.1, h2.cls.2, ZiD, List.lookup, h.ins, h2.ins, lkc, lkt, e1, e2]
  cases q1 : pE (.tup (cs.map fst)) (.tup (cs2.map fst)) with
  | true =>
    simp only [if_true]
    exact k _ ⟨fun z => ⟨i1.mp q1, i2.mp z⟩, fun z => i2.mpr z.2⟩
  | false =>
    simp only [Bool.false_eq_true, if_false]
    refine k _ ⟨fun z => absurd z (by decide), fun z => ?_⟩
    rw [i1.mpr z.1] at q1; cases q1
end
section
variable {cs cs2 : List IV} {its its2 : List (Nat × Int)} {way way2 : Int} {lo lo2 lt lt2 : Nat} {st : Sto} {P : IV → Sto → Prop} {E : Str → List (Str × IV) → Sto → Prop}
theorem OrdAt.cls (h : OrdAt lo lt its way st) : Zx st (.ref lo) = none ∧ clsOf st (.ref lo) = some ("Order" : Str) := by
  have h' : st[lo]? = some (.ins "Order" (ordF lt its way)) := h
  constructor
  · simp only [Zx, h']
  · simp only [clsOf, h']
end
section
variable {ow : Ow} {cs : List IV} {ld : Nat} {d : Dc} {st : Sto} {P : IV → Sto → Prop} {E : Str → List (Str × IV) → Sto → Prop}
theorem DcAt.cls (h : DcAt ow st ld cs d) : Zx st (.ref ld) = none ∧ clsOf st (.ref ld) = some ("Declaration" : Str) := by
  have h' := h.hd.2
  constructor
  · simp only [Zx, h']
  · simp only [clsOf, h']
end
end K22
namespace K22
open PySem PySem.Spec PyProof.Rows L2 Mi PySem.W
theorem Zh6 {α : Type} : ∀ (L : List α) (i : Nat) (h : i < L.length), (L[i] :: L.eraseIdx i).Perm L
  | x :: xs, 0, _ => List.Perm.refl _
  | x :: xs, i + 1, h => by
    have hi : i < xs.length := by simpa using h
    have ih := Zh6 xs i hi
    show (xs[i] :: x :: xs.eraseIdx i).Perm (x :: xs)
    exact (List.Perm.swap x xs[i] _).trans (ih.cons x)
theorem ZiR {α β : Type} {f : α → β} : ∀ {L : List α} {i : Nat}, (L.map f).eraseIdx i = (L.eraseIdx i).map f
  | [], _ => rfl
  | x :: xs, 0 => rfl
  | x :: xs, i + 1 => by
    show f x :: (xs.map f).eraseIdx i = f x :: (xs.eraseIdx i).map f
    rw [ZiR]
section
variable {n l m : Nat} {st : Sto} {P : IV → Sto → Prop} {E : Str → List (Str × IV) → Sto → Prop}
theorem Znk {o : List Mi.IO} (h : Spr n l st) : Spr n l (st ++ o) := h.keep (List.getElem?_append_left h.lt)
theorem ZhW {q : Nat} {o : Mi.IO} (h : Spr n l st) (hne : q ≠ l) : Spr n l (st.set q o) := h.keep (List.getElem?_set_ne hne)
def RwI (n l : Nat) (cs : List IV) (ns : List Int) (st0 : Sto) (i : Nat) (acc : List IV) (st : Sto) : Prop := ∃ rs : List (Int × List IV), acc = rs.map Zh ∧ rs.map (·.1) = ns.take i ∧ (∀ r ∈ rs, inTs r.2 cs = true) ∧ Spr (n + 3 * i) l st ∧ Ups l st0 st
end
end K22
namespace K22
open PySem PySem.Spec PyProof.Rows L2 Mi PySem.W
abbrev Sm (a c : Cu) : Prop := a.ld = c.ld ∧ a.db = c.db ∧ a.shut = c.shut ∧ a.many = c.many ∧ a.row = c.row
theorem Sm.trans {a c e : Cu} (h : Sm a c) (k : Sm c e) : Sm a e := ⟨h.1.trans k.1, h.2.1.trans k.2.1, h.2.2.1.trans k.2.2.1, h.2.2.2.1.trans k.2.2.2.1, h.2.2.2.2.trans k.2.2.2.2⟩
end K22
namespace K22
open PySem PySem.Spec PyProof.Rows L2 Mi PySem.W
def putRw (d : Db) (n : Int) (vs : List IV) : Db := match rowOf d.rows n with
  | none => giveR d n vs
  | some w => { d with ev := d.ev + 1, rows := d.rows.map fun r => if r.name = n then ⟨n, vs, w.life, d.ev + 1⟩ else r }
def delR (d : Db) (n : Int) : Db := { d with rows := d.rows.filter fun r => decide (r.name ≠ n) }
theorem Z4M {rows : List Rw} {n : Int} (h : rowOf rows n = none) : ∀ r ∈ rows, r.name ≠ n := fun r hr => by
  unfold rowOf at h
  have := List.find?_eq_none.mp h r hr
  simpa using this
theorem Zsc {cs : List IV} {d : Db} {n : Int} {vs : List IV} (h : RwsOk cs d.rows) (hv : inTs vs cs = true) (few : d.rows.length < 1000) : RwsOk cs (putRw d n vs).rows ∧ (putRw d n vs).rows.length ≤ d.rows.length + 1 ∧ ∀ k, k ∈ (putRw d n vs).rows.map (·.name) ↔ k = n ∨ k ∈ d.rows.map (·.name) := by
  unfold putRw
  cases q : rowOf d.rows n with
  | none =>
    have nn := Z4M q
    simp only [giveR]
    refine ⟨⟨?_, fun r hr => ?_, ?_⟩, ?_, fun k => ?_⟩
    · rw [List.map_append, List.nodup_append]
      refine ⟨h.nd, by simp, fun a ha b hb => ?_⟩
      obtain ⟨r, hr, rfl⟩ := List.mem_map.mp ha
      have : b = n := by simpa using hb
      rw [this]; exact nn r hr
    · rcases List.mem_append.mp hr with hr | hr
      · exact h.vs r hr
      · rw [List.mem_singleton.mp hr]; exact hv
    · rw [List.length_append]; simp only [List.length_singleton]; omega
    · rw [List.length_append]; simp
    · rw [List.map_append, List.mem_append]
      simp only [List.map_cons, List.map_nil, List.mem_singleton]
      exact Or.comm
  | some w =>
    have hw := Z4r q
    have em : (d.rows.map fun r => if r.name = n then (⟨n, vs, w.life, d.ev + 1⟩ : Rw) else r).map (·.name) = d.rows.map (·.name) := by
      rw [List.map_map]
      refine List.map_congr_left fun r _ => ?_
      simp only [Function.comp]
      split
      · rename_i e; exact e.symm
      · rfl
    refine ⟨⟨by rw [em]; exact h.nd, fun r hr => ?_, by rw [List.length_map]; exact h.few⟩, by rw [List.length_map]; omega, fun k => ?_⟩
    · obtain ⟨r0, hr0, rfl⟩ := List.mem_map.mp hr
      split
      · exact hv
      · exact h.vs r0 hr0
    · rw [em]
      constructor
      · exact .inr
      · rintro (rfl | z)
        · exact List.mem_map.mpr ⟨w, hw.1, hw.2⟩
        · exact z
theorem ZsK {cs : List IV} {d : Db} {n : Int} (h : RwsOk cs d.rows) : RwsOk cs (delR d n).rows ∧ (delR d n).rows.length ≤ d.rows.length ∧ ∀ k, k ∈ (delR d n).rows.map (·.name) ↔ k ≠ n ∧ k ∈ d.rows.map (·.name) := by
  have fl := List.length_filter_le (fun r : Rw => decide (r.name ≠ n)) d.rows
  refine ⟨⟨?_, fun r hr => h.vs r (List.mem_filter.mp hr).1, Nat.le_trans fl h.few⟩, fl, fun k => ?_⟩
  · exact h.nd.sublist (List.Sublist.map _ (List.filter_sublist))
  · show k ∈ (d.rows.filter _).map _ ↔ _
    constructor
    · intro z
      obtain ⟨r, hr, rfl⟩ := List.mem_map.mp z
      obtain ⟨h1, h2⟩ := List.mem_filter.mp hr
      exact ⟨by simpa using h2, List.mem_map.mpr ⟨r, h1, rfl⟩⟩
    · rintro ⟨h1, h2⟩
      obtain ⟨r, hr, rfl⟩ := List.mem_map.mp h2
      exact List.mem_map.mpr ⟨r, List.mem_filter.mpr ⟨hr, by simpa using h1⟩, rfl⟩
section
variable {ow : Ow} {st : Sto} {cs : List IV} {dc : Dc} {d : Db} {b lk lw lp lc lt ld ls r lq : Nat} {lo hi : IV} {P : IV → Sto → Prop} {E : Str → List (Str × IV) → Sto → Prop} {Q : Sto → Prop} {vs : List IV} {ks : List Ck} {n : Int}
theorem ZrN (hD : DbAt ow st b lk lw lp lc d) (few : d.rows.length < 1000) (k : ∀ st', Xt ow st (fun k => k = b + 1) ow st' → DbAt ow st' b lk lw lp lc (putRw d n vs) → P .non st') : (Zn [.ref b, .int n, .tup vs] st).wp P E := by
  cases q : rowOf d.rows n with
  | none =>
    have e : putRw d n vs = giveR d n vs := by unfold putRw; rw [q]
    rw [e] at k
    exact ZlA hD (Z4M q) few k
  | some w =>
    have e : putRw d n vs = { d with ev := d.ev + 1, rows := d.rows.map fun r => if r.name = n then ⟨n, vs, w.life, d.ev + 1⟩ else r } := by unfold putRw; rw [q]
    rw [e] at k
    have nk := hD.nk
    have bl := hD.hb.lt
    have v : valI (d.rows.map rwI) (.inl n) = some (rwV w) := by rw [Z2g, q]; rfl
    have lkk : (st.set b (.ins "Database" (dbF { d with ev := d.ev + 1 } lk lw lp lc)))[lk]? = some (.dic (d.rows.map rwI)) := by rw [List.getElem?_set_ne (Ne.symm nk.1)]; exact hD.hk.2
    have in1 : gInK false (.int n) (.ref lk) (st.set b (.ins "Database" (dbF { d with ev := d.ev + 1 } lk lw lp lc))) = .ok (.bl true) (st.set b (.ins "Database" (dbF { d with ev := d.ev + 1 } lk lw lp lc))) := by
      rw [Z2x lkk (k := .inl n) rfl, v]; rfl
    have ix1 : gIxK (.ref lk) (.int n) (st.set b (.ins "Database" (dbF { d with ev := d.ev + 1 } lk lw lp lc))) = .ok (rwV w) (st.set b (.ins "Database" (dbF { d with ev := d.ev + 1 } lk lw lp lc))) := by simp only [gIxK, Z2j lkk, keyK, v]
    have i1 : insAt (st.set b (.ins "Database" (dbF { d with ev := d.ev + 1 } lk lw lp lc))) [("Database" : Str)] (.ref b) = some (b, ("Database" : Str), dbF { d with ev := d.ev + 1 } lk lw lp lc) := Z9W bl List.mem_cons_self
    have sd := fun x => Z9C (x := x) lkk (k := .inl n) (y := .int n) rfl (by rw [List.length_map]; omega)
    have pd : putD (d.rows.map rwI) (.inl n) (.tup [.tup vs, .tup [.int w.life, .int (d.ev + 1)]]) = (d.rows.map fun r => if r.name = n then (⟨n, vs, w.life, d.ev + 1⟩ : Rw) else r).map rwI := by
      unfold putD
      rw [if_pos, List.map_map, List.map_map]
      · refine List.map_congr_left fun r _ => ?_
        simp only [Function.comp, rwI]
        by_cases c : r.name = n
        · subst c; simp [rwV]
        · have : ¬ ((Sum.inl r.name : Key) = .inl n) := fun z => c (Sum.inl.inj z)
          simp [c]
      · rw [List.any_eq_true]
        have hw := Z4r q
        exact ⟨rwI w, List.mem_map.mpr ⟨w, hw.1, rfl⟩, by simp [rwI, hw.2]⟩
    simp [Zn, Z1H]
    refine Zfx ?_
    simp [hD.ins]
    refine ⟨b, _, _, ⟨rfl, rfl, rfl⟩, d.ev, Zbn, _, ⟨rfl, rfl, rfl⟩, ZoG, ?_⟩
    rw [Z8z]
    simp [i1, in1, ix1, rwV, sd, pd, -List.map_map]
    have x1 : Xt ow st (fun k => k = b + 1) ow (st.set b (.ins "Database" (dbF { d with ev := d.ev + 1 } lk lw lp lc))) := Z5j hD.hb.1
    refine k _ (x1.trans (ZaW (k := b + 1) hD.hk.1 rfl)) ?_
    exact ⟨hD.hb.set.setN nk.1, (hD.hk.setN (Ne.symm nk.1)).set, (hD.hw.setN (Ne.symm nk.2.1)).setN nk.2.2.2.2.1, (hD.hp.setN (Ne.symm nk.2.2.1)).setN nk.2.2.2.2.2.1, (hD.hc.setN (Ne.symm nk.2.2.2.1)).setN nk.2.2.2.2.2.2, hD.n1, hD.n2, hD.n3⟩
end
end K22
namespace K22
open PySem PySem.Spec PyProof.Rows L2 Mi
inductive LTr
  | word (b : Bool) | inn (k : Nat) (a b : Int) | wth (k : Nat) (s : Str) (j : Nat) | is (k : Nat) (s : Str) (v : Int) | not (t : LTr) | or (a b : LTr) | and (a b : LTr)
def LTr.isOr : LTr → Bool
  | .or _ _ => true
  | _ => false
def LTr.isAnd : LTr → Bool
  | .and _ _ => true
  | _ => false
def numS (v : Int) : Str := ((toString v : String) : Str)
def lev (ns : List Int) : LTr → Bool
  | .word b => b
  | .inn k a b => decide (a ≤ ns.getD k 0) && decide (ns.getD k 0 ≤ b)
  | .wth k s j => cmpC (ns.getD k 0) s (ns.getD j 0)
  | .is k s v => cmpC (ns.getD k 0) s v
  | .not t => !lev ns t
  | .or a b => lev ns a || lev ns b
  | .and a b => lev ns a && lev ns b
def brk (l : List Str) : List Str := ("(" : Str) :: (l ++ [(")" : Str)])
def toksC (cs : List IV) : LTr → List Str
  | .word b => [if b then "true" else "false"]
  | .inn k a b => [wd cs k, "in", numS a, "..", numS b]
  | .wth k s j => [wd cs k, s, wd cs j]
  | .is k s v => [wd cs k, s, numS v]
  | .not t => ("not" : Str) :: (if t.isOr || t.isAnd then brk (toksC cs t) else toksC cs t)
  | .or a b => toksC cs a ++ ("or" : Str) :: toksC cs b
  | .and a b => (if a.isOr then brk (toksC cs a) else toksC cs a) ++ ("and" : Str) :: (if b.isOr then brk (toksC cs b) else toksC cs b)
def At (W : List Str) (i : Nat) (l : List Str) : Prop := ∀ j w, l[j]? = some w → wAt W (i + j) = w
theorem At.app {W : List Str} {i : Nat} {a b : List Str} (h : At W i (a ++ b)) : At W i a ∧ At W (i + a.length) b := by
  refine ⟨fun j w e => h j w ?_, fun j w e => ?_⟩
  · rw [List.getElem?_append_left (List.getElem?_eq_some_iff.mp e).1]; exact e
  · rw [Nat.add_assoc]
    refine h (a.length + j) w ?_
    rw [List.getElem?_append_right (by omega), Nat.add_sub_cancel_left]; exact e
theorem At.cons {W : List Str} {i : Nat} {w : Str} {b : List Str} (h : At W i (w :: b)) : wAt W i = w ∧ At W (i + 1) b := by
  refine ⟨h 0 w rfl, fun j u e => ?_⟩
  rw [Nat.add_assoc, Nat.add_comm 1 j]
  exact h (j + 1) u (by simpa using e)
def RdA (cs : List IV) (W : List Str) (n i : Nat) (l : List Str) (f : List Int → Bool) (d : Nat) : Prop := ∃ tr, pAtom cs W n i = .done tr (i + l.length) ∧ (∀ ns, ev ns tr = f ns) ∧ dp tr ≤ d
theorem Zw1 {cs : List IV} {W : List Str} {n i d : Nat} {l : List Str} {f : List Int → Bool} (h : RdA cs W n (i + 1) l f d) (hw : wAt W i = "not") : RdA cs W (n + 1) i (("not" : Str) :: l) (fun ns => !f ns) (d + 1) := by
  obtain ⟨tr, e, h1, h2⟩ := h
  refine ⟨.not tr, ?_, fun ns => by rw [ev, h1], by rw [dp]; omega⟩
  rw [pAtom, if_pos hw, e]
  show Rp.done _ _ = _
  rw [List.length_cons]
  congr 1; omega
end K22
namespace K22
open PySem PySem.Spec PyProof.Rows L2 Mi
def LD : LTr → Nat
  | .not t => LD t + 1
  | .or a b => max (LD a) (LD b) + 1
  | .and a b => max (LD a) (LD b) + 1
  | _ => 0
def Rdm (W : List Str) (sep : Str) (pa : Nat → Rp Tr) (i : Nat) (l : List Str) (g : List Int → Trs → Bool) (f : List Int → Bool) (K D : Nat) : Prop :=
  ∃ trs k, k ≤ K ∧ (∀ m, pMany W sep pa (m + k) i = if wAt W (i + l.length) = sep then (pMany W sep pa m (i + l.length + 1)).map (app trs) else .done trs (i + l.length)) ∧ (∀ ns, g ns trs = f ns) ∧ dps trs ≤ D
section
variable {W l l1 l2 : List Str} {sep : Str} {pa : Nat → Rp Tr} {i : Nat} {g : List Int → Trs → Bool} {f f1 f2 : List Int → Bool} {K K1 K2 D D1 D2 : Nat} {tr : Tr} {cs : List IV}
theorem Rdm.mono (h : Rdm W sep pa i l g f K D) (hK : K ≤ K1) (hD : D ≤ D1) : Rdm W sep pa i l g f K1 D1 := by
  obtain ⟨t, k, a, b, c, d⟩ := h
  exact ⟨t, k, by omega, b, c, by omega⟩
theorem ZtT (h : pa i = .done tr (i + l.length)) (hg : ∀ ns, g ns (.cons tr .nil) = f ns) (hD : dp tr ≤ D) : Rdm W sep pa i l g f 1 D := by
  refine ⟨.cons tr .nil, 1, Nat.le_refl _, fun m => ?_, hg, by rw [dps, dps]; omega⟩
  rw [pMany, h]
  by_cases c : wAt W (i + l.length) = sep
  · simp only [c, if_true]
    cases pMany W sep pa m (i + l.length + 1) <;> rfl
  · simp only [c, if_false]
def Atm (cs : List IV) (l : List Str) (f : List Int → Bool) (N D : Nat) : Prop := ∀ W i n, N ≤ n → At W i l → RdA cs W n i l f D
def Cnd (cs : List IV) (l : List Str) (f : List Int → Bool) (N D : Nat) : Prop := ∀ W i n, N ≤ n → At W i l → wAt W (i + l.length) ≠ "and" → wAt W (i + l.length) ≠ "or" → ∃ tr, pCond W (pAtom cs W n) i = .done tr (i + l.length) ∧ (∀ ns, ev ns tr = f ns) ∧ dp tr ≤ D
theorem Atm.part {N : Nat} (h : Atm cs l f N D) {n : Nat} (hn : N ≤ n) (ha : At W i l) : Rdm W "and" (pAtom cs W n) i l evAll f 1 D := by
  obtain ⟨tr, e, h1, h2⟩ := h W i n hn ha
  exact ZtT e (fun ns => by rw [evAll, evAll, h1, Bool.and_true]) h2
theorem Zs2 : (brk l).length = l.length + 2 := by simp [brk]
theorem kwb : ((")" : Str) ≠ "and") ∧ ((")" : Str) ≠ "or") ∧ (("(" : Str) ≠ "not") ∧ (("or" : Str) ≠ "and") ∧ (("" : Str) ≠ "and") ∧ (("" : Str) ≠ "or") := by decide +kernel
theorem Cnd.brk {N : Nat} (h : Cnd cs l f N D) : Atm cs (brk l) f (N + 1) D := by
  intro W i n hn ha
  obtain ⟨n, rfl⟩ : ∃ m, n = m + 1 := ⟨n - 1, by omega⟩
  obtain ⟨a1, a2⟩ := At.cons ha
  obtain ⟨a3, a4⟩ := At.app a2
  have a5 := (At.cons a4).1
  obtain ⟨tr, e, h1, h2⟩ := h W (i + 1) n (by omega) a3 (by rw [a5]; exact kwb.1) (by rw [a5]; exact kwb.2.1)
  refine ⟨tr, ?_, h1, h2⟩
  rw [pAtom, if_neg (by rw [a1]; exact kwb.2.2.1), if_pos a1, e]
  simp only [a5, if_true, Zs2]
  congr 1; omega
theorem Atm.not {N : Nat} (h : Atm cs l f N D) : Atm cs (("not" : Str) :: l) (fun ns => !f ns) (N + 1) (D + 1) := by
  intro W i n hn ha
  obtain ⟨n, rfl⟩ : ∃ m, n = m + 1 := ⟨n - 1, by omega⟩
  obtain ⟨a1, a2⟩ := At.cons ha
  exact Zw1 (h W (i + 1) n (by omega) a2) a1
theorem Atm.mono {N N1 : Nat} (h : Atm cs l f N D) (hN : N ≤ N1) (hD : D ≤ D1) : Atm cs l f N1 D1 := fun W i n hn ha => by
  obtain ⟨tr, e, h1, h2⟩ := h W i n (by omega) ha
  exact ⟨tr, e, h1, by omega⟩
end
end K22
namespace K22
open PySem PySem.Spec PyProof.Rows L2 Mi
section
variable {W l : List Str} {i n : Nat} {f : List Int → Bool} {N D : Nat} {cs : List IV}
structure TRd (cs : List IV) (t : LTr) : Prop where
  atm : t.isOr = false → t.isAnd = false → Atm cs (toksC cs t) (fun ns => lev ns t) (2 * LD t + 1) (3 * LD t + 1)
  part : t.isOr = false → ∀ W i n, 2 * LD t + 1 ≤ n → At W i (toksC cs t) → Rdm W "and" (pAtom cs W n) i (toksC cs t) evAll (fun ns => lev ns t) (2 ^ LD t) (3 * LD t + 1)
  cond : ∀ W i n, 2 * LD t + 1 ≤ n → At W i (toksC cs t) → wAt W (i + (toksC cs t).length) ≠ "and" → Rdm W "or" (pPart W (pAtom cs W n)) i (toksC cs t) evAny (fun ns => lev ns t) (2 ^ LD t) (3 * LD t + 2)
theorem Ztm : At W 0 W := fun j w e => by
  rw [Nat.zero_add]
  unfold wAt
  rw [List.getElem?_append_left (List.getElem?_eq_some_iff.mp e).1, e]; rfl
theorem Cnd.rdT (h : Cnd cs W f N D) (hN : N ≤ 48) : ∃ tr, rdT cs W = .done tr W.length ∧ (∀ ns, ev ns tr = f ns) ∧ dp tr ≤ D := by
  have h2 := h W 0 48 hN Ztm
  rw [Nat.zero_add, ZtP] at h2
  exact h2 kwb.2.2.2.2.1 kwb.2.2.2.2.2
end
end K22
namespace K22
open PySem PySem.Spec PyProof.Rows L2 Mi PySem.W
structure WhOk (cs : List IV) (z : Str) (f : List Int → Bool) (W : List Str) (gs : List (Nat × List Nat)) (t : Tr) : Prop where
  txt : TxtG z W gs
  tk : Toks W
  rd : rdT cs W = .done t W.length
  dp : dp t ≤ 64
  ev : ∀ ns, ev ns t = f ns
end K22
namespace K22
open PySem PySem.Spec PyProof.Rows L2 Mi
structure EgAt (ow : Ow) (st : Sto) (cs : List IV) (b lt : Nat) (d : Db) (ks : List Ck) : Prop where
  hD : ∃ lk lw lp lc, DbAt ow st b lk lw lp lc d
  hw : d.wr = []
  hk : d.cus = ks.map (·.r)
  hc : CksAt ow st cs b ks
  ht : ow lt = 0 ∧ TabAt lt cs st
  rows : RwsOk cs d.rows
  pts : ∀ p ∈ d.pts, p.1 = 0 ∧ 0 ≤ p.2 ∧ p.2 ≤ 12
  bg : 0 ≤ d.bg ∧ d.bg ≤ 12
section
variable {ow ow' : Ow} {st st' : Sto} {S : Nat → Prop} {cs : List IV} {l ls lC lP b lt p n : Nat} {bg : Int} {ps : List Int} {d : Db} {ks : List Ck} {xs : List IV} {x : T4} {y : Ck} {i : Nat}
theorem notE (he : EgAt ow st cs b lt d ks) (h : st[p]? = some (.lst xs)) : ¬ (p + 1 = b + 1 ∨ ofCks ks (p + 1)) := by
  rintro (z | ⟨y, hy, z⟩)
  · obtain ⟨lk, lw, lp, lc, hD⟩ := he.hD
    have e := hD.hb.2
    rw [show b = p by omega, h] at e
    cases e
  · obtain ⟨⟨rs, lo, hi, hc⟩, _⟩ := he.hc.at' y hy
    have e := hc.hc.2
    rw [show y.r = p by omega, h] at e
    cases e
theorem EgAt.lst (he : EgAt ow st cs b lt d ks) (h : st[p]? = some (.lst xs)) (t : Xt ow st (fun k => k = p + 1) ow' st') : EgAt ow' st' cs b lt d ks := by
  have nn := notE he h
  obtain ⟨lk, lw, lp, lc, hD⟩ := he.hD
  exact ⟨⟨lk, lw, lp, lc, hD.xt t fun z => nn (.inl z.symm)⟩, he.hw, he.hk, he.hc.xt t (fun x hx z => nn (.inr ⟨x, hx, z.symm⟩)) (by omega), Cel.xt (k := 0) (o := .ins "Table" (tabF cs)) he.ht t (by omega), he.rows, he.pts, he.bg⟩
theorem EgAt.mono (he : EgAt ow st cs b lt d ks) (t : Xt ow st none0 ow' st') : EgAt ow' st' cs b lt d ks := by
  obtain ⟨lk, lw, lp, lc, hD⟩ := he.hD
  exact ⟨⟨lk, lw, lp, lc, hD.xt t id⟩, he.hw, he.hk, he.hc.xt t (fun _ _ => id) id, Cel.xt (k := 0) (o := .ins "Table" (tabF cs)) he.ht t id, he.rows, he.pts, he.bg⟩
theorem Z4u (h : ow l = l + 1) (u : Ups l st st') : Xt ow st (fun k => k = l + 1) ow st' := ⟨Nat.le_of_eq u.len.symm, fun _ _ => rfl, fun p _ n => u.get p fun z => n (by rw [z]; exact h)⟩
theorem Zna {α β : Type} {f : α → β} {xs : List α} {i : Nat} {a b : α} (hi : xs[i]? = some a) (e : f b = f a) : (xs.set i b).map f = xs.map f := by
  refine List.ext_getElem? fun j => ?_
  have hl := (List.getElem?_eq_some_iff.mp hi).1
  rw [List.getElem?_map, List.getElem?_map, List.getElem?_set]
  by_cases c : i = j
  · subst c
    rw [hi]
    simp [hl, e]
  · simp [c]
end
end K22
namespace K22
open PySem PySem.Spec PyProof.Rows L2 Mi PySem.W
def rvI (r : Rw) : Key × IV := (.inl r.name, .tup r.vs)
structure Wl (ow : Ow) (st : Sto) (cs : List IV) (F : List Int) (l b lt la n : Nat) (d : Db) (ks : List Ck) : Prop where
  spr : Spr n l st
  ol : ow l = l + 1
  e : EgAt ow st cs b lt d ks
  hlt : d.lt = lt
  ul : ∀ x ∈ ks, x.dc.locked = false
  hF : Cel ow (la + 1) st la (.lst (F.map .int))
  nm : ∀ r ∈ d.rows, r.name ∈ F
  fl : 0 < F.length ∧ F.length ≤ 12
abbrev Dl (ow : Ow) (st : Sto) (lr : Nat) (d : Db) : Prop := Cel ow (lr + 1) st lr (.dic (d.rows.map rvI))
section
variable {ow ow' : Ow} {st st' : Sto} {S : Nat → Prop} {cs : List IV} {F : List Int} {l b lt la lr n m p : Nat} {d : Db} {ks : List Ck} {P : IV → Sto → Prop} {E : Str → List (Str × IV) → Sto → Prop} {kvs : List (Key × IV)}
theorem Wl.few (h : Wl ow st cs F l b lt la n d ks) : d.rows.length ≤ 12 := by
  have := Z4N (xs := d.rows.map (·.name)) (ys := F) h.e.rows.nd fun x hx => by
    obtain ⟨r, hr, rfl⟩ := List.mem_map.mp hx
    exact h.nm r hr
  rw [List.length_map] at this
  have := h.fl
  omega
theorem Wl.mono (h : Wl ow st cs F l b lt la n d ks) (hm : n ≤ m) : Wl ow st cs F l b lt la m d ks := ⟨h.spr.mono hm, h.ol, h.e, h.hlt, h.ul, h.hF, h.nm, h.fl⟩
theorem notD (he : EgAt ow st cs b lt d ks) (h : st[p]? = some (.dic kvs)) : ¬ (p + 1 = b + 1 ∨ ofCks ks (p + 1)) := by
  rintro (z | ⟨y, hy, z⟩)
  · obtain ⟨lk, lw, lp, lc, hD⟩ := he.hD
    have e := hD.hb.2
    rw [show b = p by omega, h] at e
    cases e
  · obtain ⟨⟨rs, lo, hi, hc⟩, _⟩ := he.hc.at' y hy
    have e := hc.hc.2
    rw [show y.r = p by omega, h] at e
    cases e
theorem EgAt.dic (he : EgAt ow st cs b lt d ks) (h : st[p]? = some (.dic kvs)) (t : Xt ow st (fun k => k = p + 1) ow' st') : EgAt ow' st' cs b lt d ks := by
  have nn := notD he h
  obtain ⟨lk, lw, lp, lc, hD⟩ := he.hD
  exact ⟨⟨lk, lw, lp, lc, hD.xt t fun z => nn (.inl z.symm)⟩, he.hw, he.hk, he.hc.xt t (fun x hx z => nn (.inr ⟨x, hx, z.symm⟩)) (by omega), Cel.xt (k := 0) (o := .ins "Table" (tabF cs)) he.ht t (by omega), he.rows, he.pts, he.bg⟩
theorem Wl.draw (h : Wl ow st cs F l b lt la n d ks) (hne : la ≠ l) (hs : Spr m l st') (u : Ups l st st') : Wl ow st' cs F l b lt la m d ks := by
  have t := Z4u h.ol u
  obtain ⟨s, x, c, e, _⟩ := h.spr
  exact ⟨hs, h.ol, h.e.lst e t, h.hlt, h.ul, h.hF.xt t (by omega), h.nm, h.fl⟩
theorem Dl.draw (h : Dl ow st lr d) (ol : ow l = l + 1) (hs : Spr m l st) (u : Ups l st st') : Dl ow st' lr d := by
  obtain ⟨s, x, c, e, _⟩ := hs
  refine h.xt (Z4u ol u) fun z => ?_
  have z : lr = l := by omega
  have := h.2
  rw [z, e] at this
  cases this
theorem Wl.dic (h : Wl ow st cs F l b lt la n d ks) (hr : Cel ow (lr + 1) st lr (.dic kvs)) (t : Xt ow st (fun k => k = lr + 1) ow' st') : Wl ow' st' cs F l b lt la n d ks := by
  obtain ⟨s, x, c, e, _⟩ := h.spr
  have h1 : lr ≠ l := by rintro rfl; have := hr.2; rw [e] at this; cases this
  have h2 : lr ≠ la := by rintro rfl; have := hr.2; rw [h.hF.2] at this; cases this
  exact ⟨h.spr.keep (t.keep l h.spr.lt (by rw [h.ol]; omega)), (t.own l h.spr.lt).trans h.ol, h.e.dic hr.2 t, h.hlt, h.ul, h.hF.xt t (by omega), h.nm, h.fl⟩
theorem Wl.db {d' : Db} {lk lw lp lc : Nat} (h : Wl ow st cs F l b lt la n d ks) (t : Xt ow st (fun k => k = b + 1) ow' st') (hD : DbAt ow' st' b lk lw lp lc d') (same : d'.lt = d.lt ∧ d'.wr = d.wr ∧ d'.pts = d.pts ∧ d'.cus = d.cus ∧ d'.bg = d.bg) (hr : RwsOk cs d'.rows) (nm : ∀ r ∈ d'.rows, r.name ∈ F) : Wl ow' st' cs F l b lt la n d' ks := by
  obtain ⟨s, x, c, e, _⟩ := h.spr
  have nb : ∀ {p xs}, st[p]? = some (.lst xs) → ¬ p + 1 = b + 1 := fun hp z => notE h.e hp (.inl z)
  have nc : ∀ x ∈ ks, ¬ x.r + 1 = b + 1 := fun x hx z => by
    obtain ⟨lk0, lw0, lp0, lc0, hD0⟩ := h.e.hD
    exact h.e.hc.notb hD0 ⟨x, hx, z.symm⟩
  refine ⟨h.spr.keep (t.keep l h.spr.lt (by rw [h.ol]; exact nb e)), (t.own l h.spr.lt).trans h.ol, ?_, same.1.trans h.hlt, h.ul, h.hF.xt t (nb h.hF.2), nm, h.fl⟩
  exact ⟨⟨lk, lw, lp, lc, hD⟩, same.2.1.trans h.e.hw, same.2.2.2.1.trans h.e.hk, h.e.hc.xt t nc (by omega), Cel.xt (k := 0) (o := .ins "Table" (tabF cs)) h.e.ht t (by omega), hr, by rw [same.2.2.1]; exact h.e.pts, by rw [same.2.2.2.2]; exact h.e.bg⟩
theorem Zoh (d : Db) (n : Int) (vs : List IV) : (putRw d n vs).lt = d.lt ∧ (putRw d n vs).wr = d.wr ∧ (putRw d n vs).pts = d.pts ∧ (putRw d n vs).cus = d.cus ∧ (putRw d n vs).bg = d.bg := by
  unfold putRw giveR
  split <;> exact ⟨rfl, rfl, rfl, rfl, rfl⟩
end
end K22
namespace K22
open PySem PySem.Spec PyProof.Rows L2 Mi
theorem Zpy {es : List IV} {i : Nat} (nd : (es.map fst).Nodup) (hc : ∀ x ∈ es, colOk x = true) (hi : i < es.length) : inI (fst es[i]) ((es.take i).map fst) = false := by
  obtain ⟨w, t, e, _⟩ := Z1T (hc _ (List.getElem_mem hi))
  rw [e]
  show inI (.str w) _ = false
  cases q : inI (.str w) ((es.take i).map fst) with
  | false => rfl
  | true =>
    exfalso
    have m := inI_str.mp q
    have sp : es = es.take i ++ es[i] :: es.drop (i + 1) := by rw [← List.drop_eq_getElem_cons hi, List.take_append_drop]
    rw [sp, e, List.map_append, List.map_cons, List.nodup_append] at nd
    exact nd.2.2 _ m _ (List.mem_cons_self) rfl
theorem Zqo {es : List IV} (g : Good es) (h0 : 0 < es.length) (hm : many es ≤ 36) : dueV es = .non := by
  refine ZkA (by omega) g.len (ZgP fun j hj => ?_) (by omega)
  rw [Zoy (List.getElem?_eq_getElem hj), g.col _ (List.getElem_mem hj), Zpy g.nd g.col hj]; rfl
theorem okv3 {es : List IV} (g : Good es) : es.all (okV 3) = true := List.all_eq_true.mpr fun x hx => ZoK (by decide) (List.all_eq_true.mp g.okv x hx)
theorem tabl {es : List IV} {l0 : Nat} {st : Sto} {P : IV → Sto → Prop} {E : Str → List (Str × IV) → Sto → Prop} (g : Good es) (h0 : 0 < es.length) (hm : many es ≤ 36) (h : st[l0]? = some (.ins "Table" []))
    (k : ∀ st', TabAt l0 es st' → Ups l0 st st' → P .non st') : (ZA [.ref l0, .lst es] st).wp P E := by
  have d := Zqo g h0 hm
  exact ZuV h (okv3 g) (by have := g.len; omega) (fun i st' e _ => by rw [d] at e; cases e) fun st' _ _ hu ht => k st' ht hu
theorem many6 : ∀ cs ∈ cols6, many cs ≤ 36 := by
  intro cs h
  simp only [cols6, List.mem_cons, List.not_mem_nil, or_false] at h
  rcases h with rfl | rfl | rfl | rfl | rfl | rfl <;> decide
theorem makeT {es : List IV} {st : Sto} {Q : Sto → Prop} {E : Str → List (Str × IV) → Sto → Prop} (g : Good es) (h0 : 0 < es.length) (hm : many es ≤ 36) (k : ∀ st', TabAt st.length es st' → (∀ j, j < st.length → st'[j]? = st[j]?) → st'.length = st.length + 1 → Q st') : (ZA [.ref st.length, .lst es] (st ++ [.ins "Table" []])).wp (fun v st' => v = .non ∧ Q st') E := by
  have N : (st ++ [Mi.IO.ins "Table" []])[st.length]? = some (.ins "Table" []) := by simp
  exact tabl g h0 hm N fun st' ht hu => ⟨rfl, k st' ht (fun j hj => (hu.get j (by omega)).trans (List.getElem?_append_left hj)) (by rw [hu.len]; simp)⟩
def Zi4 : IS := (iSeq (iSet 3 (iIf (iTest (iBin gGe (Ze gAbs (iCons (iVar 2) iNil)) (iBin gPow (iC (.int 10)) (iC (.int 18))))) (Ze gAbs (iCons (iVar 2) iNil)) (iC (.int 0))))
    (iRet (iLstS (iCons (iVar 3) (iCons (iBin gMod (Ze gInt (iCons (iBin gAdd (iBin gAdd (iBin gAdd (iBin gMul (iVar 2) (iC (.int 40961))) (iBin gMul (iBin gMul (iVar 1) (iVar 1)) (iC (.int 7919)))) (iBin gMul (iVar 1) (iC (.int 104729)))) (iC (.int 17))) iNil)) (iC (.int 2147483543))) (iCons (iC (.int 0)) iNil))))))
theorem ZlE : Zfm = iSeq (iSet 2 (iIf (iTest (iBin gLt (iVar 1) (Ze gLen (iCons (iVar 0) iNil)))) (Ze gInt (iCons (iIx (iVar 0) (iVar 1)) iNil)) (iC (.int 0)))) Zi4 := rfl
theorem Zpg {ns : List Int} {i : Nat} {st : Sto} {P : IV → Sto → Prop} {E : Str → List (Str × IV) → Sto → Prop} (hi : i ≤ 10) (k : ∀ o, Spr 0 st.length (st ++ [o]) → P (.ref st.length) (st ++ [o])) : (Z3Q [.lst (ns.map .int), .int (i : Int)] st).wp P E := by
  have go : ∀ (v : Int), (Zi4 [some (.v (.lst (ns.map .int))), some (.v (.int (i : Int))), some (.v (.int v)), none] st).wp ⟨fun _ st => P .non st, P, fun _ _ => False, fun _ _ => False, fun c fs _ st => E c fs st⟩ := by
    intro v
    have gm : ∀ x : Int, 0 ≤ x % 2147483543 ∧ x % 2147483543 ≤ 1000000000000 := fun x => by omega
    have fin : ∀ s x : Int, 0 ≤ s → P (.ref st.length) (st ++ [Mi.IO.lst [.int s, .int (x % 2147483543), .int 0]]) := fun s x hs => k _ ⟨s, x % 2147483543, 0, by simp, hs, (gm x).1, (gm x).2, by omega, by omega⟩
    simp [Zi4]
    split
    · exact ⟨by omega, fin _ _ (by omega)⟩
    · exact ⟨by omega, fin _ _ (by omega)⟩
  rw [Z3Q, ZlE]
  simp
  by_cases c : i < ns.length
  · have at1 : atI (ns.map IV.int) (i : Int) = some (.int ns[i]) := Mi.atI_at (by rw [List.getElem?_map, List.getElem?_eq_getElem c]; rfl)
    simp [c, at1]
    exact go _
  · simp [c]
    exact go 0
theorem ZiZ : ∀ {rs : List (Int × List IV)}, Z79 (rs.map Zh) = some (rs.map fun r => ((.inl r.1 : Key), IV.tup r.2))
  | [] => rfl
  | r :: rs => by
    show (match keyK (.int r.1) with | some q => (Z79 (rs.map Zh)).map ((q, IV.tup r.2) :: ·) | none => none) = _
    rw [ZiZ]; rfl
theorem ZkY : ∀ {more kvs : List (Key × IV)}, ((kvs ++ more).map (·.1)).Nodup → Z4f kvs more = kvs ++ more
  | [], kvs, _ => by simp [Z4f]
  | p :: r, kvs, nd => by
    have e : putD kvs p.1 p.2 = kvs ++ [p] := by
      unfold putD
      rw [if_neg]
      rw [List.any_eq_true]
      rintro ⟨q, hq, e⟩
      have e : q.1 = p.1 := by simpa using e
      rw [List.map_append, List.nodup_append] at nd
      exact nd.2.2 q.1 (List.mem_map.mpr ⟨q, hq, rfl⟩) p.1 (by simp) e
    show Z4f (putD kvs p.1 p.2) r = _
    rw [e, ZkY (by simpa using nd)]
    simp
section
variable {cs : List IV} {rs : List (Int × List IV)} {st : Sto} {P : IV → Sto → Prop} {E : Str → List (Str × IV) → Sto → Prop} {lr : Nat}
abbrev kvR (rs : List (Int × List IV)) : List (Key × IV) := rs.map fun r => ((.inl r.1 : Key), IV.tup r.2)
theorem ZtG (hr : RsOk cs rs) : Z5t [.lst (rs.map Zh)] st = .ok (.ref st.length) (st ++ [.dic (kvR rs)]) := by
  have a : asL st (.lst (rs.map Zh)) = some (rs.map Zh) := rfl
  have m : Z4f [] (kvR rs) = kvR rs := by
    rw [ZkY, List.nil_append]
    rw [List.nil_append, List.map_map]
    have e : rs.map ((fun x : Key × IV => x.1) ∘ fun r => ((.inl r.1 : Key), IV.tup r.2)) = (rs.map (·.1)).map Sum.inl := by rw [List.map_map]; rfl
    rw [e]
    exact List.Pairwise.map _ (fun a b h e => h (Sum.inl.inj e)) hr.nd
  unfold Z5t
  simp only [a, ZiZ]
  rw [m]
end
end K22
namespace K22
open PySem PySem.Spec PyProof.Rows L2 Mi PySem.W
structure EnI (cs : List IV) (e : En) : Prop where
  vs : inTs e.vs cs = true
  pv : inTs e.pl.1 cs = true
  pn : e.pl.2 = (0, e.name)
structure CuI (cs : List IV) (c : Cu) : Prop where
  es : ∀ e ∈ c.es, EnI cs e
  len : c.es.length ≤ 2001
  ixf : c.full = true → -1 ≤ c.ix ∧ c.ix ≤ c.es.length
  ixn : c.full = false → (c.es = [] ∧ c.ix = -1) ∨ (0 ≤ c.ix ∧ c.ix < c.es.length)
section
variable {cs : List IV} {dc : Dc} {rows : List Rw} {c : Cu} {a b : Option Rk} {e e' : En}
theorem CuI.empty {s : Int} (hf : c.full = false) : CuI cs (Zhd c s) := ⟨by simp [Zhd], by simp [Zhd], fun h => (by rw [show (Zhd c s).full = c.full from rfl, hf] at h; cases h), fun _ => .inl ⟨rfl, rfl⟩⟩
theorem CuI.row {v : Bool} (h : CuI cs c) : CuI cs { c with row := v } := ⟨h.es, h.len, h.ixf, h.ixn⟩
def Dat (x : IV) : Prop := okV 3 x = true ∧ nb x = true
theorem Ze1 : ∀ {vs cs : List IV}, inTs vs cs = true → (vs.all (okV 1) = true) ∧ nbs vs = true
  | [], [], _ => ⟨rfl, rfl⟩
  | v :: vs, c :: cs, h => by
    rw [Z3m] at h
    obtain ⟨h1, h2⟩ := Bool.and_eq_true_iff.mp h
    obtain ⟨a, b⟩ := Ze1 h2
    cases v with
    | int i => exact ⟨by simpa [okV] using a, by simpa [nbs, nb] using b⟩
    | _ => cases h1
  | [], _ :: _, h => by have := Z3M h; simp at this
  | _ :: _, [], h => by have := Z3M h; simp at this
theorem ZrE {vs : List IV} (h : inTs vs cs = true) : Dat (.tup vs) := by
  obtain ⟨a, b⟩ := Ze1 h
  refine ⟨?_, by simpa [nb] using b⟩
  simp only [okV]
  exact List.all_eq_true.mpr fun x hx => ZoK (by decide) (List.all_eq_true.mp a x hx)
theorem Zle {n : Int} {vs : List IV} (h : inTs vs cs = true) : Dat (.tup [.int n, .tup vs]) := by
  obtain ⟨a, b⟩ := Ze1 h
  refine ⟨?_, by simpa [nb, nbs] using b⟩
  simp only [okV, List.all_cons, List.all_nil, Bool.and_true, Bool.true_and]
  exact a
theorem Dat.rsv {x : IV} {st : Sto} (h : Dat x) : rsv st x = x := by
  have := h.2
  cases x <;> first | rfl | (simp [nb] at this)
theorem Zvb {x y : IV} {st : Sto} (hx : Dat x) (hy : Dat y) : gNe x y st = .ok (.bl (!pE x y)) st := by
  have := ne_pE (st := st) (n := 3) (x := x) (y := y) (by rw [hx.rsv]; exact hx.1) (by rw [hy.rsv]; exact hy.1) (by decide)
  rw [hx.rsv, hy.rsv] at this
  exact this
theorem ne_self {x : IV} {st : Sto} (hx : Dat x) : gNe x x st = .ok (.bl false) st := by
  rw [Zvb hx hx, (Zgu x x hx.2 hx.2).mpr rfl]; rfl
end
end K22
namespace K22
open PySem PySem.Spec PyProof.Rows L2 Mi PySem.W
def Stops (f : Cu → Cu) : Nat → Cu → Prop
  | 0, _ => False
  | k + 1, c => ZvQ (f c) = none ∨ Stops f k (f c)
theorem Stops.mono {f : Cu → Cu} : ∀ {k m : Nat} {c : Cu}, Stops f k c → k ≤ m → Stops f m c
  | 0, _, _, h, _ => h.elim
  | k + 1, 0, _, _, hm => by omega
  | k + 1, m + 1, c, h, hm => by
    rcases h with h | h
    · exact .inl h
    · exact .inr (h.mono (by omega))
end K22
namespace K22
open PySem PySem.Spec PyProof.Rows L2 Mi
def ow0 (lt : Nat) : Ow := fun p => if p = lt then 0 else p + 1
section
variable {cs : List IV} {F : List Int} {l b lt la lr r1 r2 n m : Nat} {dc : Dc} {d : Db} {ow ow' : Ow} {ks : List Ck} {st st' : Sto} {P : IV → Sto → Prop} {E : Str → List (Str × IV) → Sto → Prop} {v6 : Option SV}
theorem Wl.new (h : Wl ow st cs F l b lt la n d ks) (t : Xt ow st none0 ow' st') : Wl ow' st' cs F l b lt la n d ks :=
  ⟨h.spr.keep (t.keep l h.spr.lt id), (t.own l h.spr.lt).trans h.ol, h.e.mono t, h.hlt, h.ul, h.hF.xt t id, h.nm, h.fl⟩
end
end K22
namespace K22
open PySem PySem.Spec PyProof.Rows L2 Mi PySem.W
theorem Z5r {rows : List Rw} {r : Rw} (nd : (rows.map (·.name)).Nodup) (h : r ∈ rows) : rowOf rows r.name = some r := by
  induction rows with
  | nil => cases h
  | cons a t ih =>
    rw [List.map_cons, List.nodup_cons] at nd
    unfold rowOf
    rcases List.mem_cons.mp h with rfl | h
    · simp
    · have ne : a.name ≠ r.name := fun z => nd.1 (z ▸ List.mem_map.mpr ⟨r, h, rfl⟩)
      have := ih nd.2 h
      unfold rowOf at this
      simp [ne, this]
def valR (rows : List Rw) (n : Int) : IV := match rowOf rows n with | some w => .tup w.vs | none => .non
def rowsL (rows : List Rw) : List IV := (isort (rows.map (·.name))).map fun n => .tup [.int n, valR rows n]
end K22
namespace K22
open PySem PySem.Spec PyProof.Rows L2 Mi PySem.W
def NmA2 (n l : Nat) (m : Nat) (st0 : Sto) (i : Nat) (ρ : Slots) (st : Sto) : Prop := ∃ (a : Int) (L : List Int) (s5 : Option SV), ρ = [some (.v (.ref l)), some (.v (.int m)), some (.v (.int a)), some (.v (.ref st0.length)), some (.v (.ref (st0.length + 1))), s5] ∧
  Spr (n + 2 * i) l st ∧ st[st0.length]? = some (.lst (L.map .int)) ∧ st[st0.length + 1]? = some (.lst []) ∧ L.length = i ∧ L.Nodup ∧ (∀ x ∈ L, x < a) ∧ (∀ j, j < st0.length → j ≠ l → st[j]? = st0[j]?) ∧ st.length = st0.length + 2 ∧ (-1000000000000000000000000000000 ≤ a ∧ a ≤ 1000000000000000000000000000000 + 10000000000000000000000 * (i : Int)) ∧ (∀ x ∈ L, -1000000000000000000000000000000 ≤ x)
def NmB2 (n l : Nat) (m : Nat) (st0 : Sto) (i : Nat) (ρ : Slots) (st : Sto) : Prop := ∃ (a : IV) (L F : List Int) (s5 : Option SV), ρ = [some (.v (.ref l)), some (.v (.int m)), some (.v a), some (.v (.ref st0.length)), some (.v (.ref (st0.length + 1))), s5] ∧
  Spr (n + 2 * m + i) l st ∧ st[st0.length]? = some (.lst (L.map .int)) ∧ st[st0.length + 1]? = some (.lst (F.map .int)) ∧ L.length + i = m ∧ F.length = i ∧ (F ++ L).Nodup ∧ (∀ j, j < st0.length → j ≠ l → st[j]? = st0[j]?) ∧ st.length = st0.length + 2 ∧ (∀ x ∈ F ++ L, -10000000000000000000000000000000 ≤ x ∧ x ≤ 10000000000000000000000000000000)
section
variable {n l m : Nat} {st : Sto} {P : IV → Sto → Prop} {E : Str → List (Str × IV) → Sto → Prop}
theorem Zp1 (hn : n < 100000000000000) (hm : m ≤ 12) (h : Spr n l st)
    (k : ∀ (F : List Int) st', (∀ x ∈ F, -10000000000000000000000000000000 ≤ x ∧ x ≤ 10000000000000000000000000000000) → F.Nodup → F.length = m → st'[st.length + 1]? = some (.lst (F.map .int)) → Spr (n + 1 + 3 * m) l st' → (∀ j, j < st.length → j ≠ l → st'[j]? = st[j]?) → st'.length = st.length + 2 → P (.ref (st.length + 1)) st') : (Z3H [.ref l, .int (m : Int)] st).wp P E := by
  have ll := h.lt
  simp [Z3H, Zij]
  have go : ∀ (a : Int) (st1 : Sto), -1000000000000000000000000000000 ≤ a → a ≤ 1000000000000000000000000000000 → Spr (n + 1) l st1 → Ups l st st1 → ((iSeq (iPar2 3 4 (iCons (iLstS iNil) (iCons (iLstS iNil) iNil)))
    (iSeq (iFor (iRng gRng1 (iCons (iVar 1) iNil)) (Zf 5) Z5Z)
    (iSeq (iFor (iRng gRng1 (iCons (iVar 1) iNil)) (Zf 5) Z5X) (iRet (iVar 4))))) [some (.v (.ref l)), some (.v (.int (m : Int))), some (.v (.int a)), none, none, none] st1).wp ⟨fun _ st => P .non st, P, fun _ _ => False, fun _ _ => False, fun c fs _ st => E c fs st⟩ := by
    intro a st1 ha1 ha2 b1 u1
    have l1 := u1.len
    simp [l1]
    have q1 : (st1 ++ [Mi.IO.lst [], Mi.IO.lst []])[st.length]? = some (.lst []) := by rw [← l1]; simp
    have q2 : (st1 ++ [Mi.IO.lst [], Mi.IO.lst []])[st.length + 1]? = some (.lst []) := by rw [← l1]; simp
    have q3 : (st1 ++ [Mi.IO.lst [], Mi.IO.lst []]).length = st.length + 2 := by simp [l1]
    refine ⟨by omega, ?_⟩
    refine Z1e (NmA2 (n + 1) l m st) ⟨a, [], none, rfl, Znk (o := [Mi.IO.lst [], Mi.IO.lst []]) b1, q1, q2, rfl, by simp, by simp, fun j hj hne => by rw [List.getElem?_append_left (by omega)]; exact u1.get j hne, q3, ⟨ha1, by simpa using ha2⟩, by simp⟩ ?_ ?_
    · rintro i x ρ st2 hx ⟨a2, L, s5, rfl, b2, e1, e2, e3, e4, e5, e6, e7, e8, e9⟩
      obtain ⟨hi, rfl⟩ := Z3O hx
      refine ⟨rfl, ?_⟩
      simp [Z5Z, Z4h e1, Z78 e1 (show (L.map IV.int).length < 100000 by rw [List.length_map]; omega)]
      have f1 : (st2.set st.length (.lst (L.map IV.int ++ [.int a2])))[st.length]? = some (.lst ((L ++ [a2]).map .int)) := by rw [Z2w e1]; simp
      have f2 : (st2.set st.length (.lst (L.map IV.int ++ [.int a2])))[st.length + 1]? = some (.lst []) := by rw [List.getElem?_set_ne (by omega)]; exact e2
      have f3 : ∀ j, j < st.length → j ≠ l → (st2.set st.length (.lst (L.map IV.int ++ [.int a2])))[j]? = st[j]? := fun j h1 h2 => by rw [List.getElem?_set_ne (by omega)]; exact e6 j h1 h2
      have f4 : (st2.set st.length (.lst (L.map IV.int ++ [.int a2]))).length = st.length + 2 := by rw [List.length_set]; exact e7
      have b3 := ZhW (o := .lst (L.map IV.int ++ [.int a2])) b2 (show st.length ≠ l by omega)
      generalize st2.set st.length (.lst (L.map IV.int ++ [.int a2])) = st3 at f1 f2 f3 f4 b3 ⊢
      refine Z29 (by omega) (by omega) (by omega) b3 fun r st4 r0 r1 b4 u4 => ?_
      simp
      refine Zhl (by decide) (by decide) (by omega) b4 fun w st5 hw b5 u5 => ?_
      have hw' : ∃ w' : Int, w = .int w' ∧ 0 < w' ∧ w' ≤ 100000000000000000000 := by
        simp only [List.mem_cons, List.not_mem_nil, or_false] at hw
        rcases hw with rfl | rfl | rfl
        · exact ⟨_, rfl, by decide, by decide⟩
        · exact ⟨_, rfl, by decide, by decide⟩
        · exact ⟨_, rfl, by decide, by decide⟩
      obtain ⟨w', rfl, w0, w1⟩ := hw'
      simp
      have pos : 0 ≤ r * w' := Int.mul_nonneg r0 (by omega)
      have up : r * w' ≤ 2 * 100000000000000000000 := Int.mul_le_mul (by omega) w1 (by omega) (by omega)
      have keep : ∀ j, j ≠ l → st5[j]? = st3[j]? := fun j hj => (u5.get j hj).trans (u4.get j hj)
      refine ⟨by omega, ⟨a2 + 1 + r * w', L ++ [a2], _, rfl, by rw [show n + 1 + 2 * (i + 1) = n + 1 + 2 * i + 1 + 1 by omega]; exact b5, (keep _ (by omega)).trans f1, (keep _ (by omega)).trans f2, by rw [List.length_append, e3]; rfl, ?_, fun x hx => ?_, fun j hj hne => (keep j hne).trans (f3 j hj hne), by rw [u5.len, u4.len]; exact f4, ⟨by omega, by push_cast; omega⟩, fun x hx => ?_⟩⟩
      · rw [List.nodup_append]
        exact ⟨e4, by simp, fun x hx y hy => by
          have : y = a2 := by simpa using hy
          have := e5 x hx
          omega⟩
      · rcases List.mem_append.mp hx with hx | hx
        · have := e5 x hx; omega
        · have : x = a2 := by simpa using hx
          omega
      · rcases List.mem_append.mp hx with hx | hx
        · exact e9 x hx
        · have : x = a2 := by simpa using hx
          omega
    · rintro ρ st2 ⟨a2, L, s5, rfl, b2, e1, e2, e3, e4, e5, e6, e7, e8, e9⟩
      rw [Z3L] at b2 e3
      have e3 : L.length = m := by simpa using e3
      refine ⟨rfl, ?_⟩
      simp
      refine ⟨by omega, ?_⟩
      refine Z1e (NmB2 (n + 1) l m st) ⟨.int a2, L, [], s5, rfl, by simpa using b2, e1, e2, by omega, rfl, by simpa using e4, e6, e7, fun x hx => by
        have hx : x ∈ L := by simpa using hx
        have := e5 x hx
        have := e9 x hx
        have e8 := e8.2
        rw [Z3L] at e8
        have : ((Int.toNat (m : Int) : Nat) : Int) ≤ 12 := by omega
        omega⟩ ?_ ?_
      · rintro i x ρ st3 hx ⟨a3, L3, F3, s5', rfl, b3, f1, f2, f3, f4, f5, f6, f7, f8⟩
        obtain ⟨hi, rfl⟩ := Z3O hx
        have hi : i < m := by simpa using hi
        refine ⟨rfl, ?_⟩
        simp [Z5X, Z4h f2, Z4h f1, ZhU f1]
        refine Z29 (by omega) (by omega) (by omega) b3 fun r st4 r0 r1 b4 u4 => ?_
        have g1 : st4[st.length]? = some (.lst (L3.map .int)) := (u4.get _ (by omega)).trans f1
        have g2 : st4[st.length + 1]? = some (.lst (F3.map .int)) := (u4.get _ (by omega)).trans f2
        have rl : r.toNat < L3.length := by omega
        have gv : (L3.map IV.int)[r.toNat]? = some (.int L3[r.toNat]) := by rw [List.getElem?_map, List.getElem?_eq_getElem rl]; rfl
        have g3 : (st4.set st.length (.lst ((L3.map IV.int).eraseIdx r.toNat)))[st.length + 1]? = some (.lst (F3.map .int)) := by rw [List.getElem?_set_ne (by omega)]; exact g2
        have lf : (F3.map IV.int).length < 100000 := by rw [List.length_map]; omega
        simp [Z4h g1, Zor g1 r0 (by omega) gv, Z78 g3 lf, Z4h g3]
        have pm : (L3[r.toNat] :: L3.eraseIdx r.toNat).Perm L3 := Zh6 _ _ rl
        refine ⟨a3, L3.eraseIdx r.toNat, F3 ++ [L3[r.toNat]], _, rfl, ?_, ?_, ?_, by rw [List.length_eraseIdx]; simp [rl]; omega, by rw [List.length_append, f4]; rfl, ?_, fun j hj hne => ?_, ?_, ?_⟩
        · have := ZhW (o := .lst (F3.map IV.int ++ [.int L3[r.toNat]])) (ZhW (o := .lst ((L3.map IV.int).eraseIdx r.toNat)) b4 (show st.length ≠ l by omega)) (show st.length + 1 ≠ l by omega)
          exact this.mono (by omega)
        · rw [List.getElem?_set_ne (by omega), Z2w g1, ZiR]
        · rw [Z2w g3]; simp
        · rw [List.append_assoc]
          exact (List.Perm.append_left F3 pm).nodup_iff.mpr f5
        · rw [List.getElem?_set_ne (by omega), List.getElem?_set_ne (by omega), u4.get j hne]; exact f6 j hj hne
        · rw [List.length_set, List.length_set, u4.len]; exact f7
        · intro x hx
          rw [List.append_assoc] at hx
          exact f8 x ((List.Perm.append_left F3 pm).mem_iff.mp hx)
      · rintro ρ st3 ⟨a3, L3, F3, s5', rfl, b3, f1, f2, f3, f4, f5, f6, f7, f8⟩
        rw [Z3L] at b3 f3 f4
        have f3 : L3.length + m = m := by simpa using f3
        have f4 : F3.length = m := by simpa using f4
        have : L3 = [] := List.length_eq_zero_iff.mp (by omega)
        subst this
        refine ⟨rfl, ?_⟩
        simp
        rw [List.append_nil] at f5 f8
        refine k F3 st3 f8 f5 f4 f2 (b3.mono ?_) f6 f7
        omega
  refine Zhl (by decide) (by decide) (by omega) h fun w st1 hw b1 u1 => ?_
  simp only [List.mem_cons, List.not_mem_nil, or_false] at hw
  have g := fun a h1 h2 => go a st1 h1 h2 b1 u1
  rcases hw with rfl | rfl | rfl | rfl | rfl
  · simpa using g 0 (by decide) (by decide)
  · simpa using g (-3) (by decide) (by decide)
  · simpa using g 7 (by decide) (by decide)
  · have := g (-100000000000000000000000000000) (by decide) (by decide); simpa using this
  · have := g 10000000000000000000000000000 (by decide) (by decide); simpa using this
end
end K22
namespace K22
open PySem PySem.Spec PyProof.Rows L2 Mi PySem.W
section
variable {ow ow' : Ow} {st st' : Sto} {cs : List IV} {b lk lw lp lc lt r l n : Nat} {d : Db} {P : IV → Sto → Prop} {E : Str → List (Str × IV) → Sto → Prop} {Q : Sto → Prop}
theorem ZmB {q : Nat} {rs : List (Int × List IV)} (hq : st[q]? = some (.lst (rs.map Zh))) (ht : TabAt lt cs st) (hr : RsOk cs rs) (k : ∀ st', (∀ j, j < st.length → st'[j]? = st[j]?) → st'.length = st.length + 1 → P .non st') : (Z1p [.ref lt, .ref q] st).wp P E := by
  have tl : lt < st.length := (List.getElem?_eq_some_iff.mp ht).1
  have ql : q < st.length := (List.getElem?_eq_some_iff.mp hq).1
  have hq1 : (st ++ [Mi.IO.set []])[q]? = some (.lst (rs.map Zh)) := by rw [List.getElem?_append_left ql]; exact hq
  simp [Z1p, Z3U, ZqV hq1]
  refine Z1e (CkI st st.length lt rs (.ref q)) ⟨⟨none, none, none, none, rfl⟩, by simp, fun j hj => List.getElem?_append_left hj, by simp⟩ ?_ ?_
  · rintro i z ρ st1 hz ⟨⟨s3, s4, s5, s6, rfl⟩, e1, e2, e3⟩
    obtain ⟨v, hv, rfl⟩ := enumI_get hz
    rw [List.getElem?_map] at hv
    cases qq : rs[i]? with
    | none => rw [qq] at hv; cases hv
    | some r =>
      rw [qq] at hv
      have hv : Zh r = v := by simpa using hv
      subst hv
      have il := (List.getElem?_eq_some_iff.mp qq).1
      have few := hr.few
      have ht1 : TabAt lt cs st1 := (e2 lt tl).trans ht
      have nin : hasK ((rs.take i).map fun r => (Sum.inl r.1 : Key)) (.inl r.1) = false := by
        rw [← Bool.not_eq_true, hasK_iff]
        intro hm
        obtain ⟨r', hr', er⟩ := List.mem_map.mp hm
        have er : r'.1 = r.1 := Sum.inl.inj er
        obtain ⟨j, hj, hj2⟩ := List.getElem_of_mem hr'
        rw [List.length_take] at hj
        rw [List.getElem_take] at hj2
        have h1 : (rs.map (·.1))[j]? = some r.1 := by rw [List.getElem?_map, List.getElem?_eq_getElem (by omega), hj2, ← er]; rfl
        have h2 : (rs.map (·.1))[i]? = some r.1 := by rw [List.getElem?_map, qq]; rfl
        have := (List.getElem?_inj (by rw [List.length_map]; omega) hr.nd).mp (h1.trans h2.symm)
        omega
      have is1 : gInS false (.int r.1) (.ref st.length) st1 = .ok (.bl false) st1 := by rw [Zsn e1 (k := .inl r.1) rfl, nin]; rfl
      refine ⟨Z1U ((e2 q ql).trans hq), ?_⟩
      simp [Z3a, Zh, askT, ZT, tyOf, is1]
      refine ZlS ht1.ins (Znb ht1 (hr.vs r (List.mem_of_getElem? qq)) ⟨_, rfl, ?_⟩)
      have sa : (setAt st1 (.ref st.length)).isSome = true := by simp [setAt, e1]
      have ll : ((rs.take i).map fun r => (Sum.inl r.1 : Key)).length < 4000 := by rw [List.length_map, List.length_take]; omega
      have nin' := nin
      rw [List.map_take] at nin'
      simp [sa, ZrC (y := .int r.1) e1 (k := .inl r.1) rfl ll, nin]
      refine ⟨⟨_, _, _, _, rfl⟩, ?_, fun j hj => ?_, by rw [List.length_set]; exact e3⟩
      · rw [List.getElem?_set_self (by omega), List.take_add_one, qq]; simp [nin']
      · rw [List.getElem?_set_ne (by omega)]; exact e2 j hj
  · rintro ρ st1 ⟨⟨s3, s4, s5, s6, rfl⟩, e1, e2, e3⟩
    exact ⟨Z1U ((e2 q ql).trans hq), k st1 e2 e3⟩
theorem Zuz {q : Nat} {rs : List (Int × List IV)} (hq : st[q]? = some (.lst (rs.map Zh))) (ht : TabAt lt cs st) (hr : RsOk cs rs) (hf : ∀ p, p < st.length → ow p ≠ st.length + 1)
    (k : ∀ ow' st' lk lw lp lc, Xt ow st none0 ow' st' → DbAt ow' st' st.length lk lw lp lc (ZO lt rs) → Q st') :
    (ZK [.ref st.length, .ref lt, .ref q] (st ++ [.ins "Database" []])).wp (fun v st' => v = .non ∧ Q st') E := by
  have tl : lt < st.length := (List.getElem?_eq_some_iff.mp ht).1
  have ht1 : TabAt lt cs (st ++ [.ins "Database" []]) := by unfold TabAt; rw [List.getElem?_append_left tl]; exact ht
  simp [ZK, Z2F]
  have ql : q < st.length := (List.getElem?_eq_some_iff.mp hq).1
  have hq1 : (st ++ [Mi.IO.ins "Database" []])[q]? = some (.lst (rs.map Zh)) := by rw [List.getElem?_append_left ql]; exact hq
  refine ZmB hq1 ht1 hr fun st2 h1 h2 => ?_
  have h2 : st2.length = st.length + 2 := by rw [h2]; simp
  have hk : ∀ j, j < st.length → st2[j]? = st[j]? := fun j hj => by rw [h1 j (by simp; omega), List.getElem?_append_left hj]
  have hb : st2[st.length]? = some (.ins "Database" []) := by rw [h1 st.length (by simp)]; simp
  have hlt : st.length < st2.length := by omega
  have inf0 : insAt st2 [("Database" : Str)] (.ref st.length) = some (st.length, ("Database" : Str), []) := ZL hb List.mem_cons_self
  have inf1 : ∀ fs, insAt (st2.set st.length (.ins "Database" fs)) [("Database" : Str)] (.ref st.length) = some (st.length, ("Database" : Str), fs) := fun fs => Z9W hlt List.mem_cons_self
  have inf : ∀ fs os, insAt (st2.set st.length (.ins "Database" fs) ++ os) [("Database" : Str)] (.ref st.length) = some (st.length, ("Database" : Str), fs) := fun fs os => by rw [ZoH (by rw [List.length_set]; exact hlt)]; exact inf1 fs
  have H : ∀ S : Sto, S = st2.set st.length (.ins "Database" (dbF ⟨lt, 0, [], [], [], [], 0⟩ st2.length (st2.length + 1) (st2.length + 1 + 1) (st2.length + 1 + 1 + 1))) ++ [Mi.IO.dic [], Mi.IO.lst [], Mi.IO.lst [], Mi.IO.lst []] →
      (forL (some (q, rs.map Zh)) (rs.map Zh) (tgTup 2 (Zo (Zf 3) (Zo (Zf 4) tgNil))) Z1v (rs.map Zh) [some (.v (.ref st.length)), some (.v (.ref lt)), some (.v (.ref q)), none, none] S).wp ⟨fun _ st => (IV.non = IV.non ∧ Q st), fun v st => v = .non ∧ Q st, fun _ _ => False, fun _ _ => False, fun c fs _ st => E c fs st⟩ := by
    intro S hS
    have sl : S.length = st2.length + 4 := by rw [hS]; simp
    have g0 : S[st.length]? = some (.ins "Database" (dbF ⟨lt, 0, [], [], [], [], 0⟩ st2.length (st2.length + 1) (st2.length + 1 + 1) (st2.length + 1 + 1 + 1))) := by rw [hS, List.getElem?_append_left (by rw [List.length_set]; exact hlt), List.getElem?_set_self hlt]
    have g1 : ∀ i, S[st2.length + i]? = [Mi.IO.dic [], Mi.IO.lst [], Mi.IO.lst [], Mi.IO.lst []][i]? := fun i => by rw [hS, List.getElem?_append_right (by rw [List.length_set]; omega), List.length_set, Nat.add_sub_cancel_left]
    have g2 : ∀ j, j < st.length → S[j]? = st[j]? := fun j hj => by rw [hS, List.getElem?_append_left (by rw [List.length_set]; omega), List.getElem?_set_ne (by omega)]; exact hk j hj
    have x1 : Xt ow st none0 (fun p => if p < st.length then ow p else st.length + 1) S := ⟨by omega, fun p hp => if_pos hp, fun p hp _ => g2 p hp⟩
    have on : ∀ p, st.length ≤ p → (fun p => if p < st.length then ow p else st.length + 1) p = st.length + 1 := fun p hp => if_neg (by omega)
    generalize (fun p => if p < st.length then ow p else st.length + 1) = ow1 at x1 on
    have hD : DbAt ow1 S st.length st2.length (st2.length + 1) (st2.length + 1 + 1) (st2.length + 1 + 1 + 1) (ZO lt []) :=
      ⟨⟨on _ (Nat.le_refl _), g0⟩, ⟨on _ (by omega), g1 0⟩, ⟨on _ (by omega), g1 1⟩, ⟨on _ (by omega), g1 2⟩, ⟨on _ (by omega), g1 3⟩, by omega, by omega, by omega⟩
    refine Z1e (GvI ow1 S st.length st2.length (st2.length + 1) (st2.length + 1 + 1) (st2.length + 1 + 1 + 1) lt (.ref q) rs) ⟨⟨none, none, rfl⟩, .refl, by rw [List.take_zero]; exact hD⟩ ?_ ?_
    · rintro i z ρ st3 hz ⟨⟨s3, s4, rfl⟩, x3, hD3⟩
      rw [List.getElem?_map] at hz
      cases qq : rs[i]? with
      | none => rw [qq] at hz; cases hz
      | some r =>
        rw [qq] at hz
        have hz : Zh r = z := by simpa using hz
        subst hz
        have il := (List.getElem?_eq_some_iff.mp qq).1
        have few := hr.few
        have inv := (ZgL (lt := lt) (rs.take i)).2.2.2.2.2
        have len : (ZO lt (rs.take i)).rows.length = (rs.take i).length := by rw [← List.length_map (f := fun r : Rw => (r.name, r.vs)), inv]
        have hq3 : st3[q]? = some (.lst (rs.map Zh)) := (x3.keep q (by omega) fun z => hf q ql ((x1.own q ql).symm.trans z)).trans ((g2 q ql).trans hq)
        refine ⟨Z1U hq3, ?_⟩
        simp [Zh, Z1v, hD3.ins]
        refine ZlA hD3 (fun r' hr' e => ?_) (by rw [len, List.length_take]; omega) fun st4 x4 h4 => ?_
        · have hm : (r'.name, r'.vs) ∈ rs.take i := by rw [← inv]; exact List.mem_map.mpr ⟨r', hr', rfl⟩
          obtain ⟨j, hj, hj2⟩ := List.getElem_of_mem hm
          rw [List.length_take] at hj
          rw [List.getElem_take] at hj2
          have h1 : (rs.map (·.1))[j]? = some r.1 := by rw [List.getElem?_map, List.getElem?_eq_getElem (by omega), hj2, ← e]; rfl
          have h2 : (rs.map (·.1))[i]? = some r.1 := by rw [List.getElem?_map, qq]; rfl
          have := (List.getElem?_inj (by rw [List.length_map]; omega) hr.nd).mp (h1.trans h2.symm)
          omega
        · refine ⟨⟨_, _, rfl⟩, x3.trans x4, ?_⟩
          rw [List.take_add_one, qq]
          show DbAt ow1 st4 _ _ _ _ _ (ZO lt (rs.take i ++ [r]))
          rw [ZmF]
          exact h4
    · rintro ρ st3 ⟨⟨s3, s4, rfl⟩, x3, hD3⟩
      rw [List.length_map, List.take_of_length_le (Nat.le_refl _)] at hD3
      have hq3 : st3[q]? = some (.lst (rs.map Zh)) := (x3.keep q (by omega) fun z => hf q ql ((x1.own q ql).symm.trans z)).trans ((g2 q ql).trans hq)
      refine ⟨Z1U hq3, rfl, k ow1 st3 _ _ _ _ ⟨Nat.le_trans x1.len x3.len, fun p hp => x1.own p hp, fun p hp n => ?_⟩ hD3⟩
      have := x1.keep p hp n
      rw [← this]
      refine x3.keep p (by omega) fun z => ?_
      exact hf p hp ((x1.own p hp).symm.trans z)
  have it : ∀ fs os, Z27 (st2.set st.length (.ins "Database" fs) ++ os) (.ref q) = some (rs.map Zh, some (q, rs.map Zh)) := fun fs os => Z5Q (by rw [List.getElem?_append_left (by rw [List.length_set]; omega), List.getElem?_set_ne (by omega), hk q ql]; exact hq)
  simp [inf0, inf1, inf, it, List.set_append, hlt, Zv1, ZvS, Zv0, Zvi, Zvz, ZvV, ZuR]
  refine H _ ?_
  simp [dbF, refs]
theorem Zsu {cs : List IV} {ns : List Int} (hn : n < 10000000000000) (h : Spr n l st) (g : Good cs) (nd : ns.Nodup) (few : ns.length ≤ 12)
    (k : ∀ rs st', RsOk cs rs → rs.map (·.1) = ns → Spr (n + 3 * ns.length) l st' → Ups l st st' → P (.ref st'.length) (st' ++ [.lst (rs.map Zh)])) : (Z6U [.ref l, .lst cs, .lst (ns.map .int)] st).wp P E := by
  simp [Z6U, Zl2]
  refine Zl9 (RwI n l cs ns st) ⟨[], rfl, rfl, by simp, h, .refl _ _⟩ ?_ ?_
  · rintro i x acc st1 hx ⟨rs, rfl, e2, e3, e4, e5⟩
    rw [List.getElem?_map] at hx
    cases q : ns[i]? with
    | none => rw [q] at hx; cases hx
    | some a =>
      rw [q] at hx
      have hx : IV.int a = x := by simpa using hx
      subst hx
      have il := (List.getElem?_eq_some_iff.mp q).1
      have rl : rs.length ≤ 12 := by
        have := congrArg List.length e2
        rw [List.length_map, List.length_take] at this
        omega
      refine ⟨rfl, by rw [List.length_map]; omega, ?_⟩
      simp [wipeI]
      refine Zj0 (by omega) e4 g fun vs st2 hv b2 u2 => ?_
      refine ⟨by simp, rs ++ [(a, vs)], by rw [List.map_append]; rfl, by rw [List.map_append, e2, List.take_add_one, q]; rfl, fun r hr => ?_, b2.mono (by omega), e5.trans u2⟩
      rcases List.mem_append.mp hr with hr | hr
      · exact e3 r hr
      · rw [List.mem_singleton.mp hr]; exact hv
  · rintro acc st1 ⟨rs, rfl, e2, e3, e4, e5⟩
    rw [List.length_map] at e2 e4
    rw [List.take_of_length_le (Nat.le_refl _)] at e2
    refine ⟨rfl, ?_⟩
    exact k rs st1 ⟨by rw [e2]; exact nd, e3, by have := congrArg List.length e2; rw [List.length_map] at this; omega⟩ e2 e4 e5
theorem Z6z (hD : DbAt ow st b lk lw lp lc d) (nd : (d.rows.map (·.name)).Nodup) (few : d.rows.length ≤ 1000) (k : P (.ref st.length) (st ++ [.lst (rowsL d.rows)])) : (Zk [.ref b] st).wp P E := by
  have ek : (d.rows.map rwI).map (fun p => kI p.1) = (d.rows.map (·.name)).map .int := by simp [rwI, kI, Function.comp_def]
  have hl := Zpd hD.hk.2
  rw [ek] at hl
  have v : ∀ n ∈ isort (d.rows.map (·.name)), ∃ w, rowOf d.rows n = some w ∧ gIxK (.ref lk) (.int n) st = .ok (rwV w) st := fun n hn => by
    have hm := isort_perm.mem_iff.mp hn
    obtain ⟨w, hw, rfl⟩ := List.mem_map.mp hm
    have e := Z5r nd hw
    refine ⟨w, e, ?_⟩
    have v := Z2g (n := w.name) (rows := d.rows)
    rw [e] at v
    simp only [gIxK, Z2j hD.hk.2, keyK, v]; rfl
  have sl : (isort (d.rows.map (·.name))).length ≤ 1000 := by rw [isort_perm.length_eq, List.length_map]; exact few
  unfold rowsL at k
  generalize hns : d.rows.map (·.name) = ns at hl v sl k
  simp [Zk, Z2I, hD.ins, hl, Zt7]
  generalize isort ns = ms at v sl k ⊢
  refine Zl9 (fun i acc st1 => st1 = st ∧ acc = (ms.take i).map fun n => .tup [.int n, valR d.rows n]) ⟨rfl, rfl⟩ ?_ ?_
  · rintro i x acc st1 hx ⟨rfl, rfl⟩
    rw [List.getElem?_map, Option.map_eq_some_iff] at hx
    obtain ⟨n, hn, rfl⟩ := hx
    obtain ⟨w, h1, h2⟩ := v n (List.mem_of_getElem? hn)
    refine ⟨rfl, by rw [List.length_map, List.length_take]; omega, ?_⟩
    simp [wipeI, hD.ins, h2, rwV]
    rw [List.take_add_one, List.getElem?_map, hn]
    simp [valR, h1]
  · rintro acc st1 ⟨rfl, rfl⟩
    rw [List.length_map, List.take_length]
    exact ⟨rfl, k⟩
end
section
variable {ow : Ow} {st : Sto} {cs : List IV} {b lk lw lp lc lt : Nat} {n : Int} {d : Db} {vs : List IV} {P : IV → Sto → Prop} {E : Str → List (Str × IV) → Sto → Prop}
theorem Zai (hD : DbAt ow st b lk lw lp lc d) (hw : d.wr = []) (hk : d.cus = []) (k : P (.bl false) st) : (ZI [.ref b, .int n] st).wp P E := by
  have ew := hD.hw.2
  rw [hw] at ew
  have ec := hD.hc.2
  rw [hk] at ec
  have ew : st[lw]? = some (.lst []) := ew
  have ec : st[lc]? = some (.lst []) := ec
  simp [ZI, Z20, hD.ins, Z5Q ew]
  refine Z1e (fun i ρ st1 => st1 = st ∧ ∃ s2 s3, ρ = [some (.v (.ref b)), some (.v (.int n)), s2, s3]) ⟨rfl, _, _, rfl⟩ ?_ ?_
  · rintro i x ρ st1 hx _
    cases hx
  · rintro ρ st1 ⟨rfl, s2, s3, rfl⟩
    refine ⟨Z1U ew, ?_⟩
    simp [hD.ins, Z5Q ec]
    refine Z1e (fun i ρ st2 => st2 = st1 ∧ ∃ s2 s3, ρ = [some (.v (.ref b)), some (.v (.int n)), s2, s3]) ⟨rfl, _, _, rfl⟩ ?_ ?_
    · rintro i x ρ st2 hx _
      cases hx
    · rintro ρ st2 ⟨rfl, s2, s3, rfl⟩
      refine ⟨Z1U ec, ?_⟩
      simp
      exact k
theorem Zrc (hD : DbAt ow st b lk lw lp lc d) (hlt : d.lt = lt) (ht : TabAt lt cs st) (hw : d.wr = []) (hk : d.cus = []) (hv : inTs vs cs = true) (few : d.rows.length < 1000)
    (k : ∀ st', Xt ow st (fun k => k = b + 1) ow st' → DbAt ow st' b lk lw lp lc (putRw d n vs) → P .non st') : (Zs [.ref b, .int n, .tup vs] st).wp P E := by
  subst hlt
  simp [Zs, Z1u, Mi.isNon, hD.ins]
  refine ZlS ht.ins (Znb ht hv ⟨_, rfl, ?_⟩)
  simp [hD.ins]
  refine Zai hD hw hk ?_
  simp [Mi.isNon, hD.ins]
  exact ZrN hD few k
theorem Zq8 (hD : DbAt ow st b lk lw lp lc d) (hw : d.wr = []) (hk : d.cus = []) (hn : n ∈ d.rows.map (·.name))
    (k : ∀ st', Xt ow st (fun k => k = b + 1) ow st' → DbAt ow st' b lk lw lp lc (delR d n) → P .non st') : (Zs [.ref b, .int n, .non] st).wp P E := by
  have nk := hD.nk
  have q : ∃ w, rowOf d.rows n = some w := by
    cases q : rowOf d.rows n with
    | none =>
      obtain ⟨r, hr, e⟩ := List.mem_map.mp hn
      exact absurd e (Z4M q r hr)
    | some w => exact ⟨w, rfl⟩
  obtain ⟨w, q⟩ := q
  have v : valI (d.rows.map rwI) (.inl n) = some (rwV w) := by rw [Z2g, q]; rfl
  have in1 : gInK true (.int n) (.ref lk) st = .ok (.bl false) st := by
    rw [Z2x hD.hk.2 (k := .inl n) rfl, v]; rfl
  have dl := ZsH hD.hk.2 (y := .int n) (k := .inl n) rfl (by rw [v]; rfl)
  have dd : dropD (d.rows.map rwI) (.inl n) = (delR d n).rows.map rwI := by
    unfold dropD delR
    rw [List.filter_map]
    congr 1
    refine List.filter_congr fun r _ => ?_
    simp only [Function.comp, rwI]
    by_cases c : r.name = n
    · subst c; simp
    · have : ¬ ((Sum.inl r.name : Key) = .inl n) := fun z => c (Sum.inl.inj z)
      simp [c]
  rw [dd] at dl
  simp [Zs, Z1u, Mi.isNon, hD.ins]
  refine Zai hD hw hk ?_
  simp [Mi.isNon, hD.ins, in1, dl]
  refine k _ (Z5j hD.hk.1) ?_
  exact ⟨hD.hb.setN nk.1, hD.hk.set, hD.hw.setN nk.2.2.2.2.1, hD.hp.setN nk.2.2.2.2.2.1, hD.hc.setN nk.2.2.2.2.2.2, hD.n1, hD.n2, hD.n3⟩
theorem ZqC (hD : DbAt ow st b lk lw lp lc d) (hw : d.wr = []) (hk : d.cus = []) (hn : rowOf d.rows n = none) (kE : E "NoRow" [("name", .int n)] st) : (Zs [.ref b, .int n, .non] st).wp P E := by
  have v : valI (d.rows.map rwI) (.inl n) = none := by rw [Z2g, hn]; rfl
  have in1 : gInK true (.int n) (.ref lk) st = .ok (.bl true) st := by
    rw [Z2x hD.hk.2 (k := .inl n) rfl, v]; rfl
  simp [Zs, Z1u, Mi.isNon, hD.ins]
  refine Zai hD hw hk ?_
  simp [Mi.isNon, hD.ins, in1]
  exact kE
end
end K22
namespace K22
open PySem PySem.Spec PyProof.Rows L2 Mi PySem.W
@[simp] theorem Zy2 {i : Nat} {bb : Bool} {ρ : Slots} {st : Sto} {P : IV → Sto → Prop} {E : Str → List (Str × IV) → Sto → Prop} : (iIsx i bb ρ st).wq P E .mk = match ρ[i]? with
    | some (some (.exn l)) => (match st[l]? with
      | some (.xd _) => P (.bl bb) st
      | _ => False)
    | _ => False := by
  unfold iIsx R.wq
  cases ρ[i]? with
  | none => rfl
  | some y => cases y with
    | none => rfl
    | some z => cases z with
      | exn l =>
        simp only
        cases st[l]? with
        | none => rfl
        | some o => cases o <;> rfl
      | v x => rfl
      | own xs => rfl
def hvI (r : Rw) : Key × IV := (.inl r.name, .tup r.vs)
theorem ZuL {d : Db} {n : Int} {vs : List IV} : putD (d.rows.map hvI) (.inl n) (.tup vs) = (putRw d n vs).rows.map hvI := by
  unfold putRw
  cases q : rowOf d.rows n with
  | none =>
    unfold putD
    rw [if_neg]
    · simp only [giveR, List.map_append]; rfl
    · rw [List.any_eq_true]
      rintro ⟨p, hp, e⟩
      obtain ⟨r, hr, rfl⟩ := List.mem_map.mp hp
      have e : (Sum.inl r.name : Key) = .inl n := by simpa [hvI] using e
      exact Z4M q r hr (Sum.inl.inj e)
  | some w =>
    have hw := Z4r q
    unfold putD
    rw [if_pos]
    · simp only [giveR, List.map_map]
      refine List.map_congr_left fun r _ => ?_
      simp only [Function.comp, hvI]
      by_cases c : r.name = n
      · subst c; simp
      · have : ¬ ((Sum.inl r.name : Key) = .inl n) := fun z => c (Sum.inl.inj z)
        simp [c]
    · rw [List.any_eq_true]
      exact ⟨hvI w, List.mem_map.mpr ⟨w, hw.1, rfl⟩, by simp [hvI, hw.2]⟩
theorem Ztz {d : Db} {n : Int} : dropD (d.rows.map hvI) (.inl n) = (delR d n).rows.map hvI := by
  unfold dropD delR
  rw [List.filter_map]
  congr 1
  refine List.filter_congr fun r _ => ?_
  simp only [Function.comp, hvI]
  by_cases c : r.name = n
  · subst c; simp
  · have : ¬ ((Sum.inl r.name : Key) = .inl n) := fun z => c (Sum.inl.inj z)
    simp [c]
theorem Z73 {n : Int} : ∀ {rows : List Rw}, valI (rows.map hvI) (.inl n) = (rowOf rows n).map fun w => .tup w.vs
  | [] => rfl
  | r :: rows => by
    have ih := Z73 (n := n) (rows := rows)
    unfold rowOf at ih ⊢
    unfold valI at ih ⊢
    rw [List.map_cons, List.find?_cons, List.find?_cons]
    by_cases c : r.name = n
    · subst c; simp [hvI]
    · have : ¬ ((Sum.inl r.name : Key) = .inl n) := fun z => c (Sum.inl.inj z)
      simp [hvI, c]
      simpa [hvI] using ih
structure Vb (ow : Ow) (st : Sto) (cs : List IV) (lt b m : Nat) (F : List Int) (d : Db) : Prop where
  hD : ∃ lk lw lp lc, DbAt ow st b lk lw lp lc d
  hlt : d.lt = lt
  wr : d.wr = []
  cus : d.cus = []
  rows : RwsOk cs d.rows
  nm : ∀ r ∈ d.rows, r.name ∈ F
  md : Cel ow (m + 1) st m (.dic (d.rows.map hvI))
section
variable {ow ow' : Ow} {st st' : Sto} {S : Nat → Prop} {cs : List IV} {F : List Int} {b b2 m m2 lt l la lb lq n p : Nat} {d d' : Db} {P : IV → Sto → Prop} {E : Str → List (Str × IV) → Sto → Prop} {vs : List IV} {q nm : Int} {D : Post} {u v : IV}
theorem Vb.xt (h : Vb ow st cs lt b m F d) (x : Xt ow st S ow' st') (n1 : ¬ S (b + 1)) (n2 : ¬ S (m + 1)) : Vb ow' st' cs lt b m F d := by
  obtain ⟨lk, lw, lp, lc, hD⟩ := h.hD
  exact ⟨⟨lk, lw, lp, lc, hD.xt x n1⟩, h.hlt, h.wr, h.cus, h.rows, h.nm, h.md.xt x n2⟩
theorem Vb.few (h : Vb ow st cs lt b m F d) (fl : F.length ≤ 12) : d.rows.length ≤ 12 := by
  have := Z4N (xs := d.rows.map (·.name)) (ys := F) h.rows.nd fun x hx => by
    obtain ⟨r, hr, rfl⟩ := List.mem_map.mp hx
    exact h.nm r hr
  rw [List.length_map] at this
  omega
theorem Vb.ne (h : Vb ow st cs lt b m F d) : b ≠ m := by
  obtain ⟨lk, lw, lp, lc, hD⟩ := h.hD
  rintro rfl
  have := hD.hb.2
  rw [h.md.2] at this
  cases this
theorem Zto (h : Vb ow st cs lt b m F d) (ht : ow lt = 0 ∧ TabAt lt cs st) (fl : F.length ≤ 12) (hF : nm ∈ F) (hu : u = .non ∨ ∃ vs, u = .tup vs ∧ inTs vs cs = true)
    (k : ∀ ow' st' d', Xt ow st (fun k => k = b + 1 ∨ k = m + 1) ow' st' → Vb ow' st' cs lt b m F d' → P (.bl true) st') : (F_put [.ref b, .ref m, .int nm, u] st).wp P E := by
  have few := h.few fl
  have nbm := h.ne
  obtain ⟨lk, lw, lp, lc, hD⟩ := h.hD
  rcases hu with rfl | ⟨vs, rfl, hv⟩
  · cases hq : rowOf d.rows nm with
    | none =>
      have v1 : valI (d.rows.map hvI) (.inl nm) = none := by rw [Z73, hq]; rfl
      have t : Xt ow st none0 (owE st.length ow) (st ++ [Mi.IO.dead]) := Zbb (fun j hj => List.getElem?_append_left hj) (by simp)
      have h2 := h.xt t id id
      have in1 : gInK false (.int nm) (.ref m) (st ++ [Mi.IO.dead]) = .ok (.bl false) (st ++ [Mi.IO.dead]) := by rw [Z2x h2.md.2 (k := .inl nm) rfl, v1]; rfl
      have eq := Mi.eq_self (st := st ++ [Mi.IO.dead]) (x := .tup [.int nm, .bl true, .bl false]) (n := 3) rfl (by decide)
      simp [F_put, B_put, hD.ins]
      refine ZqC hD h.wr h.cus hq ?_
      simp [noExn, Mi.isNon, in1, eq]
      exact k _ _ d (t.mono fun z e => e.elim) h2
    | some w =>
      have hw := Z4r hq
      simp [F_put, B_put, hD.ins]
      refine Zq8 hD h.wr h.cus (List.mem_map.mpr ⟨w, hw.1, hw.2⟩) fun st2 x2 hD2 => ?_
      have m2 : Cel ow (m + 1) st2 m (.dic (d.rows.map hvI)) := h.md.xt x2 (by omega)
      have v3 : valI (d.rows.map hvI) (.inl nm) = some (.tup w.vs) := by rw [Z73, hq]; rfl
      have in1 : gInK false (.int nm) (.ref m) st2 = .ok (.bl true) st2 := by rw [Z2x m2.2 (k := .inl nm) rfl, v3]; rfl
      have pp := Zrl m2.2 (y := .int nm) (k := .inl nm) rfl v3
      rw [Ztz] at pp
      simp [Mi.isNon, in1, ZaY m2.2, pp]
      have t : Xt ow st2 (fun k => k = m + 1) ow (st2.set m (.dic ((delR d nm).rows.map hvI))) := Z5j m2.1
      refine k ow _ (delR d nm) ((x2.mono fun z e => .inl e).trans (t.mono fun z e => .inr e)) ⟨⟨_, _, _, _, hD2.xt t (by omega)⟩, h.hlt, h.wr, h.cus, (ZsK h.rows).1, fun r hr => h.nm r (List.mem_filter.mp hr).1, m2.1, Z2w m2.2⟩
  · simp [F_put, B_put, hD.ins]
    refine Zrc hD h.hlt ht.2 h.wr h.cus hv (by omega) fun st2 x2 hD2 => ?_
    have m2 : Cel ow (m + 1) st2 m (.dic (d.rows.map hvI)) := h.md.xt x2 (by omega)
    have sd := Z9C (x := .tup vs) m2.2 (k := .inl nm) (y := .int nm) rfl (by rw [List.length_map]; omega)
    rw [ZuL (vs := vs)] at sd
    simp [Mi.isNon, sd]
    have t : Xt ow st2 (fun k => k = m + 1) ow (st2.set m (.dic ((putRw d nm vs).rows.map hvI))) := Z5j m2.1
    have pp := Zsc h.rows hv (by omega : d.rows.length < 1000) (n := nm)
    have sm := Zoh d nm vs
    refine k ow _ (putRw d nm vs) ((x2.mono fun z e => .inl e).trans (t.mono fun z e => .inr e)) ⟨⟨_, _, _, _, hD2.xt t (by omega)⟩, sm.1.trans h.hlt, sm.2.1.trans h.wr, sm.2.2.2.1.trans h.cus, pp.1, fun r hr => ?_, m2.1, Z2w m2.2⟩
    rcases (pp.2.2 r.name).mp (List.mem_map.mpr ⟨r, hr, rfl⟩) with e | e
    · rw [e]; exact hF
    · obtain ⟨r0, hr0, e0'⟩ := List.mem_map.mp e
      rw [← e0']; exact h.nm r0 hr0
end
end K22
namespace K22
open PySem PySem.Spec PyProof.Rows L2 Mi PySem.W
theorem ZpO : ∀ {xs ys : List Int}, xs.Pairwise (· < ·) → ys.Pairwise (· < ·) → (∀ x, x ∈ xs ↔ x ∈ ys) → xs = ys
  | [], [], _, _, _ => rfl
  | [], y :: ys, _, _, h => absurd ((h y).mpr (by simp)) (by simp)
  | x :: xs, [], _, _, h => absurd ((h x).mp (by simp)) (by simp)
  | x :: xs, y :: ys, hx, hy, h => by
    have hx' := List.pairwise_cons.mp hx
    have hy' := List.pairwise_cons.mp hy
    have e : x = y := by
      rcases List.mem_cons.mp ((h x).mp (by simp)) with e | e
      · exact e
      · rcases List.mem_cons.mp ((h y).mpr (by simp)) with e2 | e2
        · exact e2.symm
        · have := hy'.1 x e
          have := hx'.1 y e2
          omega
    subst e
    rw [ZpO hx'.2 hy'.2 fun z => ?_]
    constructor
    · intro hz
      rcases List.mem_cons.mp ((h z).mp (List.mem_cons_of_mem _ hz)) with e | e
      · subst e; have := hx'.1 z hz; omega
      · exact e
    · intro hz
      rcases List.mem_cons.mp ((h z).mpr (List.mem_cons_of_mem _ hz)) with e | e
      · subst e; have := hy'.1 z hz; omega
      · exact e
section
variable {acc : List Rw} {r : Rw} {j : Nat}
theorem ZnT (hs : acc.Pairwise fun a b => a.name < b.name) (hne : ∀ a ∈ acc, r.name ≠ a.name) (h1 : ∀ a ∈ acc.take j, a.name < r.name) (h2 : ∀ a, acc[j]? = some a → ¬ a.name < r.name) : (acc.take j ++ [r] ++ acc.drop j).Pairwise fun a b => a.name < b.name := by
  have hs' := hs
  rw [← List.take_append_drop j acc, List.pairwise_append] at hs'
  obtain ⟨p1, p2, p3⟩ := hs'
  have p4 : ∀ y ∈ acc.drop j, r.name < y.name := by
    intro y hy
    cases q : acc[j]? with
    | none =>
      have := List.getElem?_eq_none_iff.mp q
      rw [List.drop_eq_nil_of_le this] at hy; cases hy
    | some a =>
      obtain ⟨jl, e⟩ := List.getElem?_eq_some_iff.mp q
      have dr : acc.drop j = a :: acc.drop (j + 1) := by rw [List.drop_eq_getElem_cons jl, e]
      have ra : r.name < a.name := by
        have := hne a (List.mem_of_getElem? q)
        have := h2 a q
        omega
      rw [dr] at hy p2
      rcases List.mem_cons.mp hy with rfl | hy
      · exact ra
      · have := (List.pairwise_cons.mp p2).1 y hy
        omega
  rw [List.append_assoc, List.pairwise_append]
  refine ⟨p1, ?_, ?_⟩
  · show (r :: acc.drop j).Pairwise _
    exact List.pairwise_cons.mpr ⟨p4, p2⟩
  · intro a ha y hy
    rcases List.mem_cons.mp (show y ∈ r :: acc.drop j from hy) with rfl | hy
    · exact h1 a ha
    · exact p3 a ha y hy
theorem ZsI {x : Rw} : x ∈ acc.take j ++ [r] ++ acc.drop j ↔ x = r ∨ x ∈ acc := by
  have e : x ∈ acc ↔ x ∈ acc.take j ∨ x ∈ acc.drop j := by rw [← List.mem_append, List.take_append_drop]
  rw [e]
  simp only [List.mem_append, List.mem_singleton]
  constructor
  · rintro ((h | h) | h)
    · exact .inr (.inl h)
    · exact .inl h
    · exact .inr (.inr h)
  · rintro (h | h | h)
    · exact .inl (.inr h)
    · exact .inl (.inl h)
    · exact .inr h
end
structure Asc (rows : List Rw) (A : List Rw) : Prop where
  so : A.Pairwise fun a b => a.name < b.name
  mem : ∀ r, r ∈ A ↔ r ∈ rows
def naV (r : Rw) : IV := .tup [.int r.name, .tup r.vs]
theorem Asc.eq {rows A : List Rw} (h : Asc rows A) (nd : (rows.map (·.name)).Nodup) : A.map naV = rowsL rows := by
  have e : A.map (·.name) = isort (rows.map (·.name)) := by
    refine ZpO (List.pairwise_map.mpr h.so) ?_ fun x => ?_
    · have s := Z4T (xs := rows.map (·.name))
      have n : (isort (rows.map (·.name))).Nodup := (isort_perm (xs := rows.map (·.name))).nodup_iff.mpr nd
      exact (s.and n).imp fun z => by have := z.1; have := z.2; omega
    · rw [isort_perm.mem_iff, List.mem_map, List.mem_map]
      exact ⟨fun ⟨r, hr, e⟩ => ⟨r, (h.mem r).mp hr, e⟩, fun ⟨r, hr, e⟩ => ⟨r, (h.mem r).mpr hr, e⟩⟩
  unfold rowsL
  rw [← e, List.map_map]
  refine List.map_congr_left fun r hr => ?_
  simp only [Function.comp, naV, valR, Z5r nd ((h.mem r).mp hr)]
section
variable {cs : List IV} {m : Nat} {st : Sto} {P : IV → Sto → Prop} {E : Str → List (Str × IV) → Sto → Prop} {rows : List Rw}
def WhJ (m q0 : Nat) (A : List Rw) (r : Rw) (s : Sto) (k : Nat) (ρ : Slots) (st2 : Sto) : Prop := st2 = s ∧ ∃ j : Nat, j + k = A.length ∧ (∀ a ∈ A.take j, a.name < r.name) ∧ ρ = [some (.v (.ref m)), some (.v (.ref q0)), some (.v (.int r.name)), some (.v (.int (j : Int)))]
def AnJ (m q0 : Nat) (rows : List Rw) (S : List Rw → Sto) (ρ : Slots) (st2 : Sto) : Prop := (∃ a4 a5, ρ = [some (.v (.ref m)), some (.v (.ref q0)), a4, a5]) ∧ ∃ A, Asc rows A ∧ st2 = S A
theorem ZvK (hR : RwsOk cs rows) (few : rows.length ≤ 12) (hr : st[m]? = some (.dic (rows.map hvI))) (k : P (.ref st.length) (st ++ [.lst (rowsL rows)])) : (Z2a [.ref m] st).wp P E := by
  have ll := (List.getElem?_eq_some_iff.mp hr).1
  let S : List Rw → Sto := fun A => (st ++ [Mi.IO.lst (A.map naV)]).set m (.fdic (rows.map hvI))
  have s1 : ∀ A, (S A)[m]? = some (.fdic (rows.map hvI)) := fun A => List.getElem?_set_self (by rw [List.length_append]; omega)
  have s2 : ∀ A, (S A)[st.length]? = some (.lst (A.map naV)) := fun A => by
    show ((st ++ _).set m _)[st.length]? = _
    rw [List.getElem?_set_ne (by omega)]; simp
  have s5 : ∀ A B, (S A).set st.length (.lst (B.map naV)) = S B := fun A B => by
    show ((st ++ [Mi.IO.lst (A.map naV)]).set m _).set st.length (Mi.IO.lst (B.map naV)) = (st ++ [Mi.IO.lst (B.map naV)]).set m _
    rw [List.set_comm _ _ (by omega)]
    congr 1
    rw [List.set_append_right _ _ (Nat.le_refl _)]; simp
  have s6 : ∀ A, (S A).set m (.dic (rows.map hvI)) = st ++ [.lst (A.map naV)] := fun A => by
    show ((st ++ _).set m _).set m _ = _
    rw [List.set_set]
    refine List.ext_getElem? fun j => ?_
    rw [List.getElem?_set]
    by_cases c : m = j
    · subst c
      rw [if_pos rfl, if_pos (by rw [List.length_append]; omega), List.getElem?_append_left ll, hr]
    · rw [if_neg c]
  have h0 : (st ++ [Mi.IO.lst []])[m]? = some (.dic (rows.map hvI)) := by rw [List.getElem?_append_left ll]; exact hr
  have e0 : (st ++ [Mi.IO.lst []]).set m (.fdic (rows.map hvI)) = S [] := rfl
  simp [Z2a, Z6v]
  refine Zrx (l := m) (kvs := rows.map hvI) rfl h0 ?_
  rw [e0]
  clear_value S
  simp [s1]
  refine Z1e (fun i ρ st2 => AnJ m st.length (rows.take i) S ρ st2) ⟨⟨none, none, rfl⟩, [], ⟨List.Pairwise.nil, by simp⟩, rfl⟩ ?_ ?_
  · rintro i x ρ st2 hx ⟨⟨a4, a5, rfl⟩, A, hA, rfl⟩
    refine ⟨rfl, ?_⟩
    have il : i < rows.length := by have := (List.getElem?_eq_some_iff.mp hx).1; simpa [keysI] using this
    have hrow := List.getElem?_eq_getElem il
    generalize rows[i] = r at hrow
    have xe : x = .int r.name := by
      have : (keysI (rows.map hvI))[i]? = some (.int r.name) := by
        unfold keysI; rw [List.map_map, List.getElem?_map, hrow]; rfl
      rw [this] at hx; exact (Option.some.inj hx).symm
    subst xe
    have rm := List.mem_of_getElem? hrow
    have ix : ∀ A, gIxK (.ref m) (.int r.name) (S A) = .ok (.tup r.vs) (S A) := fun A => by
      have vv : valI (rows.map hvI) (.inl r.name) = some (.tup r.vs) := by rw [Z73, Z5r hR.nd rm]; rfl
      simp only [gIxK, ZnM (s1 A), keyK, vv]
    have tk : rows.take (i + 1) = rows.take i ++ [r] := by rw [List.take_add_one, hrow]; rfl
    have fresh : ∀ a ∈ A, r.name ≠ a.name := fun a ha z => by
      have am := (hA.mem a).mp ha
      have nd2 := hR.nd
      rw [← List.take_append_drop (i + 1) rows, tk] at nd2
      simp only [List.map_append, List.map_cons, List.map_nil] at nd2
      have := (List.nodup_append.mp (List.nodup_append.mp nd2).1).2.2 a.name (List.mem_map.mpr ⟨a, am, rfl⟩) r.name (by simp)
      exact this z.symm
    have al : A.length ≤ 12 := by
      have nd : (A.map (·.name)).Nodup := List.pairwise_map.mpr (hA.so.imp fun z e => by have e : _ = _ := e; omega)
      have := Z4N (xs := A.map (·.name)) (ys := rows.map (·.name)) nd fun x hx => by
        obtain ⟨r, hr, rfl⟩ := List.mem_map.mp hx
        exact List.mem_map.mpr ⟨r, List.mem_of_mem_take ((hA.mem r).mp hr), rfl⟩
      rw [List.length_map, List.length_map] at this
      omega
    have ll2 := ZhU (s2 A)
    rw [List.length_map] at ll2
    simp [Z4z]
    refine ZlV (fun k ρ st2 => WhJ m st.length A r (S A) k ρ st2) ?_ (k := A.length) (by omega) ⟨rfl, 0, by omega, by simp, rfl⟩
    rintro k ρ st2 ⟨rfl, j, jk, hj, rfl⟩
    have put : (∀ a, A[j]? = some a → ¬ a.name < r.name) → ∃ B, Asc (rows.take (i + 1)) B ∧ (S A).set st.length (.lst ((A.map naV).take j ++ [naV r] ++ (A.map naV).drop j)) = S B := by
      intro h2
      refine ⟨A.take j ++ [r] ++ A.drop j, ⟨ZnT hA.so fresh hj h2, fun a => ?_⟩, ?_⟩
      · rw [ZsI, hA.mem, tk, List.mem_append, List.mem_singleton]
        constructor
        · rintro (rfl | z1)
          · exact .inr rfl
          · exact .inl z1
        · rintro (z1 | z1)
          · exact .inr z1
          · exact .inl z1
      · rw [← s5 A (A.take j ++ [r] ++ A.drop j)]
        simp only [List.map_append, List.map_take, List.map_drop, List.map_cons, List.map_nil]
    have insr := ZtM (y := naV r) (i := j) (s2 A) (by rw [List.length_map]; omega) (by omega)
    simp [ll2]
    by_cases c : j < A.length
    · have ha := List.getElem?_eq_getElem c
      generalize A[j] = a at ha
      have a2 : atI (A.map naV) (j : Int) = some (naV a) := Mi.atI_at (by rw [List.getElem?_map, ha]; rfl)
      simp [c, Z2l (s2 A), a2, naV]
      by_cases c2 : a.name < r.name
      · simp [c2]
        refine ⟨k - 1, by omega, ?_⟩
        simp [Z4y]
        refine ⟨rfl, j + 1, by omega, fun y hy => ?_, by rw [Int.natCast_add]; rfl⟩
        rw [List.take_add_one, ha] at hy
        rcases List.mem_append.mp hy with hy | hy
        · exact hj y hy
        · have : y = a := by simpa using hy
          rw [this]; exact c2
      · obtain ⟨B, hB, eB⟩ := put fun a' ha' => by rw [ha] at ha'; cases ha'; exact c2
        simp only [naV] at insr eB
        simp [c2, ix, insr]
        simp only [List.append_assoc, List.singleton_append] at eB
        rw [eB]
        exact ⟨by simp [isLst, s2 A], ⟨_, _, rfl⟩, B, hB, rfl⟩
    · obtain ⟨B, hB, eB⟩ := put fun a' ha' => absurd (List.getElem?_eq_some_iff.mp ha').1 c
      simp only [naV] at insr eB
      simp [c, ix, insr]
      simp only [List.append_assoc, List.singleton_append] at eB
      rw [eB]
      exact ⟨by simp [isLst, s2 A], ⟨_, _, rfl⟩, B, hB, rfl⟩
  · rintro ρ st2 ⟨⟨a4, a5, rfl⟩, A, hA, rfl⟩
    have kl : (keysI (rows.map hvI)).length = rows.length := by simp [keysI]
    rw [kl, List.take_length] at hA
    refine ⟨rfl, rows.map hvI, s1 A, ?_⟩
    rw [s6, hA.eq hR.nd]
    simp
    exact k
end
section
variable {ow ow' : Ow} {st st' : Sto} {cs : List IV} {F : List Int} {b m lt la lk lw lp lc : Nat} {d : Db} {P : IV → Sto → Prop} {E : Str → List (Str × IV) → Sto → Prop} {q : Int}
theorem Zuy (hD : DbAt ow st b lk lw lp lc d) (k : P (.bl (rowOf d.rows q).isSome) st) : (ZE [.ref b, .int q] st).wp P E := by
  have v := Z2g (n := q) (rows := d.rows)
  have in1 : gInK false (.int q) (.ref lk) st = .ok (.bl (valI (d.rows.map rwI) (.inl q)).isSome) st := by rw [Z2x hD.hk.2 (k := .inl q) rfl]; rfl
  simp [ZE, Z1Q, hD.ins, in1, v]
  exact k
theorem Zvx (hD : DbAt ow st b lk lw lp lc d) (few : d.rows.length ≤ 1000) (k : P (.int d.rows.length) st) : (Z16 [.ref b] st).wp P E := by
  have ln := ZkK hD.hk.2
  rw [List.length_map] at ln
  simp [Z16, Z33, hD.ins, ln]
  exact k
theorem ZrM (h : RwsOk cs d.rows) : okV 4 (.lst (rowsL d.rows)) = true := by
  simp only [okV, rowsL]
  refine List.all_eq_true.mpr fun x hx => ?_
  obtain ⟨n, hn, rfl⟩ := List.mem_map.mp hx
  have hm := isort_perm.mem_iff.mp hn
  obtain ⟨w, hw, rfl⟩ := List.mem_map.mp hm
  have e := Z5r h.nd hw
  have dv := (Zle (n := w.name) (h.vs w hw)).1
  simp only [valR, e]
  exact dv
theorem Zrt {nm : Int} {rows : List Rw} (hr : RwsOk cs rows) : Dat (rowV (rowOf rows nm)) := by
  cases q : rowOf rows nm with
  | none => exact ⟨rfl, rfl⟩
  | some w => exact ZrE (hr.vs w (Z4r q).1)
theorem ZrH (h : Vb ow st cs lt b m F d) (fl : F.length ≤ 12) (hF : Cel ow (la + 1) st la (.lst (F.map .int))) (k : ∀ ow' st', Xt ow st none0 ow' st' → P (.bl true) st') : (Z6H [.ref b, .ref m, .ref la] st).wp P E := by
  obtain ⟨lk, lw, lp, lc, hD⟩ := h.hD
  have few := h.few fl
  have bl := hD.hb.lt
  have ml := h.md.lt
  have al := hF.lt
  rw [Z6H, ZkS]
  simp [hD.ins]
  refine Z6z hD h.rows.nd (by omega) ?_
  have p1 : (st ++ [Mi.IO.lst (rowsL d.rows)])[st.length]? = some (.lst (rowsL d.rows)) := by simp
  have k1 : ∀ j, j < st.length → (st ++ [Mi.IO.lst (rowsL d.rows)])[j]? = st[j]? := fun j hj => List.getElem?_append_left hj
  have l1 : (st ++ [Mi.IO.lst (rowsL d.rows)]).length = st.length + 1 := by simp
  generalize st ++ [Mi.IO.lst (rowsL d.rows)] = st1 at p1 k1 l1 ⊢
  have isi : gIsi [.ref st.length, .ty "list"] st1 = .ok (.bl true) st1 := by
    simp [gIsi, Zx, p1, askT, ZT]
  simp [isi]
  refine ZvK h.rows few (by rw [k1 m ml]; exact h.md.2) ?_
  have p2 : (st1 ++ [Mi.IO.lst (rowsL d.rows)])[st.length]? = some (.lst (rowsL d.rows)) := by rw [List.getElem?_append_left (by omega)]; exact p1
  have p3 : (st1 ++ [Mi.IO.lst (rowsL d.rows)])[st1.length]? = some (.lst (rowsL d.rows)) := by simp
  have k2 : ∀ j, j < st.length → (st1 ++ [Mi.IO.lst (rowsL d.rows)])[j]? = st[j]? := fun j hj => by rw [List.getElem?_append_left (by omega)]; exact k1 j hj
  have l2 : (st1 ++ [Mi.IO.lst (rowsL d.rows)]).length = st.length + 2 := by simp [l1]
  generalize st1 ++ [Mi.IO.lst (rowsL d.rows)] = st2 at p2 p3 k2 l2 ⊢
  have ok4 := ZrM h.rows
  have ne : gNe (.ref st.length) (.ref st1.length) st2 = .ok (.bl false) st2 := by
    have e1 := ne_pE (st := st2) (n := 4) (x := .ref st.length) (y := .ref st1.length) (by rw [Z3Y p2]; exact ok4) (by rw [Z3Y p3]; exact ok4) (by decide)
    have e2 := ne_pE (st := st2) (n := 4) (x := .lst (rowsL d.rows)) (y := .lst (rowsL d.rows)) (by rw [Z3l]; exact ok4) (by rw [Z3l]; exact ok4) (by decide)
    rw [Mi.ne_self ok4 (by decide), Z3l] at e2
    rw [e1, Z3Y p2, Z3Y p3]
    exact e2.symm
  have t2 : Xt ow st none0 (owE st.length ow) st2 := Zbb k2 (by omega)
  have h2 := h.xt t2 id id
  obtain ⟨lk2, lw2, lp2, lc2, hD2⟩ := h2.hD
  have ln := ZkK h2.md.2
  rw [List.length_map] at ln
  have nl := Mi.ne_self (st := st2) (x := .int d.rows.length) (n := 3) rfl (by decide)
  simp [ne]
  refine Zo5 hD2.ins (Zvx hD2 (by omega) ⟨_, rfl, ⟨by omega, by omega⟩, ?_⟩)
  have ap := Z78 (y := .tup [.int 5, .non]) p2 (by unfold rowsL; rw [List.length_map, isort_perm.length_eq, List.length_map]; omega)
  have isl : isLst st2 (.ref st.length) = true := by simp [isLst, p2]
  simp [ln, nl, ap, isl]
  have k3 : ∀ j, j < st.length → (st2.set st.length (.lst (rowsL d.rows ++ [.tup [.int 5, .non]])))[j]? = st[j]? := fun j hj => by rw [List.getElem?_set_ne (by omega)]; exact k2 j hj
  have l3 : st.length ≤ (st2.set st.length (.lst (rowsL d.rows ++ [.tup [.int 5, .non]]))).length := by rw [List.length_set]; omega
  generalize st2.set st.length (.lst (rowsL d.rows ++ [.tup [.int 5, .non]])) = st3 at k3 l3 ⊢
  have t3 : Xt ow st none0 (owE st.length ow) st3 := Zbb k3 l3
  have h3 := h.xt t3 id id
  have f3 := hF.xt t3 id
  obtain ⟨lk3, lw3, lp3, lc3, hD3⟩ := h3.hD
  simp [Z5Q f3.2]
  refine Z1e (fun i ρ st4 => st4 = st3 ∧ ∃ s4, ρ = [some (.v (.ref b)), some (.v (.ref m)), some (.v (.ref la)), some (.v (.ref st.length)), s4]) ⟨rfl, _, rfl⟩ ?_ ?_
  · rintro i x ρ st4 hx ⟨rfl, s4, rfl⟩
    rw [List.getElem?_map, Option.map_eq_some_iff] at hx
    obtain ⟨nm, hn, rfl⟩ := hx
    refine ⟨Z1U f3.2, ?_⟩
    have vv : valI (d.rows.map hvI) (.inl nm) = (rowOf d.rows nm).map fun w => .tup w.vs := Z73
    have in1 : gInK false (.int nm) (.ref m) st4 = .ok (.bl (rowOf d.rows nm).isSome) st4 := by rw [Z2x h3.md.2 (k := .inl nm) rfl, vv]; cases rowOf d.rows nm <;> rfl
    have nb := Mi.ne_self (st := st4) (x := .bl (rowOf d.rows nm).isSome) (n := 3) rfl (by decide)
    have nr := ne_self (st := st4) (Zrt (nm := nm) h.rows)
    simp [Zex]
    refine ZlS hD3.ins (Zuy hD3 ⟨_, rfl, ?_⟩)
    simp [in1, nb, hD3.ins]
    refine ZuY hD3 ?_
    cases ho : rowOf d.rows nm with
    | none =>
      rw [ho] at vv nr
      simp [ZaY h3.md.2, Z2j h3.md.2, keyK, vv]
      simp only [rowV] at nr ⊢
      simp [nr]
    | some w =>
      rw [ho] at vv nr
      simp [ZaY h3.md.2, Z2j h3.md.2, keyK, vv]
      simp only [rowV] at nr ⊢
      simp [nr]
  · rintro ρ st4 ⟨rfl, s4, rfl⟩
    refine ⟨Z1U f3.2, ?_⟩
    simp
    exact k _ _ t3
end
end K22
namespace K22
open PySem PySem.Spec PyProof.Rows L2 Mi PySem.W
theorem vs_sh : ∀ {vs cs : List IV}, inTs vs cs = true → (∀ c ∈ cs, snd c ≤ 5) → ∃ D : List PyData, toD0s vs = some D ∧ shOkAll D = true ∧ shBigAll D = 47 * vs.length ∧ PyData.depthAll D = 0
  | [], [], _, _ => ⟨[], rfl, rfl, rfl, rfl⟩
  | [], _ :: _, h, _ => by simp [inTs] at h
  | v :: vs, [], h, _ => by cases v <;> simp [inTs] at h
  | v :: vs, c :: cs, h, hc => by
    cases v with
    | int i =>
      simp only [inTs, Bool.and_eq_true, decide_eq_true_eq] at h
      obtain ⟨D, e1, e2, e3, e4⟩ := vs_sh h.2 fun x hx => hc x (List.mem_cons_of_mem _ hx)
      have c5 := hc c List.mem_cons_self
      have hb : i.natAbs < 10000000000000000000000000000000000000000 := by omega
      refine ⟨.int i :: D, ?_, by simp only [shOkAll, shOk, hb, decide_true, e2, Bool.and_self], by simp only [shBigAll, shBig, e3, List.length_cons]; omega, by simp only [PyData.depthAll, PyData.depth, e4]; rfl⟩
      show (toD0 (.int i)).bind _ = _
      rw [e1]
      rfl
    | _ => simp [inTs] at h
theorem ZuJ {n : Int} {vs cs : List IV} (h : inTs vs cs = true) (hc : ∀ c ∈ cs, snd c ≤ 5) (hl : cs.length ≤ 3) (hn : n.natAbs < 10000000000000000000000000000000000000000) : ∃ d : PyData, toD0 (.tup [.int n, .tup vs]) = some d ∧ shOk d = true ∧ shBig d ≤ 400 ∧ d.depth ≤ 2 := by
  obtain ⟨D, e1, e2, e3, e4⟩ := vs_sh h hc
  have l := Z3M h
  refine ⟨.tuple [.int n, .tuple D], ?_, ?_, ?_, ?_⟩
  · simp only [toD0, toD0s, e1, Option.bind_some, Option.map_some]
  · simp only [shOk, shOkAll, hn, decide_true, e2, Bool.and_self]
  · simp only [shBig, shBigAll, e3]; omega
  · simp only [PyData.depth, PyData.depthAll, e4]; decide
theorem Zny {cs : List IV} (hc : ∀ c ∈ cs, snd c ≤ 5) (hl : cs.length ≤ 3) : ∀ {xs : List IV}, (∀ x ∈ xs, ∃ n vs, x = .tup [.int n, .tup vs] ∧ inTs vs cs = true ∧ n.natAbs < 10000000000000000000000000000000000000000) → ∃ D : List PyData, toD0s xs = some D ∧ shOkAll D = true ∧ shBigAll D ≤ 402 * xs.length ∧ PyData.depthAll D ≤ 2
  | [], _ => ⟨[], rfl, rfl, by simp [shBigAll], by simp [PyData.depthAll]⟩
  | x :: xs, h => by
    obtain ⟨n, vs, rfl, h1, h2⟩ := h x List.mem_cons_self
    obtain ⟨d, a1, a2, a3, a4⟩ := ZuJ h1 hc hl h2
    obtain ⟨D, e1, e2, e3, e4⟩ := Zny hc hl fun y hy => h y (List.mem_cons_of_mem _ hy)
    refine ⟨d :: D, ?_, by simp only [shOkAll, a2, e2, Bool.and_self], by simp only [shBigAll, List.length_cons]; omega, by simp only [PyData.depthAll]; omega⟩
    rw [toD0s, a1, e1]
    rfl
theorem ZoC {st : Sto} {p : Nat} {cs : List IV} {rows : List Rw} (hp : st[p]? = some (.lst (rowsL rows))) (hr : RwsOk cs rows) (few : rows.length ≤ 12) (hc : ∀ c ∈ cs, snd c ≤ 5) (hl : cs.length ≤ 3) (hn : ∀ r ∈ rows, r.name.natAbs < 10000000000000000000000000000000000000000) :
    ∃ D : PyData, toD0 (.lst (rowsL rows)) = some D ∧ shOk D = true ∧ D.depth ≤ 60 ∧ shBig D ≤ 100000 := by
  have len : (rowsL rows).length = rows.length := by unfold rowsL; rw [List.length_map, isort_perm.length_eq, List.length_map]
  obtain ⟨D, e1, e2, e3, e4⟩ := Zny (xs := rowsL rows) hc hl fun x hx => by
    unfold rowsL at hx
    obtain ⟨n, hn', rfl⟩ := List.mem_map.mp hx
    obtain ⟨w, hw, rfl⟩ := List.mem_map.mp (isort_perm.mem_iff.mp hn')
    refine ⟨w.name, w.vs, ?_, hr.vs w hw, hn w hw⟩
    simp only [valR, Z5r hr.nd hw]
  refine ⟨.list D, ?_, by simpa only [shOk] using e2, by simp only [PyData.depth]; omega, by simp only [shBig]; omega⟩
  rw [toD0, e1]
  rfl
theorem Zp8 {st : Sto} {p : Nat} {xs : List IV} {D : PyData} (hp : st[p]? = some (.lst xs)) (h : toD0 (.lst xs) = some D) (h1 : shOk D = true) (h2 : D.depth ≤ 60) (h3 : shBig D ≤ 100000) : Z28 [.ref p] st = .ok (.str D.shown) st :=
  Zub (by rw [ZhI, Z3Y hp]; exact h) h1 h2 h3
end K22
namespace K22
open PySem PySem.Spec PyProof.Rows L2 Mi PySem.W
structure Wd (ow : Ow) (st : Sto) (cs : List IV) (F : List Int) (l lt la lb lq n : Nat) (vs : List (Nat × Nat × Db)) : Prop where
  spr : Spr n l st
  ol : ow l = l + 1
  ht : ow lt = 0 ∧ TabAt lt cs st
  hF : Cel ow (la + 1) st la (.lst (F.map .int))
  fl : 0 < F.length ∧ F.length ≤ 12
  ne : [l, la, lb, lq].Nodup
  hb : Cel ow (lb + 1) st lb (.lst (refs (vs.map (·.1))))
  hm : Cel ow (lq + 1) st lq (.lst (refs (vs.map (·.2.1))))
  at' : ∀ v ∈ vs, Vb ow st cs lt v.1 v.2.1 F v.2.2
  dj : (vs.map (·.1)).Nodup ∧ (vs.map (·.2.1)).Nodup
  len : vs.length ≤ 2
section
variable {ow ow' : Ow} {st st' : Sto} {S : Nat → Prop} {cs : List IV} {F : List Int} {b lt l la lb lq n m p q i : Nat} {d d' : Db} {P : IV → Sto → Prop} {E : Str → List (Str × IV) → Sto → Prop} {Q : Sto → Prop} {vs : List (Nat × Nat × Db)} {v : Nat × Nat × Db} {D : Post} {xs : List IV} {rs : List (Int × List IV)}
theorem Vb.neL {F : List Int} {b m : Nat} (h : Vb ow st cs lt b m F d) (e : st[p]? = some (.lst xs)) : b ≠ p ∧ m ≠ p := by
  obtain ⟨lk, lw, lp, lc, hD⟩ := h.hD
  refine ⟨?_, ?_⟩
  · rintro rfl
    have := hD.hb.2
    rw [e] at this
    cases this
  · rintro rfl
    have := h.md.2
    rw [e] at this
    cases this
theorem Vb.inn {F : List Int} {b m : Nat} (h : Vb ow st cs lt b m F d) : b < st.length ∧ m < st.length := by
  obtain ⟨lk, lw, lp, lc, hD⟩ := h.hD
  exact ⟨hD.hb.lt, h.md.lt⟩
theorem Vb.neX {F : List Int} {b m b2 m2 : Nat} {d2 : Db} (h : Vb ow st cs lt b m F d) (h2 : Vb ow st cs lt b2 m2 F d2) : b ≠ m2 := by
  obtain ⟨lk, lw, lp, lc, hD⟩ := h.hD
  rintro rfl
  have := hD.hb.2
  rw [h2.md.2] at this
  cases this
theorem Wd.xt (h : Wd ow st cs F l lt la lb lq n vs) (x : Xt ow st S ow' st') (hs : Spr m l st') (n0 : ¬ S 0) (na : ¬ S (la + 1)) (nb : ¬ S (lb + 1)) (nq : ¬ S (lq + 1)) (nv : ∀ v ∈ vs, ¬ S (v.1 + 1) ∧ ¬ S (v.2.1 + 1)) : Wd ow' st' cs F l lt la lb lq m vs :=
  ⟨hs, (x.own l h.spr.lt).trans h.ol, Cel.xt (k := 0) (o := .ins "Table" (tabF cs)) h.ht x n0, h.hF.xt x na, h.fl, h.ne, h.hb.xt x nb, h.hm.xt x nq, fun v hv => (h.at' v hv).xt x (nv v hv).1 (nv v hv).2, h.dj, h.len⟩
theorem Wd.draw (h : Wd ow st cs F l lt la lb lq n vs) (hs : Spr m l st') (u : Ups l st st') : Wd ow st' cs F l lt la lb lq m vs := by
  have ne := h.ne
  simp at ne
  obtain ⟨s, x, c, e, _⟩ := h.spr
  refine h.xt (Z4u h.ol u) hs (by omega) (by omega) (by omega) (by omega) fun v hv => ?_
  have := (h.at' v hv).neL e
  omega
theorem Wd.new (h : Wd ow st cs F l lt la lb lq n vs) (x : Xt ow st none0 ow' st') : Wd ow' st' cs F l lt la lb lq n vs :=
  h.xt x (h.spr.keep (x.keep l h.spr.lt id)) id id id id fun _ _ => ⟨id, id⟩
theorem Wd.mono (h : Wd ow st cs F l lt la lb lq n vs) (hm : n ≤ m) : Wd ow st cs F l lt la lb lq m vs := ⟨h.spr.mono hm, h.ol, h.ht, h.hF, h.fl, h.ne, h.hb, h.hm, h.at', h.dj, h.len⟩
theorem Wd.one (h : Wd ow st cs F l lt la lb lq n vs) (hi : vs[i]? = some v) (x : Xt ow st (fun k => k = v.1 + 1 ∨ k = v.2.1 + 1) ow' st') (hv : Vb ow' st' cs lt v.1 v.2.1 F d') : Wd ow' st' cs F l lt la lb lq n (vs.set i (v.1, v.2.1, d')) := by
  have vm := List.mem_of_getElem? hi
  have hv0 := h.at' v vm
  obtain ⟨s, xx, c, e, _⟩ := h.spr
  have n1 := hv0.neL e
  have n2 := hv0.neL h.hF.2
  have n3 := hv0.neL h.hb.2
  have n4 := hv0.neL h.hm.2
  have il := (List.getElem?_eq_some_iff.mp hi).1
  have e1 : (vs.set i (v.1, v.2.1, d')).map (·.1) = vs.map (·.1) := Zna (a := v) hi rfl
  have e2 : (vs.set i (v.1, v.2.1, d')).map (·.2.1) = vs.map (·.2.1) := Zna (a := v) hi rfl
  refine ⟨h.spr.keep (x.keep l h.spr.lt (by rw [h.ol]; omega)), (x.own l h.spr.lt).trans h.ol, Cel.xt (k := 0) (o := .ins "Table" (tabF cs)) h.ht x (by omega), h.hF.xt x (by omega), h.fl, h.ne, by rw [e1]; exact h.hb.xt x (by omega), by rw [e2]; exact h.hm.xt x (by omega), fun w hw => ?_, by rw [e1, e2]; exact h.dj, by rw [List.length_set]; exact h.len⟩
  obtain ⟨j, hj⟩ := List.getElem?_of_mem hw
  by_cases c : i = j
  · subst c
    rw [List.getElem?_set_self il] at hj
    cases hj
    exact hv
  · rw [List.getElem?_set_ne c] at hj
    have jl := (List.getElem?_eq_some_iff.mp hj).1
    have hw0 := h.at' w (List.mem_of_getElem? hj)
    have d1 : v.1 ≠ w.1 := fun z => c ((List.getElem?_inj (by rw [List.length_map]; exact il) h.dj.1).mp (by rw [List.getElem?_map, List.getElem?_map, hi, hj]; exact congrArg some z))
    have d2 : v.2.1 ≠ w.2.1 := fun z => c ((List.getElem?_inj (by rw [List.length_map]; exact il) h.dj.2).mp (by rw [List.getElem?_map, List.getElem?_map, hi, hj]; exact congrArg some z))
    have d3 := hv0.neX hw0
    have d4 := hw0.neX hv0
    exact hw0.xt x (by omega) (by omega)
theorem Zvv {q : Nat} (hq : st[q]? = some (.lst (rs.map Zh))) (ht : TabAt lt cs st) (ob : ∀ p, p < st.length → ow p ≤ st.length) (hrs : RsOk cs rs)
    (k : ∀ ow' st', Xt ow st none0 ow' st' → (∃ lk lw lp lc, DbAt ow' st' st.length lk lw lp lc (ZO lt rs)) → (∀ p, p < st'.length → ow' p ≤ st'.length) → Q st') :
    (ZK [.ref st.length, .ref lt, .ref q] (st ++ [.ins "Database" []])).wp (fun v st' => v = .non ∧ Q st') E := by
  refine Zuz (ow := ow) hq ht hrs (fun p hp => ?_) fun ow1 st1 lk lw lp lc x hD => ?_
  · have := ob p hp; omega
  have ge : ∀ {p : Nat} {o : Mi.IO}, Cel ow1 (st.length + 1) st1 p o → ¬ p < st.length := fun {p o} hc hp => by
    have := (x.own p hp).symm.trans hc.1
    have := ob p hp
    omega
  have bl := hD.hb.lt
  have xl := x.len
  let ow2 : Ow := fun p => if p < st.length then ow p else if p = st.length ∨ p = lk ∨ p = lw ∨ p = lp ∨ p = lc then st.length + 1 else 0
  have lo : ∀ p, p < st.length → ow2 p = ow p := fun p hp => if_pos hp
  have hi : ∀ {p : Nat} {o : Mi.IO}, Cel ow1 (st.length + 1) st1 p o → (p = st.length ∨ p = lk ∨ p = lw ∨ p = lp ∨ p = lc) → Cel ow2 (st.length + 1) st1 p o := fun {p o} hc hp => ⟨(if_neg (ge hc)).trans (if_pos hp), hc.2⟩
  have x2 : Xt ow st none0 ow2 st1 := ⟨x.len, lo, x.keep⟩
  have hD2 : DbAt ow2 st1 st.length lk lw lp lc (ZO lt rs) := ⟨hi hD.hb (.inl rfl), hi hD.hk (.inr (.inl rfl)), hi hD.hw (.inr (.inr (.inl rfl))), hi hD.hp (.inr (.inr (.inr (.inl rfl)))), hi hD.hc (.inr (.inr (.inr (.inr rfl)))), hD.n1, hD.n2, hD.n3⟩
  refine k ow2 st1 x2 ⟨_, _, _, _, hD2⟩ fun p hp => ?_
  show (if p < st.length then ow p else if p = st.length ∨ p = lk ∨ p = lw ∨ p = lp ∨ p = lc then st.length + 1 else 0) ≤ _
  split
  · rename_i c
    have := ob p c
    omega
  · split <;> omega
theorem ZqS {q : Nat} (hq : st[q]? = some (.lst (rs.map Zh))) (hr : RsOk cs rs) : Z5t [.ref q] st = .ok (.ref st.length) (st ++ [.dic (kvR rs)]) := by
  have a := ZtG (st := st) hr
  have e : asL st (.ref q) = some (rs.map Zh) := by simp [asL, hq]
  have e2 : asL st (.lst (rs.map Zh)) = some (rs.map Zh) := rfl
  unfold Z5t at a ⊢
  simp only [e2] at a
  simp only [e]
  exact a
theorem Zrk {cs : List IV} (hr : RsOk cs rs) : okV 4 (.lst (rs.map Zh)) = true := by
  simp only [okV]
  refine List.all_eq_true.mpr fun x hx => ?_
  obtain ⟨r, h, rfl⟩ := List.mem_map.mp hx
  exact (Zle (n := r.1) (hr.vs r h)).1
theorem Zrj {s6 s7 s8 s9 s10 s11 s12 s13 : Option SV} (h : Wd ow st cs F l lt la lb lq n vs) (ob : ∀ p, p < st.length → ow p ≤ st.length) (hv : vs.length < 2) (g : Good cs) (ndF : F.Nodup) (hn : n < 1000)
    (k : ∀ ow' st' vs' s7 s8, Wd ow' st' cs F l lt la lb lq (n + 40) vs' → vs'.length = vs.length + 1 → (∀ p, p < st'.length → ow' p ≤ st'.length) → D.nx [some (.v (.ref l)), some (.v (.lst cs)), some (.v (.ref lt)), some (.v (.ref la)), some (.v (.ref lb)), some (.v (.ref lq)), s6, s7, s8, s9, s10, s11, s12, s13] st') :
    (Z4g [some (.v (.ref l)), some (.v (.lst cs)), some (.v (.ref lt)), some (.v (.ref la)), some (.v (.ref lb)), some (.v (.ref lq)), s6, s7, s8, s9, s10, s11, s12, s13] st).wp D := by
  have ne := h.ne
  have fl := h.fl
  simp at ne
  rw [Z4g]
  simp
  refine Z29 (by omega) (by omega) (by omega) h.spr fun r1 st1 r10 r11 bb1 u1 => ?_
  have h1 := h.draw bb1 u1
  simp
  refine Z29 (by omega) (by omega) (by omega) h1.spr fun r2 st2 r20 r21 bb2 u2 => ?_
  have h2 := h1.draw bb2 u2
  have ob2 : ∀ p, p < st2.length → ow p ≤ st2.length := fun p hp => by rw [u2.len, u1.len] at hp ⊢; exact ob p hp
  have sub : List.Sublist (cutI F (some r1) (some (3 + r2))) F := by unfold cutI; exact (List.take_sublist _ _).trans (List.drop_sublist _ _)
  have cm : cutI (F.map IV.int) (some r1) (some (3 + r2)) = (cutI F (some r1) (some (3 + r2))).map .int := by unfold cutI; rw [List.length_map, List.map_take, List.map_drop]
  simp [Zs7 h2.hF.2, cm]
  have subl := sub.length_le
  generalize cutI F (some r1) (some (3 + r2)) = ns at sub cm subl ⊢
  refine Zsu (ns := ns) (by omega) h2.spr g (ndF.sublist sub) (by omega) fun rs st3 hrs er bb3 u3 => ?_
  have h3 := h2.draw bb3 u3
  have ob3 : ∀ p, p < st3.length → ow p ≤ st3.length := fun p hp => by rw [u3.len] at hp ⊢; exact ob2 p hp
  have x4 : Xt ow st3 none0 (owN ow st3.length (st3.length + 1)) (st3 ++ [Mi.IO.lst (rs.map Zh)]) := Zng
  have c4 : Cel (owN ow st3.length (st3.length + 1)) (st3.length + 1) (st3 ++ [Mi.IO.lst (rs.map Zh)]) st3.length (.lst (rs.map Zh)) := Zlg
  have l4 : (st3 ++ [Mi.IO.lst (rs.map Zh)]).length = st3.length + 1 := by simp
  have ob4 : ∀ p, p < (st3 ++ [Mi.IO.lst (rs.map Zh)]).length → owN ow st3.length (st3.length + 1) p ≤ (st3 ++ [Mi.IO.lst (rs.map Zh)]).length := fun p hp => by
    rw [l4] at hp ⊢
    unfold owN
    split
    · omega
    · have := ob3 p (by omega); omega
  have h4 := h3.new x4
  have vold : ∀ v ∈ vs, v.1 < st3.length ∧ v.2.1 < st3.length := fun v hv => (h3.at' v hv).inn
  have q1 := h3.hb.lt
  have q2 := h3.hm.lt
  have q3 := h3.hF.lt
  have q4 := h3.spr.lt
  generalize hq : st3.length = q at h4 c4 l4 ob4 x4 vold q1 q2 q3 q4 ⊢
  generalize hs4 : st3 ++ [Mi.IO.lst (rs.map Zh)] = st4 at c4 l4 ob4 h4 x4 ⊢
  generalize owN ow q (q + 1) = ow4 at c4 ob4 h4 x4
  have isl4 : isLst st4 (.ref lb) = true := by simp [isLst, h4.hb.2]
  simp [ZrG c4.2, isl4]
  refine Zvv c4.2 h4.ht.2 ob4 hrs fun ow5 st5 x5 hD5 ob5 => ?_
  have h5 := h4.new x5
  have c5 := c4.xt x5 id
  have al5 := Z78 (y := .ref st4.length) h5.hb.2 (by rw [ZkO, List.length_map]; omega)
  simp [al5]
  have x6 : Xt ow5 st5 (fun k => k = lb + 1) ow5 (st5.set lb (.lst (refs (vs.map (·.1)) ++ [.ref st4.length]))) := Z5j h5.hb.1
  have b6 : Cel ow5 (lb + 1) (st5.set lb (.lst (refs (vs.map (·.1)) ++ [.ref st4.length]))) lb (.lst (refs (vs.map (·.1)) ++ [.ref st4.length])) := ⟨h5.hb.1, Z2w h5.hb.2⟩
  have l6 : (st5.set lb (.lst (refs (vs.map (·.1)) ++ [.ref st4.length]))).length = st5.length := List.length_set ..
  generalize st5.set lb (.lst (refs (vs.map (·.1)) ++ [.ref st4.length])) = st6 at x6 b6 l6 ⊢
  have c6 := c5.xt x6 (by omega)
  have dk := ZqS c6.2 hrs
  have m6 := h5.hm.xt x6 (by omega)
  have x7 : Xt ow5 st6 none0 (owN ow5 st6.length (st6.length + 1)) (st6 ++ [Mi.IO.dic (kvR rs)]) := Zng
  have d7 : Cel (owN ow5 st6.length (st6.length + 1)) (st6.length + 1) (st6 ++ [Mi.IO.dic (kvR rs)]) st6.length (.dic (kvR rs)) := Zlg
  have l7 : (st6 ++ [Mi.IO.dic (kvR rs)]).length = st6.length + 1 := by simp
  have m7 := m6.xt x7 id
  have b7 := b6.xt x7 id
  have c7 := c6.xt x7 id
  have al7 := Z78 (y := .ref st6.length) m7.2 (by rw [ZkO, List.length_map]; omega)
  have isl6 : isLst st6 (.ref lq) = true := by simp [isLst, m6.2]
  simp [dk, al7, isl6]
  have ob7 : ∀ p, p < (st6 ++ [Mi.IO.dic (kvR rs)]).length → owN ow5 st6.length (st6.length + 1) p ≤ (st6 ++ [Mi.IO.dic (kvR rs)]).length := fun p hp => by
    rw [l7] at hp ⊢
    unfold owN
    split
    · omega
    · have := ob5 p (by omega); omega
  generalize hm7 : st6.length = mm at x7 d7 l7 al7 ob7 l6 m7 b7 c7 ⊢
  generalize st6 ++ [Mi.IO.dic (kvR rs)] = st7 at x7 d7 l7 m7 b7 c7 ob7 al7 ⊢
  generalize owN ow5 mm (mm + 1) = ow7 at x7 d7 m7 b7 c7 ob7
  have x8 : Xt ow7 st7 (fun k => k = lq + 1) ow7 (st7.set lq (.lst (refs (vs.map (·.2.1)) ++ [.ref mm]))) := Z5j m7.1
  have m8 : Cel ow7 (lq + 1) (st7.set lq (.lst (refs (vs.map (·.2.1)) ++ [.ref mm]))) lq (.lst (refs (vs.map (·.2.1)) ++ [.ref mm])) := ⟨m7.1, Z2w m7.2⟩
  have l8 : (st7.set lq (.lst (refs (vs.map (·.2.1)) ++ [.ref mm]))).length = st7.length := List.length_set ..
  generalize st7.set lq (.lst (refs (vs.map (·.2.1)) ++ [.ref mm])) = st8 at x8 m8 l8 ⊢
  have x5l := x5.len
  have b8 := b7.xt x8 (by omega)
  have c8 := c7.xt x8 (by omega)
  have d8 := d7.xt x8 (by omega)
  have ne8 : gNe (.ref q) (.lst (rs.map Zh)) st8 = .ok (.bl false) st8 := by
    have ok4 := Zrk hrs
    have e1 := ne_pE (st := st8) (n := 4) (x := .ref q) (y := .lst (rs.map Zh)) (by rw [Z3Y c8.2]; exact ok4) (by rw [Z3l]; exact ok4) (by decide)
    have e2 := ne_pE (st := st8) (n := 4) (x := .lst (rs.map Zh)) (y := .lst (rs.map Zh)) (by rw [Z3l]; exact ok4) (by rw [Z3l]; exact ok4) (by decide)
    rw [Mi.ne_self ok4 (by decide), Z3l] at e2
    rw [e1, Z3Y c8.2, Z3l]
    exact e2.symm
  have isq : isLst st8 (.ref q) = true := by simp [isLst, c8.2]
  simp [ne8, Zpq c8.2, isq]
  have x9 : Xt ow7 st8 (fun k => k = q + 1) ow7 (st8.set q (.lst [])) := Z5j c8.1
  have l9 : (st8.set q (.lst [])).length = st8.length := List.length_set ..
  generalize st8.set q (.lst []) = st9 at x9 l9 ⊢
  -- from the old world at st5 to the end
  have X : Xt ow5 st5 (fun k => k = lb + 1 ∨ k = lq + 1 ∨ k = q + 1) ow7 st9 :=
    ((x6.mono fun z e => .inl e).trans (x7.mono fun z e => e.elim)).trans ((x8.mono fun z e => .inr (.inl e)).trans (x9.mono fun z e => .inr (.inr e)))
  have vn : ∀ v ∈ vs, v.1 ≠ lb ∧ v.2.1 ≠ lb ∧ v.1 ≠ lq ∧ v.2.1 ≠ lq := fun v hv => by
    have a := (h5.at' v hv).neL h5.hb.2
    have b := (h5.at' v hv).neL h5.hm.2
    exact ⟨a.1, a.2, b.1, b.2⟩
  have inv := ZgL (lt := lt) rs
  have e1 : (ZO lt rs).rows.map (·.name) = rs.map (·.1) := by
    have := congrArg (fun z => z.map (·.1)) inv.2.2.2.2.2
    rw [List.map_map] at this
    exact this
  have rk : RwsOk cs (ZO lt rs).rows := by
    refine ⟨by rw [e1]; exact hrs.nd, fun w hw => ?_, ?_⟩
    · have : (w.name, w.vs) ∈ rs := by rw [← inv.2.2.2.2.2]; exact List.mem_map.mpr ⟨w, hw, rfl⟩
      exact hrs.vs _ this
    · have := congrArg List.length e1
      rw [List.length_map, List.length_map] at this
      have := hrs.few
      omega
  have hv' : kvR rs = (ZO lt rs).rows.map hvI := by
    have := congrArg (fun z => z.map fun q : Int × List IV => ((.inl q.1 : Key), IV.tup q.2)) inv.2.2.2.2.2
    simp only [List.map_map] at this
    exact this.symm
  obtain ⟨lk, lw, lp, lc, hD5⟩ := hD5
  have nbl : st4.length ≠ lb ∧ st4.length ≠ lq ∧ st4.length ≠ q := by omega
  have newV : Vb ow7 st9 cs lt st4.length mm F (ZO lt rs) := by
    refine ⟨⟨lk, lw, lp, lc, hD5.xt X (by omega)⟩, inv.1, inv.2.1, inv.2.2.2.1, rk, fun r hr => ?_, ?_⟩
    · have : r.name ∈ rs.map (·.1) := by rw [← e1]; exact List.mem_map.mpr ⟨r, hr, rfl⟩
      rw [er] at this
      exact sub.subset this
    · rw [← hv']
      exact d8.xt x9 (by omega)
  have wv : ∀ v ∈ vs, Vb ow7 st9 cs lt v.1 v.2.1 F v.2.2 := fun v hv => by
    have a := vn v hv
    have b := vold v hv
    exact (h5.at' v hv).xt X (by omega) (by omega)
  refine k ow7 st9 (vs ++ [(st4.length, mm, ZO lt rs)]) _ _ ⟨?_, (X.own l (by omega)).trans h5.ol, Cel.xt (k := 0) (o := .ins "Table" (tabF cs)) h5.ht X (by omega), h5.hF.xt X (by omega), h.fl, h.ne, ?_, ?_, fun v hv => ?_, ⟨?_, ?_⟩, by simp; omega⟩ (by simp) fun p hp => ?_
  · exact (h5.spr.keep (X.keep l (by omega) (by rw [h5.ol]; omega))).mono (by omega)
  · have := b8.xt x9 (by omega)
    rw [List.map_append]
    simpa [refs] using this
  · have := m8.xt x9 (by omega)
    rw [List.map_append]
    simpa [refs] using this
  · rcases List.mem_append.mp hv with hv | hv
    · exact wv v hv
    · rw [List.mem_singleton.mp hv]; exact newV
  · rw [List.map_append, List.nodup_append]
    refine ⟨h.dj.1, by simp, fun x hx y hy => ?_⟩
    obtain ⟨v, hv, rfl⟩ := List.mem_map.mp hx
    have hy : y = st4.length := by simpa using hy
    have := vold v hv
    omega
  · rw [List.map_append, List.nodup_append]
    refine ⟨h.dj.2, by simp, fun x hx y hy => ?_⟩
    obtain ⟨v, hv, rfl⟩ := List.mem_map.mp hx
    have hy : y = mm := by simpa using hy
    have := vold v hv
    omega
  · rw [l9, l8] at hp ⊢
    exact ob7 p hp
end
end K22
namespace K22
open PySem PySem.Spec PyProof.Rows L2 Mi PySem.W
def X1 : IS :=
  (iSet 1 (iCall (arity 1 Z2p) (iCons (iVar 0) iNil)))
def X2 : IS :=
  (iPar2 2 3 (iCons (iMake "Table" (arity 2 ZA) (iCons (iVar 1) iNil)) (iCons (iCall (arity 2 Z3H) (iCons (iVar 0) (iCons (iC (.int 9)) iNil))) iNil)))
def X3 : IS :=
  (iPar2 4 5 (iCons (iLstS iNil) (iCons (iLstS iNil) iNil)))
def X4 : IS :=
  (iFor (iRng gRng1 (iCons (iC (.int 2)) iNil)) (Zf 6)
  Z4g)
def X5 : IS :=
  (iPar2 9 8 (iCons (iMeth "Database" "rows" (arity 1 Zk) (iIx (iVar 4) (iC (.int 0))) iNil) (iCons (Ze Z28 (iCons (iMeth "Database" "rows" (arity 1 Zk) (iIx (iVar 4) (iC (.int 0))) iNil) iNil)) iNil)))
def X6 : IS :=
  (iFor (iRng gRng1 (iCons (iBin gAdd (iC (.int 4)) (iCall (arity 2 Z11) (iCons (iVar 0) (iCons (iC (.int 13)) iNil)))) iNil)) (Zf 6)
  Z4e)
def X7 : IS :=
  (iRet (iAndV (iBin (Z58 false "Table" Z19) (iFld ["Database"] "table" (iIx (iVar 4) (iC (.int 0)))) (iVar 2)) (iBin gEq (Ze Z28 (iCons (iVar 9) iNil)) (iVar 8))))
theorem Zs8 : ZhK = (iSeq X1 (iSeq X2 (iSeq X3 (iSeq X4 (iSeq X5 (iSeq X6 X7)))))) := rfl
section
variable {ow ow' : Ow} {st st' : Sto} {S : Nat → Prop} {cs : List IV} {F : List Int} {b lt l la lb lq n m p q i : Nat} {d d' : Db} {P : IV → Sto → Prop} {E : Str → List (Str × IV) → Sto → Prop} {Q : Sto → Prop} {vs : List (Nat × Nat × Db)} {v : Nat × Nat × Db} {D : Post} {xs : List IV} {rs : List (Int × List IV)} {s6 s7 s8 s9 s10 s11 s12 s13 : Option SV} {T : Str}
theorem Z4P {vs : List (Nat × Nat × Db)} {f : Nat × Nat × Db → Nat} (h : vs[i]? = some v) : atI (refs (vs.map f)) (i : Int) = some (.ref (f v)) := Mi.atI_at (by simp [refs, h])
theorem Zqu (h : Wd ow st cs F l lt la lb lq n vs) (hl : vs.length = 2) (hp : Cel ow 0 st p (.lst xs)) (k : ∀ ow' st' s13, Wd ow' st' cs F l lt la lb lq n vs → Cel ow' 0 st' p (.lst xs) → D.nx [some (.v (.ref l)), some (.v (.lst cs)), some (.v (.ref lt)), some (.v (.ref la)), some (.v (.ref lb)), some (.v (.ref lq)), s6, s7, s8, s9, s10, s11, s12, s13] st') :
    ((iFor (iRng gRng1 (iCons (iC (.int 2)) iNil)) (Zf 13) Z4l) [some (.v (.ref l)), some (.v (.lst cs)), some (.v (.ref lt)), some (.v (.ref la)), some (.v (.ref lb)), some (.v (.ref lq)), s6, s7, s8, s9, s10, s11, s12, s13] st).wp D := by
  simp
  refine Z1e (fun j ρ st2 => ∃ ow2 s13, ρ = [some (.v (.ref l)), some (.v (.lst cs)), some (.v (.ref lt)), some (.v (.ref la)), some (.v (.ref lb)), some (.v (.ref lq)), s6, s7, s8, s9, s10, s11, s12, s13] ∧ Wd ow2 st2 cs F l lt la lb lq n vs ∧ Cel ow2 0 st2 p (.lst xs)) ⟨ow, s13, rfl, h, hp⟩ ?_ ?_
  · rintro j x ρ st2 hx ⟨ow2, s13, rfl, h2, hp2⟩
    obtain ⟨hj, rfl⟩ := Z3O hx
    have hj : j < 2 := by simpa using hj
    refine ⟨rfl, ?_⟩
    obtain ⟨v, hv⟩ : ∃ v, vs[j]? = some v := ⟨_, List.getElem?_eq_getElem (by omega)⟩
    have a1 := Z4P (f := (·.1)) hv
    have a2 := Z4P (f := (·.2.1)) hv
    have hv2 := h2.at' v (List.mem_of_getElem? hv)
    simp [Z4l, Z2l h2.hb.2, Z2l h2.hm.2, a1, a2]
    refine ZrH hv2 h2.fl.2 h2.hF fun ow3 st3 x3 => ?_
    simp
    first | exact ⟨ow3, _, rfl, h2.new x3, hp2.xt x3 id⟩ | exact ⟨ow3, h2.new x3, hp2.xt x3 id⟩
  · rintro ρ st2 ⟨ow2, s13, rfl, h2, hp2⟩
    exact ⟨rfl, k ow2 st2 s13 h2 hp2⟩
theorem ZqE (h : Wd ow st cs F l lt la lb lq n vs) (g : Good cs) (hl : vs.length = 2) (hp : Cel ow 0 st p (.lst xs)) (hn : n < 10000) (k : ∀ ow' st' vs' s10 s11 s12 s13, Wd ow' st' cs F l lt la lb lq (n + 6) vs' → vs'.length = 2 → Cel ow' 0 st' p (.lst xs) → D.nx [some (.v (.ref l)), some (.v (.lst cs)), some (.v (.ref lt)), some (.v (.ref la)), some (.v (.ref lb)), some (.v (.ref lq)), s6, s7, s8, s9, s10, s11, s12, s13] st') :
    (Z4e [some (.v (.ref l)), some (.v (.lst cs)), some (.v (.ref lt)), some (.v (.ref la)), some (.v (.ref lb)), some (.v (.ref lq)), s6, s7, s8, s9, s10, s11, s12, s13] st).wp D := by
  have t2 := fun {ow : Ow} {st : Sto} {n' : Nat} {vs : List (Nat × Nat × Db)} {s10 s11 s12 s13 : Option SV} (h : Wd ow st cs F l lt la lb lq n' vs) (hl : vs.length = 2) (hp : Cel ow 0 st p (.lst xs)) (hn : n' ≤ n + 6) => Zqu (D := D) (s6 := s6) (s7 := s7) (s8 := s8) (s9 := s9) (s10 := s10) (s11 := s11) (s12 := s12) (s13 := s13) h hl hp fun ow' st' s13 h' hp' => k ow' st' vs s10 s11 s12 s13 (h'.mono hn) hl hp'
  have ne := h.ne
  have fl := h.fl
  simp at ne
  rw [Z4e]
  generalize (iFor (iRng gRng1 (iCons (iC (.int 2)) iNil)) (Zf 13) Z4l) = T2 at t2 ⊢
  simp
  refine Z29 (by omega) (by omega) (by omega) h.spr fun r st1 r0 r1 bb1 u1 => ?_
  have h1 := h.draw bb1 u1
  have p1 := hp.xt (Z4u h.ol u1) (by omega)
  simp
  refine Zro (le := la) (xs := F.map .int) (by omega) h1.hF.2 (by rw [List.length_map]; omega) (by rw [List.length_map]; omega) (by omega) h1.spr fun v0 st2 hv0 bb2 u2 => ?_
  obtain ⟨nm, hnm, rfl⟩ := List.mem_map.mp hv0
  have h2 := h1.draw bb2 u2
  have p2 := p1.xt (Z4u h1.ol u2) (by omega)
  simp
  refine Z29 (by omega) (by omega) (by omega) h2.spr fun z st3 z0 z1 bb3 u3 => ?_
  have h3 := h2.draw bb3 u3
  have p3 := p2.xt (Z4u h2.ol u3) (by omega)
  obtain ⟨i, rfl⟩ : ∃ i : Nat, r = (i : Int) := ⟨r.toNat, by omega⟩
  obtain ⟨v, hv⟩ : ∃ v, vs[i]? = some v := ⟨_, List.getElem?_eq_getElem (by omega)⟩
  have a1 := Z4P (f := (·.1)) hv
  have a2 := Z4P (f := (·.2.1)) hv
  have fin : ∀ (st4 : Sto) (n4 : Nat) (u : IV), n4 ≤ n + 6 → Wd ow st4 cs F l lt la lb lq n4 vs → Cel ow 0 st4 p (.lst xs) → (u = .non ∨ ∃ vs, u = .tup vs ∧ inTs vs cs = true) →
      ((iSeq (iIfS (iNot (iTest (iCall (arity 4 F_put) (iCons (iIx (iVar 4) (iVar 10)) (iCons (iIx (iVar 5) (iVar 10)) (iCons (iVar 11) (iCons (iVar 12) iNil))))))) (iRet (iC (.bl false))) iSkip) T2) [some (.v (.ref l)), some (.v (.lst cs)), some (.v (.ref lt)), some (.v (.ref la)), some (.v (.ref lb)), some (.v (.ref lq)), s6, s7, s8, s9, some (.v (.int (i : Int))), some (.v (.int nm)), some (.v u), s13] st4).wp D := by
    intro st4 n4 u hn4 h4 p4 hu
    have hv4 := h4.at' v (List.mem_of_getElem? hv)
    have hb4 := h4.hb.2
    have hm4 := h4.hm.2
    simp [Z2l hb4, Z2l hm4, a1, a2]
    refine Zto hv4 h4.ht fl.2 hnm hu fun ow5 st5 d' x5 hv5 => ?_
    have h5 := h4.one hv x5 hv5
    simp
    exact t2 h5 (by rw [List.length_set]; exact hl) (p4.xt x5 (by omega)) hn4
  have fin := fun st4 n4 u a b c d => fin st4 n4 u a b c d
  by_cases c : z = 0
  · have f := fin st3 _ .non (by omega) h3 p3 (.inl rfl)
    simp at f
    simp [c]
    exact f
  · simp [c]
    refine Zj0 (by omega) h3.spr g fun ws st4 hws bb4 u4 => ?_
    have h4 := h3.draw bb4 u4
    have p4 := p3.xt (Z4u h3.ol u4) (by omega)
    have f := fin st4 _ (.tup ws) (by omega) h4 p4 (.inr ⟨ws, rfl, hws⟩)
    simp at f
    simp
    exact f
abbrev TE (P : IV → Sto → Prop) (E : Str → List (Str × IV) → Sto → Prop) : Post := ⟨fun _ st => P .non st, P, fun _ _ => False, fun _ _ => False, fun c fs _ st => E c fs st⟩
theorem x7_ok (h : Wd ow st cs F l lt la lb lq n vs) (g : Good cs) (hl : vs.length = 2) (rr : Z28 [.ref p] st = .ok (.str T) st) (k : P (.bl true) st) :
    (X7 [some (.v (.ref l)), some (.v (.lst cs)), some (.v (.ref lt)), some (.v (.ref la)), some (.v (.ref lb)), some (.v (.ref lq)), s6, s7, some (.v (.str T)), some (.v (.ref p)), s10, s11, s12, s13] st).wp (TE P E) := by
  obtain ⟨v, hv⟩ : ∃ v, vs[0]? = some v := ⟨_, List.getElem?_eq_getElem (by omega)⟩
  have a1 : atI (refs (vs.map (·.1))) 0 = some (.ref v.1) := Z4P (f := (·.1)) hv
  have hv0 := h.at' v (List.mem_of_getElem? hv)
  obtain ⟨lk, lw, lp, lc, hD⟩ := hv0.hD
  have hlt := hv0.hlt
  have eq : gEq (.str T) (.str T) st = .ok (.bl true) st := by simp [gEq, eqB]
  rw [X7]
  simp [Z2l h.hb.2, a1, hD.ins, hlt]
  refine ZoA h.ht.2.ins (.inl (by rw [h.ht.2.ins]; rfl)) (Zvf h.ht.2 h.ht.2 g g fun b hb => ⟨_, rfl, ?_⟩)
  have hb := hb.mpr ⟨rfl, rfl⟩
  subst hb
  simp [rr, eq]
  exact k
theorem x5_ok (h : Wd ow st cs F l lt la lb lq n vs) (g : Good cs) (hl : vs.length = 2) (hn : n < 1000) (hc : ∀ c ∈ cs, snd c ≤ 5) (fb : ∀ x ∈ F, x.natAbs < 10000000000000000000000000000000000000000) (k : ∀ st, P (.bl true) st) :
    ((iSeq X5 (iSeq X6 X7)) [some (.v (.ref l)), some (.v (.lst cs)), some (.v (.ref lt)), some (.v (.ref la)), some (.v (.ref lb)), some (.v (.ref lq)), s6, s7, s8, s9, s10, s11, s12, s13] st).wp (TE P E) := by
  obtain ⟨v, hv⟩ : ∃ v, vs[0]? = some v := ⟨_, List.getElem?_eq_getElem (by omega)⟩
  have a1 : atI (refs (vs.map (·.1))) 0 = some (.ref v.1) := Z4P (f := (·.1)) hv
  have hv0 := h.at' v (List.mem_of_getElem? hv)
  obtain ⟨lk, lw, lp, lc, hD⟩ := hv0.hD
  have few := hv0.few h.fl.2
  have t7 := fun {ow : Ow} {st : Sto} {n' p : Nat} {vs : List (Nat × Nat × Db)} {T : Str} {s6 s10 s11 s12 s13 : Option SV} (h : Wd ow st cs F l lt la lb lq n' vs) (hl : vs.length = 2) (rr : Z28 [.ref p] st = .ok (.str T) st) => x7_ok (P := P) (E := E) (s6 := s6) (s7 := s7) (s10 := s10) (s11 := s11) (s12 := s12) (s13 := s13) h g hl rr (k st)
  generalize X7 = Z at t7 ⊢
  rw [X5, X6]
  simp [Z2l h.hb.2, a1, hD.ins]
  refine Z6z hD hv0.rows.nd (by omega) ?_
  have t1 : Xt ow st none0 (owE st.length ow) (st ++ [Mi.IO.lst (rowsL v.2.2.rows)]) := Zbb (fun j hj => List.getElem?_append_left hj) (by simp)
  have p1 : Cel (owE st.length ow) 0 (st ++ [Mi.IO.lst (rowsL v.2.2.rows)]) st.length (.lst (rowsL v.2.2.rows)) := ⟨ZvN (Nat.le_refl _), by simp⟩
  have h1 := h.new t1
  generalize st.length = p at p1 t1 h1 ⊢
  generalize st ++ [Mi.IO.lst (rowsL v.2.2.rows)] = st1 at t1 p1 h1 ⊢
  generalize owE p ow = ow1 at t1 p1 h1
  have hv1 := h1.at' v (List.mem_of_getElem? hv)
  obtain ⟨lk1, lw1, lp1, lc1, hD1⟩ := hv1.hD
  obtain ⟨Dd, e1, e2, e3, e4⟩ := ZoC (st := st1) p1.2 hv0.rows few hc g.len fun r hr => fb _ (hv0.nm r hr)
  have rr : ∀ (st : Sto) (q : Nat), st[q]? = some (.lst (rowsL v.2.2.rows)) → Z28 [.ref q] st = .ok (.str Dd.shown) st := fun st q hq => Zp8 hq e1 e2 e3 e4
  simp [Z2l h1.hb.2, a1, hD1.ins]
  refine Z6z hD1 hv1.rows.nd (by omega) ?_
  have t2 : Xt ow1 st1 none0 (owE st1.length ow1) (st1 ++ [Mi.IO.lst (rowsL v.2.2.rows)]) := Zbb (fun j hj => List.getElem?_append_left hj) (by simp)
  have p2 := p1.xt t2 id
  have h2 := h1.new t2
  have r2 := rr (st1 ++ [Mi.IO.lst (rowsL v.2.2.rows)]) st1.length (by simp)
  simp [r2]
  generalize st1 ++ [Mi.IO.lst (rowsL v.2.2.rows)] = st2 at t2 p2 h2 r2 ⊢
  generalize owE st1.length ow1 = ow2 at t2 p2 h2
  have ne := h.ne
  simp at ne
  refine Z29 (by omega) (by omega) (by omega) h2.spr fun z st3 z0 z1 bb3 u3 => ?_
  have h3 := h2.draw bb3 u3
  have p3 := p2.xt (Z4u h2.ol u3) (by omega)
  simp
  refine ⟨by omega, ?_⟩
  refine Z1e (fun j ρ st2 => ∃ ow2 vs2 s6 s10 s11 s12 s13, ρ = [some (.v (.ref l)), some (.v (.lst cs)), some (.v (.ref lt)), some (.v (.ref la)), some (.v (.ref lb)), some (.v (.ref lq)), s6, s7, some (.v (.str Dd.shown)), some (.v (.ref p)), s10, s11, s12, s13] ∧ Wd ow2 st2 cs F l lt la lb lq (n + 1 + 6 * j) vs2 ∧ vs2.length = 2 ∧ Cel ow2 0 st2 p (.lst (rowsL v.2.2.rows))) ⟨ow2, vs, s6, s10, s11, s12, s13, rfl, h3, hl, p3⟩ ?_ ?_
  · rintro j x ρ st4 hx ⟨ow4, vs4, s6, s10, s11, s12, s13, rfl, h4, hl4, p4⟩
    obtain ⟨hj, rfl⟩ := Z3O hx
    have hj : j < 20 := by omega
    refine ⟨rfl, ?_⟩
    simp
    exact ZqE h4 g hl4 p4 (by omega) fun ow5 st5 vs5 s10 s11 s12 s13 h5 hl5 p5 => ⟨ow5, vs5, _, s10, s11, s12, s13, rfl, h5.mono (by omega), hl5, p5⟩
  · rintro ρ st4 ⟨ow4, vs4, s6, s10, s11, s12, s13, rfl, h4, hl4, p4⟩
    refine ⟨rfl, ?_⟩
    exact t7 h4 hl4 (rr _ _ p4.2)
theorem Zvn (cs : List IV) (h : cs ∈ cols6) : ∀ c ∈ cs, snd c ≤ 5 := by
  simp only [cols6, List.mem_cons, List.not_mem_nil, or_false] at h
  rcases h with rfl | rfl | rfl | rfl | rfl | rfl <;> decide
theorem ZqT (h : Spr 0 l st) (k : ∀ st, P (.bl true) st) : (Z4Q [.ref l] st).wp P E := by
  have tail := fun {ow : Ow} {st : Sto} {n lt la lb lq : Nat} {cs : List IV} {F : List Int} {vs : List (Nat × Nat × Db)} {s6 s7 s8 s9 s10 s11 s12 s13 : Option SV} (h : Wd ow st cs F l lt la lb lq n vs) (g : Good cs) (hl : vs.length = 2) (hn : n < 1000) (hc : ∀ c ∈ cs, snd c ≤ 5) (fb : ∀ x ∈ F, x.natAbs < 10000000000000000000000000000000000000000) => x5_ok (P := P) (E := E) (s6 := s6) (s7 := s7) (s8 := s8) (s9 := s9) (s10 := s10) (s11 := s11) (s12 := s12) (s13 := s13) h g hl hn hc fb k
  rw [Z4Q, Zs8]
  generalize (iSeq X5 (iSeq X6 X7)) = Z at tail ⊢
  simp
  rw [X1]
  simp
  refine ZnX (by omega) h fun cs st1 hcs b1 u1 => ?_
  have g := good6 cs hcs
  have h0 := pos6 cs hcs
  have hm := many6 cs hcs
  have hc := Zvn cs hcs
  rw [X2]
  simp
  refine makeT g h0 hm fun st2 t2 k2 l2 => ?_
  have ll := h.lt
  have l1 := u1.len
  have b2 : Spr 1 l st2 := b1.keep (k2 l (by omega))
  generalize hlt : st1.length = lt at t2 l2 k2
  simp
  refine Zp1 (m := 9) (by omega) (by omega) b2 fun F st3 fb nd lf f3 b3 k3 l3 => ?_
  have t3 : TabAt lt cs st3 := (k3 lt (by omega) (by omega)).trans t2
  generalize hla : st2.length + 1 = la at f3
  simp
  rw [X3]
  simp
  have hl2 : l ≠ lt := by omega
  have hla2 : la ≠ lt := by omega
  have one : ∀ p, p ≠ lt → ow0 lt p = p + 1 := fun p hp => if_neg hp
  have es : st3 ++ [Mi.IO.lst [], Mi.IO.lst []] = (st3 ++ [Mi.IO.lst []]) ++ [Mi.IO.lst []] := by simp
  have b4 : Spr (1 + 1 + 3 * 9) l (st3 ++ [Mi.IO.lst [], Mi.IO.lst []]) := Znk b3
  have hW : Wd (ow0 lt) (st3 ++ [Mi.IO.lst [], Mi.IO.lst []]) cs F l lt la st3.length (st3.length + 1) (1 + 1 + 3 * 9) [] :=
    ⟨b4, one l hl2, ⟨if_pos rfl, by unfold TabAt; rw [List.getElem?_append_left (by omega)]; exact t3⟩, ⟨one la hla2, by rw [List.getElem?_append_left (by omega)]; exact f3⟩, by omega, by simp; omega, ⟨one _ (by omega), by simp [refs]⟩, ⟨one _ (by omega), by rw [List.getElem?_append_right (by omega)]; simp [refs]⟩, fun v hv => by simp at hv, ⟨by simp, by simp⟩, by simp⟩
  have l4 : (st3 ++ [Mi.IO.lst [], Mi.IO.lst []]).length = st3.length + 2 := by simp
  have ob : ∀ p, p < (st3 ++ [Mi.IO.lst [], Mi.IO.lst []]).length → ow0 lt p ≤ (st3 ++ [Mi.IO.lst [], Mi.IO.lst []]).length := fun p hp => by
    unfold ow0
    split <;> omega
  generalize (st3 ++ [Mi.IO.lst [], Mi.IO.lst []]) = st4 at hW ob ⊢
  generalize ow0 lt = ow4 at hW ob
  rw [X4]
  simp
  refine Z1e (fun j ρ st5 => ∃ ow5 vs s6 s7 s8, ρ = [some (.v (.ref l)), some (.v (.lst cs)), some (.v (.ref lt)), some (.v (.ref la)), some (.v (.ref st3.length)), some (.v (.ref (st3.length + 1))), s6, s7, s8, none, none, none, none, none] ∧ Wd ow5 st5 cs F l lt la st3.length (st3.length + 1) (29 + 40 * j) vs ∧ vs.length = j ∧ (∀ p, p < st5.length → ow5 p ≤ st5.length)) ⟨ow4, [], none, none, none, rfl, hW, rfl, ob⟩ ?_ ?_
  · rintro j x ρ st5 hx ⟨ow5, vs, s6, s7, s8, rfl, h5, hl5, ob5⟩
    obtain ⟨hj, rfl⟩ := Z3O hx
    have hj : j < 2 := by simpa using hj
    refine ⟨rfl, ?_⟩
    simp
    exact Zrj h5 ob5 (by omega) g nd (by omega) fun ow6 st6 vs6 s7 s8 h6 hl6 ob6 => ⟨ow6, vs6, _, s7, s8, rfl, h6.mono (by omega), by omega, ob6⟩
  · rintro ρ st5 ⟨ow5, vs, s6, s7, s8, rfl, h5, hl5, ob5⟩
    refine ⟨rfl, ?_⟩
    have hl5 : vs.length = 2 := by simpa [Z3L] using hl5
    refine tail h5 g hl5 (by rw [Z3L]; decide) hc fun x hx => ?_
    have := fb x hx
    omega
end
theorem law_true (ns : List Int) (hns : ns.length ≤ 63) : ∃ st', F_law [.lst (ns.map .int)] [] = .ok (.bl true) st' := by
  have main : (F_law [.lst (ns.map .int)] []).wp (fun v _ => v = .bl true) nE := by
    simp [F_law, B_law]
    refine ⟨by omega, ?_⟩
    refine Z1e (fun i ρ _ => ∃ s1, ρ = [some (.v (.lst (ns.map .int))), s1]) ⟨none, rfl⟩ ?_ ?_
    · rintro i x ρ st hx ⟨s1, rfl⟩
      obtain ⟨hi, rfl⟩ := Z3O hx
      refine ⟨rfl, ?_⟩
      simp [ZhE]
      refine Zpg (by omega) fun o hs => ?_
      simp
      refine ZqT hs fun st2 => ?_
      simp
    · rintro ρ st ⟨s1, rfl⟩
      exact ⟨rfl, by simp⟩
  obtain ⟨v, st', e, h⟩ := of_wp main
  rw [h] at e
  exact ⟨st', e⟩
end K22
namespace K22
open PySem PySem.Spec PyProof.Rows L2 Mi
theorem tk_0 {K : Mh.Fg} (h : ts_0 K = true) : (PySem.W.nsIn K mainGlobals "abs" = some none) ∧ (PySem.W.nsIn K mainGlobals "bool" = some none) ∧ (PySem.W.nsIn K mainGlobals "dict" = some none) ∧ (PySem.W.nsIn K mainGlobals "enumerate" = some none) ∧ (PySem.W.nsIn K mainGlobals "int" = some none) ∧ (PySem.W.nsIn K mainGlobals "isinstance" = some none) ∧ (PySem.W.nsIn K mainGlobals "len" = some none) ∧ (PySem.W.nsIn K mainGlobals "list" = some none) ∧ (PySem.W.nsIn K mainGlobals "max" = some none) ∧ (PySem.W.nsIn K mainGlobals "min" = some none) ∧ (PySem.W.nsIn K mainGlobals "range" = some none) ∧ (PySem.W.nsIn K mainGlobals "repr" = some none) ∧ (PySem.W.nsIn K mainGlobals "set" = some none) ∧ (PySem.W.nsIn K mainGlobals "sorted" = some none) ∧ (PySem.W.nsIn K mainGlobals "str" = some none) ∧ (PySem.W.nsIn K mainGlobals "tuple" = some none) ∧ (PySem.W.nsIn K mainGlobals "zip" = some none) ∧ (PySem.W.nsIn K mainGlobals "KEPT" = some (some (.ref (Mh.glA K "KEPT")))) ∧ (Mh.tupT K (Mh.glA K "KEPT") [.str "add", .str "all", .str "and", .str "by", .str "change", .str "check", .str "copied", .str "cursor", .str "desc", .str "false", .str "hold", .str "in", .str "keep", .str "key", .str "kept", .str "live", .str "locked", .str "name", .str "none", .str "not", .str "or", .str "place", .str "reach", .str "remove", .str "shut", .str "true", .str "values", .str "version", .str "where", .str "when", .str "backward", .str "refused", .str "again", .str "skip"] = true) ∧ (Mh.strT K "LETTERS" "abcdefghijklmnopqrstuvwxyz" = true) := by
  simp only [ts_0, Bool.and_eq_true, decide_eq_true_eq] at h; exact h
theorem tk_1 {K : Mh.Fg} (h : ts_1 K = true) : (Mh.intT K "MOST_VALUES" 36 = true) ∧ (PySem.W.nsIn K mainGlobals "Table" = some (some (.ref (Mh.glA K "Table")))) ∧ (PySem.W.nsIn K mainGlobals "Database" = some (some (.ref (Mh.glA K "Database")))) ∧ (PySem.W.nsIn K mainGlobals "BadTable" = some (some (.ref (Mh.glA K "BadTable")))) ∧ (PySem.W.nsIn K mainGlobals "BadRows" = some (some (.ref (Mh.glA K "BadRows")))) ∧ (PySem.W.nsIn K mainGlobals "NoRow" = some (some (.ref (Mh.glA K "NoRow")))) ∧ (PySem.W.nsIn K mainGlobals "BadValues" = some (some (.ref (Mh.glA K "BadValues")))) ∧ (PySem.W.nsIn K mainGlobals "Held" = some (some (.ref (Mh.glA K "Held")))) ∧ (PySem.W.nsIn K mainGlobals "HeldcursorsError" = some (some (.ref (Mh.glA K "HeldcursorsError")))) ∧ (((PySem.W.clsIn K (Mh.glA K "NoRow")).isSome) = true) ∧ (PySem.W.findIn K (.ref (Mh.glA K "NoRow")) "__getattribute__" = some (some (.builtin "BaseException.__getattribute__"))) ∧ (PySem.W.findIn K (.ref (Mh.glA K "NoRow")) "__getattr__" = some none) ∧ (PySem.W.subIn K (.ref (Mh.glA K "NoRow")) (.type "BaseException") = some true) ∧ (PySem.W.findIn K (.ref (Mh.glA K "NoRow")) "__class__" = some (some (.builtin "object.__class__"))) ∧ (PySem.W.mroIn K (Mh.glA K "NoRow") (.type "object") = some true) ∧ (PySem.W.specialIn K (.builtin "object.__class__") "__get__" = some (some (.builtin "getset_descriptor.__get__"))) ∧ (PySem.W.takesIn K (.builtin "object.__class__") = some true) ∧ (PySem.W.kitOne K (.ref (Mh.glA K "NoRow")) (.ref (Mh.glA K "Held")) = some false) ∧ (PySem.W.kitOne K (.ref (Mh.glA K "NoRow")) (.ref (Mh.glA K "HeldcursorsError")) = some true) ∧ ((PySem.W.plainGet K (Mh.glA K "Table") Str.empty) = true) := by
  simp only [ts_1, Bool.and_eq_true, decide_eq_true_eq] at h; exact h
theorem tk_2 {K : Mh.Fg} (h : ts_2 K = true) : ((PySem.W.hasDictIn K (Mh.glA K "Table")) = true) ∧ ((PySem.W.plainOver K (Mh.glA K "Table")) = true) ∧ (PySem.W.findIn K (.ref (Mh.glA K "Table")) "__setattr__" = some (some (.builtin "object.__setattr__"))) ∧ ((PySem.W.plainGet K (Mh.glA K "Database") Str.empty) = true) ∧ ((PySem.W.hasDictIn K (Mh.glA K "Database")) = true) ∧ ((PySem.W.plainOver K (Mh.glA K "Database")) = true) ∧ (PySem.W.findIn K (.ref (Mh.glA K "Database")) "__setattr__" = some (some (.builtin "object.__setattr__"))) ∧ ((PySem.W.makesIn K (Mh.glA K "Database")) = true) ∧ ((PySem.W.keepIn K (.ref (Mh.glA K "Database"))) = true) ∧ ((PySem.W.makesIn K (Mh.glA K "Table")) = true) ∧ ((PySem.W.keepIn K (.ref (Mh.glA K "Table"))) = true) ∧ (PySem.W.findIn K (.ref (Mh.glA K "Database")) "begun_at" = some none) ∧ (PySem.W.findIn K (.ref (Mh.glA K "Database")) "cursors" = some none) ∧ (PySem.W.findIn K (.ref (Mh.glA K "Database")) "events" = some none) ∧ (PySem.W.findIn K (.ref (Mh.glA K "Database")) "kept_rows" = some none) ∧ (PySem.W.findIn K (.ref (Mh.glA K "Database")) "points" = some none) ∧ (PySem.W.findIn K (.ref (Mh.glA K "Database")) "table" = some none) ∧ (PySem.W.findIn K (.ref (Mh.glA K "Database")) "written" = some none) ∧ (PySem.W.findIn K (.ref (Mh.glA K "Table")) "columns" = some none) ∧ (PySem.W.findIn K (.ref (Mh.glA K "Table")) "every" = some none) := by
  simp only [ts_2, Bool.and_eq_true, decide_eq_true_eq] at h; exact h
theorem tk_3 {K : Mh.Fg} (h : ts_3 K = true) : (PySem.W.findIn K (.ref (Mh.glA K "Table")) "tops" = some none) ∧ (PySem.W.subIn K (.type "NoneType") (.ref (Mh.glA K "Table")) = some false) ∧ (PySem.W.subIn K (.type "bool") (.ref (Mh.glA K "Table")) = some false) ∧ (PySem.W.subIn K (.type "int") (.ref (Mh.glA K "Table")) = some false) ∧ (PySem.W.subIn K (.type "str") (.ref (Mh.glA K "Table")) = some false) ∧ (PySem.W.subIn K (.type "tuple") (.ref (Mh.glA K "Table")) = some false) ∧ (PySem.W.subIn K (.type "list") (.ref (Mh.glA K "Table")) = some false) ∧ (PySem.W.subIn K (.type "dict") (.ref (Mh.glA K "Table")) = some false) ∧ (PySem.W.mroIn K (Mh.glA K "Table") (.type "object") = some true) ∧ (PySem.W.findIn K (.ref (Mh.glA K "Table")) "__ne__" = some (some (.builtin "object.__ne__"))) ∧ ((PySem.W.isClsIn K (Mh.glA K "Table")) = true) ∧ (PySem.W.typeIn K (.ref (Mh.glA K "Table")) = some (.type "type")) ∧ (PySem.W.findIn K (.ref (Mh.glA K "Table")) "__class__" = some (some (.builtin "object.__class__"))) ∧ (PySem.W.specialIn K (.builtin "object.__class__") "__get__" = some (some (.builtin "getset_descriptor.__get__"))) ∧ (PySem.W.takesIn K (.builtin "object.__class__") = some true) ∧ (Mh.excT K (Mh.glA K "BadTable") = true) ∧ (PySem.W.findIn K (.ref (Mh.glA K "BadTable")) "__setattr__" = some (some (.builtin "object.__setattr__"))) ∧ (PySem.W.subIn K (.ref (Mh.glA K "BadTable")) (.type "BaseException") = some true) ∧ (PySem.W.typeIn K (.ref (Mh.glA K "BadTable")) = some (.type "type")) ∧ ((PySem.W.keepIn K (.ref (Mh.glA K "BadTable"))) = true) := by
  simp only [ts_3, Bool.and_eq_true, decide_eq_true_eq] at h; exact h
theorem tk_4 {K : Mh.Fg} (h : ts_4 K = true) : (PySem.W.findIn K (.ref (Mh.glA K "BadTable")) "__getattribute__" = some (some (.builtin "BaseException.__getattribute__"))) ∧ (PySem.W.findIn K (.ref (Mh.glA K "BadTable")) "__getattr__" = some none) ∧ ((PySem.W.hasDictIn K (Mh.glA K "BadTable")) = true) ∧ (PySem.W.findIn K (.ref (Mh.glA K "BadTable")) "at" = some none) ∧ ((PySem.W.isClsIn K (Mh.glA K "BadTable")) = true) ∧ (PySem.W.subIn K (.ref (Mh.glA K "BadTable")) (.ref (Mh.glA K "BadTable")) = some true) ∧ (PySem.W.findIn K (.ref (Mh.glA K "BadTable")) "__init__" = some (some (.ref (Mh.atA K (Mh.glA K "BadTable") "__init__")))) ∧ (PySem.W.typeIn K (.ref (Mh.atA K (Mh.glA K "BadTable") "__init__")) = some (.type "function")) ∧ (Mh.fnT K (Mh.atA K (Mh.glA K "BadTable") "__init__") "BadTable.__init__" [] [] = true) ∧ (Mh.excT K (Mh.glA K "BadRows") = true) ∧ (PySem.W.findIn K (.ref (Mh.glA K "BadRows")) "__setattr__" = some (some (.builtin "object.__setattr__"))) ∧ (PySem.W.subIn K (.ref (Mh.glA K "BadRows")) (.type "BaseException") = some true) ∧ (PySem.W.typeIn K (.ref (Mh.glA K "BadRows")) = some (.type "type")) ∧ ((PySem.W.keepIn K (.ref (Mh.glA K "BadRows"))) = true) ∧ (PySem.W.findIn K (.ref (Mh.glA K "BadRows")) "__getattribute__" = some (some (.builtin "BaseException.__getattribute__"))) ∧ (PySem.W.findIn K (.ref (Mh.glA K "BadRows")) "__getattr__" = some none) ∧ ((PySem.W.hasDictIn K (Mh.glA K "BadRows")) = true) ∧ (PySem.W.findIn K (.ref (Mh.glA K "BadRows")) "at" = some none) ∧ ((PySem.W.isClsIn K (Mh.glA K "BadRows")) = true) ∧ (PySem.W.subIn K (.ref (Mh.glA K "BadRows")) (.ref (Mh.glA K "BadRows")) = some true) := by
  simp only [ts_4, Bool.and_eq_true, decide_eq_true_eq] at h; exact h
theorem tk_5 {K : Mh.Fg} (h : ts_5 K = true) : (PySem.W.findIn K (.ref (Mh.glA K "BadRows")) "__init__" = some (some (.ref (Mh.atA K (Mh.glA K "BadRows") "__init__")))) ∧ (PySem.W.typeIn K (.ref (Mh.atA K (Mh.glA K "BadRows") "__init__")) = some (.type "function")) ∧ (Mh.fnT K (Mh.atA K (Mh.glA K "BadRows") "__init__") "BadRows.__init__" [] [] = true) ∧ (Mh.excT K (Mh.glA K "NoRow") = true) ∧ (PySem.W.findIn K (.ref (Mh.glA K "NoRow")) "__setattr__" = some (some (.builtin "object.__setattr__"))) ∧ (PySem.W.subIn K (.ref (Mh.glA K "NoRow")) (.type "BaseException") = some true) ∧ (PySem.W.typeIn K (.ref (Mh.glA K "NoRow")) = some (.type "type")) ∧ ((PySem.W.keepIn K (.ref (Mh.glA K "NoRow"))) = true) ∧ (PySem.W.findIn K (.ref (Mh.glA K "NoRow")) "__getattribute__" = some (some (.builtin "BaseException.__getattribute__"))) ∧ (PySem.W.findIn K (.ref (Mh.glA K "NoRow")) "__getattr__" = some none) ∧ ((PySem.W.hasDictIn K (Mh.glA K "NoRow")) = true) ∧ (PySem.W.findIn K (.ref (Mh.glA K "NoRow")) "name" = some none) ∧ ((PySem.W.isClsIn K (Mh.glA K "NoRow")) = true) ∧ (PySem.W.subIn K (.ref (Mh.glA K "NoRow")) (.ref (Mh.glA K "NoRow")) = some true) ∧ (PySem.W.findIn K (.ref (Mh.glA K "NoRow")) "__init__" = some (some (.ref (Mh.atA K (Mh.glA K "NoRow") "__init__")))) ∧ (PySem.W.typeIn K (.ref (Mh.atA K (Mh.glA K "NoRow") "__init__")) = some (.type "function")) ∧ (Mh.fnT K (Mh.atA K (Mh.glA K "NoRow") "__init__") "NoRow.__init__" [] [] = true) ∧ (Mh.excT K (Mh.glA K "BadValues") = true) ∧ (PySem.W.findIn K (.ref (Mh.glA K "BadValues")) "__setattr__" = some (some (.builtin "object.__setattr__"))) ∧ (PySem.W.subIn K (.ref (Mh.glA K "BadValues")) (.type "BaseException") = some true) := by
  simp only [ts_5, Bool.and_eq_true, decide_eq_true_eq] at h; exact h
theorem tk_6 {K : Mh.Fg} (h : ts_6 K = true) : (PySem.W.typeIn K (.ref (Mh.glA K "BadValues")) = some (.type "type")) ∧ ((PySem.W.keepIn K (.ref (Mh.glA K "BadValues"))) = true) ∧ (PySem.W.findIn K (.ref (Mh.glA K "BadValues")) "__getattribute__" = some (some (.builtin "BaseException.__getattribute__"))) ∧ (PySem.W.findIn K (.ref (Mh.glA K "BadValues")) "__getattr__" = some none) ∧ ((PySem.W.hasDictIn K (Mh.glA K "BadValues")) = true) ∧ (PySem.W.findIn K (.ref (Mh.glA K "BadValues")) "given" = some none) ∧ ((PySem.W.isClsIn K (Mh.glA K "BadValues")) = true) ∧ (PySem.W.subIn K (.ref (Mh.glA K "BadValues")) (.ref (Mh.glA K "BadValues")) = some true) ∧ (PySem.W.findIn K (.ref (Mh.glA K "BadValues")) "__init__" = some (some (.ref (Mh.atA K (Mh.glA K "BadValues") "__init__")))) ∧ (PySem.W.typeIn K (.ref (Mh.atA K (Mh.glA K "BadValues") "__init__")) = some (.type "function")) ∧ (Mh.fnT K (Mh.atA K (Mh.glA K "BadValues") "__init__") "BadValues.__init__" [] [] = true) ∧ (Mh.excT K (Mh.glA K "Held") = true) ∧ (PySem.W.findIn K (.ref (Mh.glA K "Held")) "__setattr__" = some (some (.builtin "object.__setattr__"))) ∧ (PySem.W.subIn K (.ref (Mh.glA K "Held")) (.type "BaseException") = some true) ∧ (PySem.W.typeIn K (.ref (Mh.glA K "Held")) = some (.type "type")) ∧ ((PySem.W.keepIn K (.ref (Mh.glA K "Held"))) = true) ∧ (PySem.W.findIn K (.ref (Mh.glA K "Held")) "__getattribute__" = some (some (.builtin "BaseException.__getattribute__"))) ∧ (PySem.W.findIn K (.ref (Mh.glA K "Held")) "__getattr__" = some none) ∧ ((PySem.W.hasDictIn K (Mh.glA K "Held")) = true) ∧ (PySem.W.findIn K (.ref (Mh.glA K "Held")) "name" = some none) := by
  simp only [ts_6, Bool.and_eq_true, decide_eq_true_eq] at h; exact h
theorem tk_7 {K : Mh.Fg} (h : ts_7 K = true) : ((PySem.W.isClsIn K (Mh.glA K "Held")) = true) ∧ (PySem.W.subIn K (.ref (Mh.glA K "Held")) (.ref (Mh.glA K "Held")) = some true) ∧ (PySem.W.findIn K (.ref (Mh.glA K "Held")) "__init__" = some (some (.ref (Mh.atA K (Mh.glA K "Held") "__init__")))) ∧ (PySem.W.typeIn K (.ref (Mh.atA K (Mh.glA K "Held") "__init__")) = some (.type "function")) ∧ (Mh.fnT K (Mh.atA K (Mh.glA K "Held") "__init__") "Held.__init__" [] [] = true) ∧ (PySem.W.nsIn K mainGlobals "_law_draw" = some (some (.ref (Mh.glA K "_law_draw")))) ∧ (Mh.fnT K (Mh.glA K "_law_draw") "_law_draw" [] [] = true) ∧ (PySem.W.nsIn K mainGlobals "_law_pick" = some (some (.ref (Mh.glA K "_law_pick")))) ∧ (Mh.fnT K (Mh.glA K "_law_pick") "_law_pick" [] [] = true) ∧ (PySem.W.nsIn K mainGlobals "_law_columns" = some (some (.ref (Mh.glA K "_law_columns")))) ∧ (Mh.fnT K (Mh.glA K "_law_columns") "_law_columns" [] [] = true) ∧ (PySem.W.nsIn K mainGlobals "is_column" = some (some (.ref (Mh.glA K "is_column")))) ∧ (Mh.fnT K (Mh.glA K "is_column") "is_column" [] [] = true) ∧ (PySem.W.findIn K (.ref (Mh.glA K "Table")) "__init__" = some (some (.ref (Mh.atA K (Mh.glA K "Table") "__init__")))) ∧ ((PySem.W.isFn K (.ref (Mh.atA K (Mh.glA K "Table") "__init__"))) = true) ∧ (Mh.fnT K (Mh.atA K (Mh.glA K "Table") "__init__") "Table.__init__" [] [] = true) ∧ (PySem.W.nsIn K mainGlobals "_law_names" = some (some (.ref (Mh.glA K "_law_names")))) ∧ (Mh.fnT K (Mh.glA K "_law_names") "_law_names" [] [] = true) ∧ (PySem.W.nsIn K mainGlobals "_law_values" = some (some (.ref (Mh.glA K "_law_values")))) ∧ (Mh.fnT K (Mh.glA K "_law_values") "_law_values" [] [] = true) := by
  simp only [ts_7, Bool.and_eq_true, decide_eq_true_eq] at h; exact h
theorem tk_8 {K : Mh.Fg} (h : ts_8 K = true) : (PySem.W.nsIn K mainGlobals "_law_rows" = some (some (.ref (Mh.glA K "_law_rows")))) ∧ (Mh.fnT K (Mh.glA K "_law_rows") "_law_rows" [] [] = true) ∧ (PySem.W.findIn K (.ref (Mh.glA K "Table")) "__contains__" = some (some (.ref (Mh.atA K (Mh.glA K "Table") "__contains__")))) ∧ ((PySem.W.isFn K (.ref (Mh.atA K (Mh.glA K "Table") "__contains__"))) = true) ∧ (Mh.fnT K (Mh.atA K (Mh.glA K "Table") "__contains__") "Table.__contains__" [] [] = true) ∧ (PySem.W.nsIn K mainGlobals "check_rows" = some (some (.ref (Mh.glA K "check_rows")))) ∧ (Mh.fnT K (Mh.glA K "check_rows") "check_rows" [] [] = true) ∧ (PySem.W.findIn K (.ref (Mh.glA K "Database")) "give" = some (some (.ref (Mh.atA K (Mh.glA K "Database") "give")))) ∧ ((PySem.W.isFn K (.ref (Mh.atA K (Mh.glA K "Database") "give"))) = true) ∧ (Mh.fnT K (Mh.atA K (Mh.glA K "Database") "give") "Database.give" [] [] = true) ∧ (PySem.W.findIn K (.ref (Mh.glA K "Database")) "__init__" = some (some (.ref (Mh.atA K (Mh.glA K "Database") "__init__")))) ∧ ((PySem.W.isFn K (.ref (Mh.atA K (Mh.glA K "Database") "__init__"))) = true) ∧ (Mh.fnT K (Mh.atA K (Mh.glA K "Database") "__init__") "Database.__init__" [] [] = true) ∧ (PySem.W.findIn K (.ref (Mh.glA K "Database")) "rows" = some (some (.ref (Mh.atA K (Mh.glA K "Database") "rows")))) ∧ ((PySem.W.isFn K (.ref (Mh.atA K (Mh.glA K "Database") "rows"))) = true) ∧ (Mh.fnT K (Mh.atA K (Mh.glA K "Database") "rows") "Database.rows" [] [] = true) ∧ (PySem.W.findIn K (.ref (Mh.glA K "Database")) "is_held" = some (some (.ref (Mh.atA K (Mh.glA K "Database") "is_held")))) ∧ ((PySem.W.isFn K (.ref (Mh.atA K (Mh.glA K "Database") "is_held"))) = true) ∧ (Mh.fnT K (Mh.atA K (Mh.glA K "Database") "is_held") "Database.is_held" [] [] = true) ∧ (PySem.W.findIn K (.ref (Mh.glA K "Database")) "put" = some (some (.ref (Mh.atA K (Mh.glA K "Database") "put")))) := by
  simp only [ts_8, Bool.and_eq_true, decide_eq_true_eq] at h; exact h
theorem tk_9 {K : Mh.Fg} (h : ts_9 K = true) : ((PySem.W.isFn K (.ref (Mh.atA K (Mh.glA K "Database") "put"))) = true) ∧ (Mh.fnT K (Mh.atA K (Mh.glA K "Database") "put") "Database.put" [] [] = true) ∧ (PySem.W.nsIn K mainGlobals "_law_put" = some (some (.ref (Mh.glA K "_law_put")))) ∧ (Mh.fnT K (Mh.glA K "_law_put") "_law_put" [] [] = true) ∧ (PySem.W.nsIn K mainGlobals "_law_ascending" = some (some (.ref (Mh.glA K "_law_ascending")))) ∧ (Mh.fnT K (Mh.glA K "_law_ascending") "_law_ascending" [] [] = true) ∧ (PySem.W.findIn K (.ref (Mh.glA K "Database")) "__len__" = some (some (.ref (Mh.atA K (Mh.glA K "Database") "__len__")))) ∧ ((PySem.W.isFn K (.ref (Mh.atA K (Mh.glA K "Database") "__len__"))) = true) ∧ (Mh.fnT K (Mh.atA K (Mh.glA K "Database") "__len__") "Database.__len__" [] [] = true) ∧ (PySem.W.findIn K (.ref (Mh.glA K "Database")) "__contains__" = some (some (.ref (Mh.atA K (Mh.glA K "Database") "__contains__")))) ∧ ((PySem.W.isFn K (.ref (Mh.atA K (Mh.glA K "Database") "__contains__"))) = true) ∧ (Mh.fnT K (Mh.atA K (Mh.glA K "Database") "__contains__") "Database.__contains__" [] [] = true) ∧ (PySem.W.findIn K (.ref (Mh.glA K "Database")) "row" = some (some (.ref (Mh.atA K (Mh.glA K "Database") "row")))) ∧ ((PySem.W.isFn K (.ref (Mh.atA K (Mh.glA K "Database") "row"))) = true) ∧ (Mh.fnT K (Mh.atA K (Mh.glA K "Database") "row") "Database.row" [] [] = true) ∧ (PySem.W.nsIn K mainGlobals "_law_same" = some (some (.ref (Mh.glA K "_law_same")))) ∧ (Mh.fnT K (Mh.glA K "_law_same") "_law_same" [] [] = true) ∧ (PySem.W.findIn K (.ref (Mh.glA K "Table")) "__eq__" = some (some (.ref (Mh.atA K (Mh.glA K "Table") "__eq__")))) ∧ ((PySem.W.isFn K (.ref (Mh.atA K (Mh.glA K "Table") "__eq__"))) = true) ∧ (Mh.fnT K (Mh.atA K (Mh.glA K "Table") "__eq__") "Table.__eq__" [] [] = true) := by
  simp only [ts_9, Bool.and_eq_true, decide_eq_true_eq] at h; exact h
theorem tk_10 {K : Mh.Fg} (h : ts_10 K = true) : (PySem.W.nsIn K mainGlobals "_law_right" = some (some (.ref (Mh.glA K "_law_right")))) ∧ (Mh.fnT K (Mh.glA K "_law_right") "_law_right" [] [] = true) ∧ (PySem.W.nsIn K mainGlobals "_law_spring" = some (some (.ref (Mh.glA K "_law_spring")))) ∧ (Mh.fnT K (Mh.glA K "_law_spring") "_law_spring" [] [] = true) ∧ (PySem.W.nsIn K mainGlobals "law" = some (some (.ref (Mh.glA K "law")))) ∧ (Mh.fnT K (Mh.glA K "law") "law" [] [] = true) := by
  simp only [ts_10, Bool.and_eq_true, decide_eq_true_eq] at h; exact h
theorem hfacts {l : PySem.W.OpenLaw} {w : World} {K : PySem.W.Frag} {h : Heap} {mg : Str → Option Value} {fa : Addr} (X : K.In h) (G : h.Ns mainGlobals mg) (hfa : mg "law" = some (.ref fa)) (hc : Mh.obsX ts hps K = (true, hvs))
    (hF : ∀ ns : List Int, ns.length ≤ 63 → ∃ st', F_law [.lst (ns.map .int)] [] = .ok (.bl true) st') :
    ∃ fd : FuncData, (∀ (s : Shared) (v : Value), BindsTo s fd ⟨[v], []⟩ [("_law_script", v)]) ∧ ∀ base : Heap, K.In base → base.Ns mainGlobals mg → FnOkG l.prog w K mg base (L2.CX l.prog w) 7 fa fd ["_law_script"] (spLaw K) := by
  have c := Mh.obs_ts hc
  simp only [ts, tg_0, tg_1, tg_2, Bool.and_eq_true] at c
  obtain ⟨⟨c0, c1, c2, c3⟩, ⟨c4, c5, c6, c7⟩, ⟨c8, c9, c10⟩⟩ := c
  obtain ⟨q0, q1, q2, q3, q4, q5, q6, q7, q8, q9, q10, q11, q12, q13, q14, q15, q16, q17, q18, q19⟩ := tk_0 c0
  obtain ⟨q20, q21, q22, q23, q24, q25, q26, q27, q28, q29, q30, q31, q32, q33, q34, q35, q36, q37, q38, q39⟩ := tk_1 c1
  obtain ⟨q40, q41, q42, q43, q44, q45, q46, q47, q48, q49, q50, q51, q52, q53, q54, q55, q56, q57, q58, q59⟩ := tk_2 c2
  obtain ⟨q60, q61, q62, q63, q64, q65, q66, q67, q68, q69, q70, q71, q72, q73, q74, q75, q76, q77, q78, q79⟩ := tk_3 c3
  obtain ⟨q80, q81, q82, q83, q84, q85, q86, q87, q88, q89, q90, q91, q92, q93, q94, q95, q96, q97, q98, q99⟩ := tk_4 c4
  obtain ⟨q100, q101, q102, q103, q104, q105, q106, q107, q108, q109, q110, q111, q112, q113, q114, q115, q116, q117, q118, q119⟩ := tk_5 c5
  obtain ⟨q120, q121, q122, q123, q124, q125, q126, q127, q128, q129, q130, q131, q132, q133, q134, q135, q136, q137, q138, q139⟩ := tk_6 c6
  obtain ⟨q140, q141, q142, q143, q144, q145, q146, q147, q148, q149, q150, q151, q152, q153, q154, q155, q156, q157, q158, q159⟩ := tk_7 c7
  obtain ⟨q160, q161, q162, q163, q164, q165, q166, q167, q168, q169, q170, q171, q172, q173, q174, q175, q176, q177, q178, q179⟩ := tk_8 c8
  obtain ⟨q180, q181, q182, q183, q184, q185, q186, q187, q188, q189, q190, q191, q192, q193, q194, q195, q196, q197, q198, q199⟩ := tk_9 c9
  obtain ⟨q200, q201, q202, q203, q204, q205⟩ := tk_10 c10
  obtain ⟨_, ZlD, d1_KEPT, d2_KEPT, d3_KEPT, d4_KEPT, d5_KEPT, d6_KEPT⟩ := Mh.tupT_ok q18
  obtain ⟨_, Zb9⟩ := Mh.strT_ok q19
  obtain ⟨_, Z4w⟩ := Mh.intT_ok q20
  obtain ⟨_, _, _, _, _, _, _, _, _, _, _, _, _, _, _, Z6a, Z6u⟩ := Mh.excT_ok q75
  obtain ⟨_, _, _, _, _, _, _, _, _, Z3s, Z3p, Z3u⟩ := Mh.fn_none (x := "__init__") (st := ZW) (Mh.obs_at hc 0) q88
  obtain ⟨_, _, _, _, _, _, _, _, _, _, _, _, _, _, _, Z8j, Z8n⟩ := Mh.excT_ok q89
  obtain ⟨_, _, _, _, _, _, _, _, _, Z3S, Z3Z, Z3W⟩ := Mh.fn_none (x := "__init__") (st := Z14) (Mh.obs_at hc 1) q102
  obtain ⟨_, _, _, _, _, _, _, _, _, _, _, _, _, _, _, ZeH, Zeh⟩ := Mh.excT_ok q103
  obtain ⟨_, _, _, _, _, _, _, _, _, Z5o, Z50, Z5n⟩ := Mh.fn_none (x := "__init__") (st := Z1q) (Mh.obs_at hc 2) q116
  obtain ⟨_, _, _, _, _, _, _, _, _, _, _, _, _, _, _, Z4Z, Z5f⟩ := Mh.excT_ok q117
  obtain ⟨_, _, _, _, _, _, _, _, _, Z34, Z39, Z3e⟩ := Mh.fn_none (x := "__init__") (st := ZP) (Mh.obs_at hc 3) q130
  obtain ⟨_, _, _, _, _, _, _, _, _, _, _, _, _, _, _, Zhk, ZhG⟩ := Mh.excT_ok q131
  obtain ⟨_, _, _, _, _, _, _, _, _, Z6w, Z67, Z6g⟩ := Mh.fn_none (x := "__init__") (st := Z1F) (Mh.obs_at hc 4) q144
  obtain ⟨_, _, _, _, _, _, _, _, _, Zm3, ZM, Zgp⟩ := Mh.fn_none (x := "_law_draw") (st := Z4s) (Mh.obs_at hc 5) q146
  obtain ⟨_, _, _, _, _, _, _, _, _, Zkz, Z1B, Zgr⟩ := Mh.fn_none (x := "_law_pick") (st := Z49) (Mh.obs_at hc 6) q148
  obtain ⟨_, _, _, _, _, _, _, _, _, Z9y, Z2r, Z5R⟩ := Mh.fn_none (x := "_law_columns") (st := Z1S) (Mh.obs_at hc 7) q150
  obtain ⟨_, _, _, _, _, _, _, _, _, Z4v, Z1d, Z2V⟩ := Mh.fn_none (x := "is_column") (st := Z10) (Mh.obs_at hc 8) q152
  obtain ⟨_, _, _, _, _, _, _, _, _, Z3V, Z41, Z3J⟩ := Mh.fn_none (x := "__init__") (st := Zz) (Mh.obs_at hc 9) q155
  obtain ⟨_, _, _, _, _, _, _, _, _, ZhM, Z3T, Zbw⟩ := Mh.fn_none (x := "_law_names") (st := Z3n) (Mh.obs_at hc 10) q157
  obtain ⟨_, _, _, _, _, _, _, _, _, Zfe, Z1E, Z7C⟩ := Mh.fn_none (x := "_law_values") (st := Z21) (Mh.obs_at hc 11) q159
  obtain ⟨_, _, _, _, _, _, _, _, _, ZlL, Z5b, ZfI⟩ := Mh.fn_none (x := "_law_rows") (st := Z3A) (Mh.obs_at hc 12) q161
  obtain ⟨_, _, _, _, _, _, _, _, _, Z2o, Z2h, Z1C⟩ := Mh.fn_none (x := "__contains__") (st := Zv) (Mh.obs_at hc 13) q164
  obtain ⟨_, _, _, _, _, _, _, _, _, Z3I, Z12, Z2B⟩ := Mh.fn_none (x := "check_rows") (st := ZS) (Mh.obs_at hc 14) q166
  obtain ⟨_, _, _, _, _, _, _, _, _, Z2G, Z2D, Z1I⟩ := Mh.fn_none (x := "give") (st := ZB) (Mh.obs_at hc 15) q169
  obtain ⟨_, _, _, _, _, _, _, _, _, Z2H, Z2E, Z2J⟩ := Mh.fn_none (x := "__init__") (st := ZC) (Mh.obs_at hc 16) q172
  obtain ⟨_, _, _, _, _, _, _, _, _, Z2L, Z2K, Z1J⟩ := Mh.fn_none (x := "rows") (st := Zu) (Mh.obs_at hc 17) q175
  obtain ⟨_, _, _, _, _, _, _, _, _, Z1V, Z1Z, Z1j⟩ := Mh.fn_none (x := "is_held") (st := Zr) (Mh.obs_at hc 18) q178
  obtain ⟨_, _, _, _, _, _, _, _, _, Z2X, Z3c, Z1X⟩ := Mh.fn_none (x := "put") (st := ZF) (Mh.obs_at hc 19) q181
  obtain ⟨_, _, _, _, _, _, _, _, _, l_put, c_put, k_put⟩ := Mh.fn_none (x := "_law_put") (st := s_put) (Mh.obs_at hc 20) q183
  obtain ⟨_, _, _, _, _, _, _, _, _, Z6p, Z1D, Z42⟩ := Mh.fn_none (x := "_law_ascending") (st := Z1o) (Mh.obs_at hc 21) q185
  obtain ⟨_, _, _, _, _, _, _, _, _, Z3b, Z36, Z1W⟩ := Mh.fn_none (x := "__len__") (st := ZG) (Mh.obs_at hc 22) q188
  obtain ⟨_, _, _, _, _, _, _, _, _, Z1R, Z1O, Z1c⟩ := Mh.fn_none (x := "__contains__") (st := Zm) (Mh.obs_at hc 23) q191
  obtain ⟨_, _, _, _, _, _, _, _, _, Z2Z, Z37, Z23⟩ := Mh.fn_none (x := "row") (st := ZH) (Mh.obs_at hc 24) q194
  obtain ⟨_, _, _, _, _, _, _, _, _, Zka, Z5u, ZfR⟩ := Mh.fn_none (x := "_law_same") (st := Z4t) (Mh.obs_at hc 25) q196
  obtain ⟨_, _, _, _, _, _, _, _, _, Z5a, Z5d, Z3t⟩ := Mh.fn_none (x := "__eq__") (st := Z18) (Mh.obs_at hc 26) q199
  obtain ⟨_, _, _, _, _, _, _, _, _, Zhw, Z40, ZbC⟩ := Mh.fn_none (x := "_law_right") (st := Z3g) (Mh.obs_at hc 27) q201
  obtain ⟨_, _, _, _, _, _, _, _, _, ZeU, Z3d, Z7A⟩ := Mh.fn_none (x := "_law_spring") (st := Z2m) (Mh.obs_at hc 28) q203
  obtain ⟨_, _, _, _, _, _, _, _, _, l_law, c_law, k_law⟩ := Mh.fn_none (x := "law") (st := s_law) (Mh.obs_at hc 29) q205
  exact ZuS X G hfa q0 q1 q2 q3 q4 q5 q6 q7 q8 q9 q10 q11 q12 q13 q14 q15 q16 q17 ZlD ⟨d1_KEPT, d2_KEPT, d3_KEPT, d4_KEPT, d5_KEPT, Mi.dcs_abs d6_KEPT⟩ Zb9 Z4w q21 q22 q23 q24 q25 q26 q27 q28 q29 q30 q31 q32 q33 q34 q35 q36 q37 q38 q39 q40 q41 q42 q43 q44 q45 q46 q47 q48 q49 q50 q51 q52 q53 q54 q55 q56 q57 q58 q59 q60 q61 q62 q63 q64 q65 q66 q67 q68 q69 q70 q71 q72 q73 q74 Z6a Z6u q76 q77 q78 q79 q80 q81 q82 q83 q84 q85 q86 q87 Z3s Z3p Z3u Z8j Z8n q90 q91 q92 q93 q94 q95 q96 q97 q98 q99 q100 q101 Z3S Z3Z Z3W ZeH Zeh q104 q105 q106 q107 q108 q109 q110 q111 q112 q113 q114 q115 Z5o Z50 Z5n Z4Z Z5f q118 q119 q120 q121 q122 q123 q124 q125 q126 q127 q128 q129 Z34 Z39 Z3e Zhk ZhG q132 q133 q134 q135 q136 q137 q138 q139 q140 q141 q142 q143 Z6w Z67 Z6g q145 Zm3 ZM Zgp q147 Zkz Z1B Zgr q149 Z9y Z2r Z5R q151 Z4v Z1d Z2V q153 q154 Z3V Z41 Z3J q156 ZhM Z3T Zbw q158 Zfe Z1E Z7C q160 ZlL Z5b ZfI q162 q163 Z2o Z2h Z1C q165 Z3I Z12 Z2B q167 q168 Z2G Z2D Z1I q170 q171 Z2H Z2E Z2J q173 q174 Z2L Z2K Z1J q176 q177 Z1V Z1Z Z1j q179 q180 Z2X Z3c Z1X q182 l_put c_put k_put q184 Z6p Z1D Z42 q186 q187 Z3b Z36 Z1W q189 q190 Z1R Z1O Z1c q192 q193 Z2Z Z37 Z23 q195 Zka Z5u ZfR q197 q198 Z5a Z5d Z3t q200 Zhw Z40 ZbC q202 ZeU Z3d Z7A q204 l_law c_law k_law hF
end K22
open PySem PySem.W PySem.Calls PyProof.Rows
theorem K22.head (hF : ∀ ns : List Int, ns.length ≤ 63 → ∃ st', K22.F_law [.lst (ns.map .int)] [] = .ok (.bl true) st') : PySem.Challenge.rw_heldcursors_k22_rows_and_puts.Holds := by
  w_on; o_law
  refine HandSHeadRun.head_any (r := OpenLaw.row PySem.Challenge.rw_heldcursors_k22_rows_and_puts) (q := K22.hq) (H := K22.hk) (ob := K22.hob) (M := 40000) (loose := K22.hnames) (d := HandSHeadRun.topDef (OpenLaw.row PySem.Challenge.rw_heldcursors_k22_rows_and_puts).prog 29) (kwd := []) K22.hob_eq
    (by kernel_rfl) (fun s => by kernel_rfl) K22.hrun (by kernel_rfl) (by kernel_rfl) (by kernel_rfl) (by rfl) (by first | assumption | decide +kernel) (by decide +kernel) ⟨rfl, rfl, rfl, rfl, rfl, by decide +kernel⟩ ?hw ?hc
  case hw => w_witness2
  case hc =>
    refine Mh.walk_ofXG (l := PySem.Challenge.rw_heldcursors_k22_rows_and_puts) (n := 63) (k := 7) (x := "_law_script") (CX := fun w => L2.CX PySem.Challenge.rw_heldcursors_k22_rows_and_puts.prog w) rfl (by decide) (by kernel_rfl) ⟨rfl, by decide, by decide⟩ ?F (fun _ _ _ _ _ h => by obtain ⟨_, _, _, _, _, _, _, _, _, _, _, _, z⟩ := h; exact z.elim)
    intro w mg fa h Y G hmg0
    obtain ⟨K, KX, c⟩ := Y
    have hmg : mg ("law" : PySem.Str) = some (.ref fa) := by
      have e : (HandSHeadRun.topDef (OpenLaw.row PySem.Challenge.rw_heldcursors_k22_rows_and_puts).prog 29).name = ("law" : PySem.Str) := by kernel_rfl
      rw [← e]
      exact hmg0
    obtain ⟨fd, hb, hF2⟩ := K22.hfacts (l := PySem.Challenge.rw_heldcursors_k22_rows_and_puts) (w := w) KX G hmg c hF
    exact ⟨K, fd, Mi.spLaw K, KX, hb, fun H a ns hl _ hS => ⟨a, ns, rfl, hS, hl, fun _ => rfl⟩, hF2⟩
theorem PySem.Challenge.cw_heldcursors_k22_rows_and_puts_holds : PySem.Challenge.rw_heldcursors_k22_rows_and_puts.Holds := by
  exact K22.head K22.law_true
