import PyProof.Rows.All
import Wide.All
import OpenK.AllK
import Wide.FinOn
import KE.KStateDown
import HandS.ForMost
import HandS.IsInst
import HandS.Property
import HandS.Defaults
import HandS.HeadEnd
import HandS.Head2
import HandS.HeadHook2
import HandS.Evl
import HandS.Deep
import HandS.TupAny
import HandS.Walk
import HandS.Zip
import HandS.Conv
import HandS.NoneIn
import HandS.Wide
import HandS.MakeKwOnly
import HandS.RaiseMore
import HandS.OwnEq
import HandS.TupSets
import HandS.Style
import HandS.Lambda
import HandS.Nested
import HandS.EndTab
import HandS.ExcInit
import HandS.ExcIs
import HandS.ExcField
import HandS.TryOnly
import KE.KExcIs
import KE.KExcSuper
import KE.KDictKeyed
import KE.KDictZip
import KE.GoesZip
import KE.GoesMore
import KE.SortKeyHeap
import HandS.SortKw
import HandS.HeadHook4
import HandS.HeadWalk
import PyProof.ReprRoads
import HandS.EndBits
import HandS.Strs
import HandS.SetFor
import HandS.ReCall
import HandS.SortInts
import KE.SortData
import KE.GoesEnum
import HandS.Small
import HandS.Star
import KE.DataMinMax
import PySem.Challenge.RW_whosewell_k50_whole_crossings_by_all_pie
set_option Elab.async false
set_option linter.all false
set_option maxRecDepth 100000
set_option maxHeartbeats 4000000
namespace Lh
open PySem PySem.Spec PyProof.Rows L2
abbrev Fg := PySem.W.Frag
/-- a def by the way to its address -/
structure DP where
  ad : Fg → Addr
  name : Str
  qual : Str
  params : Arguments
  body : List Stmt
  scope : Scope
  sp : Bool := false
def DP.okB (K : Fg) (d : DP) : Bool :=
  PySem.W.keepIn K (.ref (d.ad K)) && (match K.lookup (d.ad K) with
    | some ⟨_, _, .func fd, _⟩ => PySem.W.codeIn K fd.code d.qual && He.dflB K fd.defaults []
    | _ => false)
def seen (K : Fg) (a : Addr) : He.FnW :=
  match K.lookup a with
  | some ⟨_, _, .func fd, _⟩ => some (fd.name, fd.qualname, fd.params, fd.body, fd.scope, fd.globals, fd.closure, fd.builtins)
  | _ => none
/-- a def whose closure is the cell of its class alone -/
def seenS (K : Fg) (a : Addr) : He.FnW :=
  match K.lookup a with
  | some ⟨_, _, .func fd, _⟩ => (match fd.closure with
    | [(n, _)] => if n = "__class__" then some (fd.name, fd.qualname, fd.params, fd.body, fd.scope, fd.globals, [], fd.builtins) else none
    | _ => none)
  | _ => none
def DP.see (K : Fg) (d : DP) : He.FnW := if d.sp then seenS K (d.ad K) else seen K (d.ad K)
def DP.due (d : DP) : He.FnW := some (d.name, d.qual, d.params, .stmts d.body, d.scope, mainGlobals, [], builtinsNs)
theorem DP.fun_ {K : Fg} {d : DP} (hsp : d.sp = false) (e : d.see K = d.due) (c : d.okB K = true) :
    ∃ fd, FunD K d.name d.qual d.params d.body d.scope [] [] (d.ad K) fd := by
  have c0 := (Bool.and_eq_true_iff.mp c).1
  have c1 := (Bool.and_eq_true_iff.mp c).2
  have e : seen K (d.ad K) = d.due := by
    unfold DP.see at e
    rw [hsp] at e
    exact e
  unfold seen at e
  generalize hq : K.lookup (d.ad K) = q at c1 e
  rcases q with _ | ⟨oc, od, dt, osl⟩
  · cases c1
  · cases dt <;> try (cases c1; done)
    rename_i fd
    have c2 := (Bool.and_eq_true_iff.mp c1).1
    have c3 := (Bool.and_eq_true_iff.mp c1).2
    obtain ⟨n1, n2, n3, n4, n5, n6, n7, n8, n9, n10, n11, n12, n13, n14, n15⟩ := fd
    unfold DP.due at e
    simp only [Option.some.injEq, Prod.mk.injEq] at e
    obtain ⟨g1, g2, g3, g4, g5, g6, g7, g8⟩ := e
    subst g1 g2 g3 g4 g5 g6 g7 g8
    exact ⟨_, ⟨oc, od, n8, n9, n10, n11, n12, n13, n14, osl, rfl, hq, c2, He.dflB_ok c3, .inl rfl⟩, c0⟩
/-- what the hook sees -/
abbrev Sees : Type := Bool × List He.FnW
def obsP (ex : Fg → Bool) (fn : List DP) (K : Fg) : Sees := (ex K && fn.all (fun d => d.okB K), fn.map (fun d => d.see K))
def dueP (fn : List DP) : Sees := (true, fn.map DP.due)
def obsPG (n : Nat) (ex : Fg → Bool) (fn : List DP) (g : Addr → Option Obj) : Sees := obsP ex fn (He.frG g (He.asD g n))
def hookP (n : Nat) (ex : Fg → Bool) (fn : List DP) : PySem.W.Hook :=
  { α := Sees
    obs := fun s => obsPG n ex fn s.heap.get?
    val := fun _ => dueP fn
    says := fun _ h => ∃ K : Fg, K.In h ∧ obsP ex fn K = dueP fn
    of := fun _ s e => ⟨He.frG s.heap.get? (He.asD s.heap.get? n), He.frG_in, e⟩
    keeps := fun _ _ _ z k => z.elim fun K q => ⟨K, PySem.W.Frag.In.keeps q.1 k, q.2⟩ }
theorem obsPG_eq {n : Nat} {ex : Fg → Bool} {fn : List DP} {g : Addr → Option Obj} {s : Shared} (h : ∀ a, g a = s.heap.get? a) :
    obsPG n ex fn g = (hookP n ex fn).obs s := by
  obtain rfl : g = s.heap.get? := funext h
  rfl
section
variable {ex : Fg → Bool} {fn : List DP} {K : Fg}
theorem more_of (c : obsP ex fn K = dueP fn) : ex K = true :=
  (Bool.and_eq_true_iff.mp (congrArg Prod.fst c)).1
theorem see_of (c : obsP ex fn K = dueP fn) (i : Nat) {d : DP} (h : fn[i]? = some d := by rfl) : d.see K = d.due ∧ d.okB K = true := by
  have c1 := (Bool.and_eq_true_iff.mp (congrArg Prod.fst c)).2
  have c2 : fn.map (fun d => d.see K) = fn.map DP.due := congrArg Prod.snd c
  have c3 : (fn.map (fun d => d.see K))[i]? = (fn.map DP.due)[i]? := by rw [c2]
  rw [List.getElem?_map, List.getElem?_map, h] at c3
  exact ⟨Option.some.inj c3, List.all_eq_true.mp c1 d (List.mem_of_getElem? h)⟩
theorem def_of (c : obsP ex fn K = dueP fn) (i : Nat) {d : DP} (h : fn[i]? = some d := by rfl) (hsp : d.sp = false := by rfl) :
    ∃ fd, FunD K d.name d.qual d.params d.body d.scope [] [] (d.ad K) fd :=
  DP.fun_ hsp (see_of c i h).1 (see_of c i h).2
end
/-! ### properties -/
def prG (K : Fg) (C f : Str) : Addr := match PySem.W.recIn K (He.ma K (He.ga K C) f) "property" with
  | some (.ref g :: _) => g
  | _ => 0
def propB (K : Fg) (C f : Str) : Bool :=
  He.eqO (PySem.W.findIn K (.ref (He.ga K C)) f) (some (some (.ref (He.ma K (He.ga K C) f)))) &&
  (He.eqO (PySem.W.specialIn K (.ref (He.ma K (He.ga K C) f)) "__get__") (some (some (.builtin "property.__get__"))) &&
  (decide (PySem.W.takesIn K (.ref (He.ma K (He.ga K C) f)) = some true) &&
  (match PySem.W.recIn K (He.ma K (He.ga K C) f) "property" with
   | some (.ref _ :: _) => true
   | _ => false)))
theorem prop_of {K : Fg} {C f : Str} (h : propB K C f = true) : PropOf K (He.ga K C) f (He.ma K (He.ga K C) f) (prG K C f) := by
  unfold propB at h
  simp only [Bool.and_eq_true] at h
  obtain ⟨a, b, c, d⟩ := h
  refine ⟨He.eqO_ok a, He.eqO_ok b, of_decide_eq_true c, ?_⟩
  unfold prG
  generalize hq : PySem.W.recIn K (He.ma K (He.ga K C) f) "property" = q at d
  rcases q with _ | l
  · cases d
  · rcases l with _ | ⟨v, r⟩
    · cases d
    · cases v <;> try (cases d; done)
      exact ⟨r, rfl⟩
end Lh

set_option Elab.async false
set_option linter.all false
set_option maxRecDepth 100000
set_option maxHeartbeats 4000000
namespace Lw
open PySem PySem.Spec PyProof.Rows L2
abbrev Fg := PySem.W.Frag
/-! ### data -/
inductive D where
  | non | bl (b : Bool) | int (i : Int) | str (s : Str)
  | tup (xs : List D) | ntp (xs : List D) | ptp (xs : List D) | lst (xs : List D) | frl (xs : List D) | dct (kvs : List (Key × D)) | obj (C : Addr) (fs : List (Str × D)) | ty (n : String) | cls (C : Addr) | exc (C : Addr) (x : D)
/-- at a: an exception of the class at C that was caught, its dict at dx -/
def xoH (a C dx : Addr) : HO := .ext fun h => ∃ (oe : Obj) (vs : Array Value), h.get? a = some oe ∧ Zc (.ref C) (some dx) oe ∧ oe.data = .fields vs
mutual
inductive R (K : Fg) (H : Hp) : V → D → Prop
  | non : R K H .non .non
  | bl (b : Bool) : R K H (.bl b) (.bl b)
  | int (i : Int) : R K H (.int i) (.int i)
  | str (s : Str) : R K H (.str s) (.str s)
  | ty (n : String) : R K H (.ty n) (.ty n)
  | cls (C : Addr) : R K H (.ref C) (.cls C)
  | tup {a : Addr} {xs : List V} {ds : List D} : SqT K H a xs → RA K H xs ds → R K H (.ref a) (.tup ds)
  | ntp {a : Addr} {o : Obj} {xs : List V} {ds : List D} : H a = some (.frz o (.tup xs)) → o.cls = .type "tuple" → o.dict = none → RA K H xs ds → R K H (.ref a) (.ntp ds)
  | ptp {a : Addr} {xs : List V} {ds : List D} : H a = some (.tup xs) → RA K H xs ds → R K H (.ref a) (.ptp ds)
  | lst {a : Addr} {xs : List V} {ds : List D} : H a = some (.lst xs) → RA K H xs ds → R K H (.ref a) (.lst ds)
  | frl {a : Addr} {xs : List V} {ds : List D} : SqL K H a xs → RA K H xs ds → R K H (.ref a) (.frl ds)
  | dct {a : Addr} {kvs : List (Key × V)} {ds : List (Key × D)} : H a = some (.dK kvs) → RK K H kvs ds → R K H (.ref a) (.dct ds)
  | obj {a C dx : Addr} {fs : List (Str × V)} {ds : List (Str × D)} : H a = some (.ins C dx fs) → RF K H fs ds → R K H (.ref a) (.obj C ds)
  | exc {a C dx : Addr} {v : V} {d : D} : H a = some (xoH a C dx) → H dx = some (.xd [("value", v)]) → R K H v d → R K H (.ref a) (.exc C d)
inductive RA (K : Fg) (H : Hp) : List V → List D → Prop
  | nil : RA K H [] []
  | cons {v : V} {d : D} {vs : List V} {ds : List D} : R K H v d → RA K H vs ds → RA K H (v :: vs) (d :: ds)
inductive RK (K : Fg) (H : Hp) : List (Key × V) → List (Key × D) → Prop
  | nil : RK K H [] []
  | cons {k : Key} {v : V} {d : D} {vs : List (Key × V)} {ds : List (Key × D)} : R K H v d → RK K H vs ds → RK K H ((k, v) :: vs) ((k, d) :: ds)
inductive RF (K : Fg) (H : Hp) : List (Str × V) → List (Str × D) → Prop
  | nil : RF K H [] []
  | cons {k : Str} {v : V} {d : D} {vs : List (Str × V)} {ds : List (Str × D)} : R K H v d → RF K H vs ds → RF K H ((k, v) :: vs) ((k, d) :: ds)
end
theorem same_rd {H H' : Hp} {a : Addr} {u : HO} (e : Same H H') (h : Rd H a u) : Rd H' a u := by
  rcases h with h | ⟨o, h⟩
  · exact .inl (e _ _ h)
  · exact .inr ⟨o, e _ _ h⟩
theorem same_t {K : Fg} {H H' : Hp} {a : Addr} {xs : List V} (e : Same H H') (h : SqT K H a xs) : SqT K H' a xs := by
  rcases h with h | h
  · exact .inl (same_rd e h)
  · exact .inr h
theorem same_l {K : Fg} {H H' : Hp} {a : Addr} {xs : List V} (e : Same H H') (h : SqL K H a xs) : SqL K H' a xs := e.seq h
mutual
theorem R.mono {K : Fg} {H H' : Hp} (e : Same H H') : ∀ {v : V} {d : D}, R K H v d → R K H' v d
  | _, _, .non => .non
  | _, _, .bl b => .bl b
  | _, _, .int i => .int i
  | _, _, .str s => .str s
  | _, _, .ty s => .ty s
  | _, _, .cls s => .cls s
  | _, _, .tup h q => .tup (same_t e h) (RA.mono e q)
  | _, _, .ntp h h2 h3 q => .ntp (e _ _ h) h2 h3 (RA.mono e q)
  | _, _, .ptp h q => .ptp (e _ _ h) (RA.mono e q)
  | _, _, .lst h q => .lst (e _ _ h) (RA.mono e q)
  | _, _, .frl h q => .frl (same_l e h) (RA.mono e q)
  | _, _, .dct h q => .dct (e _ _ h) (RK.mono e q)
  | _, _, .obj h q => .obj (e _ _ h) (RF.mono e q)
  | _, _, .exc h h2 q => .exc (e _ _ h) (e _ _ h2) (R.mono e q)
theorem RA.mono {K : Fg} {H H' : Hp} (e : Same H H') : ∀ {v : List V} {d : List D}, RA K H v d → RA K H' v d
  | _, _, .nil => .nil
  | _, _, .cons h q => .cons (R.mono e h) (RA.mono e q)
theorem RK.mono {K : Fg} {H H' : Hp} (e : Same H H') : ∀ {v : List (Key × V)} {d : List (Key × D)}, RK K H v d → RK K H' v d
  | _, _, .nil => .nil
  | _, _, .cons h q => .cons (R.mono e h) (RK.mono e q)
theorem RF.mono {K : Fg} {H H' : Hp} (e : Same H H') : ∀ {v : List (Str × V)} {d : List (Str × D)}, RF K H v d → RF K H' v d
  | _, _, .nil => .nil
  | _, _, .cons h q => .cons (R.mono e h) (RF.mono e q)
end
theorem RA.length {K : Fg} {H : Hp} : ∀ {vs : List V} {ds : List D}, RA K H vs ds → vs.length = ds.length
  | _, _, .nil => rfl
  | _, _, .cons _ q => by simp [RA.length q]
theorem RA.get {K : Fg} {H : Hp} : ∀ {vs : List V} {ds : List D}, RA K H vs ds → ∀ {i : Nat} {d : D}, ds[i]? = some d → ∃ v, vs[i]? = some v ∧ R K H v d
  | _, _, .nil, i, d, e => by simp at e
  | _, _, .cons (v := v) h q, 0, d, e => by
    simp at e; subst e; exact ⟨v, rfl, h⟩
  | _, _, .cons h q, i + 1, d, e => by
    obtain ⟨v, e1, e2⟩ := RA.get q (i := i) (d := d) (by simpa using e)
    exact ⟨v, by simpa using e1, e2⟩
theorem RA.getV {K : Fg} {H : Hp} : ∀ {vs : List V} {ds : List D}, RA K H vs ds → ∀ {i : Nat} {v : V}, vs[i]? = some v → ∃ d, ds[i]? = some d ∧ R K H v d
  | _, _, .nil, i, d, e => by simp at e
  | _, _, .cons (d := d) h q, 0, _, e => by
    simp at e; subst e; exact ⟨d, rfl, h⟩
  | _, _, .cons h q, i + 1, d, e => by
    obtain ⟨v, e1, e2⟩ := RA.getV q (i := i) (v := d) (by simpa using e)
    exact ⟨v, by simpa using e1, e2⟩
theorem RA.append {K : Fg} {H : Hp} : ∀ {vs ws : List V} {ds es : List D}, RA K H vs ds → RA K H ws es → RA K H (vs ++ ws) (ds ++ es)
  | _, _, _, _, .nil, q => q
  | _, _, _, _, .cons h p, q => .cons h (RA.append p q)
theorem RA.drop {K : Fg} {H : Hp} : ∀ (n : Nat) {vs : List V} {ds : List D}, RA K H vs ds → RA K H (vs.drop n) (ds.drop n)
  | 0, _, _, q => q
  | _ + 1, _, _, .nil => .nil
  | n + 1, _, _, .cons _ q => RA.drop n q
theorem RA.take {K : Fg} {H : Hp} : ∀ (n : Nat) {vs : List V} {ds : List D}, RA K H vs ds → RA K H (vs.take n) (ds.take n)
  | 0, _, _, _ => .nil
  | _ + 1, _, _, .nil => .nil
  | n + 1, _, _, .cons h q => .cons h (RA.take n q)
theorem RA.eraseIdx {K : Fg} {H : Hp} : ∀ (n : Nat) {vs : List V} {ds : List D}, RA K H vs ds → RA K H (vs.eraseIdx n) (ds.eraseIdx n)
  | 0, _, _, .nil => .nil
  | 0, _, _, .cons _ q => q
  | _ + 1, _, _, .nil => .nil
  | n + 1, _, _, .cons h q => .cons h (RA.eraseIdx n q)
theorem RA.reverse {K : Fg} {H : Hp} : ∀ {vs : List V} {ds : List D}, RA K H vs ds → RA K H vs.reverse ds.reverse
  | _, _, .nil => .nil
  | _, _, .cons h q => by
    rw [List.reverse_cons, List.reverse_cons]
    exact RA.append (RA.reverse q) (.cons h .nil)
theorem RA.dropLast {K : Fg} {H : Hp} {vs : List V} {ds : List D} (q : RA K H vs ds) : RA K H vs.dropLast ds.dropLast := by
  rw [List.dropLast_eq_take, List.dropLast_eq_take, q.length]
  exact RA.take _ q
theorem RA.set {K : Fg} {H : Hp} {v : V} {d : D} (h : R K H v d) : ∀ (n : Nat) {vs : List V} {ds : List D}, RA K H vs ds → RA K H (vs.set n v) (ds.set n d)
  | _, _, _, .nil => .nil
  | 0, _, _, .cons _ q => .cons h q
  | n + 1, _, _, .cons p q => .cons p (RA.set h n q)
/-- the values of ints, of texts -/
theorem RA.ints {K : Fg} {H : Hp} : ∀ {ns : List Int} {vs : List V}, RA K H vs (ns.map D.int) → vs = ns.map V.int
  | [], _, .nil => rfl
  | _ :: _, _, .cons (.int i) q => by rw [List.map_cons, RA.ints q]
theorem RA.strs {K : Fg} {H : Hp} : ∀ {ns : List Str} {vs : List V}, RA K H vs (ns.map D.str) → vs = ns.map V.str
  | [], _, .nil => rfl
  | _ :: _, _, .cons (.str i) q => by rw [List.map_cons, RA.strs q]
theorem RA.bls {K : Fg} {H : Hp} : ∀ {ns : List Bool} {vs : List V}, RA K H vs (ns.map D.bl) → vs = ns.map V.bl
  | [], _, .nil => rfl
  | _ :: _, _, .cons (.bl i) q => by rw [List.map_cons, RA.bls q]
/-! ### the tables of code objects -/
class Tabl where
  T : List NdefX.NTab
section
variable [Tabl]
/-- at b stands a table -/
def Tb (b : Addr) : Prop := ∃ p ∈ Tabl.T, p.1 = b
/-- the tables stand as they must, and B tells nothing of them -/
def TbOk (B H : Hp) : Prop := NdefX.TabsN Tabl.T H ∧ ∀ b, Tb b → B b = none
theorem TbOk.not {B H : Hp} (h : TbOk B H) {b : Addr} {o : HO} (e : H b = some o) (n : ∀ ps, o ≠ .tbl ps) : ¬ Tb b := fun ⟨p, hp, q⟩ => by
  obtain ⟨ps, e2, _⟩ := h.1 p hp
  rw [q, e] at e2
  exact n ps (Option.some.inj e2)
theorem TbOk.new {B H : Hp} (h : TbOk B H) {b : Addr} (e : H b = none) : ¬ Tb b := fun ⟨p, hp, q⟩ => by
  obtain ⟨ps, e2, _⟩ := h.1 p hp
  rw [q, e] at e2
  cases e2
/-! ### growth -/
abbrev Non : Addr → Prop := fun b => Tb b
abbrev One (a : Addr) : Addr → Prop := fun b => b = a ∨ Tb b
/-- new, or a tuple -/
def Nw (u : Option HO) : Prop := u = none ∨ ∃ ys, u = some (.tup ys)
/-- the heap H became H', all but what stands at P as it was; B' tells what B told, and new things -/
structure Gr (P : Addr → Prop) (B H B' H' : Hp) : Prop where
  hh : ∀ b o, ¬ P b → H b = some o → H' b = some o
  bb : Same B B'
  le : Same B' H'
  fr : ∀ b o, B' b = some o → B b = some o ∨ Nw (H b) ∨ P b
  pt : ∀ b, P b → H b ≠ none → H' b ≠ none
  tp : ∀ b, Tb b → P b
  kp : TbOk B H → TbOk B' H'
theorem Gr.refl {P : Addr → Prop} {B H : Hp} (h : Same B H) (hp : ∀ b, Tb b → P b := by first | exact fun _ z => z | exact fun _ z => Or.inr z | exact fun _ z => Or.inl z | assumption) : Gr P B H B H :=
  ⟨fun _ _ _ e => e, Same.refl _, h, fun _ _ e => .inl e, fun _ _ e => e, hp, fun z => z⟩
theorem Gr.trans {P : Addr → Prop} {B H B1 H1 B2 H2 : Hp} (a : Gr P B H B1 H1) (b : Gr P B1 H1 B2 H2) : Gr P B H B2 H2 where
  hh := fun c o n e => b.hh c o n (a.hh c o n e)
  bb := a.bb.trans b.bb
  le := b.le
  fr := fun c o e => by
    rcases b.fr c o e with e | e | e
    · exact a.fr c o e
    · right
      cases q : H c with
      | none => exact .inl (.inl rfl)
      | some u =>
        by_cases n : P c
        · exact .inr n
        · rw [a.hh c u n q] at e
          rcases e with e | ⟨ys, e⟩
          · cases e
          · exact .inl (.inr ⟨ys, e⟩)
    · exact .inr (.inr e)
  pt := fun c n e => b.pt c n (a.pt c n e)
  tp := a.tp
  kp := fun z => b.kp (a.kp z)
theorem Gr.weak {P P' : Addr → Prop} {B H B' H' : Hp} (a : Gr P' B H B' H') (h : ∀ b, P' b → P b) : Gr P B H B' H' where
  hh := fun c o n e => a.hh c o (fun z => n (h c z)) e
  bb := a.bb
  le := a.le
  fr := fun c o e => by
    rcases a.fr c o e with e | e | e
    · exact .inl e
    · exact .inr (.inl e)
    · exact .inr (.inr (h c e))
  pt := fun c n e => by
    by_cases z : P' c
    · exact a.pt c z e
    · cases q : H c with
      | none => exact absurd q e
      | some u =>
        rw [a.hh c u z q]
        exact fun z => nomatch z
  tp := fun b z => h b (a.tp b z)
  kp := a.kp
theorem Gr.weak0 {P : Addr → Prop} {B H B' H' : Hp} (a : Gr Non B H B' H') (hp : ∀ b, Tb b → P b) : Gr P B H B' H' := a.weak hp
theorem Gr.same {B H B' H' : Hp} (a : Gr Non B H B' H') {b : Addr} {o : HO} (n : ¬ Tb b) (e : H b = some o) : H' b = some o := a.hh b o n e
theorem same_none {H H' : Hp} {p : Addr} (e : Same H H') (h : H' p = none) : H p = none := e.free h
theorem same_new {B : Hp} {p : Addr} {o : HO} (h : B p = none) : Same B (upd B p o) := fun c u e => by
  rw [upd_ne (ne_of_none e h)]; exact e
/-- no table, no code object -/
def Pln : HO → Prop
  | .tbl _ => False
  | .ext _ => False
  | .tup _ => False
  | _ => True
theorem pln_tbl {o : HO} (h : Pln o) (ps : Array Value) : o ≠ .tbl ps := fun e => by rw [e] at h; exact h
theorem TbOk.upd {B H : Hp} {p : Addr} {o : HO} (h : TbOk B H) (n : ∀ u, H p = some u → Pln u) : TbOk B (upd H p o) := by
  refine ⟨fun q hq => ?_, h.2⟩
  obtain ⟨ps, h1, h2, h3⟩ := h.1 q hq
  refine ⟨ps, by rw [upd_ne (fun z => by rw [z] at h1; exact n _ h1)]; exact h1, h2, fun pos cv hc => ?_⟩
  obtain ⟨c, e1, e2⟩ := h3 pos cv hc
  refine ⟨c, e1, ?_⟩
  rw [upd_ne (fun z => by rw [z] at e2; exact n _ e2)]
  exact e2
theorem Gr.new {P : Addr → Prop} {B H B' H' : Hp} {p : Addr} {o : HO} (a : Gr P B H B' H') (h : H' p = none) (hH : H p = none) : Gr P B H (upd B' p o) (upd H' p o) where
  hh := fun c u n e => by
    rw [upd_ne (ne_of_none e hH)]; exact a.hh c u n e
  bb := fun c u e => by
    have q := a.bb c u e
    rw [upd_ne (ne_of_none (a.le _ _ q) h)]; exact q
  le := fun c u e => by
    by_cases z : c = p
    · subst z; rw [upd_same] at e ⊢; exact e
    · rw [upd_ne z] at e ⊢; exact a.le c u e
  fr := fun c u e => by
    by_cases z : c = p
    · subst z; exact .inr (.inl (.inl hH))
    · rw [upd_ne z] at e; exact a.fr c u e
  pt := fun c n e => by
    have q := a.pt c n e
    by_cases z : c = p
    · subst z; rw [upd_same]; exact fun y => nomatch y
    · rw [upd_ne z]; exact q
  tp := a.tp
  kp := fun z => by
    have y := a.kp z
    refine ⟨y.1.ext fun b u e => by rw [upd_ne (ne_of_none e h)]; exact e, fun b t => ?_⟩
    rw [upd_ne (fun q => by rw [q] at t; exact y.new h t)]
    exact y.2 b t
/-- what B does not tell may change: at a place of P, or a new one; no table, no code object -/
theorem Gr.mut {P : Addr → Prop} {B H B' H' : Hp} {p : Addr} {o : HO} (a : Gr P B H B' H') (hb : B' p = none) (hp : P p ∨ H p = none) (ht : ∀ u, H' p = some u → Pln u) : Gr P B H B' (upd H' p o) where
  hh := fun c u n e => by
    have ne : c ≠ p := fun z => by
      subst z
      rcases hp with h | h
      · exact n h
      · rw [h] at e; cases e
    rw [upd_ne ne]; exact a.hh c u n e
  bb := a.bb
  le := fun c u e => by
    rw [upd_ne (ne_of_none e hb)]; exact a.le c u e
  fr := a.fr
  pt := fun c n e => by
    by_cases z : c = p
    · subst z; rw [upd_same]; exact fun y => nomatch y
    · rw [upd_ne z]; exact a.pt c n e
  tp := a.tp
  kp := fun z => (a.kp z).upd ht
/-! ### the state -/
/-- the draws of a cell: what is left of it, the mixed number, how many were drawn (n at most) -/
def PotAt (H : Hp) (a : Addr) (n : Nat) : Prop :=
  ∃ x y z : Int, H a = some (.lst [.int x, .int y, .int z]) ∧ 0 ≤ x ∧ 0 ≤ y ∧ y < 2305843009213693951 ∧ 0 ≤ z ∧ z ≤ n
theorem PotAt.mono {H : Hp} {a : Addr} {n m : Nat} (h : PotAt H a n) (e : n ≤ m) : PotAt H a m := by
  obtain ⟨x, y, z, h1, h2, h3, h4, h5, h6⟩ := h
  exact ⟨x, y, z, h1, h2, h3, h4, h5, by omega⟩
theorem PotAt.some {H : Hp} {a : Addr} {n : Nat} (h : PotAt H a n) : H a ≠ none := by
  obtain ⟨x, y, z, h1, _⟩ := h
  rw [h1]; exact fun z => nomatch z
theorem PotAt.keep {H H' : Hp} {a : Addr} {n : Nat} (h : PotAt H a n) (e : ∀ o, H a = .some o → H' a = .some o) : PotAt H' a n := by
  obtain ⟨x, y, z, h1, h2⟩ := h
  exact ⟨x, y, z, e _ h1, h2⟩
/-- what a slot holds: nothing known, a datum, a new list that may grow, the pot, an instance of a class that may change -/
inductive SD where
  | un | d (x : D) | ow (xs : List D) | pl (xs : List D) | pot (n : Nat) | ins (C dx : Addr) (fs : List (Str × D)) | fn (φ : Addr → Addr → HO) (q : Str) | odT (kvs : List (List Key × D)) | odK (kvs : List (Key × D))
def SD.mu : SD → Bool
  | .ow _ => true
  | .pl _ => true
  | .pot _ => true
  | .ins _ _ _ => true
  | .odT _ => true
  | .odK _ => true
  | _ => false
/-- the keys alike, the values told -/
def RV {κ : Type} (K : Fg) (B : Hp) (vs : List (κ × V)) (ds : List (κ × D)) : Prop := vs.map Prod.fst = ds.map Prod.fst ∧ RA K B (vs.map Prod.snd) (ds.map Prod.snd)
theorem RV.mono {κ : Type} {K : Fg} {H H' : Hp} (e : Same H H') {vs : List (κ × V)} {ds : List (κ × D)} (h : RV K H vs ds) : RV K H' vs ds := ⟨h.1, h.2.mono e⟩
def Sl (K : Fg) (P : Addr → Prop) (H0 B H : Hp) (o : Option V) : SD → Prop
  | .un => True
  | .d x => ∃ v, o = some v ∧ R K B v x
  | .ow xs => ∃ a vs, o = some (.ref a) ∧ (H0 a = none ∨ P a) ∧ B a = none ∧ H a = some (.lst vs) ∧ RA K B vs xs
  | .pl xs => ∃ a vs, o = some (.ref a) ∧ P a ∧ B a = none ∧ H a = some (.lst vs) ∧ RA K B vs xs
  | .pot n => ∃ a, o = some (.ref a) ∧ P a ∧ B a = none ∧ PotAt H a n
  | .ins C dx fs => ∃ a vs, o = some (.ref a) ∧ P a ∧ B a = none ∧ H a = some (.ins C dx vs) ∧ RF K B vs fs
  | .odT kvs => ∃ a vs, o = some (.ref a) ∧ (H0 a = none ∨ P a) ∧ B a = none ∧ H a = some (.dT vs) ∧ RV K B vs kvs
  | .odK kvs => ∃ a vs, o = some (.ref a) ∧ (H0 a = none ∨ P a) ∧ B a = none ∧ H a = some (.dK vs) ∧ RV K B vs kvs
  | .fn φ q => ∃ f c ψ, o = some (.ref f) ∧ φ f c = .ext ψ ∧ H f = some (φ f c) ∧ H c = some (LamX.CodeO c q)
theorem Sl.step {K : Fg} {P : Addr → Prop} {H0 B H B' H' : Hp} {o : Option V} {s : SD} (h : Sl K P H0 B H o s) (bb : Same B B') (hx : ∀ a ψ, H a = some (.ext ψ) → H' a = some (.ext ψ)) (hk : ∀ a u, s.mu = true → o = some (.ref a) → B a = none → H a = some u → Pln u → H' a = some u ∧ B' a = none) : Sl K P H0 B' H' o s := by
  cases s with
  | un => trivial
  | d x => obtain ⟨v, e, r⟩ := h; exact ⟨v, e, r.mono bb⟩
  | ow xs =>
    obtain ⟨a, vs, e, h0, hb, hh, r⟩ := h
    obtain ⟨k1, k2⟩ := hk a _ rfl e hb hh trivial
    exact ⟨a, vs, e, h0, k2, k1, r.mono bb⟩
  | odT xs =>
    obtain ⟨a, vs, e, h0, hb, hh, r⟩ := h
    obtain ⟨k1, k2⟩ := hk a _ rfl e hb hh trivial
    exact ⟨a, vs, e, h0, k2, k1, r.mono bb⟩
  | odK xs =>
    obtain ⟨a, vs, e, h0, hb, hh, r⟩ := h
    obtain ⟨k1, k2⟩ := hk a _ rfl e hb hh trivial
    exact ⟨a, vs, e, h0, k2, k1, r.mono bb⟩
  | pl xs =>
    obtain ⟨a, vs, e, h0, hb, hh, r⟩ := h
    obtain ⟨k1, k2⟩ := hk a _ rfl e hb hh trivial
    exact ⟨a, vs, e, h0, k2, k1, r.mono bb⟩
  | pot n =>
    obtain ⟨a, e, hp, hb, x, y, z, h1, h2⟩ := h
    obtain ⟨k1, k2⟩ := hk a _ rfl e hb h1 trivial
    exact ⟨a, e, hp, k2, x, y, z, k1, h2⟩
  | ins C dx fs =>
    obtain ⟨a, vs, e, h0, hb, hh, r⟩ := h
    obtain ⟨k1, k2⟩ := hk a _ rfl e hb hh trivial
    exact ⟨a, vs, e, h0, k2, k1, r.mono bb⟩
  | fn φ q =>
    obtain ⟨f, c, ψ, e, e1, e2, e3⟩ := h
    exact ⟨f, c, ψ, e, e1, by rw [e1] at e2 ⊢; exact hx _ _ e2, hx _ _ e3⟩
/-- a slot of a thing that may change: its place -/
theorem Sl.at_ {K : Fg} {P : Addr → Prop} {H0 B H : Hp} {o : Option V} {s : SD} (h : Sl K P H0 B H o s) (m : s.mu = true) : ∃ a, o = some (.ref a) ∧ (H0 a = none ∨ P a) ∧ B a = none ∧ H a ≠ none := by
  cases s with
  | un => cases m
  | d x => cases m
  | ow xs =>
    obtain ⟨a, vs, e, h0, hb, hh, r⟩ := h
    exact ⟨a, e, h0, hb, by rw [hh]; exact fun z => nomatch z⟩
  | odT xs =>
    obtain ⟨a, vs, e, h0, hb, hh, r⟩ := h
    exact ⟨a, e, h0, hb, by rw [hh]; exact fun z => nomatch z⟩
  | odK xs =>
    obtain ⟨a, vs, e, h0, hb, hh, r⟩ := h
    exact ⟨a, e, h0, hb, by rw [hh]; exact fun z => nomatch z⟩
  | pl xs =>
    obtain ⟨a, vs, e, h0, hb, hh, r⟩ := h
    exact ⟨a, e, .inr h0, hb, by rw [hh]; exact fun z => nomatch z⟩
  | pot n =>
    obtain ⟨a, e, hp, hb, q⟩ := h
    exact ⟨a, e, .inr hp, hb, q.some⟩
  | ins C dx fs =>
    obtain ⟨a, vs, e, h0, hb, hh, r⟩ := h
    exact ⟨a, e, .inr h0, hb, by rw [hh]; exact fun z => nomatch z⟩
  | fn φ q => cases m
theorem Sl.pln {K : Fg} {P : Addr → Prop} {H0 B H : Hp} {s : SD} {a : Addr} (h : Sl K P H0 B H (some (.ref a)) s) (m : s.mu = true) : ∀ u, H a = some u → Pln u := fun u q => by
  cases s with
  | un => cases m
  | d x => cases m
  | ow xs =>
    obtain ⟨b, vs, e, h0, hb, hh, r⟩ := h
    cases e
    rw [hh] at q; cases q; trivial
  | odT xs =>
    obtain ⟨b, vs, e, h0, hb, hh, r⟩ := h
    cases e
    rw [hh] at q; cases q; trivial
  | odK xs =>
    obtain ⟨b, vs, e, h0, hb, hh, r⟩ := h
    cases e
    rw [hh] at q; cases q; trivial
  | pl xs =>
    obtain ⟨b, vs, e, h0, hb, hh, r⟩ := h
    cases e
    rw [hh] at q; cases q; trivial
  | pot n =>
    obtain ⟨b, e, hp, hb, x, y, z, hh, _⟩ := h
    cases e
    rw [hh] at q; cases q; trivial
  | ins C dx fs =>
    obtain ⟨b, vs, e, h0, hb, hh, r⟩ := h
    cases e
    rw [hh] at q; cases q; trivial
  | fn φ q => cases m
structure Stc (K : Fg) (P : Addr → Prop) (B0 H0 : Hp) (ρ : List SD) (B H : Hp) (σ : L2.St) : Prop where
  len : σ.length = ρ.length
  gr : Gr P B0 H0 B H
  sl : ∀ (i : Nat) s, ρ[i]? = some s → Sl K P H0 B H (σ[i]?.getD none) s
  dis : ∀ (i j : Nat) s t, ρ[i]? = some s → ρ[j]? = some t → s.mu = true → t.mu = true → σ[i]? = σ[j]? → i = j
  ok : TbOk B H
/-- an exception that flies: its class, its value, its dict -/
def XAt (K : Fg) (B : Hp) (C : Addr) (x : D) (dd : Option Addr) : Prop := ∃ dx v, dd = some dx ∧ B dx = some (.xd [("value", v)]) ∧ R K B v x
/-- the wish about exceptions, and what may fly where -/
class Exn where
  W : WX
  X : List SD → Addr → D → Prop
/-- nothing may fly -/
@[reducible] def exn0 : Exn := ⟨fun _ _ _ _ => True, fun _ _ _ => False⟩
/-- what may fly is wished -/
def ExOk [Exn] (K : Fg) (P : Addr → Prop) (B0 H0 : Hp) : Prop := ∀ ρ' B' H' σ' C dd x, Stc K P B0 H0 ρ' B' H' σ' → XAt K B' C x dd → Exn.X ρ' C x → Exn.W (.ref C) dd σ' H'
theorem exOk0 {K : Fg} {P : Addr → Prop} {B0 H0 : Hp} : @ExOk _ exn0 K P B0 H0 := fun _ _ _ _ _ _ _ _ _ z => z.elim
variable [Exn]
structure ST (K : Fg) (P : Addr → Prop) (B0 H0 : Hp) (ρ : List SD) (B H : Hp) (σ : L2.St) : Prop where
  len : σ.length = ρ.length
  gr : Gr P B0 H0 B H
  sl : ∀ (i : Nat) s, ρ[i]? = some s → Sl K P H0 B H (σ[i]?.getD none) s
  dis : ∀ (i j : Nat) s t, ρ[i]? = some s → ρ[j]? = some t → s.mu = true → t.mu = true → σ[i]? = σ[j]? → i = j
  ok : TbOk B H
  ex : ExOk K P B0 H0
section
variable {K : Fg} {P : Addr → Prop} {B0 H0 : Hp} {ρ : List SD} {B H : Hp} {σ : L2.St}
theorem ST.core (S : ST K P B0 H0 ρ B H σ) : Stc K P B0 H0 ρ B H σ := ⟨S.len, S.gr, S.sl, S.dis, S.ok⟩
theorem ST.le (S : ST K P B0 H0 ρ B H σ) : Same B H := S.gr.le
theorem ST.slot (S : ST K P B0 H0 ρ B H σ) {i : Nat} {s : SD} (h : ρ[i]? = some s) : ∃ o, σ[i]? = some o ∧ Sl K P H0 B H o s := by
  have hi : i < ρ.length := (List.getElem?_eq_some_iff.mp h).1
  have q : i < σ.length := by rw [S.len]; exact hi
  have e : σ[i]? = some σ[i] := List.getElem?_eq_getElem q
  refine ⟨σ[i], e, ?_⟩
  have z := S.sl i s h
  rw [e] at z
  exact z
theorem ST.var (S : ST K P B0 H0 ρ B H σ) {i : Nat} {x : D} (h : ρ[i]? = some (.d x)) : ∃ v, σ[i]? = some (some v) ∧ R K B v x := by
  obtain ⟨o, e, v, rfl, r⟩ := S.slot h
  exact ⟨v, e, r⟩
/-- a pure step -/
theorem ST.step {B' H' : Hp} (S : ST K P B0 H0 ρ B H σ) (g : Gr Non B H B' H') : ST K P B0 H0 ρ B' H' σ where
  len := S.len
  gr := S.gr.trans (g.weak0 S.gr.tp)
  sl := fun i s h => (S.sl i s h).step g.bb (fun a ψ h => g.same (S.ok.not h (fun ps y => by cases y)) h) fun a u _ _ hb hh pl => ⟨g.same (S.ok.not hh (pln_tbl pl)) hh, by
    cases q : B' a with
    | none => rfl
    | some u =>
      rcases g.fr a u q with z | z | z
      · rw [hb] at z; cases z
      · rw [hh] at z
        rcases z with z | ⟨ys, z⟩
        · cases z
        · cases z; exact pl.elim
      · exact absurd z (S.ok.not hh (pln_tbl pl))⟩
  dis := S.dis
  ok := g.kp S.ok
  ex := S.ex
theorem ST.new (S : ST K P B0 H0 ρ B H σ) {p : Addr} (o : HO) (h : H p = none) : ST K P B0 H0 ρ (upd B p o) (upd H p o) σ :=
  S.step ((Gr.refl S.le).new h h)
theorem ST.bfree (S : ST K P B0 H0 ρ B H σ) {p : Addr} (h : H p = none) : B p = none := same_none S.le h
theorem get_set_ne {α : Type} {l : List α} {i j : Nat} {x : α} (h : i ≠ j) : (l.set i x)[j]? = l[j]? := List.getElem?_set_ne h
theorem set_same_of {α : Type} {l : List α} {i : Nat} {x y : α} (h : (l.set i x)[i]? = some y) : y = x ∧ i < l.length := by
  have hi : i < l.length := by
    have := (List.getElem?_eq_some_iff.mp h).1
    rwa [List.length_set] at this
  rw [List.getElem?_set_self hi] at h
  exact ⟨(Option.some.inj h).symm, hi⟩
/-- a slot stored: a datum -/
theorem ST.put (S : ST K P B0 H0 ρ B H σ) {i : Nat} {v : V} {x : D} (r : R K B v x) : ST K P B0 H0 (ρ.set i (.d x)) B H (σ.set i (some v)) where
  len := by rw [List.length_set, List.length_set, S.len]
  gr := S.gr
  sl := fun j s h => by
    by_cases e : i = j
    · subst e
      obtain ⟨e2, hi⟩ := set_same_of h
      subst e2
      rw [List.getElem?_set_self (by rw [S.len]; exact hi)]
      exact ⟨v, rfl, r⟩
    · rw [get_set_ne e] at h
      rw [get_set_ne e]
      exact S.sl j s h
  dis := fun j k s t h1 h2 m1 m2 h3 => by
    have n1 : i ≠ j := fun e => by
      subst e
      obtain ⟨e2, _⟩ := set_same_of h1
      rw [e2] at m1; cases m1
    have n2 : i ≠ k := fun e => by
      subst e
      obtain ⟨e2, _⟩ := set_same_of h2
      rw [e2] at m2; cases m2
    rw [get_set_ne n1] at h1 h3
    rw [get_set_ne n2] at h2 h3
    exact S.dis j k s t h1 h2 m1 m2 h3
  ok := S.ok
  ex := S.ex
/-- what may change has changed, at the place of the slot i -/
theorem ST.chg {a : Addr} {o : HO} {i : Nat} {s s' : SD} (S : ST K P B0 H0 ρ B H σ) (hi : ρ[i]? = some s) (hm : s.mu = true) (hm' : s'.mu = true) (ha : σ[i]? = some (some (.ref a))) (hn : Sl K P H0 B (upd H a o) (some (.ref a)) s') :
    ST K P B0 H0 (ρ.set i s') B (upd H a o) σ where
  len := by rw [List.length_set, S.len]
  gr := by
    obtain ⟨w, e1, z⟩ := S.slot hi
    obtain ⟨b, e2, h0, hb, _⟩ := z.at_ hm
    rw [ha] at e1
    cases e1
    cases e2
    exact S.gr.mut hb h0.symm (z.pln hm)
  sl := fun j t h => by
    by_cases e : i = j
    · subst e
      obtain ⟨e2, _⟩ := set_same_of h
      subst e2
      rw [ha]
      exact hn
    · rw [get_set_ne e] at h
      refine (S.sl j t h).step (Same.refl _) (fun b ψ hb => by
        have ne : b ≠ a := fun q => by
          obtain ⟨w, e1, z⟩ := S.slot hi
          rw [ha] at e1
          cases e1
          rw [q] at hb
          exact z.pln hm _ hb
        rw [upd_ne ne]
        exact hb) fun b u m eb hb hh _ => ⟨?_, hb⟩
      have ne : b ≠ a := fun q => by
        subst q
        refine e (S.dis i j s t hi h hm m ?_)
        obtain ⟨w, e1, _⟩ := S.slot h
        rw [e1] at eb ⊢
        rw [ha]
        have eb' : w = some (V.ref b) := eb
        rw [eb']
      rw [upd_ne ne]
      exact hh
  dis := fun j k s1 t1 h1 h2 m1 m2 h3 => by
    have q : ∀ {l : Nat} {u : SD}, (ρ.set i s')[l]? = some u → u.mu = true → ∃ u', ρ[l]? = some u' ∧ u'.mu = true := fun {l u} h m => by
      by_cases e : i = l
      · subst e; exact ⟨s, hi, hm⟩
      · rw [get_set_ne e] at h; exact ⟨u, h, m⟩
    obtain ⟨u1, a1, b1⟩ := q h1 m1
    obtain ⟨u2, a2, b2⟩ := q h2 m2
    exact S.dis j k u1 u2 a1 a2 b1 b2 h3
  ok := by
    obtain ⟨w, e1, z⟩ := S.slot hi
    rw [ha] at e1
    cases e1
    exact S.ok.upd (z.pln hm)
  ex := S.ex
/-- less is known -/
theorem ST.forget (S : ST K P B0 H0 ρ B H σ) {σ' : L2.St} {ρ' : List SD} (hl : σ'.length = ρ'.length)
    (h : ∀ (i : Nat) s, ρ'[i]? = some s → s = .un ∨ (ρ[i]? = some s ∧ σ'[i]? = σ[i]?)) : ST K P B0 H0 ρ' B H σ' where
  len := hl
  gr := S.gr
  sl := fun i s e => by
    rcases h i s e with rfl | ⟨e1, e2⟩
    · trivial
    · rw [e2]; exact S.sl i s e1
  dis := fun i j s t e1 e2 m1 m2 e3 => by
    rcases h i _ e1 with z | ⟨a1, b1⟩
    · subst z; cases m1
    · rcases h j _ e2 with z | ⟨a2, b2⟩
      · subst z; cases m2
      · rw [b1, b2] at e3
        exact S.dis i j s t a1 a2 m1 m2 e3
  ok := S.ok
  ex := S.ex
/-- a new list that will grow: the slot i is its only holder -/
theorem ST.own (S : ST K P B0 H0 ρ B H σ) {p : Addr} {i : Nat} {vs : List V} {xs : List D} (h : H p = none) (h0 : H0 p = none) (r : RA K B vs xs) : ST K P B0 H0 (ρ.set i (.ow xs)) B (upd H p (.lst vs)) (σ.set i (some (.ref p))) where
  len := by rw [List.length_set, List.length_set, S.len]
  gr := S.gr.mut (S.bfree h) (.inr h0) fun u e => by rw [h] at e; cases e
  sl := fun j s q => by
    by_cases e : i = j
    · subst e
      obtain ⟨e2, hi⟩ := set_same_of q
      subst e2
      rw [List.getElem?_set_self (by rw [S.len]; exact hi)]
      exact ⟨p, vs, rfl, .inl h0, S.bfree h, upd_same, r⟩
    · rw [get_set_ne e] at q
      rw [get_set_ne e]
      refine (S.sl j s q).step (Same.refl _) (fun b ψ hb => by rw [upd_ne (ne_of_none hb h)]; exact hb) fun b u m eb hb hh _ => ⟨?_, hb⟩
      rw [upd_ne (ne_of_none hh h)]
      exact hh
  dis := fun j k s t h1 h2 m1 m2 h3 => by
    have old : ∀ {l : Nat} {u : SD}, i ≠ l → (ρ.set i (.ow xs))[l]? = some u → u.mu = true → σ[l]? ≠ some (some (.ref p)) := fun {l u} n e m z => by
      rw [get_set_ne n] at e
      obtain ⟨w, e1, y⟩ := S.slot e
      obtain ⟨b, e2, _, _, e5⟩ := y.at_ m
      rw [e1] at z
      rw [e2] at z
      cases z
      exact e5 h
    have here : ∀ {l : Nat} {u : SD}, (ρ.set i (.ow xs))[l]? = some u → i = l → (σ.set i (some (.ref p)))[l]? = some (some (.ref p)) := fun {l u} e q => by
      subst q
      obtain ⟨_, hi⟩ := set_same_of e
      exact List.getElem?_set_self (by rw [S.len]; exact hi)
    by_cases n1 : i = j
    · by_cases n2 : i = k
      · rw [← n1, ← n2]
      · rw [here h1 n1, get_set_ne n2] at h3
        exact absurd h3.symm (old n2 h2 m2)
    · by_cases n2 : i = k
      · rw [here h2 n2, get_set_ne n1] at h3
        exact absurd h3 (old n1 h1 m1)
      · rw [get_set_ne n1] at h1 h3
        rw [get_set_ne n2] at h2 h3
        exact S.dis j k s t h1 h2 m1 m2 h3
  ok := S.ok.upd fun u e => by rw [h] at e; cases e
  ex := S.ex
/-- a list that has grown is a datum from now on -/
theorem ST.still (S : ST K P B0 H0 ρ B H σ) {i : Nat} {xs : List D} (hi : ρ[i]? = some (.ow xs)) : ∃ B', ST K P B0 H0 (ρ.set i (.d (.lst xs))) B' H σ ∧ Same B B' ∧ ∀ c u, B' c = some u → B c = some u ∨ σ[i]? = some (some (.ref c)) := by
  obtain ⟨o, e1, a, vs, rfl, h0, hb, hh, r⟩ := S.slot hi
  have h0' := h0
  have sb : Same B (upd B a (.lst vs)) := same_new hb
  have tk : TbOk (upd B a (.lst vs)) H := ⟨S.ok.1, fun b t => by
    rw [upd_ne (fun q => by rw [q] at t; exact S.ok.not hh (by intro ps z; cases z) t)]
    exact S.ok.2 b t⟩
  refine ⟨upd B a (.lst vs), ⟨by rw [List.length_set, S.len], ⟨S.gr.hh, S.gr.bb.trans sb, fun c u e => ?_, fun c u e => ?_, S.gr.pt, S.gr.tp, fun _ => tk⟩, fun j s h => ?_, fun j k s t h1 h2 m1 m2 h3 => ?_, tk, S.ex⟩, sb, fun c u e => ?_⟩
  · by_cases z : c = a
    · subst z; rw [upd_same] at e; rw [hh]; exact e
    · rw [upd_ne z] at e; exact S.le c u e
  · by_cases z : c = a
    · subst z; exact .inr (h0'.imp_left .inl)
    · rw [upd_ne z] at e; exact S.gr.fr c u e
  · by_cases e : i = j
    · subst e
      obtain ⟨e2, hl⟩ := set_same_of h
      subst e2
      rw [e1]
      exact ⟨.ref a, rfl, .lst upd_same (r.mono sb)⟩
    · rw [get_set_ne e] at h
      refine (S.sl j s h).step sb (fun _ _ q => q) fun b u m eb hb' hh' _ => ⟨hh', ?_⟩
      have ne : b ≠ a := fun q => by
        subst q
        refine e (S.dis i j _ s hi h rfl m ?_)
        obtain ⟨w, e3, _⟩ := S.slot h
        rw [e3] at eb ⊢
        rw [e1]
        have eb' : w = some (V.ref b) := eb
        rw [eb']
      rw [upd_ne ne]
      exact hb'
  · have n1 : i ≠ j := fun e => by
      subst e
      obtain ⟨e2, _⟩ := set_same_of h1
      rw [e2] at m1; cases m1
    have n2 : i ≠ k := fun e => by
      subst e
      obtain ⟨e2, _⟩ := set_same_of h2
      rw [e2] at m2; cases m2
    rw [get_set_ne n1] at h1
    rw [get_set_ne n2] at h2
    exact S.dis j k s t h1 h2 m1 m2 h3
  · by_cases z : c = a
    · subst z; exact .inr e1
    · rw [upd_ne z] at e; exact .inl e
/-- where the things stand that the slots may change -/
def MusS (ρ : List SD) (σ : L2.St) : Addr → Prop := fun a => ∃ (j : Nat) (s : SD), ρ[j]? = some s ∧ s.mu = true ∧ σ[j]? = some (some (.ref a))
def Mus (ρ : List SD) (σ : L2.St) : Addr → Prop := fun a => MusS ρ σ a ∨ Tb a
/-- no slot has become one that may change -/
def Sh (ρ ρ' : List SD) : Prop := ∀ (j : Nat) s', ρ'[j]? = some s' → s'.mu = true → ∃ s, ρ[j]? = some s ∧ s.mu = true
theorem Sh.refl (ρ : List SD) : Sh ρ ρ := fun j s h m => ⟨s, h, m⟩
theorem Sh.trans {ρ1 ρ2 ρ3 : List SD} (a : Sh ρ1 ρ2) (b : Sh ρ2 ρ3) : Sh ρ1 ρ3 := fun j s h m => let ⟨s', h', m'⟩ := b j s h m; a j s' h' m'
theorem Sh.mus {ρ ρ' : List SD} (a : Sh ρ ρ') {σ : L2.St} {b : Addr} (h : Mus ρ' σ b) : Mus ρ σ b := by
  rcases h with ⟨j, s, e, m, q⟩ | h
  · obtain ⟨s', e', m'⟩ := a j s e m
    exact .inl ⟨j, s', e', m', q⟩
  · exact .inr h
/-- how an expression leaves things -/
structure Ev (ρ : List SD) (σ : L2.St) (B H : Hp) (ρ' : List SD) (B' H' : Hp) : Prop where
  gr : Gr (Mus ρ σ) B H B' H'
  sh : Sh ρ ρ'
theorem Ev.bb {ρ ρ' : List SD} {σ : L2.St} {B H B' H' : Hp} (a : Ev ρ σ B H ρ' B' H') : Same B B' := a.gr.bb
theorem Ev.refl {ρ : List SD} {σ : L2.St} {B H : Hp} (h : Same B H) : Ev ρ σ B H ρ B H := ⟨Gr.refl h (fun _ z => Or.inr z), Sh.refl _⟩
theorem Ev.trans {ρ ρ1 ρ2 : List SD} {σ : L2.St} {B H B1 H1 B2 H2 : Hp} (a : Ev ρ σ B H ρ1 B1 H1) (b : Ev ρ1 σ B1 H1 ρ2 B2 H2) : Ev ρ σ B H ρ2 B2 H2 :=
  ⟨a.gr.trans (b.gr.weak fun _ q => a.sh.mus q), a.sh.trans b.sh⟩
theorem Ev.pure {ρ : List SD} {σ : L2.St} {B H B' H' : Hp} (g : Gr Non B H B' H') : Ev ρ σ B H ρ B' H' := ⟨g.weak0 (fun _ z => Or.inr z), Sh.refl _⟩
theorem Ev.new {ρ : List SD} {σ : L2.St} {B H : Hp} {p : Addr} {o : HO} (s : Same B H) (h : H p = none) : Ev ρ σ B H ρ (upd B p o) (upd H p o) := Ev.pure ((Gr.refl s).new h h)
end
end
end Lw

set_option Elab.async false
set_option linter.all false
set_option maxRecDepth 100000
set_option maxHeartbeats 4000000
namespace Lw
open PySem PySem.Spec PyProof.Rows L2
variable [Tabl] [Exn]
/-! ### judgements over data -/
def WE (K : Fg) (te : TE) (ρ : List SD) (F : D → List SD → Prop) : Prop :=
  ∀ P B0 H0 B H σ, ST K P B0 H0 ρ B H σ → ∀ Q : VK,
    (∀ v d ρ' B' H', F d ρ' → ST K P B0 H0 ρ' B' H' σ → Ev ρ σ B H ρ' B' H' → R K B' v d → Q v H') → te σ H Q
def WA (K : Fg) (ta : TA) (ρ : List SD) (F : List D → List SD → Prop) : Prop :=
  ∀ P B0 H0 B H σ, ST K P B0 H0 ρ B H σ → ∀ Q : List V → Hp → Prop,
    (∀ vs ds ρ' B' H', F ds ρ' → ST K P B0 H0 ρ' B' H' σ → Ev ρ σ B H ρ' B' H' → RA K B' vs ds → Q vs H') → ta σ H Q
def WT (K : Fg) (tt : TT) (ρ : List SD) (F : Bool → List SD → Prop) : Prop :=
  ∀ P B0 H0 B H σ, ST K P B0 H0 ρ B H σ → ∀ Q : Bool → Hp → Prop,
    (∀ b ρ' B' H', F b ρ' → ST K P B0 H0 ρ' B' H' σ → Ev ρ σ B H ρ' B' H' → Q b H') → tt σ H Q
def WO (K : Fg) (to : TO) (ρ : List SD) (F : Option Int → List SD → Prop) : Prop :=
  ∀ P B0 H0 B H σ, ST K P B0 H0 ρ B H σ → ∀ Q : Option Int → Hp → Prop,
    (∀ b ρ' B' H', F b ρ' → ST K P B0 H0 ρ' B' H' σ → Ev ρ σ B H ρ' B' H' → Q b H') → to σ H Q
structure Out where
  nx : List SD → Prop
  rt : D → List SD → Prop
  bk : List SD → Prop := fun _ => False
  ct : List SD → Prop := fun _ => False
def WS (K : Fg) (ts : TS) (ρ : List SD) (E : Out) : Prop :=
  ∀ P B0 H0 B H σ, ST K P B0 H0 ρ B H σ → ∀ D : Ends,
    (∀ ρ' B' H' σ', E.nx ρ' → ST K P B0 H0 ρ' B' H' σ' → Same B B' → D.nx σ' H') →
    (∀ v d ρ' B' H' σ', E.rt d ρ' → ST K P B0 H0 ρ' B' H' σ' → Same B B' → R K B' v d → D.rt v H') →
    (∀ ρ' B' H' σ', E.bk ρ' → ST K P B0 H0 ρ' B' H' σ' → Same B B' → D.bk σ' H') →
    (∀ ρ' B' H' σ', E.ct ρ' → ST K P B0 H0 ρ' B' H' σ' → Same B B' → D.ct σ' H') → ts D σ H
section
variable {K : Fg} {ρ : List SD}
theorem WE.mono {te : TE} {F G : D → List SD → Prop} (h : WE K te ρ F) (q : ∀ d ρ', F d ρ' → G d ρ') : WE K te ρ G :=
  fun P B0 H0 B H σ S Q k => h P B0 H0 B H σ S Q fun v d ρ' B' H' f => k v d ρ' B' H' (q _ _ f)
theorem WS.mono {ts : TS} {E G : Out} (h : WS K ts ρ E) (q1 : ∀ ρ', E.nx ρ' → G.nx ρ') (q2 : ∀ d ρ', E.rt d ρ' → G.rt d ρ') (q3 : ∀ ρ', E.bk ρ' → G.bk ρ') (q4 : ∀ ρ', E.ct ρ' → G.ct ρ') : WS K ts ρ G :=
  fun P B0 H0 B H σ S D k1 k2 k3 k4 => h P B0 H0 B H σ S D (fun _ _ _ _ f => k1 _ _ _ _ (q1 _ f)) (fun _ _ _ _ _ _ f => k2 _ _ _ _ _ _ (q2 _ _ f)) (fun _ _ _ _ f => k3 _ _ _ _ (q3 _ f)) (fun _ _ _ _ f => k4 _ _ _ _ (q4 _ f))
/-! ### names, constants -/
theorem we_var {i : Nat} {x : D} {F : D → List SD → Prop} (h : ρ[i]? = some (.d x)) (q : F x ρ) : WE K (tVar i) ρ F := fun P B0 H0 B H σ S Q k => by
  obtain ⟨v, e, r⟩ := S.var h
  exact ⟨v, e, k v x ρ B H q S (Ev.refl S.le) r⟩
theorem we_int {i : Int} {F : D → List SD → Prop} (q : F (.int i) ρ) : WE K (tC (.int i)) ρ F := fun P B0 H0 B H σ S Q k => k _ _ ρ B H q S (Ev.refl S.le) (.int i)
theorem we_str {i : Str} {F : D → List SD → Prop} (q : F (.str i) ρ) : WE K (tC (.str i)) ρ F := fun P B0 H0 B H σ S Q k => k _ _ ρ B H q S (Ev.refl S.le) (.str i)
theorem we_bl {i : Bool} {F : D → List SD → Prop} (q : F (.bl i) ρ) : WE K (tC (.bl i)) ρ F := fun P B0 H0 B H σ S Q k => k _ _ ρ B H q S (Ev.refl S.le) (.bl i)
theorem we_non {F : D → List SD → Prop} (q : F .non ρ) : WE K (tC .non) ρ F := fun P B0 H0 B H σ S Q k => k _ _ ρ B H q S (Ev.refl S.le) .non
/-! ### operators: what a relation on values does to data -/
def OpD (K : Fg) (r : R2) (x y : D) (F : D → Prop) : Prop :=
  ∀ B H v u, Same B H → R K B v x → R K B u y → ∀ Q : VK, (∀ w d B' H', F d → Gr Non B H B' H' → R K B' w d → Q w H') → r v u H Q
theorem we_op {r : R2} {ta tb : TE} {F : D → List SD → Prop} (h : WE K ta ρ fun x ρ1 => WE K tb ρ1 fun y ρ2 => OpD K r x y fun d => F d ρ2) : WE K (tOp r ta tb) ρ F :=
  fun P B0 H0 B H σ S Q k => h P B0 H0 B H σ S _ fun v x ρ1 B1 H1 h1 S1 s1 r1 => h1 P B0 H0 B1 H1 σ S1 _ fun u y ρ2 B2 H2 h2 S2 s2 r2 =>
    h2 B2 H2 v u S2.le (r1.mono s2.bb) r2 Q fun w d B3 H3 f g r3 => k w d ρ2 B3 H3 f (S2.step g) ((s1.trans s2).trans (Ev.pure g)) r3
def UnD (K : Fg) (r : V → Hp → VK → Prop) (x : D) (F : D → Prop) : Prop :=
  ∀ B H v, Same B H → R K B v x → ∀ Q : VK, (∀ w d B' H', F d → Gr Non B H B' H' → R K B' w d → Q w H') → r v H Q
theorem we_un {r : V → Hp → VK → Prop} {ta : TE} {F : D → List SD → Prop} (h : WE K ta ρ fun x ρ1 => UnD K r x fun d => F d ρ1) : WE K (tUn r ta) ρ F :=
  fun P B0 H0 B H σ S Q k => h P B0 H0 B H σ S _ fun v x ρ1 B1 H1 h1 S1 s1 r1 => h1 B1 H1 v S1.le r1 Q fun w d B3 H3 f g r3 => k w d ρ1 B3 H3 f (S1.step g) (s1.trans (Ev.pure g)) r3
/-- the answer needs no object -/
theorem OpD.flat {r : R2} {x y z : D} {F : D → Prop} (f : F z) (h : ∀ B H v u, Same B H → R K B v x → R K B u y → ∃ w, (∀ B', R K B' w z) ∧ ∀ Q : VK, Q w H → r v u H Q) : OpD K r x y F :=
  fun B H v u s r1 r2 Q k => by
    obtain ⟨w, hw, q⟩ := h B H v u s r1 r2
    exact q Q (k w z B H f (Gr.refl s) (hw B))
theorem rint {B : Hp} {v : V} {i : Int} (h : R K B v (.int i)) : v = .int i := by cases h; rfl
theorem rstr {B : Hp} {v : V} {i : Str} (h : R K B v (.str i)) : v = .str i := by cases h; rfl
theorem rbl {B : Hp} {v : V} {i : Bool} (h : R K B v (.bl i)) : v = .bl i := by cases h; rfl
theorem rnon {B : Hp} {v : V} (h : R K B v .non) : v = .non := by cases h; rfl
theorem op_I0 {g : Int → Int → V} {z : D} {i j : Int} {F : D → Prop} (hz : ∀ B, R K B (g i j) z) (f : F z) : OpD K (rI0 g) (.int i) (.int j) F :=
  OpD.flat f fun B H v u s r1 r2 => by
    rw [rint r1, rint r2]
    exact ⟨_, hz, fun Q q => ⟨i, j, rfl, rfl, q⟩⟩
theorem op_IC {C : Int → Int → Prop} {g : Int → Int → V} {z : D} {i j : Int} {F : D → Prop} (hz : ∀ B, R K B (g i j) z) (hc : C i j) (f : F z) : OpD K (rI C g) (.int i) (.int j) F :=
  OpD.flat f fun B H v u s r1 r2 => by
    rw [rint r1, rint r2]
    exact ⟨_, hz, fun Q q => ⟨i, j, rfl, rfl, hc, q⟩⟩
theorem OpD.inl {r r' : R2} {x y : D} {F : D → Prop} (h : OpD K r x y F) : OpD K (fun x y H Q => r x y H Q ∨ r' x y H Q) x y F :=
  fun B H v u s r1 r2 Q k => .inl (h B H v u s r1 r2 Q k)
theorem OpD.inr {r r' : R2} {x y : D} {F : D → Prop} (h : OpD K r' x y F) : OpD K (fun x y H Q => r x y H Q ∨ r' x y H Q) x y F :=
  fun B H v u s r1 r2 Q k => .inr (h B H v u s r1 r2 Q k)
/-! ### + -/
def rAddA (K : Fg) : R2 := fun x y H Q => (rI0 fun i j => .int (i + j)) x y H Q ∨ ((fun x y H Q => ∃ i j, x = V.str i ∧ y = .str j ∧ i.length + j.length ≤ sizeLine ∧ Q (.str (i ++ j)) H) x y H Q ∨ (rCat x y H Q ∨ rCatA K x y H Q))
theorem op_addA {X : Cx} : OpR X (binaryOp .Add) (rAddA X.K) := op_add.or (op_add_str.or (op_cat.or op_catA))
def dAdd (x y : D) (F : D → Prop) : Prop := match x, y with
  | .int i, .int j => F (.int (i + j))
  | .str i, .str j => i.length + j.length ≤ sizeLine ∧ F (.str (i ++ j))
  | .lst xs, .lst ys => xs.length + ys.length ≤ sizeLine ∧ F (.lst (xs ++ ys))
  | .tup xs, .tup ys => xs.length + ys.length ≤ sizeLine ∧ F (.tup (xs ++ ys))
  | _, _ => False
theorem opd_add {x y : D} {F : D → Prop} (h : dAdd x y F) : OpD K (rAddA K) x y F := by
  unfold dAdd at h
  split at h
  · exact (op_I0 (fun _ => .int _) h).inl
  · rename_i i j
    exact OpD.inr (OpD.inl (OpD.flat h.2 fun B H v u s r1 r2 => by
      rw [rstr r1, rstr r2]
      exact ⟨_, fun _ => .str _, fun Q q => ⟨i, j, rfl, rfl, h.1, q⟩⟩))
  · rename_i xs ys
    refine OpD.inr (OpD.inr (OpD.inl fun B H v u s r1 r2 Q k => ?_))
    cases r1 with
    | lst h1 a1 =>
      cases r2 with
      | lst h2 a2 =>
        refine ⟨_, _, _, _, rfl, rfl, s _ _ h1, s _ _ h2, by rw [a1.length, a2.length]; exact h.1, fun p hp => ?_⟩
        have hb := same_none s hp
        exact k _ _ (upd B p _) _ h.2 ((Gr.refl s).new hp hp) (.lst upd_same ((RA.append a1 a2).mono (same_new hb)))
  · rename_i xs ys
    refine OpD.inr (OpD.inr (OpD.inr fun B H v u s r1 r2 Q k => ?_))
    cases r1 with
    | tup h1 a1 =>
      rename_i a vs
      cases r2 with
      | tup h2 a2 =>
        rename_i b us
        refine ⟨_, _, _, _, rfl, rfl, same_t s h1, same_t s h2, by rw [a1.length, a2.length]; exact h.1, fun e => ?_, fun e1 e2 => ?_, fun e1 e2 p hp => ?_⟩
        · subst e
          cases a1
          exact k _ _ B H h.2 (Gr.refl s) (.tup h2 a2)
        · subst e2
          cases a2
          refine k _ _ B H h.2 (Gr.refl s) ?_
          rw [List.append_nil]
          exact .tup h1 a1
        · have hb := same_none s hp
          exact k _ _ (upd B p _) _ h.2 ((Gr.refl s).new hp hp) (.tup (SqT.of upd_same) ((RA.append a1 a2).mono (same_new hb)))
  · exact h.elim
theorem we_add {ta tb : TE} {F : D → List SD → Prop} (h : WE K ta ρ fun x ρ1 => WE K tb ρ1 fun y ρ2 => dAdd x y fun d => F d ρ2) : WE K (tOp (rAddA K) ta tb) ρ F :=
  we_op (h.mono fun _ _ q => q.mono fun _ _ q => opd_add q)
/-! ### - * // % ** -/
abbrev rSubI : R2 := rI0 fun i j => .int (i - j)
def dSub (x y : D) (F : D → Prop) : Prop := match x, y with
  | .int i, .int j => F (.int (i - j))
  | _, _ => False
theorem we_sub {ta tb : TE} {F : D → List SD → Prop} (h : WE K ta ρ fun x ρ1 => WE K tb ρ1 fun y ρ2 => dSub x y fun d => F d ρ2) : WE K (tOp (rI0 fun i j => .int (i - j)) ta tb) ρ F :=
  we_op (h.mono fun x _ q => q.mono fun y _ q => by
    unfold dSub at q
    split at q
    · exact op_I0 (fun _ => .int _) q
    · exact q.elim)
def CMulA (i j : Int) : Prop := CMul i j ∨ (i.natAbs < 2 ^ 400000 ∧ j.natAbs < 2 ^ 400000)
theorem CMulA.ok {i j : Int} (h : CMulA i j) : IntMulOk i j := by
  rcases h with h | ⟨h1, h2⟩
  · exact h.ok
  · exact (wide_mul h1 h2 (by decide) (by decide) (by decide)).ok
theorem op_mulA {X : Cx} : OpR X (binaryOp .Mult) (rI CMulA fun i j => .int (i * j)) := opI fun _ _ _ _ _ _ _ hc q => mul_int q hc.ok
def dMul (x y : D) (F : D → Prop) : Prop := match x, y with
  | .int i, .int j => CMulA i j ∧ F (.int (i * j))
  | _, _ => False
theorem we_mul {ta tb : TE} {F : D → List SD → Prop} (h : WE K ta ρ fun x ρ1 => WE K tb ρ1 fun y ρ2 => dMul x y fun d => F d ρ2) : WE K (tOp (rI CMulA fun i j => .int (i * j)) ta tb) ρ F :=
  we_op (h.mono fun x _ q => q.mono fun y _ q => by
    unfold dMul at q
    split at q
    · exact op_IC (fun _ => .int _) q.1 q.2
    · exact q.elim)
def dFdiv (x y : D) (F : D → Prop) : Prop := match x, y with
  | .int i, .int j => CDivN i j ∧ F (.int (i.fdiv j))
  | _, _ => False
theorem we_fdiv {ta tb : TE} {F : D → List SD → Prop} (h : WE K ta ρ fun x ρ1 => WE K tb ρ1 fun y ρ2 => dFdiv x y fun d => F d ρ2) : WE K (tOp (rI CDivN fun i j => .int (i.fdiv j)) ta tb) ρ F :=
  we_op (h.mono fun x _ q => q.mono fun y _ q => by
    unfold dFdiv at q
    split at q
    · exact op_IC (fun _ => .int _) q.1 q.2
    · exact q.elim)
def dMod (x y : D) (F : D → Prop) : Prop := match x, y with
  | .int i, .int j => j ≠ 0 ∧ F (.int (i.fmod j))
  | _, _ => False
theorem we_mod {ta tb : TE} {F : D → List SD → Prop} (h : WE K ta ρ fun x ρ1 => WE K tb ρ1 fun y ρ2 => dMod x y fun d => F d ρ2) : WE K (tOp (rI (fun _ j => j ≠ 0) fun i j => .int (i.fmod j)) ta tb) ρ F :=
  we_op (h.mono fun x _ q => q.mono fun y _ q => by
    unfold dMod at q
    split at q
    · exact op_IC (C := fun _ j => j ≠ 0) (fun _ => .int _) q.1 q.2
    · exact q.elim)
def CPowA (i j : Int) : Prop := 0 ≤ j ∧ (Builtin.Int.intBits i : Int) * j ≤ 2 ^ 27
theorem op_powA {X : Cx} : OpR X (binaryOp .Pow) (rI CPowA fun i j => .int (i ^ j.toNat)) := opI fun _ _ _ _ _ _ _ hc q => pow_int hc.1 hc.2 q
def dPow (x y : D) (F : D → Prop) : Prop := match x, y with
  | .int i, .int j => CPowA i j ∧ F (.int (i ^ j.toNat))
  | _, _ => False
theorem we_pow {ta tb : TE} {F : D → List SD → Prop} (h : WE K ta ρ fun x ρ1 => WE K tb ρ1 fun y ρ2 => dPow x y fun d => F d ρ2) : WE K (tOp (rI CPowA fun i j => .int (i ^ j.toNat)) ta tb) ρ F :=
  we_op (h.mono fun x _ q => q.mono fun y _ q => by
    unfold dPow at q
    split at q
    · exact op_IC (fun _ => .int _) q.1 q.2
    · exact q.elim)
def dNeg (x : D) (F : D → Prop) : Prop := match x with
  | .int i => F (.int (-i))
  | _ => False
theorem und_neg {x : D} {F : D → Prop} (q : dNeg x F) : UnD K (rU fun i => .int (-i)) x F := by
  cases x with
  | int i =>
    intro B H v s r1 Q k
    rw [rint r1]
    exact ⟨i, rfl, k _ _ B H q (Gr.refl s) (.int _)⟩
  | _ => exact q.elim
theorem we_neg {ta : TE} {F : D → List SD → Prop} (h : WE K ta ρ fun x ρ1 => dNeg x fun d => F d ρ1) : WE K (tUn (rU fun i => .int (-i)) ta) ρ F :=
  we_un (h.mono fun x ρ1 q => und_neg q)
/-! ### comparisons of ints -/
def dCmp (p : Int → Int → Bool) (x y : D) (F : D → Prop) : Prop := match x, y with
  | .int i, .int j => F (.bl (p i j))
  | _, _ => False
theorem we_cmp {p : Int → Int → Bool} {ta tb : TE} {F : D → List SD → Prop} (h : WE K ta ρ fun x ρ1 => WE K tb ρ1 fun y ρ2 => dCmp p x y fun d => F d ρ2) : WE K (tOp (rI0 fun i j => .bl (p i j)) ta tb) ρ F :=
  we_op (h.mono fun x _ q => q.mono fun y _ q => by
    unfold dCmp at q
    split at q
    · exact op_I0 (fun _ => .bl _) q
    · exact q.elim)
theorem opd_cmp {p : Int → Int → Bool} {x y : D} {F : D → Prop} (q : dCmp p x y F) : OpD K (rI0 fun i j => .bl (p i j)) x y F := by
  unfold dCmp at q
  split at q
  · exact op_I0 (fun _ => .bl _) q
  · exact q.elim
/-- is None -/
def D.isN : D → Bool
  | .non => true
  | _ => false
theorem isN_of {B : Hp} {v : V} {x : D} (h : R K B v x) : decide (v = V.non) = x.isN := by
  cases h <;> rfl
theorem we_isN {ta : TE} {F : D → List SD → Prop} (h : WE K ta ρ fun x ρ1 => F (.bl x.isN) ρ1) : WE K (tOp (fun x y H Q => y = V.non ∧ Q (.bl (decide (x = .non))) H) ta (tC .non)) ρ F :=
  we_op (h.mono fun x ρ1 q => we_non fun B H v u s r1 r2 Q k => ⟨rnon r2, by rw [isN_of r1]; exact k _ _ B H q (Gr.refl s) (.bl _)⟩)
theorem we_notN {ta : TE} {F : D → List SD → Prop} (h : WE K ta ρ fun x ρ1 => F (.bl (!x.isN)) ρ1) : WE K (tOp (fun x y H Q => y = V.non ∧ Q (.bl (!decide (x = .non))) H) ta (tC .non)) ρ F :=
  we_op (h.mono fun x ρ1 q => we_non fun B H v u s r1 r2 Q k => ⟨rnon r2, by rw [isN_of r1]; exact k _ _ B H q (Gr.refl s) (.bl _)⟩)
/-! ### chains -/
theorem we_chain {r r' : R2} {ta tb tc : TE} {F : D → List SD → Prop}
    (h : WE K ta ρ fun x ρ1 => WE K tb ρ1 fun y ρ2 => OpD K r x y fun d => ∃ b, d = .bl b ∧ (b = true → WE K tc ρ2 fun z ρ3 => OpD K r' y z fun e => F e ρ3) ∧ (b = false → F (.bl false) ρ2)) : WE K (tChain r r' ta tb tc) ρ F :=
  fun P B0 H0 B H σ S Q k => h P B0 H0 B H σ S _ fun v x ρ1 B1 H1 h1 S1 s1 r1 => h1 P B0 H0 B1 H1 σ S1 _ fun u y ρ2 B2 H2 h2 S2 s2 r2 => by
    refine h2 B2 H2 v u S2.le (r1.mono s2.bb) r2 _ fun w d B3 H3 ⟨b, e, f1, f2⟩ g r3 => ?_
    subst e
    refine ⟨b, rbl r3, ?_⟩
    have S3 := S2.step g
    cases b with
    | true =>
      refine iteT (f1 rfl P B0 H0 B3 H3 σ S3 _ fun w2 z ρ3 B4 H4 h4 S4 s4 r4 => ?_)
      exact h4 B4 H4 u w2 S4.le ((r2.mono g.bb).mono s4.bb) r4 Q fun w5 e5 B5 H5 f5 g5 r5 => k w5 e5 ρ3 B5 H5 f5 (S4.step g5) ((((s1.trans s2).trans (Ev.pure g)).trans s4).trans (Ev.pure g5)) r5
    | false => exact iteF (k _ _ ρ2 B3 H3 (f2 rfl) S3 ((s1.trans s2).trans (Ev.pure g)) (.bl false))
/-! ### tests -/
theorem wt_test {te : TE} {F : Bool → List SD → Prop} (h : WE K te ρ fun x ρ1 => ∃ b, x = .bl b ∧ F b ρ1) : WT K (tTest te) ρ F :=
  fun P B0 H0 B H σ S Q k => h P B0 H0 B H σ S _ fun v d ρ' B' H' ⟨b, e, f⟩ S' s r => by
    subst e
    exact ⟨b, rbl r, k b ρ' B' H' f S' s⟩
theorem wt_B {te : TE} {F : Bool → List SD → Prop} (h : WE K te ρ fun x ρ1 => ∃ b, x = .bl b ∧ F b ρ1) : WT K (tB te) ρ F :=
  fun P B0 H0 B H σ S Q k => h P B0 H0 B H σ S _ fun v d ρ' B' H' ⟨b, e, f⟩ S' s r => by
    subst e
    exact ⟨b, rbl r, k b ρ' B' H' f S' s⟩
theorem wt_and {t u : TT} {F : Bool → List SD → Prop} (h : WT K t ρ fun b ρ1 => (b = true → WT K u ρ1 F) ∧ (b = false → F false ρ1)) : WT K (tAnd t u) ρ F :=
  fun P B0 H0 B H σ S Q k => h P B0 H0 B H σ S _ fun b ρ' B' H' ⟨f1, f2⟩ S' s => by
    cases b with
    | true => exact iteT (f1 rfl P B0 H0 B' H' σ S' Q fun b ρ2 B2 H2 f S2 s2 => k b ρ2 B2 H2 f S2 (s.trans s2))
    | false => exact iteF (k false ρ' B' H' (f2 rfl) S' s)
theorem wt_or {t u : TT} {F : Bool → List SD → Prop} (h : WT K t ρ fun b ρ1 => (b = false → WT K u ρ1 F) ∧ (b = true → F true ρ1)) : WT K (tOr t u) ρ F :=
  fun P B0 H0 B H σ S Q k => h P B0 H0 B H σ S _ fun b ρ' B' H' ⟨f1, f2⟩ S' s => by
    cases b with
    | false => exact iteF (f1 rfl P B0 H0 B' H' σ S' Q fun b ρ2 B2 H2 f S2 s2 => k b ρ2 B2 H2 f S2 (s.trans s2))
    | true => exact iteT (k true ρ' B' H' (f2 rfl) S' s)
theorem wt_not {t : TT} {F : Bool → List SD → Prop} (h : WT K t ρ fun b ρ1 => F (!b) ρ1) : WT K (tNot t) ρ F :=
  fun P B0 H0 B H σ S Q k => h P B0 H0 B H σ S _ fun b ρ' B' H' f S' s => k _ ρ' B' H' f S' s
theorem WT.mono {t : TT} {F G : Bool → List SD → Prop} (h : WT K t ρ F) (q : ∀ d ρ', F d ρ' → G d ρ') : WT K t ρ G :=
  fun P B0 H0 B H σ S Q k => h P B0 H0 B H σ S Q fun d ρ' B' H' f => k d ρ' B' H' (q _ _ f)
theorem we_if {t : TT} {ta tb : TE} {F : D → List SD → Prop} (h : WT K t ρ fun b ρ1 => (b = true → WE K ta ρ1 F) ∧ (b = false → WE K tb ρ1 F)) : WE K (tIf t ta tb) ρ F :=
  fun P B0 H0 B H σ S Q k => h P B0 H0 B H σ S _ fun b ρ' B' H' ⟨f1, f2⟩ S' s => by
    cases b with
    | true => exact iteT (f1 rfl P B0 H0 B' H' σ S' Q fun v d ρ2 B2 H2 f S2 s2 => k v d ρ2 B2 H2 f S2 (s.trans s2))
    | false => exact iteF (f2 rfl P B0 H0 B' H' σ S' Q fun v d ρ2 B2 H2 f S2 s2 => k v d ρ2 B2 H2 f S2 (s.trans s2))
theorem we_andV {ta tb : TE} {F : D → List SD → Prop} (h : WE K ta ρ fun x ρ1 => ∃ b, x = .bl b ∧ (b = true → WE K tb ρ1 F) ∧ (b = false → F (.bl false) ρ1)) : WE K (tAndV ta tb) ρ F :=
  fun P B0 H0 B H σ S Q k => h P B0 H0 B H σ S _ fun v x ρ' B' H' ⟨b, e, f1, f2⟩ S' s r => by
    subst e
    refine ⟨b, rbl r, ?_⟩
    cases b with
    | true => exact iteT (f1 rfl P B0 H0 B' H' σ S' Q fun v d ρ2 B2 H2 f S2 s2 => k v d ρ2 B2 H2 f S2 (s.trans s2))
    | false => exact iteF (k _ _ ρ' B' H' (f2 rfl) S' s (.bl false))
theorem we_orV {ta tb : TE} {F : D → List SD → Prop} (h : WE K ta ρ fun x ρ1 => ∃ b, x = .bl b ∧ (b = true → F (.bl true) ρ1) ∧ (b = false → WE K tb ρ1 F)) : WE K (tOrV ta tb) ρ F :=
  fun P B0 H0 B H σ S Q k => h P B0 H0 B H σ S _ fun v x ρ' B' H' ⟨b, e, f1, f2⟩ S' s r => by
    subst e
    refine ⟨b, rbl r, ?_⟩
    cases b with
    | false => exact iteF (f2 rfl P B0 H0 B' H' σ S' Q fun v d ρ2 B2 H2 f S2 s2 => k v d ρ2 B2 H2 f S2 (s.trans s2))
    | true => exact iteT (k _ _ ρ' B' H' (f1 rfl) S' s (.bl true))
theorem we_notV {ta : TE} {F : D → List SD → Prop} (h : WE K ta ρ fun x ρ1 => ∃ b, x = .bl b ∧ F (.bl (!b)) ρ1) : WE K (tNotV ta) ρ F :=
  fun P B0 H0 B H σ S Q k => h P B0 H0 B H σ S _ fun v x ρ' B' H' ⟨b, e, f⟩ S' s r => by
    subst e
    exact ⟨b, rbl r, k _ _ ρ' B' H' f S' s (.bl _)⟩
/-! ### arguments, displays -/
theorem wa_nil {F : List D → List SD → Prop} (q : F [] ρ) : WA K tNil ρ F := fun P B0 H0 B H σ S Q k => k [] [] ρ B H q S (Ev.refl S.le) .nil
theorem wa_cons {te : TE} {ta : TA} {F : List D → List SD → Prop} (h : WE K te ρ fun x ρ1 => WA K ta ρ1 fun xs ρ2 => F (x :: xs) ρ2) : WA K (tCons te ta) ρ F :=
  fun P B0 H0 B H σ S Q k => h P B0 H0 B H σ S _ fun v x ρ1 B1 H1 h1 S1 s1 r1 => h1 P B0 H0 B1 H1 σ S1 _ fun vs xs ρ2 B2 H2 h2 S2 s2 r2 =>
    k _ _ ρ2 B2 H2 h2 S2 (s1.trans s2) (.cons (r1.mono s2.bb) r2)
theorem WA.mono {ta : TA} {F G : List D → List SD → Prop} (h : WA K ta ρ F) (q : ∀ d ρ', F d ρ' → G d ρ') : WA K ta ρ G :=
  fun P B0 H0 B H σ S Q k => h P B0 H0 B H σ S Q fun v d ρ' B' H' f => k v d ρ' B' H' (q _ _ f)
theorem we_tup {ta : TA} {F : D → List SD → Prop} (h : WA K ta ρ fun xs ρ1 => xs.length ≤ sizeLine ∧ F (.tup xs) ρ1) : WE K (tTup ta) ρ F :=
  fun P B0 H0 B H σ S Q k => h P B0 H0 B H σ S _ fun vs xs ρ1 B1 H1 h1 S1 s1 r1 => by
    refine ⟨by rw [r1.length]; exact h1.1, fun p hp => ?_⟩
    have hb := S1.bfree hp
    exact k _ _ ρ1 (upd B1 p _) _ h1.2 (S1.new _ hp) (s1.trans (Ev.new S1.le hp)) (.tup (SqT.of upd_same) (r1.mono (same_new hb)))
theorem we_lst {ta : TA} {F : D → List SD → Prop} (h : WA K ta ρ fun xs ρ1 => xs.length ≤ sizeLine ∧ F (.lst xs) ρ1) : WE K (tLst ta) ρ F :=
  fun P B0 H0 B H σ S Q k => h P B0 H0 B H σ S _ fun vs xs ρ1 B1 H1 h1 S1 s1 r1 => by
    refine ⟨by rw [r1.length]; exact h1.1, fun p hp => ?_⟩
    have hb := S1.bfree hp
    exact k _ _ ρ1 (upd B1 p _) _ h1.2 (S1.new _ hp) (s1.trans (Ev.new S1.le hp)) (.lst upd_same (r1.mono (same_new hb)))
/-! ### statements -/
theorem ws_next {E : Out} (q : E.nx ρ) : WS K tNext ρ E := fun P B0 H0 B H σ S D k1 k2 k3 k4 => k1 ρ B H σ q S (Same.refl _)
theorem ws_never {E : Out} (q : False) : WS K tNever ρ E := q.elim
theorem ws_seq {t u : TS} {E : Out} (h : WS K t ρ { E with nx := fun ρ1 => WS K u ρ1 E }) : WS K (tSeq t u) ρ E :=
  fun P B0 H0 B H σ S D k1 k2 k3 k4 => h P B0 H0 B H σ S { D with nx := u D }
    (fun ρ1 B1 H1 σ1 h1 S1 s1 => h1 P B0 H0 B1 H1 σ1 S1 D (fun ρ' B' H' σ' f S' s => k1 ρ' B' H' σ' f S' (s1.trans s)) (fun v d ρ' B' H' σ' f S' s r => k2 v d ρ' B' H' σ' f S' (s1.trans s) r)
      (fun ρ' B' H' σ' f S' s => k3 ρ' B' H' σ' f S' (s1.trans s)) (fun ρ' B' H' σ' f S' s => k4 ρ' B' H' σ' f S' (s1.trans s))) k2 k3 k4
theorem ws_ret {te : TE} {E : Out} (h : WE K te ρ E.rt) : WS K (tRet te) ρ E :=
  fun P B0 H0 B H σ S D k1 k2 k3 k4 => h P B0 H0 B H σ S _ fun v d ρ' B' H' f S' s r => k2 v d ρ' B' H' σ f S' s.bb r
theorem ws_retN {E : Out} (h : E.rt .non ρ) : WS K tRetN ρ E :=
  fun P B0 H0 B H σ S D k1 k2 k3 k4 => k2 _ _ ρ B H σ h S (Same.refl _) .non
theorem ws_break {E : Out} (h : E.bk ρ) : WS K tBreak ρ E := fun P B0 H0 B H σ S D k1 k2 k3 k4 => k3 ρ B H σ h S (Same.refl _)
theorem ws_cont {E : Out} (h : E.ct ρ) : WS K tCont ρ E := fun P B0 H0 B H σ S D k1 k2 k3 k4 => k4 ρ B H σ h S (Same.refl _)
theorem ws_drop {te : TE} {E : Out} (h : WE K te ρ fun _ ρ1 => E.nx ρ1) : WS K (tDrop te) ρ E :=
  fun P B0 H0 B H σ S D k1 k2 k3 k4 => h P B0 H0 B H σ S _ fun v d ρ' B' H' f S' s r => k1 ρ' B' H' σ f S' s.bb
theorem ws_if {t : TT} {ts us : TS} {E : Out} (h : WT K t ρ fun b ρ1 => (b = true → WS K ts ρ1 E) ∧ (b = false → WS K us ρ1 E)) : WS K (tIfS t ts us) ρ E :=
  fun P B0 H0 B H σ S D k1 k2 k3 k4 => h P B0 H0 B H σ S _ fun b ρ1 B1 H1 ⟨f1, f2⟩ S1 s1 => by
    cases b with
    | true => exact iteT (f1 rfl P B0 H0 B1 H1 σ S1 D (fun ρ' B' H' σ' f S' s => k1 ρ' B' H' σ' f S' (s1.bb.trans s)) (fun v d ρ' B' H' σ' f S' s r => k2 v d ρ' B' H' σ' f S' (s1.bb.trans s) r)
      (fun ρ' B' H' σ' f S' s => k3 ρ' B' H' σ' f S' (s1.bb.trans s)) (fun ρ' B' H' σ' f S' s => k4 ρ' B' H' σ' f S' (s1.bb.trans s)))
    | false => exact iteF (f2 rfl P B0 H0 B1 H1 σ S1 D (fun ρ' B' H' σ' f S' s => k1 ρ' B' H' σ' f S' (s1.bb.trans s)) (fun v d ρ' B' H' σ' f S' s r => k2 v d ρ' B' H' σ' f S' (s1.bb.trans s) r)
      (fun ρ' B' H' σ' f S' s => k3 ρ' B' H' σ' f S' (s1.bb.trans s)) (fun ρ' B' H' σ' f S' s => k4 ρ' B' H' σ' f S' (s1.bb.trans s)))
/-! ### targets -/
/-- a store: no slot has become one that may change, those that may hold what they held -/
def ShG (ρ : List SD) (σ : L2.St) (ρ' : List SD) (σ' : L2.St) : Prop := ∀ (j : Nat) s', ρ'[j]? = some s' → s'.mu = true → ρ[j]? = some s' ∧ σ'[j]? = σ[j]?
theorem ShG.refl (ρ : List SD) (σ : L2.St) : ShG ρ σ ρ σ := fun j s h m => ⟨h, rfl⟩
theorem ShG.trans {ρ ρ1 ρ2 : List SD} {σ σ1 σ2 : L2.St} (a : ShG ρ σ ρ1 σ1) (b : ShG ρ1 σ1 ρ2 σ2) : ShG ρ σ ρ2 σ2 := fun j s h m => by
  obtain ⟨h1, e1⟩ := b j s h m
  obtain ⟨h2, e2⟩ := a j s h1 m
  exact ⟨h2, e1.trans e2⟩
theorem ShG.put {i : Nat} {x : D} {v : Option V} {σ : L2.St} : ShG ρ σ (ρ.set i (.d x)) (σ.set i v) := fun j s h m => by
  have n : i ≠ j := fun e => by
    subst e
    obtain ⟨e2, _⟩ := set_same_of h
    rw [e2] at m; cases m
  rw [get_set_ne n] at h
  exact ⟨h, get_set_ne n⟩
theorem ShG.mus {ρ' : List SD} {σ σ' : L2.St} (a : ShG ρ σ ρ' σ') {b : Addr} (h : Mus ρ' σ' b) : Mus ρ σ b := by
  rcases h with ⟨j, s, e, m, q⟩ | h
  · obtain ⟨e', q'⟩ := a j s e m
    exact .inl ⟨j, s, e', m, q' ▸ q⟩
  · exact .inr h
/-- g stores a datum x -/
def WG (K : Fg) (g : TG) (x : D) (ρ : List SD) (F : List SD → Prop) : Prop :=
  ∀ P B0 H0 B H σ v, ST K P B0 H0 ρ B H σ → R K B v x → ∀ Q : L2.St → Hp → Prop, (∀ ρ' σ', F ρ' → ST K P B0 H0 ρ' B H σ' → ShG ρ σ ρ' σ' → Q σ' H) → g v σ H Q
def WGs (K : Fg) (g : TGs) (xs : List D) (ρ : List SD) (F : List SD → Prop) : Prop :=
  ∀ P B0 H0 B H σ vs, ST K P B0 H0 ρ B H σ → RA K B vs xs → ∀ Q : L2.St → Hp → Prop, (∀ ρ' σ', F ρ' → ST K P B0 H0 ρ' B H σ' → ShG ρ σ ρ' σ' → Q σ' H) → g vs σ H Q
theorem wg_name {i : Nat} {x : D} {F : List SD → Prop} (q : F (ρ.set i (.d x))) : WG K (gName i) x ρ F := fun P B0 H0 B H σ v S r Q k => k _ _ q (S.put r) ShG.put
theorem wgs_nil {F : List SD → Prop} (q : F ρ) : WGs K gNil [] ρ F := fun P B0 H0 B H σ vs S r Q k => by
  cases r
  exact ⟨rfl, k ρ σ q S (ShG.refl _ _)⟩
theorem wgs_cons {g : TG} {gs : TGs} {x : D} {xs : List D} {F : List SD → Prop} (h : WG K g x ρ fun ρ1 => WGs K gs xs ρ1 F) : WGs K (gCons g gs) (x :: xs) ρ F := fun P B0 H0 B H σ vs S r Q k => by
  cases r with
  | cons r1 r2 => exact ⟨_, _, rfl, h P B0 H0 B H σ _ S r1 _ fun ρ1 σ1 h1 S1 g1 => h1 P B0 H0 B H σ1 _ S1 r2 Q fun ρ2 σ2 h2 S2 g2 => k ρ2 σ2 h2 S2 (g1.trans g2)⟩
theorem wg_tup {n : Nat} {gs : TGs} {xs : List D} {F : List SD → Prop} (e : xs.length = n) (h : WGs K gs xs ρ F) : WG K (gTup K n gs) (.tup xs) ρ F := fun P B0 H0 B H σ v S r Q k => by
  cases r with
  | tup h1 a1 => exact ⟨_, _, rfl, same_t S.le h1, by rw [a1.length]; exact e, h P B0 H0 B H σ _ S a1 Q k⟩
theorem wg_unl {n : Nat} {gs : TGs} {xs : List D} {F : List SD → Prop} (e : xs.length = n) (h : WGs K gs xs ρ F) : WG K (gUnl K n gs) (.lst xs) ρ F := fun P B0 H0 B H σ v S r Q k => by
  cases r with
  | lst h1 a1 => exact ⟨_, _, rfl, SqL.of (S.le _ _ h1), by rw [a1.length]; exact e, h P B0 H0 B H σ _ S a1 Q k⟩
theorem ws_asg {te : TE} {g : TG} {E : Out} (h : WE K te ρ fun x ρ1 => WG K g x ρ1 E.nx) : WS K (tAsg te g) ρ E :=
  fun P B0 H0 B H σ S D k1 k2 k3 k4 => h P B0 H0 B H σ S _ fun v x ρ1 B1 H1 h1 S1 s1 r1 => h1 P B0 H0 B1 H1 σ v S1 r1 _ fun ρ' σ' f S' _ => k1 ρ' B1 H1 σ' f S' s1.bb
/-- a, b = .. -/
theorem ws_par {i j : Nat} {ta : TA} {E : Out} (h : WA K ta ρ fun xs ρ1 => ∃ x y, xs = [x, y] ∧ E.nx ((ρ1.set i (.d x)).set j (.d y))) : WS K (tPar i j ta) ρ E :=
  fun P B0 H0 B H σ S D k1 k2 k3 k4 => h P B0 H0 B H σ S _ fun vs xs ρ1 B1 H1 ⟨x, y, e, f⟩ S1 s1 r1 => by
    subst e
    cases r1 with
    | cons r1 r2 =>
      cases r2 with
      | cons r2 r3 =>
        cases r3
        exact ⟨_, _, rfl, k1 _ B1 H1 _ f ((S1.put r1).put r2) s1.bb⟩
/-- a, b, c = .. -/
theorem ws_par3 {i j l : Nat} {ta : TA} {E : Out} (h : WA K ta ρ fun xs ρ1 => ∃ x y z, xs = [x, y, z] ∧ E.nx (((ρ1.set i (.d x)).set j (.d y)).set l (.d z))) : WS K (tPar3 i j l ta) ρ E :=
  fun P B0 H0 B H σ S D k1 k2 k3 k4 => h P B0 H0 B H σ S _ fun vs xs ρ1 B1 H1 ⟨x, y, z, e, f⟩ S1 s1 r1 => by
    subst e
    cases r1 with
    | cons r1 r2 =>
      cases r2 with
      | cons r2 r3 =>
        cases r3 with
        | cons r3 r4 =>
          cases r4
          exact ⟨_, _, _, rfl, k1 _ B1 H1 _ f (((S1.put r1).put r2).put r3) s1.bb⟩
end
end Lw

set_option Elab.async false
set_option linter.all false
set_option maxRecDepth 100000
set_option maxHeartbeats 4000000
namespace Lw
open PySem PySem.Spec PyProof.Rows L2
variable [Tabl] [Exn]
/-! ### defs: what they promise -/
/-- a def of n arguments that changes nothing: S tells, of the data of the arguments, what may be wanted of the answer -/
def pureSp (K : Fg) (n : Nat) (S : List D → (D → Prop) → Prop) : Sp := fun vs H Q _ =>
  ∃ B ds F, Same B H ∧ TbOk B H ∧ RA K B vs ds ∧ ds.length = n ∧ S ds F ∧ ∀ v d B' H', F d → Gr Non B H B' H' → R K B' v d → Q v H'
abbrev LIM : Nat := 1000000000
/-- a def that draws of the pot, its first argument, c times at most -/
def potSp (K : Fg) (n c : Nat) (S : List D → (D → Prop) → Prop) : Sp := fun vs H Q _ =>
  ∃ a ws B ds F m, vs = .ref a :: ws ∧ Same B H ∧ TbOk B H ∧ B a = none ∧ PotAt H a m ∧ m + c ≤ LIM ∧ RA K B ws ds ∧ ds.length = n ∧ S ds F ∧
    ∀ v d B' H', F d → Gr (One a) B H B' H' → B' a = none → PotAt H' a (m + c) → R K B' v d → Q v H'
/-- the name x stands for a def that keeps its promise -/
def Cal (P : Program) (w : World) (K : Fg) (mg : Str → Option Value) (base : Heap) (x : Str) (k : Nat) (ps : List Str) (sp : Sp) : Prop :=
  ∃ f fd, mg x = some (.ref f) ∧ PySem.W.keepIn K (.ref f) = true ∧ Binds K fd ps [] ∧ (∀ (j : Nat) (ks : List Str), j ≤ ps.length → ps.drop j = ks → KBn K fd ps (ps.take j).length ks (fun us ws => us ++ ws) (fun vs zs => vs ++ zs)) ∧ FnOk P w K mg base CX0 k f fd ps sp
section
variable {X : Cx} {x : Str} {k : Nat} {ps : List Str} {sp : Sp} {e : Expr} {es : List Expr} {t tk : TA} {p pos : Pos} {kws : List Keyword}
theorem pe_callF (G : Cal X.prog X.w X.K X.mg X.base x k ps sp) (hr : Room k X.A) (ha : PA X (e :: es) t) (hg : Gl X x := by rfl) (hdb : (x == ("__debug__" : Str)) = false := by decide)
    (he : starEach (e :: es) X.env = (false, eval e X.env) :: starEach es X.env := by rfl) (hpl : (backTo pos (starEach es X.env)).any (·.1) = false := by rfl) : PE X (.Call (.Name x p) (e :: es) [] pos) (tCall sp [] E0 t) := by
  obtain ⟨f, fd, hm, hk, hb, _, F⟩ := G
  exact pe_call F hr hg hm hk hb .nil pass0 ha hdb he hpl
theorem pe_callF0 (G : Cal X.prog X.w X.K X.mg X.base x k ps sp) (hr : Room k X.A) (hg : Gl X x := by rfl) (hdb : (x == ("__debug__" : Str)) = false := by decide) : PE X (.Call (.Name x p) [] [] pos) (tCall sp [] E0 tNil) := by
  obtain ⟨f, fd, hm, hk, hb, _, F⟩ := G
  exact pe_call0 F hr hg hm hk hb .nil pass0 hdb
/-- f(.., k = v, ..), the keywords the last parameters, as they stand -/
theorem pe_callFk (j : Nat) (hj : j ≤ ps.length) (G : Cal X.prog X.w X.K X.mg X.base x k ps sp) (hr : Room k X.A) (ha : PA X (e :: es) t) (hkw : PK X kws tk) (hg : Gl X x := by rfl)
    (hall : (backToKw pos (keywordEach kws X.env)).all (·.1.isSome) = true := by rfl) (hks : (backToKw pos (keywordEach kws X.env)).filterMap (·.1) = ps.drop j := by rfl)
    (hdb : (x == ("__debug__" : Str)) = false := by decide) (he : starEach (e :: es) X.env = (false, eval e X.env) :: starEach es X.env := by rfl)
    (hpl : ((backTo pos (starEach (e :: es) X.env)).any (·.1) || (backToKw pos (keywordEach kws X.env)).any (·.1.isNone)) = false := by rfl) :
    PE X (.Call (.Name x p) (e :: es) kws pos) (tCallN (ps.take j).length (ps.drop j).length sp (fun vs zs => vs ++ zs) E0 t tk) := by
  obtain ⟨f, fd, hm, hk, _, hb, F⟩ := G
  exact pe_callN F hr hg hm hk (hb j _ hj rfl) pass0 ha hkw hall hks hdb he hpl
theorem pe_callFk0 (G : Cal X.prog X.w X.K X.mg X.base x k ps sp) (hr : Room k X.A) (hkw : PK X kws tk) (hg : Gl X x := by rfl)
    (hall : (backToKw pos (keywordEach kws X.env)).all (·.1.isSome) = true := by rfl) (hks : (backToKw pos (keywordEach kws X.env)).filterMap (·.1) = ps := by rfl)
    (hdb : (x == ("__debug__" : Str)) = false := by decide)
    (hpl : ((backTo pos (starEach [] X.env)).any (·.1) || (backToKw pos (keywordEach kws X.env)).any (·.1.isNone)) = false := by rfl) :
    PE X (.Call (.Name x p) [] kws pos) (tCallN 0 ps.length sp (fun vs zs => vs ++ zs) E0 tNil tk) := by
  obtain ⟨f, fd, hm, hk, _, hb, F⟩ := G
  refine ⟨fun pins s σ H Q I h => wpAny_Call_Name_kw (ld_glob I hg hm ?_ hdb)⟩
  refine PySem.W.callWith_KW0 (h₀ := X.base) I.ok.mod.kin hk hall (thn (hkw.run pos pins s σ H _ I h) fun ws s2 q2 => ?_) hpl
  obtain ⟨zs, H2, I2, rz, l1, l2, q3⟩ := q2
  refine ⟨I2.kIn, ?_⟩
  rw [hks]
  exact run_fnN (us := []) (vs := []) F hr (hb 0 ps (Nat.zero_le _) rfl) pass0 I2 .nil rz rfl l2 q3
end
section
variable {P : Program} {w : World} {K : Fg} {mg : Str → Option Value} {base : Heap}
/-- how keywords bind: all parameters plain -/
theorem kbn_of {x qual : Str} {params : Arguments} {body : List Stmt} {scope : Scope} {f : Addr} {fd : FuncData} {ps : List Str} (F : FunD K x qual params body scope [] [] f fd)
    (h : ∀ (kV doc pm : Value) (an : Option Addr) (cdv ct : Value) (j : Nat) (us ws : List Value), j ≤ ps.length → us.length = (ps.take j).length → ws.length = (ps.drop j).length →
      bindArgs (PySem.W.fnOf x qual params body scope .none kV doc pm an cdv ct) ⟨us, (ps.drop j).zip ws⟩ = pure (ps.zip (us ++ ws))) :
    ∀ (j : Nat) (ks : List Str), j ≤ ps.length → ps.drop j = ks → KBn K fd ps (ps.take j).length ks (fun us ws => us ++ ws) (fun vs zs => vs ++ zs) := by
  obtain ⟨oc, od, dV, kV, doc, pm, an, cdv, ct, osl, rfl, lk, hcd, hD, hK⟩ := F.ex
  rcases hD with ⟨_, rfl⟩ | ⟨e, _⟩
  · intro j ks hj e
    subst e
    exact ⟨fun s us ws X l1 l2 => .of_eq (h kV doc pm an cdv ct j us ws hj l1 l2), fun a b => a.append b⟩
  · exact absurd rfl e
/-- the slots at the start -/
def rho (N : List Str) (ds : List D) : List SD := ds.map .d ++ List.replicate (N.length - ds.length) .un
def rhoP (N : List Str) (m : Nat) (ds : List D) : List SD := .pot m :: (ds.map .d ++ List.replicate (N.length - (ds.length + 1)) .un)
theorem start_get {N : List Str} {vs : List V} {i : Nat} : (start N vs)[i]? = if i < vs.length then (vs[i]?).map some else if i < N.length then some none else none := by
  unfold L2.start
  by_cases h : i < vs.length
  · rw [if_pos h, List.getElem?_append_left (by simpa using h), List.getElem?_map]
  · rw [if_neg h, List.getElem?_append_right (by simpa using h)]
    rw [List.getElem?_replicate]
    simp only [List.length_map]
    by_cases h2 : i < N.length
    · rw [if_pos h2, if_pos (by omega)]
    · rw [if_neg h2, if_neg (by omega)]
theorem start_len {N : List Str} {vs : List V} (h : vs.length ≤ N.length) : (start N vs).length = N.length := by
  unfold L2.start
  simp; omega
theorem rho_get {N : List Str} {ds : List D} {i : Nat} {s : SD} (h : (rho N ds)[i]? = some s) : (∃ d, ds[i]? = some d ∧ s = .d d) ∨ s = .un := by
  unfold rho at h
  by_cases hi : i < ds.length
  · rw [List.getElem?_append_left (by simpa using hi), List.getElem?_map] at h
    left
    cases e : ds[i]? with
    | none => rw [e] at h; cases h
    | some d => rw [e] at h; exact ⟨d, rfl, (Option.some.inj h).symm⟩
  · rw [List.getElem?_append_right (by simpa using hi), List.getElem?_replicate] at h
    right
    split at h
    · exact (Option.some.inj h).symm
    · cases h
theorem rho_len {N : List Str} {ds : List D} (h : ds.length ≤ N.length) : (rho N ds).length = N.length := by
  unfold rho; simp; omega
theorem st_start {N : List Str} {B H : Hp} {vs : List V} {ds : List D} (hx : ExOk K Non B H) (s : Same B H) (tk : TbOk B H) (r : RA K B vs ds) (hl : ds.length ≤ N.length) : ST K Non B H (rho N ds) B H (start N vs) where
  len := by rw [start_len (by rw [r.length]; exact hl), rho_len hl]
  gr := Gr.refl s
  sl := fun i z h => by
    rcases rho_get h with ⟨d, e, rfl⟩ | rfl
    · obtain ⟨v, e1, r1⟩ := r.get e
      refine ⟨v, ?_, r1⟩
      rw [start_get, if_pos (List.getElem?_eq_some_iff.mp e1).1, e1]
      rfl
    · trivial
  dis := fun i j s t h1 h2 m1 => by
    rcases rho_get h1 with ⟨d, e, q⟩ | q <;> (subst q; cases m1)
  ok := tk
  ex := hx
theorem rhoP_get {N : List Str} {m : Nat} {ds : List D} {i : Nat} {s : SD} (h : (rhoP N m ds)[i]? = some s) : (i = 0 ∧ s = .pot m) ∨ (∃ j d, i = j + 1 ∧ ds[j]? = some d ∧ s = .d d) ∨ s = .un := by
  unfold rhoP at h
  cases i with
  | zero => left; exact ⟨rfl, (Option.some.inj (by simpa using h)).symm⟩
  | succ j =>
    right
    rw [List.getElem?_cons_succ] at h
    by_cases hi : j < ds.length
    · rw [List.getElem?_append_left (by simpa using hi), List.getElem?_map] at h
      left
      cases e : ds[j]? with
      | none => rw [e] at h; cases h
      | some d => rw [e] at h; exact ⟨j, d, rfl, e, (Option.some.inj h).symm⟩
    · rw [List.getElem?_append_right (by simpa using hi), List.getElem?_replicate] at h
      right
      split at h
      · exact (Option.some.inj h).symm
      · cases h
theorem st_startP {N : List Str} {B H : Hp} {a : Addr} {m : Nat} {vs : List V} {ds : List D} (hx : ExOk K (One a) B H) (s : Same B H) (tk : TbOk B H) (hb : B a = none) (hp : PotAt H a m) (r : RA K B vs ds) (hl : ds.length + 1 ≤ N.length) : ST K (One a) B H (rhoP N m ds) B H (start N (.ref a :: vs)) where
  len := by
    rw [start_len (by simp only [List.length_cons]; rw [r.length]; exact hl)]
    unfold rhoP; simp; omega
  gr := Gr.refl s
  sl := fun i z h => by
    rcases rhoP_get h with ⟨rfl, rfl⟩ | ⟨j, d, rfl, e, rfl⟩ | rfl
    · exact ⟨a, rfl, .inl rfl, hb, hp⟩
    · obtain ⟨v, e1, r1⟩ := r.get e
      refine ⟨v, ?_, r1⟩
      rw [start_get, if_pos (by simpa using (List.getElem?_eq_some_iff.mp e1).1), List.getElem?_cons_succ, e1]
      rfl
    · trivial
  dis := fun i j s t h1 h2 m1 m2 _ => by
    have q : ∀ {l : Nat} {u : SD}, (rhoP N m ds)[l]? = some u → u.mu = true → l = 0 := fun {l u} h m1 => by
      rcases rhoP_get h with ⟨z, _⟩ | ⟨_, _, _, _, z⟩ | z
      · exact z
      · subst z; cases m1
      · subst z; cases m1
    rw [q h1 m1, q h2 m2]
  ok := tk
  ex := hx
/-- what stands behind a pure def's body -/
abbrev outP (F : D → Prop) : Out := { nx := fun _ => F .non, rt := fun d _ => F d }
abbrev outQ (F : D → Prop) (i n : Nat) : Out := { nx := fun ρ => F .non ∧ ∃ m, ρ[i]? = some (.pot m) ∧ m ≤ n, rt := fun d ρ => F d ∧ ∃ m, ρ[i]? = some (.pot m) ∧ m ≤ n }
omit [Exn] in
theorem fn_pure {name qual : Str} {params : Arguments} {body : List Stmt} {scope : Scope} {f : Addr} {fd : FuncData} {N ps : List Str} {k n : Nat} {S : List D → (D → Prop) → Prop}
    (F : FunD K name qual params body scope [] [] f fd) (sc : FnScope N ps scope) (hn : n = ps.length) (hN : n ≤ N.length)
    (hb : ∀ (cdv : Value) (A : Around) (outer : List Env) (s : Shared) (H : Hp) (E : XK), Room k (A.deeper (envOfC qual scope s.heap.objs.size f cdv)) →
      ∃ t, PSs (cxOf CX0 P w K mg base N qual scope f cdv A outer s H E).nox body t ∧ ∀ ds G, ds.length = n → S ds G → ∀ [Exn], WS K t (rho N ds) (outP G)) :
    FnOk P w K mg base CX0 (k + 1) f fd ps (pureSp K n S) := by
  refine F.ok sc (fun vs H Q E h => ?_) (fun cdv A outer s H vs Q E hr h => ?_)
  · obtain ⟨B, ds, G, h1, _, h2, h3, _⟩ := h
    rw [h2.length, h3, hn]
  · obtain ⟨t, hp, hw⟩ := hb cdv A outer s H E hr
    refine ⟨t, hp.nox, ?_⟩
    obtain ⟨B, ds, G, h1, tk, h2, h3, h4, h5⟩ := h
    letI := exn0
    refine hw ds G h3 h4 Non B H B H (start N vs) (st_start exOk0 h1 tk h2 (by rw [h3]; exact hN)) _ (fun ρ' B' H' σ' f S' s' => ?_) (fun v d ρ' B' H' σ' f S' s' r => ?_) (fun _ _ _ _ z => z.elim) (fun _ _ _ _ z => z.elim)
    · exact h5 _ _ B' H' f S'.gr .non
    · exact h5 v d B' H' f S'.gr r
omit [Exn] in
theorem fn_pot {name qual : Str} {params : Arguments} {body : List Stmt} {scope : Scope} {f : Addr} {fd : FuncData} {N ps : List Str} {k n c : Nat} {S : List D → (D → Prop) → Prop}
    (F : FunD K name qual params body scope [] [] f fd) (sc : FnScope N ps scope) (hn : n + 1 = ps.length) (hN : n + 1 ≤ N.length)
    (hb : ∀ (cdv : Value) (A : Around) (outer : List Env) (s : Shared) (H : Hp) (E : XK), Room k (A.deeper (envOfC qual scope s.heap.objs.size f cdv)) →
      ∃ t, PSs (cxOf CX0 P w K mg base N qual scope f cdv A outer s H E).nox body t ∧ ∀ m ds G, m + c ≤ LIM → ds.length = n → S ds G → ∀ [Exn], WS K t (rhoP N m ds) (outQ G 0 (m + c))) :
    FnOk P w K mg base CX0 (k + 1) f fd ps (potSp K n c S) := by
  refine F.ok sc (fun vs H Q E h => ?_) (fun cdv A outer s H vs Q E hr h => ?_)
  · obtain ⟨a, ws, B, ds, G, m, rfl, h1, _, h2, h3, h4, h5, h6, _⟩ := h
    rw [List.length_cons, h5.length, h6, hn]
  · obtain ⟨t, hp, hw⟩ := hb cdv A outer s H E hr
    refine ⟨t, hp.nox, ?_⟩
    obtain ⟨a, ws, B, ds, G, m, rfl, h1, tk, h2, h3, h4, h5, h6, h7, h8⟩ := h
    letI := exn0
    have key : ∀ {v : V} {d : D} {ρ' : List SD} {B' H' : Hp} {σ' : L2.St}, G d → (∃ m', ρ'[0]? = some (SD.pot m') ∧ m' ≤ m + c) → ST K (One a) B H ρ' B' H' σ' → R K B' v d → Q v H' := fun g z S' r => by
      obtain ⟨m', e, hm⟩ := z
      obtain ⟨o, _, a', _, e3, e4, e5⟩ := S'.slot e
      have ea : a' = a := e3.resolve_right (by
        obtain ⟨x, y, u, q, _⟩ := id e5
        exact S'.ok.not q (fun ps y => by cases y))
      subst ea
      exact h8 _ _ _ _ g S'.gr e4 (e5.mono hm) r
    refine hw m ds G h4 h6 h7 (One a) B H B H (start N (.ref a :: ws)) (st_startP exOk0 h1 tk h2 h3 h5 (by rw [h6]; exact hN)) _ (fun ρ' B' H' σ' f S' s' => ?_) (fun v d ρ' B' H' σ' f S' s' r => ?_) (fun _ _ _ _ z => z.elim) (fun _ _ _ _ z => z.elim)
    · exact key f.1 f.2 S' .non
    · exact key f.1 f.2 S' r
end
/-! ### calls -/
section
variable {K : Fg} {ρ : List SD}
theorem we_call {n : Nat} {S : List D → (D → Prop) → Prop} {t : TA} {F : D → List SD → Prop} (h : WA K t ρ fun ds ρ1 => ds.length = n ∧ S ds fun d => F d ρ1) : WE K (tCall (pureSp K n S) [] E0 t) ρ F :=
  fun P B0 H0 B H σ Z Q k => h P B0 H0 B H σ Z _ fun vs ds ρ1 B1 H1 ⟨l, f⟩ S1 s1 r1 => by
    refine ⟨B1, ds, _, S1.le, S1.ok, by rw [List.append_nil]; exact r1, l, f, fun v d B2 H2 g q r => k v d ρ1 B2 H2 g (S1.step q) (s1.trans (Ev.pure q)) r⟩
theorem we_callN {n a b : Nat} {S : List D → (D → Prop) → Prop} {t tk : TA} {F : D → List SD → Prop} (h : WA K t ρ fun ds ρ1 => WA K tk ρ1 fun es ρ2 => ds.length = a ∧ es.length = b ∧ (ds ++ es).length = n ∧ S (ds ++ es) fun d => F d ρ2) :
    WE K (tCallN a b (pureSp K n S) (fun vs zs => vs ++ zs) E0 t tk) ρ F :=
  fun P B0 H0 B H σ Z Q k => h P B0 H0 B H σ Z _ fun vs ds ρ1 B1 H1 h1 S1 s1 r1 => h1 P B0 H0 B1 H1 σ S1 _ fun us es ρ2 B2 H2 ⟨l1, l2, l, f⟩ S2 s2 r2 => by
    refine ⟨by rw [r1.length]; exact l1, by rw [r2.length]; exact l2, B2, ds ++ es, _, S2.le, S2.ok, (r1.mono s2.bb).append r2, l, f, fun v d B3 H3 g q r => k v d ρ2 B3 H3 g (S2.step q) ((s1.trans s2).trans (Ev.pure q)) r⟩
/-- what stands at a, in the slot i, has changed by a call -/
theorem ST.called {a : Addr} {P : Addr → Prop} {B0 H0 B H B' H' : Hp} {σ : L2.St} {i : Nat} {s s' : SD} (S : ST K P B0 H0 ρ B H σ) (hi : ρ[i]? = some s) (hm : s.mu = true) (hm' : s'.mu = true) (ha : σ[i]? = some (some (.ref a))) (g : Gr (One a) B H B' H') (hb : B' a = none)
    (hn : Sl K P H0 B' H' (some (.ref a)) s') : ST K P B0 H0 (ρ.set i s') B' H' σ where
  len := by rw [List.length_set, S.len]
  gr := by
    obtain ⟨w, e1, z⟩ := S.slot hi
    obtain ⟨b, e2, h0, hb1, hh⟩ := z.at_ hm
    rw [ha] at e1
    cases e1
    cases e2
    rcases h0 with h0 | h0
    · refine ⟨fun c o n e => g.hh c o (fun q => ?_) (S.gr.hh c o n e), S.gr.bb.trans g.bb, g.le, fun c o e => ?_, fun c n e => ?_, S.gr.tp, fun y => g.kp (S.gr.kp y)⟩
      · rcases q with q | q
        · rw [q] at e; rw [h0] at e; cases e
        · exact n (S.gr.tp c q)
      · rcases g.fr c o e with q | q | q
        · exact S.gr.fr c o q
        · right
          cases q2 : H0 c with
          | none => exact .inl (.inl rfl)
          | some u =>
            by_cases n : P c
            · exact .inr n
            · rw [S.gr.hh c u n q2] at q
              rcases q with q | ⟨ys, q⟩
              · cases q
              · exact .inl (.inr ⟨ys, q⟩)
        · rcases q with q | q
          · rw [q] at e; rw [hb] at e; cases e
          · exact .inr (.inr (S.gr.tp c q))
      · by_cases z : One a c
        · exact g.pt c z (S.gr.pt c n e)
        · have q := S.gr.pt c n e
          cases q2 : H c with
          | none => exact absurd q2 q
          | some u => rw [g.hh c u z q2]; exact fun z => nomatch z
    · exact S.gr.trans (g.weak fun c q => q.elim (fun q => by rw [q]; exact h0) (S.gr.tp c))
  sl := fun j t h => by
    by_cases e : i = j
    · subst e
      obtain ⟨e2, _⟩ := set_same_of h
      subst e2
      rw [ha]
      exact hn
    · rw [get_set_ne e] at h
      refine (S.sl j t h).step g.bb (fun b ψ hb => by
        refine g.hh b _ (fun q => ?_) hb
        rcases q with q | q
        · obtain ⟨w, e1, z⟩ := S.slot hi
          rw [ha] at e1
          cases e1
          rw [q] at hb
          exact z.pln hm _ hb
        · exact S.ok.not hb (fun ps y => by cases y) q) fun b u m eb hb1 hh pl => ?_
      have ne : b ≠ a := fun q => by
        subst q
        refine e (S.dis i j s t hi h hm m ?_)
        obtain ⟨w, e1, _⟩ := S.slot h
        rw [e1] at eb ⊢
        rw [ha]
        have eb' : w = some (V.ref b) := eb
        rw [eb']
      have ne2 : ¬ One a b := fun q => q.elim ne (S.ok.not hh (pln_tbl pl))
      refine ⟨g.hh b u ne2 hh, ?_⟩
      cases q : B' b with
      | none => rfl
      | some u =>
        rcases g.fr b u q with z | z | z
        · rw [hb1] at z; cases z
        · rw [hh] at z
          rcases z with z | ⟨ys, z⟩
          · cases z
          · cases z; exact pl.elim
        · exact absurd z ne2
  dis := fun j k s1 t1 h1 h2 m1 m2 h3 => by
    have q : ∀ {l : Nat} {u : SD}, (ρ.set i s')[l]? = some u → u.mu = true → ∃ u', ρ[l]? = some u' ∧ u'.mu = true := fun {l u} h m => by
      by_cases e : i = l
      · subst e; exact ⟨s, hi, hm⟩
      · rw [get_set_ne e] at h; exact ⟨u, h, m⟩
    obtain ⟨u1, a1, b1⟩ := q h1 m1
    obtain ⟨u2, a2, b2⟩ := q h2 m2
    exact S.dis j k u1 u2 a1 a2 b1 b2 h3
  ok := g.kp S.ok
  ex := S.ex
theorem Ev.called {a : Addr} {B H B' H' : Hp} {σ : L2.St} {i : Nat} {s s' : SD} (hi : ρ[i]? = some s) (hm : s.mu = true) (ha : σ[i]? = some (some (.ref a))) (g : Gr (One a) B H B' H') : Ev ρ σ B H (ρ.set i s') B' H' :=
  ⟨g.weak fun b q => q.elim (fun q => by rw [q]; exact .inl ⟨i, s, hi, hm, ha⟩) .inr, fun j t h m => by
    by_cases e : i = j
    · subst e; exact ⟨s, hi, hm⟩
    · rw [get_set_ne e] at h; exact ⟨t, h, m⟩⟩
theorem we_callP {n c i : Nat} {S : List D → (D → Prop) → Prop} {t : TA} {F : D → List SD → Prop} {m0 : Nat} (h0 : ρ[i]? = some (.pot m0))
    (h : WA K t ρ fun ds ρ1 => ∃ m, ρ1[i]? = some (.pot m) ∧ m + c ≤ LIM ∧ ds.length = n ∧ S ds fun d => F d (ρ1.set i (.pot (m + c)))) : WE K (tCall (potSp K n c S) [] E0 (tCons (tVar i) t)) ρ F :=
  fun P B0 H0 B H σ Z Q k => by
    obtain ⟨o, e0, a, rfl, pa, ea, ep⟩ := Z.slot h0
    refine ⟨.ref a, e0, ?_⟩
    refine h _ B0 H0 B H σ Z _ fun vs ds ρ1 B1 H1 ⟨m, h1, hm, l, f⟩ S1 s1 r1 => ?_
    obtain ⟨o1, e1, a1, q1, q2, q3, q4⟩ := S1.slot h1
    rw [e0] at e1
    cases e1
    cases q1
    refine ⟨a, vs, B1, ds, _, m, by rw [List.append_nil], S1.le, S1.ok, q3, q4, hm, r1, l, f, fun v d B2 H2 g q hb hp r => ?_⟩
    exact k v d _ B2 H2 g (S1.called h1 rfl rfl e0 q hb ⟨a, rfl, q2, hb, hp⟩) (s1.trans (Ev.called h1 rfl e0 q)) r
end
end Lw

set_option Elab.async false
set_option linter.all false
set_option maxRecDepth 100000
set_option maxHeartbeats 4000000
namespace Lw
open PySem PySem.Spec PyProof.Rows L2
variable [Tabl] [Exn]
/-! ### data as plain data -/
mutual
def D.py : D → PyData
  | .non => .none
  | .bl b => .bool b
  | .int i => .int i
  | .str s => .str s
  | .tup xs => .tuple (D.pys xs)
  | .ntp _ => .none
  | .ptp _ => .none
  | .lst xs => .list (D.pys xs)
  | .frl xs => .list (D.pys xs)
  | .dct _ => .none
  | .obj _ _ => .none
  | .ty _ => .none
  | .cls _ => .none
  | .exc _ _ => .none
def D.pys : List D → List PyData
  | [] => []
  | x :: xs => D.py x :: D.pys xs
end
mutual
def D.pl : D → Bool
  | .non => true
  | .bl _ => true
  | .int _ => true
  | .str _ => true
  | .tup xs => D.pls xs
  | .ntp _ => false
  | .ptp _ => false
  | .lst xs => D.pls xs
  | .frl xs => D.pls xs
  | .dct _ => false
  | .obj _ _ => false
  | .ty _ => false
  | .cls _ => false
  | .exc _ _ => false
def D.pls : List D → Bool
  | [] => true
  | x :: xs => D.pl x && D.pls xs
end
mutual
theorem R.dp {K : Fg} {H : Hp} : ∀ {v : V} {d : D}, R K H v d → d.pl = true → Dp K H v d.py
  | _, _, .non, _ => .non
  | _, _, .bl b, _ => .bl b
  | _, _, .int i, _ => .int i
  | _, _, .str s, _ => .str s
  | _, _, .ty s, h => by simp [D.pl] at h
  | _, _, .cls s, h => by simp [D.pl] at h
  | _, _, .tup (ds := ds) h q, e => Dp.tup h (RA.dp q (by simpa [D.pl] using e))
  | _, _, .ntp _ _ _ q, e => by simp [D.pl] at e
  | _, _, .ptp _ q, e => by simp [D.pl] at e
  | _, _, .lst (ds := ds) h q, e => Dp.lst (SqL.of h) (RA.dp q (by simpa [D.pl] using e))
  | _, _, .frl (ds := ds) h q, e => Dp.lst h (RA.dp q (by simpa [D.pl] using e))
  | _, _, .dct h q, e => by simp [D.pl] at e
  | _, _, .obj h q, e => by simp [D.pl] at e
theorem RA.dp {K : Fg} {H : Hp} : ∀ {v : List V} {d : List D}, RA K H v d → D.pls d = true → DpAll K H v (D.pys d)
  | _, _, .nil, _ => .nil
  | _, _, .cons h q, e => by
    simp only [D.pls, Bool.and_eq_true] at e
    exact .cons (R.dp h e.1) (RA.dp q e.2)
end
theorem pys_map (xs : List D) : D.pys xs = xs.map D.py := by
  induction xs with
  | nil => rfl
  | cons x xs ih => simp [D.pys, ih]
theorem pls_all (xs : List D) : D.pls xs = xs.all D.pl := by
  induction xs with
  | nil => rfl
  | cons x xs ih => simp [D.pls, ih]
/-- plain, and fit to be compared -/
def D.ok (x : D) : Bool := x.pl && SeqAt.shaped x.py
def D.eqb (x y : D) : Bool := PyData.eqv x.py y.py
section
variable {K : Fg} {ρ : List SD}
/-! ### == -/
def rEqA (K : Fg) : R2 := fun x y H Q => rEq x y H Q ∨ rEqD K x y H Q
def rNeA (K : Fg) : R2 := fun x y H Q => rNe x y H Q ∨ rNeD K x y H Q
theorem op_eqA {X : Cx} (hu : X.A.units + 64 < cLine) : OpR X (compareOp .Eq) (rEqA X.K) := op_eq.or (op_eqD hu)
theorem op_neA {X : Cx} (hu : X.A.units + 64 < cLine) : OpR X (compareOp .NotEq) (rNeA X.K) := op_ne.or (op_neD hu)
/-- the answer of x == y, for what the rules compare -/
def dEqB (x y : D) (F : Bool → Prop) : Prop := match x, y with
  | .int i, .int j => F (decide (i = j))
  | .str i, .str j => F (decide (i = j))
  | .bl i, .bl j => F (decide (i = j))
  | .non, .non => F true
  | .non, .int _ => F false
  | .non, .str _ => F false
  | .int _, .non => F false
  | .str _, .non => F false
  | .int _, .str _ => F false
  | .str _, .int _ => F false
  | x, y => x.ok = true ∧ y.ok = true ∧ F (D.eqb x y)
theorem opd_eqB {r : R2} {g : Bool → Bool} {x y : D} {F : D → Prop} (h1 : ∀ {v u : V} {H : Hp} {Q : VK}, scal v u = true → Q (.bl (g (decide (v = u)))) H → r v u H Q)
    (h2 : ∀ {v u : V} {H : Hp} {Q : VK} {d e : PyData}, Dp K H v d → Dp K H u e → SeqAt.shaped d = true → SeqAt.shaped e = true → Q (.bl (g (PyData.eqv d e))) H → r v u H Q)
    (h : dEqB x y fun b => F (.bl (g b))) : OpD K r x y F := by
  have fl : ∀ {b : Bool} {p q : V}, F (.bl (g b)) → (∀ B, R K B p x → True) → scal p q = true → (∀ {B v}, R K B v x → v = p) → (∀ {B v}, R K B v y → v = q) → decide (p = q) = b → OpD K r x y F := by
    intro b p q f _ hs e1 e2 eb
    refine OpD.flat f fun B H v u s r1 r2 => ?_
    rw [e1 r1, e2 r2]
    exact ⟨.bl (g b), fun _ => .bl _, fun Q z => h1 hs (by rw [eb]; exact z)⟩
  have dp : x.ok = true → y.ok = true → F (.bl (g (D.eqb x y))) → OpD K r x y F := by
    intro a b f
    unfold D.ok at a b
    rw [Bool.and_eq_true] at a b
    exact OpD.flat f fun B H v u s r1 r2 => ⟨.bl _, fun _ => .bl _, fun Q z => h2 ((r1.mono s).dp a.1) ((r2.mono s).dp b.1) a.2 b.2 z⟩
  unfold dEqB at h
  split at h
  · exact fl h (fun _ _ => trivial) rfl rint rint (by simp)
  · exact fl h (fun _ _ => trivial) rfl rstr rstr (by simp)
  · exact fl h (fun _ _ => trivial) rfl rbl rbl (by simp)
  · exact fl h (fun _ _ => trivial) rfl rnon rnon (by simp)
  · exact fl h (fun _ _ => trivial) rfl rnon rint (by simp)
  · exact fl h (fun _ _ => trivial) rfl rnon rstr (by simp)
  · exact fl h (fun _ _ => trivial) rfl rint rnon (by simp)
  · exact fl h (fun _ _ => trivial) rfl rstr rnon (by simp)
  · exact fl h (fun _ _ => trivial) rfl rint rstr (by simp)
  · exact fl h (fun _ _ => trivial) rfl rstr rint (by simp)
  · exact dp h.1 h.2.1 h.2.2
theorem opd_eq {x y : D} {F : D → Prop} (h : dEqB x y fun b => F (.bl b)) : OpD K (rEqA K) x y F :=
  opd_eqB (g := id) (fun a b => .inl ⟨a, b⟩) (fun a b c d e => .inr ⟨_, _, a, b, c, d, e⟩) h
theorem opd_ne {x y : D} {F : D → Prop} (h : dEqB x y fun b => F (.bl (!b))) : OpD K (rNeA K) x y F :=
  opd_eqB (g := not) (fun a b => .inl ⟨a, b⟩) (fun a b c d e => .inr ⟨_, _, a, b, c, d, e⟩) h
theorem we_eq {ta tb : TE} {F : D → List SD → Prop} (h : WE K ta ρ fun x ρ1 => WE K tb ρ1 fun y ρ2 => dEqB x y fun b => F (.bl b) ρ2) : WE K (tOp (rEqA K) ta tb) ρ F :=
  we_op (h.mono fun _ _ q => q.mono fun _ _ q => opd_eq q)
theorem we_ne {ta tb : TE} {F : D → List SD → Prop} (h : WE K ta ρ fun x ρ1 => WE K tb ρ1 fun y ρ2 => dEqB x y fun b => F (.bl (!b)) ρ2) : WE K (tOp (rNeA K) ta tb) ρ F :=
  we_op (h.mono fun _ _ q => q.mono fun _ _ q => opd_ne q)
/-! ### in -/
def D.flat : D → Bool
  | .non => true
  | .bl _ => true
  | .int _ => true
  | .str _ => true
  | _ => false
/-- the items of a list, a tuple -/
def D.items : D → Option (List D)
  | .tup xs => some xs
  | .lst xs => some xs
  | .frl xs => some xs
  | _ => none
def D.fv : D → V
  | .bl b => .bl b
  | .int i => .int i
  | .str s => .str s
  | _ => .non
theorem rflat {B : Hp} {v : V} {x : D} (h : R K B v x) (f : x.flat = true) : v = x.fv := by
  cases h <;> first | rfl | cases f
theorem flatV_fv {x : D} (f : x.flat = true) : flatV x.fv = true := by
  cases x <;> first | rfl | cases f
theorem RA.flat {B : Hp} : ∀ {vs : List V} {xs : List D}, RA K B vs xs → xs.all D.flat = true → vs = xs.map D.fv
  | _, _, .nil, _ => rfl
  | _, _, .cons h q, f => by
    simp only [List.all_cons, Bool.and_eq_true] at f
    rw [List.map_cons, ← rflat h f.1, ← RA.flat q f.2]
theorem R.seq {B : Hp} {v : V} {y : D} {ys : List D} (h : R K B v y) (e : y.items = some ys) : ∃ p vs, v = .ref p ∧ (SqL K B p vs ∨ SqT K B p vs) ∧ RA K B vs ys := by
  cases h with
  | tup h q => cases e; exact ⟨_, _, rfl, .inr h, q⟩
  | lst h q => cases e; exact ⟨_, _, rfl, .inl (SqL.of h), q⟩
  | frl h q => cases e; exact ⟨_, _, rfl, .inl h, q⟩
  | _ => cases e
def inF (x : D) (ys : List D) : Bool := inV x.fv (ys.map D.fv)
/-- plain data in a tuple -/
def rInT (K : Fg) : R2 := fun x y H Q => ∃ d ds, Dp K H x d ∧ Dp K H y (.tuple ds) ∧ SeqAt.shaped d = true ∧ SeqAt.shaped (.tuple ds) = true ∧ Q (.bl (ds.any fun z => PyData.eqv z d)) H
def rNotInT (K : Fg) : R2 := fun x y H Q => ∃ d ds, Dp K H x d ∧ Dp K H y (.tuple ds) ∧ SeqAt.shaped d = true ∧ SeqAt.shaped (.tuple ds) = true ∧ Q (.bl (!ds.any fun z => PyData.eqv z d)) H
theorem op_inT {X : Cx} (hu : X.A.units + 65 < cLine) : OpR X (compareOp .In) (rInT X.K) := by
  intro pins s σ H x y v u Q I rx ry h
  obtain ⟨d, ds, hd, he, sd, se, q⟩ := h
  obtain ⟨as, r1⟩ := Dp.reads I d x v hd rx
  obtain ⟨bs, r2⟩ := Dp.reads I (.tuple ds) y u he ry
  exact SeqAt.in_tuple_reads r2 r1 (SeqAt.canLay_of_shaped se) (SeqAt.canLay_of_shaped sd) (room_in_shaped sd hu) ⟨.bl _, H, I, rfl, q⟩
theorem op_notInT {X : Cx} (hu : X.A.units + 65 < cLine) : OpR X (compareOp .NotIn) (rNotInT X.K) := by
  intro pins s σ H x y v u Q I rx ry h
  obtain ⟨d, ds, hd, he, sd, se, q⟩ := h
  obtain ⟨as, r1⟩ := Dp.reads I d x v hd rx
  obtain ⟨bs, r2⟩ := Dp.reads I (.tuple ds) y u he ry
  exact SeqAt.notIn_tuple_reads r2 r1 (SeqAt.canLay_of_shaped se) (SeqAt.canLay_of_shaped sd) (room_in_shaped sd hu) ⟨.bl _, H, I, rfl, q⟩
/-- a key in a dict -/
def rInK : R2 := fun x y H Q => ∃ a o, y = .ref a ∧ DGet H a x o ∧ Q (.bl o.isSome) H
def rNotInK : R2 := fun x y H Q => ∃ a o, y = .ref a ∧ DGet H a x o ∧ Q (.bl (!o.isSome)) H
theorem op_inK0 {X : Cx} (hu : X.A.units + 65 < cLine) : OpR X (compareOp .In) rInK := by
  intro pins s σ H x y v u Q I rx ry h
  obtain ⟨a, o, rfl, g, q⟩ := h
  obtain rfl : u = Value.ref a := ry
  exact d_in (Nat.lt_of_le_of_lt (Nat.add_le_add_left (by decide) _) hu) I g rx fun s3 I3 => ⟨.bl _, H, I3, rfl, q⟩
theorem op_notInK0 {X : Cx} (hu : X.A.units + 65 < cLine) : OpR X (compareOp .NotIn) rNotInK := by
  intro pins s σ H x y v u Q I rx ry h
  obtain ⟨a, o, rfl, g, q⟩ := h
  obtain rfl : u = Value.ref a := ry
  exact d_notIn (Nat.lt_of_le_of_lt (Nat.add_le_add_left (by decide) _) hu) I g rx fun s3 I3 => ⟨.bl _, H, I3, rfl, q⟩
def rInA (K : Fg) (w : World) : R2 := fun x y H Q => rIn K false x y H Q ∨ (rInD K x y H Q ∨ ((fun x y H Q => (fun x y H Q => ∃ (c : Nat) (z : Str), x = V.str ⟨#[c]⟩ ∧ y = .str z ∧ Q (.bl (decide (c ∈ z.cps.toList))) H) x y H Q ∨ (fun x y H Q => rInT K x y H Q ∨ rInK x y H Q) x y H Q) x y H Q))
def rNotInA (K : Fg) (w : World) : R2 := fun x y H Q => rIn K true x y H Q ∨ (rNotInD K x y H Q ∨ ((fun x y H Q => (fun x y H Q => ∃ (c : Nat) (z : Str), x = V.str ⟨#[c]⟩ ∧ y = .str z ∧ Q (.bl (!decide (c ∈ z.cps.toList))) H) x y H Q ∨ (fun x y H Q => rNotInT K x y H Q ∨ rNotInK x y H Q) x y H Q) x y H Q))
theorem op_inA {X : Cx} (hu : X.A.units + 65 < cLine) : OpR X (compareOp .In) (rInA X.K X.w) := op_in_seq.or ((op_inD hu).or (op_in_sign.or ((op_inT hu).or (op_inK0 hu))))
theorem op_notInA {X : Cx} (hu : X.A.units + 65 < cLine) : OpR X (compareOp .NotIn) (rNotInA X.K X.w) := op_notIn_seq.or ((op_notInD hu).or (op_notIn_sign.or ((op_notInT hu).or (op_notInK0 hu))))
/-- what a dict's entries hold at a key -/
def lookD (ds : List (Key × D)) (k : Key) : Option D := (ds.find? fun kv => decide (kv.1 = k)).map (·.2)
theorem RK.get {B : Hp} {k : Key} : ∀ {vs : List (Key × V)} {ds : List (Key × D)} {d : D}, RK K B vs ds → lookD ds k = some d → ∃ v, valV vs k = some v ∧ R K B v d
  | _, _, d, .nil, e => by simp [lookD] at e
  | _, _, d, .cons (k := k') (v := v) (d := d') (vs := vs) (ds := ds) h q, e => by
    by_cases z : k' = k
    · subst z
      have e' : d' = d := by simpa [lookD] using e
      subst e'
      exact ⟨v, by simp [valV], h⟩
    · have e' : lookD ds k = some d := by simpa [lookD, z] using e
      obtain ⟨v', h1, h2⟩ := RK.get q e'
      exact ⟨v', by simpa [valV, z] using h1, h2⟩
def keyD : D → Option Key
  | .int i => some (.inl i)
  | .str s => some (.inr s)
  | _ => none
theorem rkey {B : Hp} {v : V} {x : D} {k : Key} (h : R K B v x) (e : keyD x = some k) : v = kV k := by
  cases h <;> first | (cases e; rfl) | cases e
theorem RK.get0 {B : Hp} {k : Key} : ∀ {vs : List (Key × V)} {ds : List (Key × D)}, RK K B vs ds → (valV vs k).isSome = (lookD ds k).isSome
  | _, _, .nil => rfl
  | _, _, .cons (k := k') (v := v) (d := d') (vs := vs) (ds := ds) h q => by
    by_cases z : k' = k
    · subst z
      simp [lookD, valV]
    · have e := RK.get0 (k := k) q
      simpa [lookD, valV, z] using e
/-- x in y: flat things; plain data in a list; a sign in a text -/
def dInB (x y : D) (F : Bool → Prop) : Prop :=
  (∃ ys, y.items = some ys ∧ x.flat = true ∧ ys.all D.flat = true ∧ F (inF x ys)) ∨
  (∃ ys, y = .lst ys ∧ x.ok = true ∧ y.ok = true ∧ F (ys.any fun z => D.eqb z x)) ∨
  (∃ c z, x = .str ⟨#[c]⟩ ∧ y = .str z ∧ F (decide (c ∈ z.cps.toList))) ∨
  (∃ ys, y = .tup ys ∧ x.ok = true ∧ y.ok = true ∧ F (ys.any fun z => D.eqb z x)) ∨
  (∃ ds k, y = .dct ds ∧ keyD x = some k ∧ F (lookD ds k).isSome)
theorem opd_in {w : World} {x y : D} {F : D → Prop} (h : dInB x y fun b => F (.bl b)) : OpD K (rInA K w) x y F := by
  rcases h with ⟨ys, e, f1, f2, q⟩ | ⟨ys, rfl, o1, o2, q⟩ | ⟨c, z, rfl, rfl, q⟩ | ⟨ys, rfl, o1, o2, q⟩ | ⟨ds, k, rfl, hk, q⟩
  · refine OpD.inl (OpD.flat q fun B H v u s r1 r2 => ?_)
    obtain ⟨p, vs, rfl, hs, ra⟩ := (r2.mono s).seq e
    rw [rflat r1 f1]
    rw [ra.flat f2] at hs
    refine ⟨.bl _, fun _ => .bl _, fun Q z => ⟨p, _, rfl, hs, flatV_fv f1, ?_, z⟩⟩
    rw [List.all_eq_true] at f2 ⊢
    intro v hv
    obtain ⟨d, hd, rfl⟩ := List.mem_map.mp hv
    exact flatV_fv (f2 d hd)
  · refine OpD.inr (OpD.inl (OpD.flat q fun B H v u s r1 r2 => ?_))
    unfold D.ok at o1 o2
    rw [Bool.and_eq_true] at o1 o2
    refine ⟨.bl _, fun _ => .bl _, fun Q z => ⟨x.py, D.pys ys, (r1.mono s).dp o1.1, (r2.mono s).dp o2.1, o1.2, o2.2, ?_⟩⟩
    rw [pys_map, List.any_map]
    exact z
  · refine OpD.inr (OpD.inr (OpD.inl (OpD.flat q fun B H v u s r1 r2 => ?_)))
    rw [rstr r1, rstr r2]
    exact ⟨.bl _, fun _ => .bl _, fun Q k => ⟨c, z, rfl, rfl, k⟩⟩
  · refine OpD.inr (OpD.inr (OpD.inr (OpD.inl (OpD.flat q fun B H v u s r1 r2 => ?_))))
    unfold D.ok at o1 o2
    rw [Bool.and_eq_true] at o1 o2
    refine ⟨.bl _, fun _ => .bl _, fun Q z => ⟨x.py, D.pys ys, (r1.mono s).dp o1.1, (r2.mono s).dp o2.1, o1.2, o2.2, ?_⟩⟩
    rw [pys_map, List.any_map]
    exact z
  · refine OpD.inr (OpD.inr (OpD.inr (OpD.inr (OpD.flat q fun B H v u s r1 r2 => ?_))))
    cases r2 with
    | @dct _ kvs _ h1 rk =>
      refine ⟨.bl _, fun _ => .bl _, fun Q z => ⟨_, valV kvs k, rfl, ?_, ?_⟩⟩
      · rw [rkey r1 hk]
        exact DGet.k (s _ _ h1)
      · rw [rk.get0]
        exact z
theorem opd_notIn {w : World} {x y : D} {F : D → Prop} (h : dInB x y fun b => F (.bl (!b))) : OpD K (rNotInA K w) x y F := by
  rcases h with ⟨ys, e, f1, f2, q⟩ | ⟨ys, rfl, o1, o2, q⟩ | ⟨c, z, rfl, rfl, q⟩ | ⟨ys, rfl, o1, o2, q⟩ | ⟨ds, k, rfl, hk, q⟩
  · refine OpD.inl (OpD.flat q fun B H v u s r1 r2 => ?_)
    obtain ⟨p, vs, rfl, hs, ra⟩ := (r2.mono s).seq e
    rw [rflat r1 f1]
    rw [ra.flat f2] at hs
    refine ⟨.bl _, fun _ => .bl _, fun Q z => ⟨p, _, rfl, hs, flatV_fv f1, ?_, z⟩⟩
    rw [List.all_eq_true] at f2 ⊢
    intro v hv
    obtain ⟨d, hd, rfl⟩ := List.mem_map.mp hv
    exact flatV_fv (f2 d hd)
  · refine OpD.inr (OpD.inl (OpD.flat q fun B H v u s r1 r2 => ?_))
    unfold D.ok at o1 o2
    rw [Bool.and_eq_true] at o1 o2
    refine ⟨.bl _, fun _ => .bl _, fun Q z => ⟨x.py, D.pys ys, (r1.mono s).dp o1.1, (r2.mono s).dp o2.1, o1.2, o2.2, ?_⟩⟩
    rw [pys_map, List.any_map]
    exact z
  · refine OpD.inr (OpD.inr (OpD.inl (OpD.flat q fun B H v u s r1 r2 => ?_)))
    rw [rstr r1, rstr r2]
    exact ⟨.bl _, fun _ => .bl _, fun Q k => ⟨c, z, rfl, rfl, k⟩⟩
  · refine OpD.inr (OpD.inr (OpD.inr (OpD.inl (OpD.flat q fun B H v u s r1 r2 => ?_))))
    unfold D.ok at o1 o2
    rw [Bool.and_eq_true] at o1 o2
    refine ⟨.bl _, fun _ => .bl _, fun Q z => ⟨x.py, D.pys ys, (r1.mono s).dp o1.1, (r2.mono s).dp o2.1, o1.2, o2.2, ?_⟩⟩
    rw [pys_map, List.any_map]
    exact z
  · refine OpD.inr (OpD.inr (OpD.inr (OpD.inr (OpD.flat q fun B H v u s r1 r2 => ?_))))
    cases r2 with
    | @dct _ kvs _ h1 rk =>
      refine ⟨.bl _, fun _ => .bl _, fun Q z => ⟨_, valV kvs k, rfl, ?_, ?_⟩⟩
      · rw [rkey r1 hk]
        exact DGet.k (s _ _ h1)
      · rw [rk.get0]
        exact z
theorem we_in {w : World} {ta tb : TE} {F : D → List SD → Prop} (h : WE K ta ρ fun x ρ1 => WE K tb ρ1 fun y ρ2 => dInB x y fun b => F (.bl b) ρ2) : WE K (tOp (rInA K w) ta tb) ρ F :=
  we_op (h.mono fun _ _ q => q.mono fun _ _ q => opd_in q)
theorem we_notIn {w : World} {ta tb : TE} {F : D → List SD → Prop} (h : WE K ta ρ fun x ρ1 => WE K tb ρ1 fun y ρ2 => dInB x y fun b => F (.bl (!b)) ρ2) : WE K (tOp (rNotInA K w) ta tb) ρ F :=
  we_op (h.mono fun _ _ q => q.mono fun _ _ q => opd_notIn q)
/-! ### subscripts -/
theorem ix_dict {X : Cx} (hu : X.A.units + 1 < cLine) : IxR X (fun x y H Q => ∃ a v, x = .ref a ∧ DGet H a y (some v) ∧ Q v H) := by
  intro value slice pins s σ H x y v u Q I rx ry h hs
  obtain ⟨a, z, rfl, g, q⟩ := h
  obtain rfl : v = Value.ref a := rx
  exact tail_any (dict_typeIs I g) PySem.F.slot_dict_getitem.lookup (d_getItem hu I g ry fun w2 s3 I3 rw' => ⟨z, H, I3, rw', q⟩) hs
def rIxA (K : Fg) : R2 := fun x y H Q => rIx K x y H Q ∨ (∃ a v, x = .ref a ∧ DGet H a y (some v) ∧ Q v H)
theorem ix_any {X : Cx} (hu : X.A.units + 1 < cLine) : IxR X (rIxA X.K) := ix_seq.or (ix_dict hu)
/-- x[y] -/
def dIx (x y : D) (F : D → Prop) : Prop := match x with
  | .str z => ∃ i c, y = .int i ∧ z.length ≤ sizeLine ∧ atI z.cps.toList i = some c ∧ F (.str ⟨#[c]⟩)
  | .dct ds => ∃ k d, keyD y = some k ∧ lookD ds k = some d ∧ F d
  | x => ∃ xs i d, x.items = some xs ∧ y = .int i ∧ atI xs i = some d ∧ F d
theorem RA.at_ {B : Hp} {vs : List V} {xs : List D} {i : Int} {d : D} (h : RA K B vs xs) (e : atI xs i = some d) : ∃ v, atI vs i = some v ∧ R K B v d := by
  unfold atI at e ⊢
  rw [h.length]
  cases q : ixN xs.length i with
  | none => rw [q] at e; cases e
  | some j =>
    rw [q] at e
    exact h.get e
theorem opd_ix {x y : D} {F : D → Prop} (h : dIx x y F) : OpD K (rIxA K) x y F := by
  unfold dIx at h
  split at h
  · rename_i z
    obtain ⟨i, c, rfl, hl, ha, q⟩ := h
    refine OpD.inl (OpD.flat q fun B H v u s r1 r2 => ?_)
    rw [rstr r1, rint r2]
    exact ⟨_, fun _ => .str _, fun Q k => .inr (.inr ⟨z, i, c, rfl, rfl, hl, ha, k⟩)⟩
  · rename_i ds
    obtain ⟨k, d, hk, hl, q⟩ := h
    refine OpD.inr fun B H v u s r1 r2 Q w => ?_
    cases r1 with
    | dct h1 rk =>
      obtain ⟨v', e1, r3⟩ := rk.get hl
      refine ⟨_, v', rfl, ?_, w v' d B H q (Gr.refl s) r3⟩
      rw [rkey r2 hk, ← e1]
      exact DGet.k (s _ _ h1)
  · obtain ⟨xs, i, d, hx, rfl, ha, q⟩ := h
    refine OpD.inl fun B H v u s r1 r2 Q w => ?_
    obtain ⟨p, vs, rfl, hs, ra⟩ := r1.seq hx
    obtain ⟨v', e1, r3⟩ := ra.at_ ha
    rw [rint r2]
    rcases hs with hs | hs
    · exact .inl ⟨p, vs, i, v', rfl, rfl, same_l s hs, e1, w v' d B H q (Gr.refl s) r3⟩
    · exact .inr (.inl ⟨p, vs, i, v', rfl, rfl, same_t s hs, e1, w v' d B H q (Gr.refl s) r3⟩)
theorem we_ix {ta tb : TE} {F : D → List SD → Prop} (h : WE K ta ρ fun x ρ1 => WE K tb ρ1 fun y ρ2 => dIx x y fun d => F d ρ2) : WE K (tOp (rIxA K) ta tb) ρ F :=
  we_op (h.mono fun _ _ q => q.mono fun _ _ q => opd_ix q)
/-! ### slices -/
theorem wo_none {F : Option Int → List SD → Prop} (q : F none ρ) : WO K tNoPart ρ F := fun P B0 H0 B H σ S Q k => k none ρ B H q S (Ev.refl S.le)
theorem wo_some {te : TE} {F : Option Int → List SD → Prop} (h : WE K te ρ fun x ρ1 => ∃ i, x = .int i ∧ F (some i) ρ1) : WO K (tPart te) ρ F :=
  fun P B0 H0 B H σ S Q k => h P B0 H0 B H σ S _ fun v d ρ' B' H' ⟨i, e, f⟩ S' s r => by
    subst e
    exact ⟨i, rint r, k _ ρ' B' H' f S' s⟩
def rSlAny (K : Fg) : V → Option Int → Option Int → Hp → VK → Prop := fun x lo hi H Q => rSlL K x lo hi H Q ∨ (rSlA K x lo hi H Q ∨ rSlS x lo hi H Q)
theorem sl_any {X : Cx} : SlR X (rSlAny X.K) := sl_list.or (sl_tupA.or sl_str)
def cutD (xs : List D) (lo hi : Option Int) : List D := (xs.drop (HT.sIx xs.length 0 lo)).take (HT.sIx xs.length xs.length hi - HT.sIx xs.length 0 lo)
theorem RA.cut {B : Hp} {vs : List V} {xs : List D} {lo hi : Option Int} (h : RA K B vs xs) : RA K B (cutV vs lo hi) (cutD xs lo hi) := by
  unfold cutV cutD
  rw [h.length]
  exact RA.take _ (RA.drop _ h)
def dSl (x : D) (lo hi : Option Int) (F : D → Prop) : Prop := match x with
  | .str z => z.length ≤ sizeLine ∧ F (.str (cutS z lo hi))
  | .lst xs => F (.lst (cutD xs lo hi))
  | .frl xs => F (.lst (cutD xs lo hi))
  | .tup xs => F (.tup (cutD xs lo hi))
  | _ => False
theorem cutD_whole {xs : List D} {lo hi : Option Int} (h : HT.sIx xs.length 0 lo = 0 ∧ HT.sIx xs.length xs.length hi = xs.length) : cutD xs lo hi = xs := by
  unfold cutD
  rw [h.1, h.2]
  simp
theorem we_slice {te : TE} {tl th : TO} {F : D → List SD → Prop} (h : WE K te ρ fun x ρ1 => WO K tl ρ1 fun lo ρ2 => WO K th ρ2 fun hi ρ3 => dSl x lo hi fun d => F d ρ3) : WE K (tSl (rSlAny K) te tl th) ρ F :=
  fun P B0 H0 B H σ S Q k => h P B0 H0 B H σ S _ fun v x ρ1 B1 H1 h1 S1 s1 r1 => h1 P B0 H0 B1 H1 σ S1 _ fun lo ρ2 B2 H2 h2 S2 s2 => h2 P B0 H0 B2 H2 σ S2 _ fun hi ρ3 B3 H3 h3 S3 s3 => by
    have r3 := (r1.mono s2.bb).mono s3.bb
    have ss := (s1.trans s2).trans s3
    unfold dSl at h3
    split at h3
    · rw [rstr r3]
      exact .inr (.inr ⟨_, rfl, h3.1, k _ _ ρ3 B3 H3 h3.2 S3 ss (.str _)⟩)
    · cases r3 with
      | lst h4 a4 =>
        refine .inl ⟨_, _, rfl, SqL.of (S3.le _ _ h4), fun p hp => ?_⟩
        have hb := S3.bfree hp
        exact k _ _ ρ3 (upd B3 p _) _ h3 (S3.new _ hp) (ss.trans (Ev.new S3.le hp)) (.lst upd_same (a4.cut.mono (same_new hb)))
    · cases r3 with
      | frl h4 a4 =>
        refine .inl ⟨_, _, rfl, same_l S3.le h4, fun p hp => ?_⟩
        have hb := S3.bfree hp
        exact k _ _ ρ3 (upd B3 p _) _ h3 (S3.new _ hp) (ss.trans (Ev.new S3.le hp)) (.lst upd_same (a4.cut.mono (same_new hb)))
    · cases r3 with
      | tup h4 a4 =>
        refine .inr (.inl ⟨_, _, rfl, same_t S3.le h4, fun e => ?_, fun e p hp => ?_⟩)
        · rw [a4.length] at e
          rw [cutD_whole e] at h3
          exact k _ _ ρ3 B3 H3 h3 S3 ss (.tup h4 a4)
        · have hb := S3.bfree hp
          exact k _ _ ρ3 (upd B3 p _) _ h3 (S3.new _ hp) (ss.trans (Ev.new S3.le hp)) (.tup (SqT.of upd_same) (a4.cut.mono (same_new hb)))
    · exact h3.elim
/-! ### calls of built-ins -/
def CallD (K : Fg) (r : List V → Hp → VK → Prop) (xs : List D) (F : D → Prop) : Prop :=
  ∀ B H vs, Same B H → RA K B vs xs → ∀ Q : VK, (∀ w d B' H', F d → Gr Non B H B' H' → R K B' w d → Q w H') → r vs H Q
theorem we_cb {r : List V → Hp → VK → Prop} {t : TA} {F : D → List SD → Prop} (h : WA K t ρ fun xs ρ1 => CallD K r xs fun d => F d ρ1) : WE K (tCB r t) ρ F :=
  fun P B0 H0 B H σ S Q k => h P B0 H0 B H σ S _ fun vs xs ρ1 B1 H1 h1 S1 s1 r1 => h1 B1 H1 vs S1.le r1 Q fun w d B3 H3 f g r3 => k w d ρ1 B3 H3 f (S1.step g) (s1.trans (Ev.pure g)) r3
theorem ra1 {B : Hp} {vs : List V} {x : D} (h : RA K B vs [x]) : ∃ v, vs = [v] ∧ R K B v x := by
  cases h with
  | cons h q => cases q; exact ⟨_, rfl, h⟩
theorem ra2 {B : Hp} {vs : List V} {x y : D} (h : RA K B vs [x, y]) : ∃ v u, vs = [v, u] ∧ R K B v x ∧ R K B u y := by
  cases h with
  | cons h q =>
    obtain ⟨u, rfl, r⟩ := ra1 q
    exact ⟨_, _, rfl, h, r⟩
theorem CallD.inl {r r' : List V → Hp → VK → Prop} {xs : List D} {F : D → Prop} (h : CallD K r xs F) : CallD K (fun xs H Q => r xs H Q ∨ r' xs H Q) xs F :=
  fun B H vs s r1 Q k => .inl (h B H vs s r1 Q k)
theorem CallD.inr {r r' : List V → Hp → VK → Prop} {xs : List D} {F : D → Prop} (h : CallD K r' xs F) : CallD K (fun xs H Q => r xs H Q ∨ r' xs H Q) xs F :=
  fun B H vs s r1 Q k => .inr (h B H vs s r1 Q k)
/-- len -/
def rLenA (K : Fg) : List V → Hp → VK → Prop := fun xs H Q => (fun xs H Q => ∃ x n, xs = [x] ∧ LenV K x H n ∧ Q (.int n) H) xs H Q ∨ (fun xs H Q => ∃ a kvs, xs = [V.ref a] ∧ H a = some (.dK kvs) ∧ Q (.int kvs.length) H) xs H Q
theorem call_lenA {X : Cx} : CallR X (.builtin "len") (rLenA X.K) := call_len.or call_lenD
theorem RK.length {B : Hp} : ∀ {vs : List (Key × V)} {ds : List (Key × D)}, RK K B vs ds → vs.length = ds.length
  | _, _, .nil => rfl
  | _, _, .cons _ q => by simp [RK.length q]
def dLen (x : D) (F : D → Prop) : Prop := match x with
  | .str z => z.length ≤ sizeLine ∧ F (.int z.length)
  | .lst xs => F (.int xs.length)
  | .frl xs => F (.int xs.length)
  | .tup xs => F (.int xs.length)
  | .dct ds => F (.int ds.length)
  | _ => False
theorem cd_len {x : D} {F : D → Prop} (h : dLen x F) : CallD K (rLenA K) [x] F := by
  intro B H vs s r Q k
  obtain ⟨v, rfl, r1⟩ := ra1 r
  unfold dLen at h
  split at h
  · rw [rstr r1]
    exact .inl ⟨_, _, rfl, ⟨h.1, rfl⟩, k _ _ B H h.2 (Gr.refl s) (.int _)⟩
  · cases r1 with
    | lst h1 a1 => exact .inl ⟨_, _, rfl, .inl ⟨_, SqL.of (s _ _ h1), rfl⟩, by rw [a1.length]; exact k _ _ B H h (Gr.refl s) (.int _)⟩
  · cases r1 with
    | frl h1 a1 => exact .inl ⟨_, _, rfl, .inl ⟨_, same_l s h1, rfl⟩, by rw [a1.length]; exact k _ _ B H h (Gr.refl s) (.int _)⟩
  · cases r1 with
    | tup h1 a1 => exact .inl ⟨_, _, rfl, .inr ⟨_, same_t s h1, rfl⟩, by rw [a1.length]; exact k _ _ B H h (Gr.refl s) (.int _)⟩
  · cases r1 with
    | dct h1 a1 => exact .inr ⟨_, _, rfl, s _ _ h1, by rw [a1.length]; exact k _ _ B H h (Gr.refl s) (.int _)⟩
  · exact h.elim
theorem we_len {te : TE} {F : D → List SD → Prop} (h : WE K te ρ fun x ρ1 => dLen x fun d => F d ρ1) : WE K (tCB (rLenA K) (tCons te tNil)) ρ F :=
  we_cb (wa_cons (h.mono fun _ _ q => wa_nil (cd_len q)))
/-- a call of one argument, two, the answer flat -/
theorem we_cb1 {r : List V → Hp → VK → Prop} {te : TE} {F : D → List SD → Prop} (h : WE K te ρ fun x ρ1 => CallD K r [x] fun d => F d ρ1) : WE K (tCB r (tCons te tNil)) ρ F :=
  we_cb (wa_cons (h.mono fun _ _ q => wa_nil q))
theorem we_cb2 {r : List V → Hp → VK → Prop} {te tf : TE} {F : D → List SD → Prop} (h : WE K te ρ fun x ρ1 => WE K tf ρ1 fun y ρ2 => CallD K r [x, y] fun d => F d ρ2) : WE K (tCB r (tCons te (tCons tf tNil))) ρ F :=
  we_cb (wa_cons (h.mono fun _ _ q => wa_cons (q.mono fun _ _ q => wa_nil q)))
def dInt (x : D) (F : D → Prop) : Prop := match x with
  | .int i => F (.int i)
  | .bl b => F (.int (if b then 1 else 0))
  | .str z => ∃ n, PySem.intText? z = some n ∧ z.length ≤ 640 ∧ F (.int n)
  | _ => False
def rIntA : List V → Hp → VK → Prop := fun xs H Q => (fun xs H Q => (∃ i, xs = [V.int i] ∧ Q (.int i) H) ∨ ∃ k, xs = [.bl k] ∧ Q (.int (if k then 1 else 0)) H) xs H Q ∨ (fun xs H Q => ∃ a n, xs = [V.str a] ∧ PySem.intText? a = some n ∧ a.length ≤ 640 ∧ Q (.int n) H) xs H Q
theorem call_intA {X : Cx} : CallR X (.type "int") rIntA := call_int1.or call_int_str
theorem cd_int {x : D} {F : D → Prop} (h : dInt x F) : CallD K rIntA [x] F := by
  intro B H vs s r Q k
  obtain ⟨v, rfl, r1⟩ := ra1 r
  unfold dInt at h
  split at h
  · rw [rint r1]
    exact .inl (.inl ⟨_, rfl, k _ _ B H h (Gr.refl s) (.int _)⟩)
  · rw [rbl r1]
    exact .inl (.inr ⟨_, rfl, k _ _ B H h (Gr.refl s) (.int _)⟩)
  · obtain ⟨n, h1, h2, h3⟩ := h
    rw [rstr r1]
    exact .inr ⟨_, n, rfl, h1, h2, k _ _ B H h3 (Gr.refl s) (.int _)⟩
  · exact h.elim
theorem we_intc {te : TE} {F : D → List SD → Prop} (h : WE K te ρ fun x ρ1 => dInt x fun d => F d ρ1) : WE K (tCB rIntA (tCons te tNil)) ρ F := we_cb1 (h.mono fun _ _ q => cd_int q)
def dAbs (x : D) (F : D → Prop) : Prop := match x with
  | .int i => F (.int (if i < 0 then -i else i))
  | _ => False
theorem we_abs {te : TE} {F : D → List SD → Prop} (h : WE K te ρ fun x ρ1 => dAbs x fun d => F d ρ1) : WE K (tCB (fun xs H Q => ∃ i, xs = [V.int i] ∧ Q (.int (if i < 0 then -i else i)) H) (tCons te tNil)) ρ F :=
  we_cb1 (h.mono fun x _ q => fun B H vs s r Q k => by
    obtain ⟨v, rfl, r1⟩ := ra1 r
    unfold dAbs at q
    split at q
    · rw [rint r1]
      exact ⟨_, rfl, k _ _ B H q (Gr.refl s) (.int _)⟩
    · exact q.elim)
def dStr (x : D) (F : D → Prop) : Prop := match x with
  | .int i => i.natAbs.log2 < 1920 ∧ F (.str (toString i))
  | _ => False
theorem we_strc {te : TE} {F : D → List SD → Prop} (h : WE K te ρ fun x ρ1 => dStr x fun d => F d ρ1) : WE K (tCB (fun xs H Q => ∃ i, xs = [V.int i] ∧ i.natAbs.log2 < 1920 ∧ Q (.str (toString i)) H) (tCons te tNil)) ρ F :=
  we_cb1 (h.mono fun x _ q => fun B H vs s r Q k => by
    obtain ⟨v, rfl, r1⟩ := ra1 r
    unfold dStr at q
    split at q
    · rw [rint r1]
      exact ⟨_, rfl, q.1, k _ _ B H q.2 (Gr.refl s) (.str _)⟩
    · exact q.elim)
def d2I (g : Int → Int → Int) (x y : D) (F : D → Prop) : Prop := match x, y with
  | .int i, .int j => F (.int (g i j))
  | _, _ => False
theorem we_2I {g : Int → Int → Int} {te tf : TE} {F : D → List SD → Prop} (h : WE K te ρ fun x ρ1 => WE K tf ρ1 fun y ρ2 => d2I g x y fun d => F d ρ2) : WE K (tCB (fun xs H Q => ∃ i j, xs = [V.int i, .int j] ∧ Q (.int (g i j)) H) (tCons te (tCons tf tNil))) ρ F :=
  we_cb2 (h.mono fun x _ q => q.mono fun y _ q => fun B H vs s r Q k => by
    obtain ⟨v, u, rfl, r1, r2⟩ := ra2 r
    unfold d2I at q
    split at q
    · rw [rint r1, rint r2]
      exact ⟨_, _, rfl, k _ _ B H q (Gr.refl s) (.int _)⟩
    · exact q.elim)
/-- all, any -/
def dBools (g : List Bool → Bool) (x : D) (F : D → Prop) : Prop := ∃ bs : List Bool, x = .lst (bs.map D.bl) ∧ F (.bl (g bs))
theorem we_all {te : TE} {F : D → List SD → Prop} (h : WE K te ρ fun x ρ1 => dBools (fun bs => bs.all id) x fun d => F d ρ1) : WE K (tCB (rAll K) (tCons te tNil)) ρ F :=
  we_cb1 (h.mono fun x _ q => fun B H vs s r Q k => by
    obtain ⟨v, rfl, r1⟩ := ra1 r
    obtain ⟨bs, rfl, f⟩ := q
    cases r1 with
    | lst h1 a1 => exact ⟨_, bs, rfl, by rw [← a1.bls]; exact SqL.of (s _ _ h1), k _ _ B H f (Gr.refl s) (.bl _)⟩)
theorem we_any {te : TE} {F : D → List SD → Prop} (h : WE K te ρ fun x ρ1 => dBools (fun bs => bs.any id) x fun d => F d ρ1) : WE K (tCB (rAny K) (tCons te tNil)) ρ F :=
  we_cb1 (h.mono fun x _ q => fun B H vs s r Q k => by
    obtain ⟨v, rfl, r1⟩ := ra1 r
    obtain ⟨bs, rfl, f⟩ := q
    cases r1 with
    | lst h1 a1 => exact ⟨_, bs, rfl, by rw [← a1.bls]; exact SqL.of (s _ _ h1), k _ _ B H f (Gr.refl s) (.bl _)⟩)
/-- list(x), tuple(x) -/
def dList (x : D) (F : D → Prop) : Prop := ∃ xs, x.items = some xs ∧ F (.lst xs)
theorem we_list {te : TE} {F : D → List SD → Prop} (h : WE K te ρ fun x ρ1 => dList x fun d => F d ρ1) : WE K (tCB (fun xs H Q => ∃ p ys, xs = [V.ref p] ∧ (SqL K H p ys ∨ SqT K H p ys) ∧ ∀ l, H l = none → Q (.ref l) (upd H l (.lst ys))) (tCons te tNil)) ρ F :=
  we_cb1 (h.mono fun x _ q => fun B H vs s r Q k => by
    obtain ⟨v, rfl, r1⟩ := ra1 r
    obtain ⟨xs, e, f⟩ := q
    obtain ⟨p, ys, rfl, hs, ra⟩ := r1.seq e
    refine ⟨p, ys, rfl, hs.imp (same_l s) (same_t s), fun l hl => ?_⟩
    have hb := same_none s hl
    exact k _ _ (upd B l _) _ f ((Gr.refl s).new hl hl) (.lst upd_same (ra.mono (same_new hb))))
def dTuple (x : D) (F : D → Prop) : Prop := ∃ xs, x.items = some xs ∧ F (.tup xs)
theorem we_tuple {te : TE} {F : D → List SD → Prop} (h : WE K te ρ fun x ρ1 => dTuple x fun d => F d ρ1) : WE K (tCB (fun xs H Q => ∃ p ys, xs = [V.ref p] ∧ ((SqL K H p ys ∧ ∀ l, H l = none → Q (.ref l) (upd H l (.tup ys))) ∨ (SqT K H p ys ∧ Q (.ref p) H))) (tCons te tNil)) ρ F :=
  we_cb1 (h.mono fun x _ q => fun B H vs s r Q k => by
    obtain ⟨v, rfl, r1⟩ := ra1 r
    obtain ⟨xs, e, f⟩ := q
    obtain ⟨p, ys, rfl, hs, ra⟩ := r1.seq e
    rcases hs with hs | hs
    · refine ⟨p, ys, rfl, .inl ⟨same_l s hs, fun l hl => ?_⟩⟩
      have hb := same_none s hl
      exact k _ _ (upd B l _) _ f ((Gr.refl s).new hl hl) (.tup (SqT.of upd_same) (ra.mono (same_new hb)))
    · exact ⟨p, ys, rfl, .inr ⟨same_t s hs, k _ _ B H f (Gr.refl s) (.tup hs ra)⟩⟩)
/-- list(range(n)) -/
def WR (K : Fg) (te : L2.St → Hp → (Int → Int → Hp → Prop) → Prop) (ρ : List SD) (F : Int → Int → List SD → Prop) : Prop :=
  ∀ P B0 H0 B H σ, ST K P B0 H0 ρ B H σ → ∀ Q : Int → Int → Hp → Prop, (∀ a b ρ' B' H', F a b ρ' → ST K P B0 H0 ρ' B' H' σ → Ev ρ σ B H ρ' B' H' → Q a b H') → te σ H Q
theorem wr_1 {ta : TE} {F : Int → Int → List SD → Prop} (h : WE K ta ρ fun x ρ1 => ∃ n, x = .int n ∧ F 0 n ρ1) : WR K (tRg1 ta) ρ F :=
  fun P B0 H0 B H σ S Q k => h P B0 H0 B H σ S _ fun v d ρ' B' H' ⟨i, e, f⟩ S' s r => by
    subst e
    exact ⟨i, rint r, k _ _ ρ' B' H' f S' s⟩
def rgD (a b : Int) : List D := (List.range (b - a).toNat).map fun i => D.int (a + (i : Nat))
theorem rg_ra {B : Hp} (a b : Int) : RA K B (rgV a b) (rgD a b) := by
  unfold rgV rgD
  generalize List.range (b - a).toNat = l
  induction l with
  | nil => exact .nil
  | cons x l ih => exact .cons (.int _) ih
theorem we_lstRg {te : L2.St → Hp → (Int → Int → Hp → Prop) → Prop} {F : D → List SD → Prop} (h : WR K te ρ fun a b ρ1 => RgOk a b ∧ F (.lst (rgD a b)) ρ1) : WE K (tLstRg te) ρ F :=
  fun P B0 H0 B H σ S Q k => h P B0 H0 B H σ S _ fun a b ρ1 B1 H1 ⟨h1, h2⟩ S1 s1 => ⟨h1, fun p hp => by
    have hb := S1.bfree hp
    exact k _ _ ρ1 (upd B1 p _) _ h2 (S1.new _ hp) (s1.trans (Ev.new S1.le hp)) (.lst upd_same (rg_ra a b))⟩
/-! ### isinstance -/
def tyD : D → Value
  | .non => .type "NoneType"
  | .bl _ => .type "bool"
  | .int _ => .type "int"
  | .str _ => .type "str"
  | .tup _ => .type "tuple"
  | .ntp _ => .type "tuple"
  | .ptp _ => .type "tuple"
  | .lst _ => .type "list"
  | .frl _ => .type "list"
  | .dct _ => .type "dict"
  | .obj C _ => .ref C
  | .ty _ => .type "type"
  | .cls _ => .type "type"
  | .exc C _ => .ref C
/-- what isinstance asks of a class's instances -/
structure InsOk (K : Fg) (C : Addr) : Prop where
  cl : Cls K C
  ha : PySem.W.findIn K (.ref C) "__class__" = some (some (.builtin "object.__class__"))
  hn : PySem.W.specialIn K (.builtin "object.__class__") "__get__" = some (some (.builtin "getset_descriptor.__get__"))
  ht : PySem.W.takesIn K (.builtin "object.__class__") = some true
  hm : PySem.W.mroIn K C (.type "object") = some true
def clsD : D → Option Value
  | .ty n => some (.type n)
  | .cls C => some (.ref C)
  | _ => none
theorem rcls {B : Hp} {v : V} {c : D} {u : Value} (h : R K B v c) (e : clsD c = some u) : ClsV v u := by
  cases h <;> first | (cases e; done) | (cases e; exact .ty _) | (cases e; exact .own _)
/-- isinstance(e, c), e an exception that was caught -/
def rIsiE (K : Fg) : List V → Hp → VK → Prop := fun xs H Q => ∃ (a C dx : Addr) (fs : List (Str × V)) (c : V) (u : Value) (b : Bool), xs = [.ref a, c] ∧ ClsV c u ∧ H a = some (xoH a C dx) ∧ H dx = some (.xd fs) ∧ ExcC K C ∧ PySem.W.kitOne K (.ref C) u = some b ∧ Q (.bl b) H
def rIsiA (K : Fg) : List V → Hp → VK → Prop := fun xs H Q => rIsi K xs H Q ∨ rIsiE K xs H Q
omit [Tabl] [Exn] in
theorem xo_at {P : Program} {w : World} {H : Hp} {h : Heap} {a C dx : Addr} (hok : HOk P w H h) (e : H a = some (xoH a C dx)) : ∃ (oe : Obj) (vs : Array Value), h.get? a = some oe ∧ Zc (.ref C) (some dx) oe ∧ oe.data = .fields vs := by
  obtain ⟨z, _, _⟩ := hok a _ e
  exact z
omit [Tabl] [Exn] in
theorem xo_inst {X : Cx} {pins : List (Addr × Obj)} {σ : L2.St} {H : Hp} {s : Shared} {a C dx : Addr} {fs : List (Str × V)} (I : Inv X pins σ H s) (e : H a = some (xoH a C dx)) (ed : H dx = some (.xd fs)) : ∃ oe od, PySem.W.InstAt s.heap a oe C (some od) := by
  obtain ⟨oe, vs, ha, hz, hd⟩ := xo_at I.hok e
  obtain ⟨mA, hns, hr⟩ := (show ObjOk X.prog X.w H s.heap dx (.xd fs) from I.hok dx _ ed)
  obtain ⟨od, ho, hl⟩ := lookIn_ns hns
  exact ⟨oe, od, ha, hz.1, by unfold PySem.W.notCls; rw [hd] <;> rfl, by rw [hz.2]; exact ho⟩
omit [Tabl] [Exn] in
theorem call_isiE {X : Cx} : CallR X (.builtin "isinstance") (rIsiE X.K) := by
  intro pins s σ H xs us Q I r h
  obtain ⟨a, C, dx, fs, c, u, b, rfl, k, e, ed, T, eb, q⟩ := h
  obtain ⟨u1, u2, rfl, r1, r2⟩ := vals2 r
  have e2 := k.eq r2
  subst e2
  cases (show u1 = Value.ref a from r1)
  obtain ⟨oe, od, J⟩ := xo_inst I e ed
  obtain ⟨cd, hc, _⟩ := PySem.W.any_some T.hd
  exact PySem.W.kia_one (PySem.W.kitx_exc (by rw [hc]; rfl) T.hg T.hk T.hs T.ha T.hn T.ht T.hm) I.kIn J eb (fun z => nomatch z) fun tk => ⟨.bl b, H, I.tok tk, rfl, q⟩
def IsiOk (K : Fg) (x : D) : Prop := match x with
  | .obj C _ => InsOk K C
  | .exc C _ => ExcC K C
  | .ty _ => False
  | .cls _ => False
  | .ntp _ => False
  | .ptp _ => False
  | _ => True
def dIsi (K : Fg) (x c : D) (F : D → Prop) : Prop := IsiOk K x ∧ ∃ u b, clsD c = some u ∧ PySem.W.kitOne K (tyD x) u = some b ∧ F (.bl b)
theorem rtyx {B H : Hp} {v : V} {x : D} (s : Same B H) (h : R K B v x) (hc : IsiOk K x) : TyX K H v (tyD x) ∨ ∃ a C dx fs, v = .ref a ∧ tyD x = .ref C ∧ H a = some (xoH a C dx) ∧ H dx = some (.xd fs) ∧ ExcC K C := by
  cases h with
  | exc h1 h2 q => exact .inr ⟨_, _, _, _, rfl, rfl, s _ _ h1, s _ _ h2, hc⟩
  | non => exact .inl (.base .non)
  | bl b => exact .inl (.base (.bl b))
  | int b => exact .inl (.base (.int b))
  | str b => exact .inl (.base (.str b))
  | ty => exact hc.elim
  | cls => exact hc.elim
  | ntp _ _ _ _ => exact hc.elim
  | ptp _ _ => exact hc.elim
  | tup h q =>
    rcases h with (h | ⟨o, h⟩) | ⟨o, its, n, h1, h2, _⟩
    · exact .inl (.base (.tup (s _ _ h)))
    · exact .inl (.fTuple (s _ _ h))
    · exact .inl (.kTuple h1 h2)
  | lst h q => exact .inl (.base (.lst (s _ _ h)))
  | frl h q =>
    rcases h with (h | ⟨o, h⟩) | ⟨o, its, n, h1, h2, _⟩
    · exact .inl (.base (.lst (s _ _ h)))
    · exact .inl (.base (.frz (s _ _ h)))
    · exact .inl (.kList h1 h2)
  | dct h q => exact .inl (.base (.dK (s _ _ h)))
  | obj h q => exact .inl (.base (.ins (s _ _ h) hc.cl hc.ha hc.hn hc.ht hc.hm))
theorem we_isi {te tf : TE} {F : D → List SD → Prop} (h : WE K te ρ fun x ρ1 => WE K tf ρ1 fun y ρ2 => dIsi K x y fun d => F d ρ2) : WE K (tCB (rIsiA K) (tCons te (tCons tf tNil))) ρ F :=
  we_cb2 (h.mono fun x _ q => q.mono fun y _ q => fun B H vs s r Q k => by
    obtain ⟨v, u, rfl, r1, r2⟩ := ra2 r
    obtain ⟨hx, t, b, e1, e2, f⟩ := q
    rcases rtyx s r1 hx with ty | ⟨a, C, dx, fs, rfl, ex, h1, h2, h3⟩
    · exact .inl ⟨v, u, tyD x, t, b, rfl, rcls r2 e1, ty, e2, k _ _ B H f (Gr.refl s) (.bl _)⟩
    · rw [ex] at e2
      exact .inr ⟨a, C, dx, fs, u, t, b, rfl, rcls r2 e1, h1, h2, h3, e2, k _ _ B H f (Gr.refl s) (.bl _)⟩)
/-! ### attributes -/
theorem RF.look {B : Hp} {f : Str} : ∀ {vs : List (Str × V)} {ds : List (Str × D)} {d : D}, RF K B vs ds → ds.lookup f = some d → ∃ v, vs.lookup f = some v ∧ R K B v d
  | _, _, d, .nil, e => by simp at e
  | _, _, d, .cons (k := k') (v := v) (d := d') (vs := vs) (ds := ds) h q, e => by
    rw [List.lookup_cons] at e
    by_cases z : (f == k') = true
    · rw [z] at e
      cases e
      exact ⟨v, by rw [List.lookup_cons, z], h⟩
    · have z' : (f == k') = false := by simpa using z
      rw [z'] at e
      obtain ⟨v', h1, h2⟩ := RF.look q e
      exact ⟨v', by rw [List.lookup_cons, z']; exact h1, h2⟩
theorem RF.miss {B : Hp} {f : Str} : ∀ {vs : List (Str × V)} {ds : List (Str × D)}, RF K B vs ds → ds.lookup f = none → vs.lookup f = none
  | _, _, .nil, e => rfl
  | _, _, .cons (k := k') (v := v) (d := d') (vs := vs) (ds := ds) h q, e => by
    rw [List.lookup_cons] at e ⊢
    by_cases z : (f == k') = true
    · rw [z] at e; cases e
    · have z' : (f == k') = false := by simpa using z
      rw [z'] at e ⊢
      exact RF.miss q e
/-- e.f, e an exception that was caught -/
def tFldE (K : Fg) (te : TE) (f : Str) : TE := fun σ H Q => te σ H fun x H1 => ∃ (a C dx : Addr) (fs : List (Str × V)) (v : V), x = .ref a ∧ H1 a = some (xoH a C dx) ∧ H1 dx = some (.xd fs) ∧ XfC K C ∧ PySem.W.findIn K (.ref C) f = some none ∧ fs.lookup f = some v ∧ Q v H1
omit [Tabl] [Exn] in
theorem pe_fldE {X : Cx} {e : Expr} {te : TE} {f : Str} {pos : Pos} (he : PE X e te) (hb : attributeBase e f X.env (eval e X.env) = eval e X.env := by rfl) : PE X (.Attribute e f pos) (tFldE X.K te f) := by
  refine ⟨fun pins s σ H Q I h => ?_⟩
  refine attr_of hb (thn (he.run pins s σ H _ I h) fun u s1 hh => ?_)
  obtain ⟨x, H1, I1, rx, a, C, dx, fs, v, ex, ea, ed, T, hno, l, q⟩ := hh
  subst ex
  obtain rfl : u = Value.ref a := rx
  obtain ⟨oe, vs, ha, hz, hd⟩ := xo_at I1.hok ea
  obtain ⟨mA, hns, hr⟩ := (show ObjOk X.prog X.w H1 s1.heap dx (.xd fs) from I1.hok dx _ ed)
  obtain ⟨od, ho, hl⟩ := lookIn_ns hns
  obtain ⟨u, hu, ru⟩ := RelO.some_of (v := v) (o := mA f) (by rw [← l]; exact hr f)
  have J : PySem.W.InstAt s1.heap a oe C (some od) := ⟨ha, hz.1, by unfold PySem.W.notCls; rw [hd] <;> rfl, by rw [hz.2]; exact ho⟩
  exact PySem.HandSPX.exc_get I1.kIn J T.ga T.gg T.exC (PySem.W.findObj_own T.hdC hno rfl (by rw [hl, hu])) (handed_of ru) ⟨v, H1, I1.tok _, ru, q⟩
def dFldE (K : Fg) (f : Str) (x : D) (F : D → Prop) : Prop := ∃ C d, x = .exc C d ∧ f = "value" ∧ XfC K C ∧ PySem.W.findIn K (.ref C) f = some none ∧ F d
theorem we_fldE {te : TE} {f : Str} {F : D → List SD → Prop} (h : WE K te ρ fun x ρ1 => dFldE K f x fun d => F d ρ1) : WE K (tFldE K te f) ρ F :=
  fun P B0 H0 B H σ S Q k => h P B0 H0 B H σ S _ fun v x ρ1 B1 H1 ⟨C, d, e, ef, T, n, q⟩ S1 s1 r1 => by
    subst e ef
    cases r1 with
    | exc h1 h2 r2 => exact ⟨_, C, _, _, _, rfl, S1.le _ _ h1, S1.le _ _ h2, T, n, rfl, k _ d ρ1 B1 H1 q S1 s1 r2⟩
def dFld (K : Fg) (f : Str) (x : D) (F : D → Prop) : Prop := ∃ C ds d, x = .obj C ds ∧ Cls K C ∧ NoAttr K C f ∧ ds.lookup f = some d ∧ F d
theorem we_fld {te : TE} {f : Str} {F : D → List SD → Prop} (h : WE K te ρ fun x ρ1 => dFld K f x fun d => F d ρ1) : WE K (tFld K te f) ρ F :=
  fun P B0 H0 B H σ S Q k => h P B0 H0 B H σ S _ fun v x ρ1 B1 H1 ⟨C, ds, d, e, c, n, l, q⟩ S1 s1 r1 => by
    subst e
    cases r1 with
    | obj h1 rf =>
      obtain ⟨u, e1, r2⟩ := rf.look l
      exact ⟨_, C, _, _, u, rfl, S1.le _ _ h1, c, n, e1, k u d ρ1 B1 H1 q S1 s1 r2⟩
theorem we_prop {te : TE} {C : Addr} {n : Nat} {S : List D → (D → Prop) → Prop} {F : D → List SD → Prop} (h : WE K te ρ fun x ρ1 => ∃ ds, x = .obj C ds ∧ n = 1 ∧ S [x] fun d => F d ρ1) : WE K (tProp C (pureSp K n S) [] E0 te) ρ F :=
  fun P B0 H0 B H σ Z Q k => h P B0 H0 B H σ Z _ fun v x ρ1 B1 H1 ⟨ds, e, e2, q⟩ S1 s1 r1 => by
    subst e e2
    cases r1 with
    | obj h1 rf =>
      refine ⟨_, _, _, rfl, S1.le _ _ h1, B1, [_], _, S1.le, S1.ok, .cons (.obj h1 rf) .nil, rfl, q, fun w d B2 H2 g gr r => k w d ρ1 B2 H2 g (S1.step gr) (s1.trans (Ev.pure gr)) r⟩
theorem we_meth {to : TE} {C : Addr} {m : Str} {n : Nat} {S : List D → (D → Prop) → Prop} {t : TA} {F : D → List SD → Prop} (h : WE K to ρ fun x ρ1 => ∃ ds, x = .obj C ds ∧ ds.lookup m = none ∧ WA K t ρ1 fun es ρ2 => es.length + 1 = n ∧ S (x :: es) fun d => F d ρ2) :
    WE K (tMeth C m (pureSp K n S) [] E0 to t) ρ F :=
  fun P B0 H0 B H σ Z Q k => h P B0 H0 B H σ Z _ fun v x ρ1 B1 H1 ⟨ds, e, l, q⟩ S1 s1 r1 => by
    subst e
    cases r1 with
    | obj h1 rf =>
      refine ⟨_, _, _, rfl, S1.le _ _ h1, rf.miss l, q P B0 H0 B1 H1 σ S1 _ fun vs es ρ2 B2 H2 ⟨l2, q2⟩ S2 s2 r2 => ?_⟩
      refine ⟨B2, _, _, S2.le, S2.ok, .cons ((R.obj h1 rf).mono s2.bb) (by rw [List.append_nil]; exact r2), by rw [List.length_cons]; exact l2, q2, fun w d B3 H3 g gr r => k w d ρ2 B3 H3 g (S2.step gr) ((s1.trans s2).trans (Ev.pure gr)) r⟩
end
end Lw

set_option Elab.async false
set_option linter.all false
set_option maxRecDepth 100000
set_option maxHeartbeats 4000000
namespace Lw
open PySem PySem.Spec PyProof.Rows L2
variable [Tabl] [Exn]
/-! ### what is walked -/
/-- the walk J gives the data items, one after another, as long as what B tells stands -/
structure DW (K : Fg) (B : Hp) (J : It) (items : List D) : Prop where
  go : ∀ i H, i < items.length → Same B H → J.go i H
  stop : ∀ H, Same B H → J.stop items.length H
  yld : ∀ (i : Nat) H x H' d, items[i]? = some d → J.yld i H x H' → ∀ Bc, Same B Bc → Same Bc H → ∃ Bc', Gr Non Bc H Bc' H' ∧ R K Bc' x d
def WI (K : Fg) (wi : TI) (ρ : List SD) (F : List D → List SD → Prop) : Prop :=
  ∀ P B0 H0 B H σ, ST K P B0 H0 ρ B H σ → ∀ RR : It → Hp → Prop, (∀ J items ρ' B' H', F items ρ' → ST K P B0 H0 ρ' B' H' σ → Ev ρ σ B H ρ' B' H' → DW K B' J items → RR J H') → wi σ H RR
def iAny (K : Fg) (tl : TE) : TI := fun σ H RR => tl σ H fun x H1 =>
  (∃ a, x = .ref a ∧ (∃ xs, SqL K H1 a xs) ∧ RR (Itl K a) H1) ∨ ((∃ a, x = .ref a ∧ (∃ xs, SqT K H1 a xs) ∧ RR (Itt K a) H1) ∨ ∃ z, x = .str z ∧ RR (Its z) H1)
theorem pi_any {X : Cx} {tg l : Expr} {tl : TE} (hl : PE X l tl) : PI X tg l (iAny X.K tl) := by
  refine ⟨fun pins s σ H RR I h => ?_⟩
  refine thn (hl.run pins s σ H _ I h) fun v s1 ⟨x, H1, I1, r1, q1⟩ => ?_
  have new : ∀ b, b ∈ [s1.heap.objs.size] → FpOk X pins H1 b := fun b hb => by
    have e : b = s1.heap.objs.size := by simpa using hb
    subst e
    exact I1.fpOk (Nat.le_refl _) (I1.hok.fresh (Nat.le_refl _))
  rcases q1 with ⟨a, rfl, ⟨xs, hq⟩, q⟩ | ⟨a, rfl, ⟨xs, hq⟩, q⟩ | ⟨z, rfl, q⟩
  · cases r1
    obtain ⟨its, rv, p, hz⟩ := I1.list hq
    refine wpAny_pyIter_list p.isList ?_
    exact ⟨_, [s1.heap.objs.size], _, _, H1, rfl, I1.kept (t' := s1.toks) (fun b o e => Heap.get?_push_of_some _ e), turn_list a _, ⟨_, Heap.get?_push_size _ rfl, rfl, rfl⟩, new, q⟩
  · cases r1
    obtain ⟨its, rv, p, hz⟩ := I1.tuple hq
    refine wpAny_pyIter_tuple (show s1.heap.IsTuple a its.toArray from p) ?_
    exact ⟨_, [s1.heap.objs.size], _, _, H1, rfl, I1.kept (t' := s1.toks) (fun b o e => Heap.get?_push_of_some _ e), turn_tuple a _, ⟨_, Heap.get?_push_size _ rfl, rfl, rfl⟩, new, q⟩
  · obtain ⟨t, rfl⟩ := r1
    cases ha : z.cps.all (· < 128)
    · exact wpAny_pyIter_wide ha (pi_one (tk := s1.toks) I1 _ (turn_str _ z t "str_iterator" (.inr rfl)) ⟨_, Heap.get?_push_size _ rfl, rfl, rfl⟩ q)
    · exact wpAny_pyIter_ascii ha (pi_one (tk := s1.toks) I1 _ (turn_str _ z t "str_ascii_iterator" (.inl rfl)) ⟨_, Heap.get?_push_size _ rfl, rfl, rfl⟩ q)
section
variable {K : Fg} {ρ : List SD}
theorem sqL_inj {B H : Hp} {a : Addr} {xs : List V} (h : H a = some (.lst xs)) : SqL K H a xs := SqL.of h
theorem dw_list {B : Hp} {a : Addr} {vs : List V} {ds : List D} (h : SqL K B a vs) (r : RA K B vs ds) : DW K B (Itl K a) ds where
  go := fun i H hi s => ⟨vs, vs[i]'(by rw [r.length]; exact hi), same_l s h, by simp⟩
  stop := fun H s => ⟨vs, same_l s h, by rw [r.length]; exact Nat.le_refl _⟩
  yld := fun i H x H' d e y Bc s1 s2 => by
    obtain ⟨rfl, y⟩ := y
    obtain ⟨v, e1, r1⟩ := r.get e
    have e2 := y vs (same_l (s1.trans s2) h)
    rw [e1] at e2
    cases e2
    exact ⟨Bc, Gr.refl s2, r1.mono s1⟩
theorem dw_tup {B : Hp} {a : Addr} {vs : List V} {ds : List D} (h : SqT K B a vs) (r : RA K B vs ds) : DW K B (Itt K a) ds where
  go := fun i H hi s => ⟨vs, vs[i]'(by rw [r.length]; exact hi), same_t s h, by simp⟩
  stop := fun H s => ⟨vs, same_t s h, by rw [r.length]; exact Nat.le_refl _⟩
  yld := fun i H x H' d e y Bc s1 s2 => by
    obtain ⟨rfl, y⟩ := y
    obtain ⟨v, e1, r1⟩ := r.get e
    have e2 := y vs (same_t (s1.trans s2) h)
    rw [e1] at e2
    cases e2
    exact ⟨Bc, Gr.refl s2, r1.mono s1⟩
/-- the signs of a text -/
def signsD (z : Str) : List D := z.cps.toList.map fun c => .str ⟨#[c]⟩
theorem dw_str {B : Hp} {z : Str} : DW K B (Its z) (signsD z) where
  go := fun i H hi s => by
    unfold signsD at hi
    rw [List.length_map, Array.length_toList] at hi
    exact hi
  stop := fun H s => by
    show z.cps.size ≤ (signsD z).length
    unfold signsD
    simp
  yld := fun i H x H' d e y Bc s1 s2 => by
    obtain ⟨rfl, c, hc, rfl⟩ := y
    unfold signsD at e
    rw [List.getElem?_map] at e
    have hc' : z.cps.toList[i]? = some c := by simpa using hc
    rw [hc'] at e
    cases e
    exact ⟨Bc, Gr.refl s2, .str _⟩
/-- a list, a tuple, a text: the things of it -/
def D.things : D → Option (List D)
  | .tup xs => some xs
  | .lst xs => some xs
  | .frl xs => some xs
  | .str z => some (signsD z)
  | _ => none
theorem wi_any {te : TE} {F : List D → List SD → Prop} (h : WE K te ρ fun x ρ1 => ∃ xs, x.things = some xs ∧ F xs ρ1) : WI K (iAny K te) ρ F :=
  fun P B0 H0 B H σ S RR k => h P B0 H0 B H σ S _ fun v x ρ1 B1 H1 ⟨xs, e, f⟩ S1 s1 r1 => by
    cases r1 with
    | tup h1 a1 =>
      cases e
      exact .inr (.inl ⟨_, rfl, ⟨_, same_t S1.le h1⟩, k _ _ ρ1 B1 H1 f S1 s1 (dw_tup h1 a1)⟩)
    | lst h1 a1 =>
      cases e
      exact .inl ⟨_, rfl, ⟨_, SqL.of (S1.le _ _ h1)⟩, k _ _ ρ1 B1 H1 f S1 s1 (dw_list (SqL.of h1) a1)⟩
    | frl h1 a1 =>
      cases e
      exact .inl ⟨_, rfl, ⟨_, same_l S1.le h1⟩, k _ _ ρ1 B1 H1 f S1 s1 (dw_list h1 a1)⟩
    | str z =>
      cases e
      exact .inr (.inr ⟨_, rfl, k _ _ ρ1 B1 H1 f S1 s1 dw_str⟩)
    | _ => cases e
theorem dw_range {B : Hp} {lo : Int} {n : Nat} : DW K B (Itr lo n) ((List.range n).map fun i => .int (lo + (i : Nat))) where
  go := fun i H hi s => by
    rw [List.length_map, List.length_range] at hi
    exact hi
  stop := fun H s => by
    show n ≤ _
    simp
  yld := fun i H x H' d e y Bc s1 s2 => by
    obtain ⟨rfl, rfl⟩ := y
    rw [List.getElem?_map] at e
    cases q : (List.range n)[i]? with
    | none => rw [q] at e; cases e
    | some j =>
      rw [q] at e
      have : j = i := by
        have := List.getElem?_eq_some_iff.mp q
        obtain ⟨h1, h2⟩ := this
        simpa using h2.symm
      subst this
      cases e
      exact ⟨Bc, Gr.refl s2, .int _⟩
def rangeD (lo hi : Int) : List D := (List.range (hi - lo).toNat).map fun i => .int (lo + (i : Nat))
theorem wi_range1 {te : TE} {F : List D → List SD → Prop} (h : WE K te ρ fun x ρ1 => ∃ j : Int, x = .int j ∧ -(2 ^ 62) ≤ j ∧ j < 2 ^ 62 ∧ F (rangeD 0 j) ρ1) : WI K (iRng1 (tCons te tNil)) ρ F :=
  fun P B0 H0 B H σ S RR k => h P B0 H0 B H σ S _ fun v x ρ1 B1 H1 ⟨j, e, h1, h2, f⟩ S1 s1 r1 => by
    subst e
    refine ⟨j, by rw [rint r1], h1, h2, k _ _ ρ1 B1 H1 f S1 s1 ?_⟩
    unfold rangeD
    rw [Int.sub_zero]
    exact dw_range
theorem wi_range2 {te tf : TE} {F : List D → List SD → Prop} (h : WE K te ρ fun x ρ1 => WE K tf ρ1 fun y ρ2 => ∃ i j : Int, x = .int i ∧ y = .int j ∧ (-(2 ^ 62) ≤ i ∧ i < 2 ^ 62 ∧ -(2 ^ 62) ≤ j ∧ j < 2 ^ 62) ∧ F (rangeD i j) ρ2) : WI K (iRng2 (tCons te (tCons tf tNil))) ρ F :=
  fun P B0 H0 B H σ S RR k => h P B0 H0 B H σ S _ fun v x ρ1 B1 H1 h1 S1 s1 r1 => h1 P B0 H0 B1 H1 σ S1 _ fun u y ρ2 B2 H2 ⟨i, j, e1, e2, h2, f⟩ S2 s2 r2 => by
    subst e1 e2
    exact ⟨i, j, by rw [rint r1, rint r2], h2, k _ _ ρ2 B2 H2 f S2 (s1.trans s2) dw_range⟩
/-- pairs of two walked things: zip, enumerate -/
def zipD (xs ys : List D) : List D := (xs.zip ys).map fun p => .tup [p.1, p.2]
theorem zipD_get {xs ys : List D} {i : Nat} {d : D} (h : (zipD xs ys)[i]? = some d) : ∃ x y, xs[i]? = some x ∧ ys[i]? = some y ∧ d = .tup [x, y] := by
  unfold zipD at h
  rw [List.getElem?_map] at h
  cases q : (xs.zip ys)[i]? with
  | none => rw [q] at h; cases h
  | some p =>
    rw [q] at h
    rw [List.getElem?_zip_eq_some] at q
    exact ⟨p.1, p.2, q.1, q.2, (Option.some.inj h).symm⟩
theorem zipD_len {xs ys : List D} : (zipD xs ys).length = min xs.length ys.length := by simp [zipD]
theorem new_pair {Bc H : Hp} {T : Addr} {x y : V} {d e : D} (s2 : Same Bc H) (hT : H T = none) (r1 : R K Bc x d) (r2 : R K Bc y e) : ∃ Bc', Gr Non Bc H Bc' (upd H T (.tup [x, y])) ∧ R K Bc' (.ref T) (.tup [d, e]) := by
  have hb := same_none s2 hT
  exact ⟨upd Bc T _, (Gr.refl s2).new hT hT, .tup (SqT.of upd_same) (.cons (r1.mono (same_new hb)) (.cons (r2.mono (same_new hb)) .nil))⟩
theorem dw_zipL {B : Hp} {a b : Addr} {vs us : List V} {ds es : List D} (h : SqL K B a vs) (r : RA K B vs ds) (h' : SqL K B b us) (r' : RA K B us es) : DW K B (Itz K a b) (zipD ds es) where
  go := fun i H hi s => by
    rw [zipD_len] at hi
    have h1 : i < vs.length := by rw [r.length]; omega
    have h2 : i < us.length := by rw [r'.length]; omega
    exact ⟨vs, us, vs[i], us[i], same_l s h, same_l s h', by simp [h1], by simp [h2]⟩
  stop := fun H s => by
    refine ⟨vs, us, same_l s h, same_l s h', ?_⟩
    rw [zipD_len, r.length, r'.length]
    omega
  yld := fun i H x H' d e y Bc s1 s2 => by
    obtain ⟨T, v, u, rfl, hT, rfl, f1, f2⟩ := y
    obtain ⟨d1, d2, e1, e2, rfl⟩ := zipD_get e
    obtain ⟨v', q1, r1⟩ := r.get e1
    obtain ⟨u', q2, r2⟩ := r'.get e2
    have z1 := f1 vs (same_l (s1.trans s2) h)
    have z2 := f2 us (same_l (s1.trans s2) h')
    rw [q1] at z1; cases z1
    rw [q2] at z2; cases z2
    exact new_pair s2 hT (r1.mono s1) (r2.mono s1)
theorem dw_zipT {B : Hp} {a b : Addr} {vs us : List V} {ds es : List D} (h : SqT K B a vs) (r : RA K B vs ds) (h' : SqT K B b us) (r' : RA K B us es) : DW K B (RZ.ItzT K a b) (zipD ds es) where
  go := fun i H hi s => by
    rw [zipD_len] at hi
    have h1 : i < vs.length := by rw [r.length]; omega
    have h2 : i < us.length := by rw [r'.length]; omega
    exact ⟨vs, us, vs[i], us[i], same_t s h, same_t s h', by simp [h1], by simp [h2]⟩
  stop := fun H s => by
    refine ⟨vs, us, same_t s h, same_t s h', ?_⟩
    rw [zipD_len, r.length, r'.length]
    omega
  yld := fun i H x H' d e y Bc s1 s2 => by
    obtain ⟨T, v, u, rfl, hT, rfl, f1, f2⟩ := y
    obtain ⟨d1, d2, e1, e2, rfl⟩ := zipD_get e
    obtain ⟨v', q1, r1⟩ := r.get e1
    obtain ⟨u', q2, r2⟩ := r'.get e2
    have z1 := f1 vs (same_t (s1.trans s2) h)
    have z2 := f2 us (same_t (s1.trans s2) h')
    rw [q1] at z1; cases z1
    rw [q2] at z2; cases z2
    exact new_pair s2 hT (r1.mono s1) (r2.mono s1)
theorem wi_zip {te tf : TE} {F : List D → List SD → Prop} (h : WE K te ρ fun x ρ1 => WE K tf ρ1 fun y ρ2 => ∃ xs ys, ((x = .lst xs ∧ y = .lst ys) ∨ (x = .tup xs ∧ y = .tup ys)) ∧ F (zipD xs ys) ρ2) : WI K (RZ.iZipA K (tCons te (tCons tf tNil))) ρ F :=
  fun P B0 H0 B H σ S RR k => h P B0 H0 B H σ S _ fun v x ρ1 B1 H1 h1 S1 s1 r1 => h1 P B0 H0 B1 H1 σ S1 _ fun u y ρ2 B2 H2 ⟨xs, ys, e, f⟩ S2 s2 r2 => by
    have r1' := r1.mono s2.bb
    rcases e with ⟨rfl, rfl⟩ | ⟨rfl, rfl⟩
    · cases r1' with
      | lst h1 a1 =>
        cases r2 with
        | lst h2 a2 => exact ⟨_, _, _, _, rfl, .inl ⟨SqL.of (S2.le _ _ h1), SqL.of (S2.le _ _ h2), k _ _ ρ2 B2 H2 f S2 (s1.trans s2) (dw_zipL (SqL.of h1) a1 (SqL.of h2) a2)⟩⟩
    · cases r1' with
      | tup h1 a1 =>
        cases r2 with
        | tup h2 a2 => exact ⟨_, _, _, _, rfl, .inr ⟨same_t S2.le h1, same_t S2.le h2, k _ _ ρ2 B2 H2 f S2 (s1.trans s2) (dw_zipT h1 a1 h2 a2)⟩⟩
/-- enumerate of a list -/
def enumD (xs : List D) : List D := zipD (rangeD 0 xs.length) xs
theorem dw_enum {B : Hp} {a : Addr} {vs : List V} {ds : List D} (h : SqL K B a vs) (r : RA K B vs ds) : DW K B (Ite K a) (enumD ds) where
  go := fun i H hi s => by
    unfold enumD at hi
    rw [zipD_len] at hi
    have h1 : i < vs.length := by rw [r.length]; omega
    exact ⟨vs, vs[i], same_l s h, by simp [h1]⟩
  stop := fun H s => by
    refine ⟨vs, same_l s h, ?_⟩
    unfold enumD
    rw [zipD_len, r.length]
    simp [rangeD]
  yld := fun i H x H' d e y Bc s1 s2 => by
    obtain ⟨T, v, rfl, hT, rfl, f1⟩ := y
    obtain ⟨d1, d2, e1, e2, rfl⟩ := zipD_get e
    obtain ⟨v', q1, r1⟩ := r.get e2
    have z1 := f1 vs (same_l (s1.trans s2) h)
    rw [q1] at z1; cases z1
    unfold rangeD at e1
    rw [List.getElem?_map] at e1
    cases q : (List.range ((ds.length : Int) - 0).toNat)[i]? with
    | none => rw [q] at e1; cases e1
    | some j =>
      rw [q] at e1
      have : j = i := by
        obtain ⟨h1, h2⟩ := List.getElem?_eq_some_iff.mp q
        simpa using h2.symm
      subst this
      cases e1
      refine new_pair s2 hT ?_ (r1.mono s1)
      show R K Bc (V.int (j : Nat)) (.int (0 + (j : Nat)))
      rw [Int.zero_add]
      exact .int _
theorem wi_enum {te : TE} {F : List D → List SD → Prop} (h : WE K te ρ fun x ρ1 => ∃ xs, x = .lst xs ∧ F (enumD xs) ρ1) : WI K (iEnum K (tCons te tNil)) ρ F :=
  fun P B0 H0 B H σ S RR k => h P B0 H0 B H σ S _ fun v x ρ1 B1 H1 ⟨xs, e, f⟩ S1 s1 r1 => by
    subst e
    cases r1 with
    | lst h1 a1 => exact ⟨_, _, rfl, SqL.of (S1.le _ _ h1), k _ _ ρ1 B1 H1 f S1 s1 (dw_enum (SqL.of h1) a1)⟩
/-! ### for -/
theorem ws_for {wi : TI} {g : TG} {tb : TS} {E : Out} (h : WI K wi ρ fun items ρ1 => ∃ I : Nat → List SD → Prop, I 0 ρ1 ∧
    (∀ (i : Nat) ρi x, items[i]? = some x → I i ρi → WG K g x ρi fun ρ2 => WS K tb ρ2 { nx := I (i + 1), rt := E.rt, bk := E.nx, ct := I (i + 1) }) ∧ ∀ ρ', I items.length ρ' → E.nx ρ') : WS K (tFor wi g tb) ρ E :=
  fun P B0 H0 B H σ S D k1 k2 k3 k4 => h P B0 H0 B H σ S _ fun J items ρ1 B1 H1 ⟨I, i0, it, ie⟩ S1 s1 w => by
    refine ⟨fun i m σ' H' => m = items.length - i ∧ i ≤ items.length ∧ ∃ ρi Bi, I i ρi ∧ ST K P B0 H0 ρi Bi H' σ' ∧ Same B1 Bi, ⟨items.length, by simp, Nat.zero_le _, ρ1, B1, i0, S1, Same.refl _⟩, ?_⟩
    rintro i m σ' H' ⟨rfl, hi, ρi, Bi, Ii, Si, si⟩
    by_cases hlt : i < items.length
    · refine .inr ⟨w.go i H' hlt (si.trans Si.le), fun σ2 H2 => ∃ ρj Bj, I (i + 1) ρj ∧ ST K P B0 H0 ρj Bj H2 σ2 ∧ Same B1 Bj, fun σ2 H2 ⟨ρj, Bj, a, b, c⟩ => ⟨items.length - (i + 1), by omega, rfl, hlt, ρj, Bj, a, b, c⟩, fun x H2 y => ?_⟩
      have ei : items[i]? = some items[i] := List.getElem?_eq_getElem hlt
      obtain ⟨Bc, gr, r⟩ := w.yld i H' x H2 _ ei y Bi si Si.le
      refine it i ρi _ ei Ii P B0 H0 Bc H2 σ' x (Si.step gr) r _ fun ρ2 σ2 h2 S2 _ => ?_
      refine h2 P B0 H0 Bc H2 σ2 S2 _ (fun ρ3 B3 H3 σ3 f S3 s3 => ?_) (fun v d ρ3 B3 H3 σ3 f S3 s3 r3 => ?_) (fun ρ3 B3 H3 σ3 f S3 s3 => ?_) (fun ρ3 B3 H3 σ3 f S3 s3 => ?_)
      · exact ⟨ρ3, B3, f, S3, (si.trans gr.bb).trans s3⟩
      · exact k2 v d ρ3 B3 H3 σ3 f S3 (s1.bb.trans ((si.trans gr.bb).trans s3)) r3
      · exact k1 ρ3 B3 H3 σ3 f S3 (s1.bb.trans ((si.trans gr.bb).trans s3))
      · exact ⟨ρ3, B3, f, S3, (si.trans gr.bb).trans s3⟩
    · have e : i = items.length := by omega
      subst e
      exact .inl ⟨w.stop H' (si.trans Si.le), k1 ρi Bi H' σ' (ie ρi Ii) Si (s1.bb.trans si)⟩
/-! ### comprehensions -/
def wipeD (ρ : List SD) : List Nat → List SD
  | [] => ρ
  | v :: vs => (wipeD ρ vs).set v .un
theorem wipeD_len {vs : List Nat} : (wipeD ρ vs).length = ρ.length := by
  induction vs with
  | nil => rfl
  | cons v vs ih => unfold wipeD; rw [List.length_set, ih]
theorem wipeD_get {vs : List Nat} {i : Nat} {s : SD} (h : (wipeD ρ vs)[i]? = some s) : s = .un ∨ (i ∉ vs ∧ ρ[i]? = some s) := by
  induction vs with
  | nil => exact .inr ⟨by simp, h⟩
  | cons v vs ih =>
    unfold wipeD at h
    by_cases e : v = i
    · subst e
      exact .inl (set_same_of h).1
    · rw [get_set_ne e] at h
      rcases ih h with h | ⟨h1, h2⟩
      · exact .inl h
      · exact .inr ⟨by simp only [List.mem_cons, not_or]; exact ⟨fun q => e q.symm, h1⟩, h2⟩
theorem wipe_in {σ : L2.St} {vs : List Nat} {i : Nat} (h : i ∈ vs) (hl : i < σ.length) : (wipe σ vs)[i]? = some none := by
  induction vs with
  | nil => cases h
  | cons v vs ih =>
    unfold wipe
    by_cases e : v = i
    · subst e
      rw [List.getElem?_set_self (by rw [wipe_length]; exact hl)]
    · rw [get_set_ne e]
      rcases List.mem_cons.mp h with q | q
      · exact absurd q.symm e
      · exact ih q
theorem wipe_ext {σ τ : L2.St} {vs : List Nat} (hl : σ.length = τ.length) (h : ∀ i, i ∉ vs → σ[i]? = τ[i]?) : wipe σ vs = wipe τ vs := by
  apply List.ext_getElem?
  intro i
  by_cases q : i ∈ vs
  · by_cases l : i < σ.length
    · rw [wipe_in q l, wipe_in q (by omega)]
    · rw [List.getElem?_eq_none (by rw [wipe_length]; omega), List.getElem?_eq_none (by rw [wipe_length]; omega)]
  · rw [wipe_out q, wipe_out q, h i q]
theorem wipe_wipe {σ : L2.St} {vs : List Nat} : wipe (wipe σ vs) vs = wipe σ vs := wipe_ext (wipe_length _ _) fun i h => wipe_out h
theorem wipe_set {σ : L2.St} {vs : List Nat} {i : Nat} {x : Option V} (h : i ∈ vs) : wipe (σ.set i x) vs = wipe σ vs := wipe_ext (List.length_set ..) fun j q => by
  rw [get_set_ne (fun e => q (by rw [← e]; exact h))]
section
variable {P : Addr → Prop} {B0 H0 B H : Hp} {σ : L2.St}
theorem ST.wipe (S : ST K P B0 H0 ρ B H σ) (vs : List Nat) : ST K P B0 H0 (wipeD ρ vs) B H (L2.wipe σ vs) := by
  refine S.forget (by rw [wipe_length, wipeD_len, S.len]) fun i s h => ?_
  rcases wipeD_get h with h | ⟨h1, h2⟩
  · exact .inl h
  · exact .inr ⟨h2, wipe_out h1⟩
theorem ST.unwipe {vs : List Nat} (S : ST K P B0 H0 (wipeD ρ vs) B H (L2.wipe σ vs)) : ST K P B0 H0 (wipeD ρ vs) B H σ := by
  refine S.forget (by rw [← S.len, wipe_length]) fun i s h => ?_
  rcases wipeD_get h with q | ⟨h1, h2⟩
  · exact .inl q
  · exact .inr ⟨h, (wipe_out h1).symm⟩
/-- a thing that no slot tells may change -/
theorem ST.side (S : ST K P B0 H0 ρ B H σ) {p : Addr} {o : HO} (hb : B p = none) (h0 : H0 p = none) (hn : ∀ (j : Nat) s, ρ[j]? = some s → s.mu = true → σ[j]? ≠ some (some (.ref p))) (hl : ∀ u, H p = some u → Pln u) : ST K P B0 H0 ρ B (upd H p o) σ where
  len := S.len
  gr := S.gr.mut hb (.inr h0) hl
  sl := fun i s h => (S.sl i s h).step (Same.refl _) (fun a ψ q => by rw [upd_ne (fun z => by rw [z] at q; exact hl _ q)]; exact q) fun a u m e hb1 hh _ => ⟨by
    have ne : a ≠ p := fun q => by
      subst q
      refine hn i s h m ?_
      obtain ⟨w, e1, _⟩ := S.slot h
      rw [e1] at e ⊢
      have e' : w = some (V.ref a) := e
      rw [e']
    rw [upd_ne ne]
    exact hh, hb1⟩
  dis := S.dis
  ok := S.ok.upd hl
  ex := S.ex
theorem ST.h0 (S : ST K P B0 H0 ρ B H σ) {p : Addr} (h : H p = none) : H0 p = none := by
  cases q : H0 p with
  | none => rfl
  | some u =>
    by_cases n : P p
    · exact absurd h (S.gr.pt p n (by rw [q]; exact fun z => nomatch z))
    · rw [S.gr.hh p u n q] at h; cases h
theorem ST.mu_at (S : ST K P B0 H0 ρ B H σ) {j : Nat} {s : SD} (h : ρ[j]? = some s) (m : s.mu = true) {p : Addr} (hp : H p = none) : σ[j]? ≠ some (some (.ref p)) := fun z => by
  obtain ⟨w, e1, y⟩ := S.slot h
  obtain ⟨b, e2, _, _, e5⟩ := y.at_ m
  rw [e1] at z
  rw [e2] at z
  cases z
  exact e5 hp
end
/-- the target stores at vs alone -/
def GIn (g : TG) (vs : List Nat) : Prop := ∀ v σ H Q, g v σ H Q → g v σ H fun σ' H' => wipe σ' vs = wipe σ vs ∧ Q σ' H'
def GsIn (g : TGs) (vs : List Nat) : Prop := ∀ v σ H Q, g v σ H Q → g v σ H fun σ' H' => wipe σ' vs = wipe σ vs ∧ Q σ' H'
theorem gin_name {i : Nat} {vs : List Nat} (h : i ∈ vs) : GIn (gName i) vs := fun v σ H Q q => ⟨wipe_set h, q⟩
theorem gsin_nil {vs : List Nat} : GsIn gNil vs := fun v σ H Q q => ⟨q.1, rfl, q.2⟩
theorem TG.mono_name {i : Nat} : ∀ v σ H Q Q', (∀ σ' H', Q σ' H' → Q' σ' H') → gName i v σ H Q → gName i v σ H Q' := fun v σ H Q Q' f q => f _ _ q
/-- a target's reading may be weakened -/
def GMono (g : TG) : Prop := ∀ v σ H (Q Q' : L2.St → Hp → Prop), (∀ σ' H', Q σ' H' → Q' σ' H') → g v σ H Q → g v σ H Q'
def GsMono (g : TGs) : Prop := ∀ v σ H (Q Q' : L2.St → Hp → Prop), (∀ σ' H', Q σ' H' → Q' σ' H') → g v σ H Q → g v σ H Q'
theorem gmono_name {i : Nat} : GMono (gName i) := fun v σ H Q Q' f q => f _ _ q
theorem gsmono_nil : GsMono gNil := fun v σ H Q Q' f q => ⟨q.1, f _ _ q.2⟩
theorem gsmono_cons {g : TG} {gs : TGs} (h1 : GMono g) (h2 : GsMono gs) : GsMono (gCons g gs) := fun v σ H Q Q' f ⟨x, r, e, q⟩ => ⟨x, r, e, h1 _ _ _ _ _ (fun σ' H' q => h2 _ _ _ _ _ f q) q⟩
theorem gmono_tup {n : Nat} {gs : TGs} (h : GsMono gs) : GMono (gTup K n gs) := fun v σ H Q Q' f ⟨a, xs, e, s, l, q⟩ => ⟨a, xs, e, s, l, h _ _ _ _ _ f q⟩
theorem gsin_cons {g : TG} {gs : TGs} {vs : List Nat} (h1 : GIn g vs) (h2 : GsIn gs vs) (m1 : GMono g) (m2 : GsMono gs) : GsIn (gCons g gs) vs := fun v σ H Q ⟨x, r, e, q⟩ =>
  ⟨x, r, e, m1 _ _ _ _ _ (fun σ1 H1 z => m2 _ _ _ _ _ (fun σ2 H2 y => ⟨y.1.trans z.1, y.2⟩) (h2 _ _ _ _ z.2)) (h1 _ _ _ _ q)⟩
theorem gin_tup {n : Nat} {gs : TGs} {vs : List Nat} (h : GsIn gs vs) : GIn (gTup K n gs) vs := fun v σ H Q ⟨a, xs, e, s, l, q⟩ => ⟨a, xs, e, s, l, h _ _ _ _ q⟩
/-- the comprehension's turns: I tells, behind i turns, what was kept and the slots -/
structure LcI (K : Fg) (g : TG) (tt : TT) (te : TE) (vs : List Nat) (items : List D) (ρ1 : List SD) (F : D → List SD → Prop) (I : Nat → List D → List SD → Prop) : Prop where
  start : I 0 [] (wipeD ρ1 vs)
  mu : ∀ i acc ρ', I i acc ρ' → ρ'.map SD.mu = (wipeD ρ1 vs).map SD.mu ∧ wipeD ρ' vs = ρ'
  turn : ∀ (i : Nat) acc ρi x, items[i]? = some x → acc.length ≤ i → I i acc ρi → WG K g x ρi fun ρ2 => WT K tt ρ2 fun b ρ3 =>
    (b = true → WE K te ρ3 fun y ρ4 => I (i + 1) (acc ++ [y]) (wipeD ρ4 vs)) ∧ (b = false → I (i + 1) acc (wipeD ρ3 vs))
  fin : ∀ acc ρ', I items.length acc ρ' → F (.lst acc) ρ'
theorem Gr.keepP {M : Addr → Prop} {B H B' H' : Hp} {p : Addr} {o : HO} (g : Gr M B H B' H') (n : ¬ M p) (h : H p = some o) (hb : B p = none) (hl : Pln o := by trivial) : H' p = some o ∧ B' p = none := by
  refine ⟨g.hh p o n h, ?_⟩
  cases q : B' p with
  | none => rfl
  | some u =>
    rcases g.fr p u q with z | z | z
    · rw [hb] at z; cases z
    · rw [h] at z
      rcases z with z | ⟨ys, z⟩
      · cases z
      · cases z; exact hl.elim
    · exact absurd z n
theorem ST.tell {P : Addr → Prop} {B0 H0 B H : Hp} {σ : L2.St} {p : Addr} {o : HO} (S : ST K P B0 H0 ρ B H σ) (hb : B p = none) (hh : H p = some o) (h0 : H0 p = none) (hn : ¬ Mus ρ σ p) (hl : Pln o) : ST K P B0 H0 ρ (upd B p o) H σ where
  len := S.len
  gr := ⟨S.gr.hh, S.gr.bb.trans (same_new hb), fun c u e => by
      by_cases z : c = p
      · subst z; rw [upd_same] at e; rw [hh]; exact e
      · rw [upd_ne z] at e; exact S.le c u e, fun c u e => by
      by_cases z : c = p
      · subst z; exact .inr (.inl (.inl h0))
      · rw [upd_ne z] at e; exact S.gr.fr c u e, S.gr.pt, S.gr.tp, fun _ => ⟨S.ok.1, fun b t => by
      rw [upd_ne (fun q => by rw [q] at t; exact S.ok.not hh (pln_tbl hl) t)]
      exact S.ok.2 b t⟩⟩
  sl := fun j s h => (S.sl j s h).step (same_new hb) (fun _ _ q => q) fun a u m e hb1 hh1 _ => ⟨hh1, by
    have ne : a ≠ p := fun q => by
      subst q
      refine hn (.inl ⟨j, s, h, m, ?_⟩)
      obtain ⟨w, e1, _⟩ := S.slot h
      rw [e1] at e ⊢
      have e' : w = some (V.ref a) := e
      rw [e']
    rw [upd_ne ne]
    exact hb1⟩
  dis := S.dis
  ok := ⟨S.ok.1, fun b t => by
    rw [upd_ne (fun q => by rw [q] at t; exact S.ok.not hh (pln_tbl hl) t)]
    exact S.ok.2 b t⟩
  ex := S.ex
theorem we_lc {wi : TI} {g : TG} {tt : TT} {te : TE} {vs : List Nat} {F : D → List SD → Prop} (hg : GIn g vs) (hm : GMono g)
    (h : WI K wi ρ fun items ρ1 => items.length < sizeLine ∧ ∃ I, LcI K g tt te vs items ρ1 F I) : WE K (tLc wi g tt te vs) ρ F :=
  fun P B0 H0 B H σ S Q k => h P B0 H0 B H σ S _ fun J items ρ1 B1 H1 ⟨hsz, I, L⟩ S1 s1 w => by
    intro p hp
    have hp0 : H0 p = none := S1.h0 hp
    have hb1 := S1.bfree hp
    have W1 := S1.wipe vs
    -- which slots may change stays as it is
    have mus1 : ∀ {ρi : List SD} {b : Addr}, ρi.map SD.mu = (wipeD ρ1 vs).map SD.mu → MusS ρi (wipe σ vs) b → MusS ρ1 σ b := fun {ρi b} em ⟨j, s, e, m, q⟩ => by
      have e2 : (ρi.map SD.mu)[j]? = some true := by rw [List.getElem?_map, e]; exact congrArg some m
      rw [em, List.getElem?_map] at e2
      cases q2 : (wipeD ρ1 vs)[j]? with
      | none => rw [q2] at e2; cases e2
      | some s' =>
        rw [q2] at e2
        have m' : s'.mu = true := Option.some.inj e2
        rcases wipeD_get q2 with z | ⟨z1, z2⟩
        · rw [z] at m'; cases m'
        · exact ⟨j, s', z2, m', by rw [← wipe_out z1]; exact q⟩
    have nopS : ¬ MusS ρ1 σ p := fun ⟨j, s, e, m, q⟩ => S1.mu_at e m hp q
    have nop : ¬ Mus ρ1 σ p := fun q => q.elim nopS (S1.ok.new hp)
    refine ⟨fun i m H' => m = items.length - i ∧ i ≤ items.length ∧ ∃ acc va ρi Bi, I i acc ρi ∧ acc.length ≤ i ∧ ST K P B0 H0 ρi Bi H' (wipe σ vs) ∧ Bi p = none ∧ H' p = some (.lst va) ∧ RA K Bi va acc ∧ Gr (Mus ρ1 σ) B1 H1 Bi H',
      ⟨items.length, by simp, Nat.zero_le _, [], [], wipeD ρ1 vs, B1, L.start, Nat.le_refl _, W1.side hb1 hp0 (fun j s e m => W1.mu_at e m hp) (fun u e => by rw [hp] at e; cases e), hb1, upd_same, .nil, (Gr.refl S1.le (fun _ z => Or.inr z)).mut hb1 (.inr hp) (fun u e => by rw [hp] at e; cases e)⟩, ?_⟩
    rintro i m H' ⟨rfl, hi, acc, va, ρi, Bi, Ii, hacc, Si, hbp, hHp, ra, gi⟩
    obtain ⟨hmask, hw⟩ := L.mu _ _ _ Ii
    by_cases hlt : i < items.length
    · refine .inr ⟨w.go i H' hlt (gi.bb.trans Si.le), fun H2 => ∃ acc va ρj Bj, I (i + 1) acc ρj ∧ acc.length ≤ i + 1 ∧ ST K P B0 H0 ρj Bj H2 (wipe σ vs) ∧ Bj p = none ∧ H2 p = some (.lst va) ∧ RA K Bj va acc ∧ Gr (Mus ρ1 σ) B1 H1 Bj H2,
        fun H2 ⟨a, b, c, d, e⟩ => ⟨items.length - (i + 1), by omega, rfl, hlt, a, b, c, d, e⟩, fun x H2 y => ?_⟩
      have ei : items[i]? = some items[i] := List.getElem?_eq_getElem hlt
      obtain ⟨Bc, gr, r⟩ := w.yld i H' x H2 _ ei y Bi gi.bb Si.le
      obtain ⟨hHc, hbc⟩ := gr.keepP (fun z => S1.ok.new hp z) hHp hbp
      have gc : Gr (Mus ρ1 σ) B1 H1 Bc H2 := gi.trans (gr.weak0 gi.tp)
      refine hm _ _ _ (fun σ2 H2' => wipe σ2 vs = wipe (wipe σ vs) vs ∧ (wipe σ2 vs = wipe (wipe σ vs) vs → tt σ2 H2' _)) _ (fun σ2 H2' z => ⟨z.1.trans wipe_wipe, z.2 z.1⟩) (hg _ _ _ _ (L.turn i acc ρi _ ei hacc Ii P B0 H0 Bc H2 (wipe σ vs) x (Si.step gr) r _ fun ρ2 σ2 h2 S2 g2 ew => ?_))
      have m2 : ∀ b, Mus ρ2 σ2 b → Mus ρ1 σ b := fun b q => (g2.mus q).elim (fun q => .inl (mus1 hmask q)) .inr
      refine h2 P B0 H0 Bc H2 σ2 S2 _ fun b ρ3 B3 H3 ⟨f1, f2⟩ S3 e3 => ?_
      obtain ⟨hH3, hb3⟩ := e3.gr.keepP (fun q => nop (m2 p q)) hHc hbc
      have g3 : Gr (Mus ρ1 σ) B1 H1 B3 H3 := gc.trans (e3.gr.weak m2)
      have m3 : ∀ b, Mus ρ3 σ2 b → Mus ρ1 σ b := fun b q => m2 b (e3.sh.mus q)
      have ew' : wipe σ2 vs = wipe σ vs := ew.trans wipe_wipe
      cases b with
      | false =>
        refine iteF ⟨acc, va, wipeD ρ3 vs, B3, f2 rfl, Nat.le_succ_of_le hacc, ?_, hb3, hH3, ra.mono (gr.bb.trans e3.bb), g3⟩
        rw [← ew']; exact S3.wipe vs
      | true =>
        refine iteT (f1 rfl P B0 H0 B3 H3 σ2 S3 _ fun v d ρ4 B4 H4 f4 S4 e4 r4 => ?_)
        obtain ⟨hH4, hb4⟩ := e4.gr.keepP (fun q => nop (m3 p q)) hH3 hb3
        have g4 : Gr (Mus ρ1 σ) B1 H1 B4 H4 := g3.trans (e4.gr.weak m3)
        have m4 : ¬ Mus ρ4 σ2 p := fun q => nop (m3 p (e4.sh.mus q))
        have ra4 := ra.mono ((gr.bb.trans e3.bb).trans e4.bb)
        refine ⟨va, hH4, ?_, acc ++ [d], va ++ [v], wipeD ρ4 vs, B4, f4, by rw [List.length_append, List.length_singleton]; omega, ?_, hb4, upd_same, ra4.append (.cons r4 .nil), g4.mut hb4 (.inr hp) (fun u e => by rw [hH4] at e; cases e; trivial)⟩
        · rw [ra.length]; omega
        · rw [← ew']
          exact (S4.side hb4 hp0 (fun j s e m q => m4 (.inl ⟨j, s, e, m, q⟩)) (fun u e => by rw [hH4] at e; cases e; trivial)).wipe vs
    · have e : i = items.length := by omega
      subst e
      have S3 : ST K P B0 H0 ρi Bi H' σ := by
        have z : ST K P B0 H0 (wipeD ρi vs) Bi H' σ := ST.unwipe (by rw [hw]; exact Si)
        rw [hw] at z; exact z
      have nmS : ¬ MusS ρi σ p := fun ⟨j, s, e, m, q⟩ => by
        refine nopS (mus1 hmask ⟨j, s, e, m, ?_⟩)
        rw [← hw] at e
        rcases wipeD_get e with z | ⟨z1, _⟩
        · rw [z] at m; cases m
        · rw [wipe_out z1]; exact q
      have nm : ¬ Mus ρi σ p := fun q => q.elim nmS (S1.ok.new hp)
      have sb : Same Bi (upd Bi p (.lst va)) := same_new hbp
      refine .inl ⟨w.stop H' (gi.bb.trans Si.le), k _ _ ρi (upd Bi p (.lst va)) H' (L.fin acc ρi Ii) (S3.tell hbp hHp hp0 nm trivial) (s1.trans ⟨⟨gi.hh, gi.bb.trans sb, (S3.tell hbp hHp hp0 nm trivial).le, fun c u e => ?_, gi.pt, gi.tp, fun _ => (S3.tell hbp hHp hp0 nm trivial).ok⟩, fun j s e m => ?_⟩) (.lst upd_same (ra.mono sb))⟩
      · by_cases z : c = p
        · subst z; exact .inr (.inl (.inl hp))
        · rw [upd_ne z] at e; exact gi.fr c u e
      · have e2 : (ρi.map SD.mu)[j]? = some true := by rw [List.getElem?_map, e]; exact congrArg some m
        rw [hmask, List.getElem?_map] at e2
        cases q2 : (wipeD ρ1 vs)[j]? with
        | none => rw [q2] at e2; cases e2
        | some s' =>
          rw [q2] at e2
          have m' : s'.mu = true := Option.some.inj e2
          rcases wipeD_get q2 with z | ⟨z1, z2⟩
          · rw [z] at m'; cases m'
          · exact ⟨s', z2, m'⟩
end
end Lw

set_option Elab.async false
set_option linter.all false
set_option maxRecDepth 100000
set_option maxHeartbeats 4000000
namespace Lw
open PySem PySem.Spec PyProof.Rows L2
variable [Tabl] [Exn]
section
variable {K : Fg} {ρ : List SD}
theorem wt_yes {F : Bool → List SD → Prop} (q : F true ρ) : WT K tYes ρ F := fun P B0 H0 B H σ S Q k => k true ρ B H q S (Ev.refl S.le)
theorem wipeD_wipeD {vs : List Nat} : wipeD (wipeD ρ vs) vs = wipeD ρ vs := by
  apply List.ext_getElem?
  intro i
  by_cases q : i < ρ.length
  · have l1 : i < (wipeD ρ vs).length := by rw [wipeD_len]; exact q
    have l2 : i < (wipeD (wipeD ρ vs) vs).length := by rw [wipeD_len]; exact l1
    have e1 : (wipeD (wipeD ρ vs) vs)[i]? = some (wipeD (wipeD ρ vs) vs)[i] := List.getElem?_eq_getElem l2
    rcases wipeD_get e1 with h | ⟨h1, h2⟩
    · rw [e1, h]
      -- un: then i is in vs, or it was un
      have aux : ∀ (us : List Nat) (τ : List SD), i < τ.length → (wipeD τ us)[i]? = some .un → i ∈ us ∨ τ[i]? = some .un := by
        intro us τ hl
        induction us with
        | nil => exact fun h => .inr h
        | cons v us ih =>
          intro h
          unfold wipeD at h
          by_cases e : v = i
          · exact .inl (by rw [e]; exact List.mem_cons_self)
          · rw [get_set_ne e] at h
            rcases ih h with h | h
            · exact .inl (List.mem_cons_of_mem _ h)
            · exact .inr h
      rcases aux vs _ l1 (by rw [e1, h]) with z | z
      · have inn : ∀ (us : List Nat) (τ : List SD), i < τ.length → i ∈ us → (wipeD τ us)[i]? = some .un := by
          intro us τ hl
          induction us with
          | nil => exact fun h => nomatch h
          | cons v us ih =>
            intro h
            unfold wipeD
            by_cases e : v = i
            · subst e
              rw [List.getElem?_set_self (by rw [wipeD_len]; exact hl)]
            · rw [get_set_ne e]
              rcases List.mem_cons.mp h with q | q
              · exact absurd q.symm e
              · exact ih q
        exact (inn vs ρ q z).symm
      · exact z.symm
    · rw [e1, h2]
  · rw [List.getElem?_eq_none (by rw [wipeD_len, wipeD_len]; omega), List.getElem?_eq_none (by rw [wipeD_len]; omega)]
/-- a comprehension whose turns change nothing: over things w of a list ws, as data enc w; kept are those of p, the elements res w -/
theorem lcI_typed {α : Type} {ws : List α} {enc res : α → D} {p : α → Bool} {g : TG} {tt : TT} {te : TE} {vs : List Nat} {items : List D} {F : D → List SD → Prop} (e : items = ws.map enc)
    (h : ∀ w, w ∈ ws → WG K g (enc w) (wipeD ρ vs) fun ρ2 => WT K tt ρ2 fun b ρ3 => b = p w ∧ (p w = true → WE K te ρ3 fun y ρ4 => y = res w ∧ wipeD ρ4 vs = wipeD ρ vs) ∧ (p w = false → wipeD ρ3 vs = wipeD ρ vs))
    (q : F (.lst ((ws.filter p).map res)) (wipeD ρ vs)) : ∃ I, LcI K g tt te vs items ρ F I := by
  refine ⟨fun i acc ρ' => ρ' = wipeD ρ vs ∧ acc = ((ws.take i).filter p).map res, ⟨rfl, by simp⟩, fun i acc ρ' ⟨e1, _⟩ => by rw [e1]; exact ⟨rfl, wipeD_wipeD⟩, fun i acc ρi x hx hl ⟨e1, e2⟩ => ?_, fun acc ρ' ⟨e1, e2⟩ => ?_⟩
  · subst e e1 e2
    rw [List.getElem?_map] at hx
    cases hw : ws[i]? with
    | none => rw [hw] at hx; cases hx
    | some w =>
      rw [hw] at hx
      cases hx
      have tk : ws.take (i + 1) = ws.take i ++ [w] := by rw [List.take_succ, hw]; rfl
      have hm : w ∈ ws := List.mem_of_getElem? hw
      refine fun P B0 H0 B H σ v S r Q k => h w hm P B0 H0 B H σ v S r Q fun ρ2 σ2 h2 S2 g2 => k ρ2 σ2 (fun P B0 H0 B H σ S Q k => h2 P B0 H0 B H σ S Q fun b ρ3 B' H' ⟨f1, f2, f3⟩ => k b ρ3 B' H' ⟨fun eb => ?_, fun eb => ?_⟩) S2 g2
      · rw [f1] at eb
        refine (f2 eb).mono fun y ρ4 ⟨e3, e4⟩ => ⟨e4, ?_⟩
        rw [tk, List.filter_append, List.map_append, e3]
        simp [eb]
      · rw [f1] at eb
        refine ⟨f3 eb, ?_⟩
        rw [tk, List.filter_append, List.map_append]
        simp [eb]
  · subst e e1 e2
    rw [List.length_map, List.take_length]
    exact q
/-- .. without a test -/
theorem lcI_map {α : Type} {ws : List α} {enc res : α → D} {g : TG} {te : TE} {vs : List Nat} {items : List D} {F : D → List SD → Prop} (e : items = ws.map enc)
    (h : ∀ w, w ∈ ws → WG K g (enc w) (wipeD ρ vs) fun ρ2 => WE K te ρ2 fun y ρ4 => y = res w ∧ wipeD ρ4 vs = wipeD ρ vs)
    (q : F (.lst (ws.map res)) (wipeD ρ vs)) : ∃ I, LcI K g tYes te vs items ρ F I := by
  refine lcI_typed (p := fun _ => true) e (fun w hw => fun P B0 H0 B H σ v S r Q k => h w hw P B0 H0 B H σ v S r Q fun ρ2 σ2 h2 S2 g2 => k ρ2 σ2 (wt_yes ⟨rfl, fun _ => h2, fun z => by cases z⟩) S2 g2) ?_
  have : ws.filter (fun _ => true) = ws := List.filter_eq_self.mpr fun _ _ => rfl
  rw [this]
  exact q
/-! ### new lists that will grow -/
def WN (K : Fg) (te : TE) (ρ : List SD) (F : List D → List SD → Prop) : Prop :=
  ∀ P B0 H0 B H σ, ST K P B0 H0 ρ B H σ → ∀ Q : VK, (∀ p vs xs ρ' B' H', F xs ρ' → ST K P B0 H0 ρ' B' H' σ → Ev ρ σ B H ρ' B' H' → H' p = none → RA K B' vs xs → Q (.ref p) (upd H' p (.lst vs))) → te σ H Q
theorem wn_lst {ta : TA} {F : List D → List SD → Prop} (h : WA K ta ρ fun xs ρ1 => xs.length ≤ sizeLine ∧ F xs ρ1) : WN K (tLst ta) ρ F :=
  fun P B0 H0 B H σ S Q k => h P B0 H0 B H σ S _ fun vs xs ρ1 B1 H1 ⟨l, f⟩ S1 s1 r1 => ⟨by rw [r1.length]; exact l, fun p hp => k p vs xs ρ1 B1 H1 f S1 s1 hp r1⟩
theorem wn_nil {F : List D → List SD → Prop} (q : F [] ρ) : WN K (tLst tNil) ρ F := wn_lst (wa_nil ⟨Nat.zero_le _, q⟩)
theorem wn_list {te : TE} {F : List D → List SD → Prop} (h : WE K te ρ fun x ρ1 => ∃ xs, x.items = some xs ∧ F xs ρ1) : WN K (tCB (fun xs H Q => ∃ p ys, xs = [V.ref p] ∧ (SqL K H p ys ∨ SqT K H p ys) ∧ ∀ l, H l = none → Q (.ref l) (upd H l (.lst ys))) (tCons te tNil)) ρ F :=
  fun P B0 H0 B H σ S Q k => h P B0 H0 B H σ S _ fun v x ρ1 B1 H1 ⟨xs, e, f⟩ S1 s1 r1 => by
    obtain ⟨p, ys, rfl, hs, ra⟩ := r1.seq e
    exact ⟨p, ys, rfl, hs.imp (same_l S1.le) (same_t S1.le), fun l hl => k l ys xs ρ1 B1 H1 f S1 s1 hl ra⟩
theorem ws_own {i : Nat} {te : TE} {E : Out} (h : WN K te ρ fun xs ρ1 => E.nx (ρ1.set i (.ow xs))) : WS K (tAsg te (gName i)) ρ E :=
  fun P B0 H0 B H σ S D k1 k2 k3 k4 => h P B0 H0 B H σ S _ fun p vs xs ρ1 B1 H1 f S1 s1 hp r1 => k1 _ B1 _ _ f (S1.own hp (S1.h0 hp) r1) s1.bb
/-- a, b = datum, [] -/
theorem ws_parN {i j : Nat} {te : TE} {E : Out} (hij : i ≠ j) (h : WE K te ρ fun x ρ1 => E.nx ((ρ1.set i (.d x)).set j (.ow []))) : WS K (tPar i j (tCons te (tCons (tLst tNil) tNil))) ρ E :=
  fun P B0 H0 B H σ S D k1 k2 k3 k4 => h P B0 H0 B H σ S _ fun v x ρ1 B1 H1 f S1 s1 r1 => by
    refine ⟨Nat.zero_le _, fun p hp => ⟨_, _, rfl, ?_⟩⟩
    exact k1 _ B1 _ _ f ((S1.put r1).own hp (S1.h0 hp) .nil) s1.bb
/-- a, b = a new list, [] -/
theorem ws_parNN {i j : Nat} {te : TE} {E : Out} (hij : i ≠ j) (h : WN K te ρ fun xs ρ1 => E.nx ((ρ1.set i (.ow xs)).set j (.ow []))) : WS K (tPar i j (tCons te (tCons (tLst tNil) tNil))) ρ E :=
  fun P B0 H0 B H σ S D k1 k2 k3 k4 => h P B0 H0 B H σ S _ fun p vs xs ρ1 B1 H1 f S1 s1 hp r1 => by
    refine ⟨Nat.zero_le _, fun q hq => ⟨_, _, rfl, ?_⟩⟩
    have S2 := S1.own (i := i) hp (S1.h0 hp) r1
    have hq' : H1 q = none := by
      by_cases z : q = p
      · subst z; rw [upd_same] at hq; cases hq
      · rw [upd_ne z] at hq; exact hq
    exact k1 _ B1 _ _ f (S2.own (i := j) hq (S1.h0 hq') .nil) s1.bb
/-! ### methods of a list that grows -/
/-- the slot i of a list that may change, as an argument's place -/
theorem we_append {i : Nat} {xs0 : List D} {te : TE} {F : D → List SD → Prop} (h0 : ρ[i]? = some (.ow xs0)) (h : WE K te ρ fun x ρ1 => ∃ xs, ρ1[i]? = some (.ow xs) ∧ xs.length < sizeLine ∧ F .non (ρ1.set i (.ow (xs ++ [x])))) :
    WE K (tBM K "list" rAppend (tVar i) (tCons te tNil)) ρ F := fun P B0 H0 B H σ S Q k => by
  obtain ⟨o, e0, a, vs0, rfl, z1, z2, z3, z4⟩ := S.slot h0
  refine ⟨.ref a, e0, .inl ⟨rfl, _, SqL.of z3⟩, ?_⟩
  refine h P B0 H0 B H σ S _ fun v x ρ1 B1 H1 ⟨xs, h1, hl, f⟩ S1 s1 r1 => ?_
  obtain ⟨o1, e1, a1, vs, q1, q2, q3, q4, q5⟩ := S1.slot h1
  rw [e0] at e1; cases e1; cases q1
  refine ⟨a, vs, v, rfl, rfl, q4, by rw [q5.length]; exact hl, ?_⟩
  have S2 := S1.chg (o := .lst (vs ++ [v])) (s' := .ow (xs ++ [x])) h1 rfl rfl e0 ⟨a, _, rfl, q2, q3, upd_same, q5.append (.cons r1 .nil)⟩
  exact k .non .non _ B1 _ f S2 (s1.trans (Ev.called h1 rfl e0 ((Gr.refl S1.le).mut q3 (.inl (.inl rfl)) (fun u e => by rw [q4] at e; cases e; trivial)))) .non
theorem we_extend {i : Nat} {xs0 : List D} {te : TE} {F : D → List SD → Prop} (h0 : ρ[i]? = some (.ow xs0)) (h : WE K te ρ fun x ρ1 => ∃ xs zs, x = .lst zs ∧ ρ1[i]? = some (.ow xs) ∧ xs.length + zs.length ≤ sizeLine ∧ F .non (ρ1.set i (.ow (xs ++ zs)))) :
    WE K (tBM K "list" rExtend (tVar i) (tCons te tNil)) ρ F := fun P B0 H0 B H σ S Q k => by
  obtain ⟨o, e0, a, vs0, rfl, z1, z2, z3, z4⟩ := S.slot h0
  refine ⟨.ref a, e0, .inl ⟨rfl, _, SqL.of z3⟩, ?_⟩
  refine h P B0 H0 B H σ S _ fun v x ρ1 B1 H1 ⟨xs, zs, ex, h1, hl, f⟩ S1 s1 r1 => ?_
  subst ex
  obtain ⟨o1, e1, a1, vs, q1, q2, q3, q4, q5⟩ := S1.slot h1
  rw [e0] at e1; cases e1; cases q1
  cases r1 with
  | lst h2 a2 =>
    refine ⟨a, _, vs, _, rfl, rfl, q4, S1.le _ _ h2, by rw [q5.length, a2.length]; exact hl, ?_⟩
    have S2 := S1.chg (o := .lst (vs ++ _)) (s' := .ow (xs ++ zs)) h1 rfl rfl e0 ⟨a, _, rfl, q2, q3, upd_same, q5.append a2⟩
    exact k .non .non _ B1 _ f S2 (s1.trans (Ev.called h1 rfl e0 ((Gr.refl S1.le).mut q3 (.inl (.inl rfl)) (fun u e => by rw [q4] at e; cases e; trivial)))) .non
theorem seqIndex_nat {j n : Nat} (h : j < n) : seqIndex? (j : Int) n = some j := by
  have e : ixN n (j : Int) = some j := by
    unfold ixN
    rw [if_pos (by omega), if_pos (by omega)]
    simp
  exact (ixN_seq e).1
theorem we_popAt {i : Nat} {xs0 : List D} {te : TE} {F : D → List SD → Prop} (h0 : ρ[i]? = some (.ow xs0)) (h : WE K te ρ fun x ρ1 => ∃ xs j d, x = .int (j : Nat) ∧ ρ1[i]? = some (.ow xs) ∧ xs[j]? = some d ∧ j < 2 ^ 63 ∧ F d (ρ1.set i (.ow (xs.eraseIdx j)))) :
    WE K (tBM K "list" rPopAt (tVar i) (tCons te tNil)) ρ F := fun P B0 H0 B H σ S Q k => by
  obtain ⟨o, e0, a, vs0, rfl, z1, z2, z3, z4⟩ := S.slot h0
  refine ⟨.ref a, e0, .inl ⟨rfl, _, SqL.of z3⟩, ?_⟩
  refine h P B0 H0 B H σ S _ fun v x ρ1 B1 H1 ⟨xs, j, d, ex, h1, hj, hb, f⟩ S1 s1 r1 => ?_
  subst ex
  obtain ⟨o1, e1, a1, vs, q1, q2, q3, q4, q5⟩ := S1.slot h1
  rw [e0] at e1; cases e1; cases q1
  rw [rint r1]
  obtain ⟨u, eu, ru⟩ := q5.get hj
  have hlt : j < vs.length := (List.getElem?_eq_some_iff.mp eu).1
  refine ⟨a, vs, (j : Nat), j, u, rfl, rfl, q4, by omega, by omega, seqIndex_nat hlt, eu, ?_⟩
  have S2 := S1.chg (o := .lst (vs.eraseIdx j)) (s' := .ow (xs.eraseIdx j)) h1 rfl rfl e0 ⟨a, _, rfl, q2, q3, upd_same, q5.eraseIdx j⟩
  exact k u d _ B1 _ f S2 (s1.trans (Ev.called h1 rfl e0 ((Gr.refl S1.le).mut q3 (.inl (.inl rfl)) (fun u e => by rw [q4] at e; cases e; trivial)))) ru
/-- the list has grown: from here on a datum -/
theorem we_still {i : Nat} {xs : List D} {F : D → List SD → Prop} (h0 : ρ[i]? = some (.ow xs)) (q : F (.lst xs) (ρ.set i (.d (.lst xs)))) : WE K (tVar i) ρ F := fun P B0 H0 B H σ S Q k => by
  obtain ⟨o, e0, a, vs0, rfl, z1, z2, z3, z4⟩ := S.slot h0
  obtain ⟨B', S', sb, hb'⟩ := S.still h0
  obtain ⟨v, e1, r⟩ := S'.var (i := i) (x := .lst xs) (List.getElem?_set_self (List.getElem?_eq_some_iff.mp h0).1)
  refine ⟨v, e1, k v _ _ B' H q S' ⟨⟨fun b o n e => e, sb, S'.le, fun c u e => ?_, fun b n e => e, fun _ z => .inr z, fun _ => S'.ok⟩, fun j s h m => ?_⟩ r⟩
  · rcases hb' c u e with z | z
    · exact .inl z
    · exact .inr (.inr (.inl ⟨i, _, h0, rfl, z⟩))
  · by_cases e : i = j
    · subst e
      obtain ⟨e2, _⟩ := set_same_of h
      rw [e2] at m; cases m
    · rw [get_set_ne e] at h; exact ⟨s, h, m⟩
end
end Lw

set_option Elab.async false
set_option linter.all false
set_option maxRecDepth 100000
set_option maxHeartbeats 4000000
namespace Lw
open PySem PySem.Spec PyProof.Rows L2
variable [Tabl] [Exn]
/-! ### short rules for a printed derivation -/
section
variable {X : Cx} {pos : Pos}
theorem pe_gstr {x z : Str} (h : ∃ t, X.mg x = some (.str z t)) (hg : Gl X x := by rfl) (hd : (x == ("__debug__" : Str)) = false := by decide) : PE X (.Name x pos) (tC (.str z)) := by
  obtain ⟨t, h⟩ := h
  exact pe_glob hg h ⟨t, rfl⟩ hd
theorem pe_gint {x : Str} {z : Int} (h : ∃ t, X.mg x = some (.int z t)) (hg : Gl X x := by rfl) (hd : (x == ("__debug__" : Str)) = false := by decide) : PE X (.Name x pos) (tC (.int z)) := by
  obtain ⟨t, h⟩ := h
  exact pe_glob hg h ⟨t, rfl⟩ hd
theorem pe_gcls {x : Str} {C : Addr} (h : X.mg x = some (.ref C)) (hg : Gl X x := by rfl) (hd : (x == ("__debug__" : Str)) = false := by decide) : PE X (.Name x pos) (tC (.ref C)) := pe_glob hg h rfl hd
theorem pe_gty {x : Str} (n : String) (h : X.mg x = none) (hv : bootBuiltins x = some (.type n)) (hg : Gl X x := by rfl) (hn : x ≠ "__name__" := by decide) (hd : (x == ("__debug__" : Str)) = false := by decide) : PE X (.Name x pos) (tC (.ty n)) := pe_bltn hg h hv rfl hn hd
/-- targets of a tuple or a list -/
def gSeq (K : Fg) (n : Nat) (t : TGs) : TG := fun v σ H Q => gTup K n t v σ H Q ∨ gUnl K n t v σ H Q
theorem pg_seq {es : List Expr} {k : Nat} {t : TGs} {n : Nat} (hc : X.calm = true) (h : PGs X es t) (hn : (assignEach es X.env).length = n := by rfl) (hst : (assignEach es X.env).findIdx? (·.1) = none := by rfl) : PG X (.Tuple es k pos) (gSeq X.K n t) :=
  ⟨fun pins s σ H v u Q I r q => q.elim (fun q => (pg_tup hc h hn hst).run pins s σ H v u Q I r q) fun q => (pg_unl hc h hn hst).run pins s σ H v u Q I r q⟩
end
section
variable {K : Fg} {ρ : List SD}
theorem wg_seq {n : Nat} {gs : TGs} {x : D} {F : List SD → Prop} (h : ∃ xs, (x = .tup xs ∨ x = .lst xs) ∧ xs.length = n ∧ WGs K gs xs ρ F) : WG K (gSeq K n gs) x ρ F := fun P B0 H0 B H σ v S r Q k => by
  obtain ⟨xs, e, l, w⟩ := h
  rcases e with rfl | rfl
  · exact .inl (wg_tup l w P B0 H0 B H σ v S r Q k)
  · exact .inr (wg_unl l w P B0 H0 B H σ v S r Q k)
theorem gmono_seq {n : Nat} {gs : TGs} (h : GsMono gs) : GMono (gSeq K n gs) := fun v σ H Q Q' f q => q.imp (fun ⟨a, xs, e, s, l, q⟩ => ⟨a, xs, e, s, l, h _ _ _ _ _ f q⟩) fun ⟨a, xs, e, s, l, q⟩ => ⟨a, xs, e, s, l, h _ _ _ _ _ f q⟩
theorem gin_seq {n : Nat} {gs : TGs} {vs : List Nat} (h : GsIn gs vs) : GIn (gSeq K n gs) vs := fun v σ H Q q => q.imp (fun ⟨a, xs, e, s, l, q⟩ => ⟨a, xs, e, s, l, h _ _ _ _ q⟩) fun ⟨a, xs, e, s, l, q⟩ => ⟨a, xs, e, s, l, h _ _ _ _ q⟩
theorem we_ty {n : String} {F : D → List SD → Prop} (q : F (.ty n) ρ) : WE K (tC (.ty n)) ρ F := fun P B0 H0 B H σ S Q k => k _ _ ρ B H q S (Ev.refl S.le) (.ty n)
theorem we_cls {C : Addr} {F : D → List SD → Prop} (q : F (.cls C) ρ) : WE K (tC (.ref C)) ρ F := fun P B0 H0 B H σ S Q k => k _ _ ρ B H q S (Ev.refl S.le) (.cls C)
end
end Lw
namespace Lw
open PySem PySem.Spec PyProof.Rows L2
variable [Tabl] [Exn]
/-- the facts of a class's instances, to be looked at -/
def insB (K : Fg) (C : Addr) : Bool :=
  PySem.W.plainGet K C Str.empty && (PySem.W.hasDictIn K C && (PySem.W.plainOver K C && (He.eqO (PySem.W.findIn K (.ref C) "__setattr__") (some (some (.builtin "object.__setattr__"))) &&
  (He.eqO (PySem.W.findIn K (.ref C) "__class__") (some (some (.builtin "object.__class__"))) && (He.eqO (PySem.W.specialIn K (.builtin "object.__class__") "__get__") (some (some (.builtin "getset_descriptor.__get__"))) &&
  (decide (PySem.W.takesIn K (.builtin "object.__class__") = some true) && (decide (PySem.W.mroIn K C (.type "object") = some true) && decide (PySem.W.kitOne K (.ref C) (.ref C) = some true))))))))
theorem ins_of {K : Fg} {C : Addr} (h : insB K C = true) : InsOk K C ∧ PySem.W.kitOne K (.ref C) (.ref C) = some true := by
  unfold insB at h
  simp only [Bool.and_eq_true, decide_eq_true_eq] at h
  obtain ⟨a, b, c, d, e, f, g, i, j⟩ := h
  exact ⟨⟨⟨a, b, c, He.eqO_ok d⟩, He.eqO_ok e, He.eqO_ok f, g, i⟩, j⟩
end Lw

set_option Elab.async false
set_option linter.all false
set_option maxRecDepth 100000
set_option maxHeartbeats 4000000
namespace Lw
open PySem PySem.Spec PyProof.Rows L2
variable [Tabl] [Exn]
/-! ### promises of methods, properties, classes that are made -/
def Met (P : Program) (w : World) (K : Fg) (mg : Str → Option Value) (base : Heap) (C : Addr) (m : Str) (k : Nat) (ps : List Str) (sp : Sp) : Prop :=
  ∃ f fd, Cls K C ∧ Meth K C m f ∧ Binds K fd ps [] ∧ FnOk P w K mg base CX0 k f fd ps sp
def Prp (P : Program) (w : World) (K : Fg) (mg : Str → Option Value) (base : Heap) (C : Addr) (m : Str) (k : Nat) (ps : List Str) (sp : Sp) : Prop :=
  ∃ p g fd, Cls K C ∧ PropOf K C m p g ∧ Binds K fd ps [] ∧ FnOk P w K mg base CX0 k g fd ps sp
def Mak (P : Program) (w : World) (K : Fg) (mg : Str → Option Value) (base : Heap) (x : Str) (C : Addr) (k : Nat) (ps : List Str) (sp : Sp) : Prop :=
  ∃ f fd, mg x = some (.ref C) ∧ Mk K C f ∧ Binds K fd ps [] ∧ FnOk P w K mg base CX0 k f fd ps sp
section
variable {X : Cx} {x m : Str} {C : Addr} {k : Nat} {ps : List Str} {sp : Sp} {e o : Expr} {es : List Expr} {t : TA} {ta : TE} {p pos apos : Pos}
theorem pe_propF (G : Prp X.prog X.w X.K X.mg X.base C m k ps sp) (hr : Room (k + 1) X.A) (he : PE X e ta) (hab : attributeBase e m X.env (eval e X.env) = eval e X.env := by rfl) : PE X (.Attribute e m pos) (tProp C sp [] E0 ta) := by
  obtain ⟨p, g, fd, c, hp, hb, F⟩ := G
  exact pe_prop he c hp F hr hb .nil pass0 hab
theorem pe_methF {pl : Sem Bool} (G : Met X.prog X.w X.K X.mg X.base C m k ps sp) (hr : Room k X.A) (he : PE X o ta) (ha : PA X (e :: es) t)
    (hst : starEach (e :: es) X.env = (false, eval e X.env) :: starEach es X.env := by rfl) (hpl : (backTo pos (starEach es X.env)).any (·.1) = false := by rfl)
    (ht : eval (.Call (.Attribute o m apos) (e :: es) [] pos) X.env = (do
      let ov ← eval o X.env
      standAt apos.atName
      let (f, first) ← holding [ov] (getMethod ov m pl)
      callWith pos f first (backTo pos (starEach (e :: es) X.env)) (backToKw pos (keywordEach [] X.env))) := by rfl) :
    PE X (.Call (.Attribute o m apos) (e :: es) [] pos) (tMeth C m sp [] E0 ta t) := by
  obtain ⟨f, fd, c, hm, hb, F⟩ := G
  exact pe_meth (pl := pl) he c hm F hr hb .nil pass0 ha hst hpl ht
theorem pe_methF0 {pl : Sem Bool} (G : Met X.prog X.w X.K X.mg X.base C m k ps sp) (hr : Room k X.A) (he : PE X o ta)
    (ht : eval (.Call (.Attribute o m apos) [] [] pos) X.env = (do
      let ov ← eval o X.env
      standAt apos.atName
      let (f, first) ← holding [ov] (getMethod ov m pl)
      callWith pos f first (backTo pos (starEach [] X.env)) (backToKw pos (keywordEach [] X.env))) := by rfl) :
    PE X (.Call (.Attribute o m apos) [] [] pos) (tMeth C m sp [] E0 ta tNil) := by
  obtain ⟨f, fd, c, hm, hb, F⟩ := G
  exact pe_meth0 (pl := pl) he c hm F hr hb .nil pass0 ht
theorem pe_makeF (G : Mak X.prog X.w X.K X.mg X.base x C k ps sp) (hr : Room (k + 1) X.A) (ha : PA X (e :: es) t) (hg : Gl X x := by rfl) (hdb : (x == ("__debug__" : Str)) = false := by decide)
    (he : starEach (e :: es) X.env = (false, eval e X.env) :: starEach es X.env := by rfl) (hpl : (backTo pos (starEach es X.env)).any (·.1) = false := by rfl) : PE X (.Call (.Name x p) (e :: es) [] pos) (tMake C sp [] E0 t) := by
  obtain ⟨f, fd, hm, M, hb, F⟩ := G
  exact pe_make M F hr hg hm hb .nil pass0 ha hdb he hpl
end
/-! ### a body whose first slot may change -/
def rhoM (N : List Str) (s : SD) (ds : List D) : List SD := s :: (ds.map .d ++ List.replicate (N.length - (ds.length + 1)) .un)
section
variable {P : Program} {w : World} {K : Fg} {mg : Str → Option Value} {base : Heap}
theorem rhoM_get {N : List Str} {s0 : SD} {ds : List D} {i : Nat} {s : SD} (h : (rhoM N s0 ds)[i]? = some s) : (i = 0 ∧ s = s0) ∨ (∃ j d, i = j + 1 ∧ ds[j]? = some d ∧ s = .d d) ∨ s = .un := by
  unfold rhoM at h
  cases i with
  | zero => left; exact ⟨rfl, (Option.some.inj (by simpa using h)).symm⟩
  | succ j =>
    right
    rw [List.getElem?_cons_succ] at h
    by_cases hi : j < ds.length
    · rw [List.getElem?_append_left (by simpa using hi), List.getElem?_map] at h
      left
      cases e : ds[j]? with
      | none => rw [e] at h; cases h
      | some d => rw [e] at h; exact ⟨j, d, rfl, e, (Option.some.inj h).symm⟩
    · rw [List.getElem?_append_right (by simpa using hi), List.getElem?_replicate] at h
      right
      split at h
      · exact (Option.some.inj h).symm
      · cases h
theorem st_startM {N : List Str} {B H : Hp} {a : Addr} {s0 : SD} {vs : List V} {ds : List D} (hx : ExOk K (One a) B H) (s : Same B H) (tk : TbOk B H) (hz : Sl K (One a) H B H (some (.ref a)) s0) (r : RA K B vs ds) (hl : ds.length + 1 ≤ N.length) : ST K (One a) B H (rhoM N s0 ds) B H (start N (.ref a :: vs)) where
  len := by
    rw [start_len (by simp only [List.length_cons]; rw [r.length]; exact hl)]
    unfold rhoM; simp; omega
  gr := Gr.refl s
  sl := fun i z h => by
    rcases rhoM_get h with ⟨rfl, rfl⟩ | ⟨j, d, rfl, e, rfl⟩ | rfl
    · exact hz
    · obtain ⟨v, e1, r1⟩ := r.get e
      refine ⟨v, ?_, r1⟩
      rw [start_get, if_pos (by simpa using (List.getElem?_eq_some_iff.mp e1).1), List.getElem?_cons_succ, e1]
      rfl
    · trivial
  dis := fun i j s t h1 h2 m1 m2 _ => by
    have q : ∀ {l : Nat} {u : SD}, (rhoM N s0 ds)[l]? = some u → u.mu = true → l = 0 := fun {l u} h m1 => by
      rcases rhoM_get h with ⟨z, _⟩ | ⟨_, _, _, _, z⟩ | z
      · exact z
      · subst z; cases m1
      · subst z; cases m1
    rw [q h1 m1, q h2 m2]
  ok := tk
  ex := hx
omit [Exn] in
/-- a def that draws, its pot looked into as a list of three -/
theorem fn_potO {name qual : Str} {params : Arguments} {body : List Stmt} {scope : Scope} {f : Addr} {fd : FuncData} {N ps : List Str} {k n c : Nat} {S : List D → (D → Prop) → Prop}
    (F : FunD K name qual params body scope [] [] f fd) (sc : FnScope N ps scope) (hn : n + 1 = ps.length) (hN : n + 1 ≤ N.length)
    (hb : ∀ (cdv : Value) (A : Around) (outer : List Env) (s : Shared) (H : Hp) (E : XK), Room k (A.deeper (envOfC qual scope s.heap.objs.size f cdv)) →
      ∃ t, PSs (cxOf CX0 P w K mg base N qual scope f cdv A outer s H E).nox body t ∧ ∀ (m : Nat) (x y z : Int) ds G, m + c ≤ LIM → 0 ≤ x → 0 ≤ y → y < 2305843009213693951 → 0 ≤ z → z ≤ m → ds.length = n → S ds G → ∀ [Exn],
        WS K t (rhoM N (.pl [.int x, .int y, .int z]) ds) { nx := fun _ => False, rt := fun d ρ => G d ∧ ∃ x' y' z' : Int, ρ[0]? = some (.pl [.int x', .int y', .int z']) ∧ 0 ≤ x' ∧ 0 ≤ y' ∧ y' < 2305843009213693951 ∧ 0 ≤ z' ∧ z' ≤ (m + c : Nat) }) :
    FnOk P w K mg base CX0 (k + 1) f fd ps (potSp K n c S) := by
  refine F.ok sc (fun vs H Q E h => ?_) (fun cdv A outer s H vs Q E hr h => ?_)
  · obtain ⟨a, ws, B, ds, G, m, rfl, h1, _, h2, h3, h4, h5, h6, _⟩ := h
    rw [List.length_cons, h5.length, h6, hn]
  · obtain ⟨t, hp, hw⟩ := hb cdv A outer s H E hr
    refine ⟨t, hp.nox, ?_⟩
    obtain ⟨a, ws, B, ds, G, m, rfl, h1, tk, h2, ⟨x, y, z, g1, g2, g3, g4, g5, g6⟩, h4, h5, h6, h7, h8⟩ := h
    letI := exn0
    refine hw m x y z ds G h4 g2 g3 g4 g5 g6 h6 h7 (One a) B H B H (start N (.ref a :: ws)) (st_startM exOk0 h1 tk ⟨a, _, rfl, .inl rfl, h2, g1, .cons (.int _) (.cons (.int _) (.cons (.int _) .nil))⟩ h5 (by rw [h6]; exact hN)) _ (fun _ _ _ _ z => z.elim) (fun v d ρ' B' H' σ' f S' s' r => ?_) (fun _ _ _ _ z => z.elim) (fun _ _ _ _ z => z.elim)
    obtain ⟨f1, x', y', z', e0, k2, k3, k4, k5, k6⟩ := f
    obtain ⟨o, e1, a', vs, e3, e4, e5, e6, e7⟩ := S'.slot e0
    have ea : a' = a := e4.resolve_right (S'.ok.not e6 (fun ps y => by cases y))
    subst ea
    refine h8 _ _ _ _ f1 S'.gr e5 ⟨x', y', z', ?_, k2, k3, k4, k5, k6⟩ r
    rw [e6, RA.ints (ns := [x', y', z']) e7]
    rfl
/-- __init__ of an instance: S tells, of the data of the arguments, what may be wanted of the attributes that it leaves -/
def initSp (K : Fg) (C : Addr) (n : Nat) (S : List D → (List (Str × D) → Prop) → Prop) : Sp := fun vs H Q _ =>
  ∃ a dx ws B ds F, vs = .ref a :: ws ∧ Same B H ∧ TbOk B H ∧ B a = none ∧ H a = some (.ins C dx []) ∧ RA K B ws ds ∧ ds.length = n ∧ S ds F ∧
    ∀ fs vf B' H', F fs → Gr (One a) B H B' H' → B' a = none → H' a = some (.ins C dx vf) → RF K B' vf fs → Q .non H'
omit [Exn] in
theorem fn_init {name qual : Str} {params : Arguments} {body : List Stmt} {scope : Scope} {f : Addr} {fd : FuncData} {N ps : List Str} {k n : Nat} {C : Addr} {S : List D → (List (Str × D) → Prop) → Prop}
    (F : FunD K name qual params body scope [] [] f fd) (sc : FnScope N ps scope) (hn : n + 1 = ps.length) (hN : n + 1 ≤ N.length)
    (hb : ∀ (cdv : Value) (A : Around) (outer : List Env) (s : Shared) (H : Hp) (E : XK), Room k (A.deeper (envOfC qual scope s.heap.objs.size f cdv)) →
      ∃ t, PSs (cxOf CX0 P w K mg base N qual scope f cdv A outer s H E).nox body t ∧ ∀ dx ds G, ds.length = n → S ds G → ∀ [Exn],
        WS K t (rhoM N (.ins C dx []) ds) { nx := fun ρ => ∃ fs, ρ[0]? = some (.ins C dx fs) ∧ G fs, rt := fun _ _ => False }) :
    FnOk P w K mg base CX0 (k + 1) f fd ps (initSp K C n S) := by
  refine F.ok sc (fun vs H Q E h => ?_) (fun cdv A outer s H vs Q E hr h => ?_)
  · obtain ⟨a, dx, ws, B, ds, G, rfl, h1, _, h2, h3, h5, h6, _⟩ := h
    rw [List.length_cons, h5.length, h6, hn]
  · obtain ⟨t, hp, hw⟩ := hb cdv A outer s H E hr
    refine ⟨t, hp.nox, ?_⟩
    obtain ⟨a, dx, ws, B, ds, G, rfl, h1, tk, h2, h3, h5, h6, h7, h8⟩ := h
    letI := exn0
    refine hw dx ds G h6 h7 (One a) B H B H (start N (.ref a :: ws)) (st_startM exOk0 h1 tk ⟨a, [], rfl, .inl rfl, h2, h3, .nil⟩ h5 (by rw [h6]; exact hN)) _ (fun ρ' B' H' σ' f S' s' => ?_) (fun _ _ _ _ _ _ z => z.elim) (fun _ _ _ _ z => z.elim) (fun _ _ _ _ z => z.elim)
    obtain ⟨fs, e0, g⟩ := f
    obtain ⟨o, e1, a', vf, e3, e4, e5, e6, e7⟩ := S'.slot e0
    have ea : a' = a := e4.resolve_right (S'.ok.not e6 (fun ps y => by cases y))
    subst ea
    exact h8 fs vf B' H' g S'.gr e5 e6 e7
end
/-! ### made instances -/
section
variable {K : Fg} {ρ : List SD}
theorem we_make {C : Addr} {n : Nat} {S : List D → (List (Str × D) → Prop) → Prop} {t : TA} {F : D → List SD → Prop} (h : WA K t ρ fun ds ρ1 => ds.length = n ∧ S ds fun fs => F (.obj C fs) ρ1) : WE K (tMake C (initSp K C n S) [] E0 t) ρ F :=
  fun P B0 H0 B H σ Z Q k => h P B0 H0 B H σ Z _ fun vs ds ρ1 B1 H1 ⟨l, f⟩ S1 s1 r1 => by
    intro x dx hx hdx hne
    have b1 : B1 x = none := S1.bfree hx
    have b2 : B1 dx = none := S1.bfree hdx
    have S2 := S1.new (.own x) hdx
    have bx : upd B1 dx (.own x) x = none := by rw [upd_ne (Ne.symm hne)]; exact b1
    have hx2 : upd H1 dx (.own x) x = none := by rw [upd_ne (Ne.symm hne)]; exact hx
    have le2 : Same (upd B1 dx (.own x)) (upd (upd H1 dx (.own x)) x (.ins C dx [])) := fun c u e => by
      rw [upd_ne (ne_of_none e bx)]; exact S2.le c u e
    refine ⟨x, dx, vs, upd B1 dx (.own x), ds, _, by rw [List.append_nil], le2, S2.ok.upd (fun u e => by rw [hx2] at e; cases e), bx, upd_same, r1.mono (same_new b2), l, f, fun fs vf B' H' g gr hb' hh rf => ⟨rfl, ?_⟩⟩
    have sb : Same B' (upd B' x (.ins C dx vf)) := same_new hb'
    -- the whole, with the instance told
    have G3 : Gr Non (upd B1 dx (.own x)) (upd H1 dx (.own x)) (upd B' x (.ins C dx vf)) H' := {
      hh := fun c o n e => by
        have ne : c ≠ x := fun z => by subst z; rw [hx2] at e; cases e
        exact gr.hh c o (fun q => q.elim ne n) (by rw [upd_ne ne]; exact e)
      bb := gr.bb.trans sb
      le := fun c u e => by
        by_cases z : c = x
        · subst z; rw [upd_same] at e; rw [hh]; exact e
        · rw [upd_ne z] at e; exact gr.le c u e
      fr := fun c o e => by
        by_cases z : c = x
        · subst z; exact .inr (.inl (.inl hx2))
        · rw [upd_ne z] at e
          rcases gr.fr c o e with q | q | q
          · exact .inl q
          · rw [upd_ne z] at q; exact .inr (.inl q)
          · exact .inr (.inr (q.resolve_left z))
      pt := fun c z e => gr.pt c (.inr z) (by
        by_cases y : c = x
        · subst y; rw [upd_same]; exact fun z => nomatch z
        · rw [upd_ne y]; exact e)
      tp := fun _ z => z
      kp := fun y => by
        have y2 := gr.kp (y.upd (fun u e => by rw [hx2] at e; cases e))
        refine ⟨y2.1, fun b t => ?_⟩
        rw [upd_ne (fun q => by rw [q] at t; exact y2.not hh (fun ps y => by cases y) t)]
        exact y2.2 b t }
    exact k (.ref x) (.obj C fs) ρ1 _ H' g (S2.step G3) ((s1.trans (Ev.new S1.le hdx)).trans (Ev.pure G3)) (.obj upd_same (rf.mono sb))
theorem RF.length {B : Hp} : ∀ {vs : List (Str × V)} {ds : List (Str × D)}, RF K B vs ds → vs.length = ds.length
  | _, _, .nil => rfl
  | _, _, .cons _ q => by simp [RF.length q]
theorem RF.put {B : Hp} {f : Str} {v : V} {d : D} (hv : R K B v d) : ∀ {vs : List (Str × V)} {ds : List (Str × D)}, RF K B vs ds → ds.lookup f = none → RF K B (putF f v vs) (ds ++ [(f, d)])
  | _, _, .nil, e => .cons hv .nil
  | _, _, .cons (k := k') (v := v') (d := d') (vs := vs) (ds := ds) h q, e => by
    rw [List.lookup_cons] at e
    by_cases z : (f == k') = true
    · rw [z] at e; cases e
    · have z' : (f == k') = false := by simpa using z
      rw [z'] at e
      have ne : ¬ k' = f := fun y => z (by rw [y]; simp)
      show RF K B (if k' = f then (k', v) :: vs else (k', v') :: putF f v vs) _
      rw [if_neg ne]
      exact .cons h (RF.put hv q e)
/-- self.f = .. within __init__ -/
theorem ws_fld {i : Nat} {C dx : Addr} {fs0 : List (Str × D)} {f : Str} {tv : TE} {E : Out} (h0 : ρ[i]? = some (.ins C dx fs0)) (c : Cls K C) (n : NoAttr K C f)
    (h : WE K tv ρ fun x ρ1 => ∃ fs, ρ1[i]? = some (.ins C dx fs) ∧ fs.length < 1000 ∧ fs.lookup f = none ∧ E.nx (ρ1.set i (.ins C dx (fs ++ [(f, x)])))) : WS K (sFld K (tVar i) tv f) ρ E :=
  fun P B0 H0 B H σ S D k1 k2 k3 k4 => h P B0 H0 B H σ S _ fun v x ρ1 B1 H1 ⟨fs, h1, hl, hn, q⟩ S1 s1 r1 => by
    obtain ⟨o, e0, a, vf, rfl, z1, z2, z3, z4⟩ := S1.slot h1
    refine ⟨.ref a, e0, a, C, dx, vf, rfl, z3, c, n, by rw [RF.length z4]; exact hl, ?_⟩
    have S2 := S1.chg (o := .ins C dx (putF f v vf)) (s' := .ins C dx (fs ++ [(f, x)])) h1 rfl rfl e0 ⟨a, _, rfl, z1, z2, upd_same, RF.put r1 z4 hn⟩
    exact k1 _ B1 _ _ q S2 s1.bb
/-! ### a list that still grows, looked into -/
/-- what is held at the slot i: a list -/
def Own (s : SD) (xs : List D) : Prop := s = .ow xs ∨ s = .pl xs
theorem ST.peek {P : Addr → Prop} {B0 H0 B H : Hp} {σ : L2.St} (S : ST K P B0 H0 ρ B H σ) {i : Nat} {s : SD} {xs : List D} (h : ρ[i]? = some s) (o : Own s xs) : ∃ p vs, σ[i]? = some (some (.ref p)) ∧ B p = none ∧ H p = some (.lst vs) ∧ RA K B vs xs := by
  obtain ⟨o1, e1, z⟩ := S.slot h
  rcases o with rfl | rfl
  · obtain ⟨a, vs, rfl, _, z2, z3, z4⟩ := z
    exact ⟨a, vs, e1, z2, z3, z4⟩
  · obtain ⟨a, vs, rfl, _, z2, z3, z4⟩ := z
    exact ⟨a, vs, e1, z2, z3, z4⟩
theorem rflat' {B B' : Hp} {v : V} {x : D} (h : R K B v x) (f : x.flat = true) : R K B' v x := by
  cases h <;> first | exact .non | exact .bl _ | exact .int _ | exact .str _ | cases f
theorem peekOk {B H : Hp} {p : Addr} {vs : List V} (h : TbOk B H) (hh : H p = some (.lst vs)) : TbOk (upd B p (.lst vs)) H := ⟨h.1, fun b t => by
  rw [upd_ne (fun q => by rw [q] at t; exact h.not hh (fun ps y => by cases y) t)]
  exact h.2 b t⟩
/-- what changes nothing, and hands out nothing but a flat datum, may look into a list that grows -/
theorem peekG {B H B3 H3 : Hp} {p : Addr} {vs : List V} (hb : B p = none) (hh : H p = some (.lst vs)) (le : Same B H) (g : Gr Non (upd B p (.lst vs)) H B3 H3) : Gr Non B H B H3 where
  hh := g.hh
  bb := Same.refl _
  le := fun b o e => g.le b o (g.bb b o (same_new hb b o e))
  fr := fun b o e => .inl e
  pt := g.pt
  tp := g.tp
  kp := fun z => ⟨(g.kp (peekOk z hh)).1, z.2⟩
theorem peekLe {B H : Hp} {p : Addr} {vs : List V} (hb : B p = none) (hh : H p = some (.lst vs)) (le : Same B H) : Same (upd B p (.lst vs)) H := fun c u e => by
  by_cases z : c = p
  · subst z; rw [upd_same] at e; rw [hh]; exact e
  · rw [upd_ne z] at e; exact le c u e
/-- x op (the list at i) -/
theorem we_opR {i : Nat} {r : R2} {ta : TE} {F : D → List SD → Prop} (h : WE K ta ρ fun x ρ1 => ∃ s xs, ρ1[i]? = some s ∧ Own s xs ∧ OpD K r x (.lst xs) fun d => d.flat = true ∧ F d ρ1) : WE K (tOp r ta (tVar i)) ρ F :=
  fun P B0 H0 B H σ S Q k => h P B0 H0 B H σ S _ fun v x ρ1 B1 H1 ⟨s, xs, h1, o, q⟩ S1 s1 r1 => by
    obtain ⟨p, vs, e, hb, hh, ra⟩ := S1.peek h1 o
    refine ⟨.ref p, e, q (upd B1 p (.lst vs)) H1 v (.ref p) (peekLe hb hh S1.le) (r1.mono (same_new hb)) (.lst upd_same (ra.mono (same_new hb))) Q fun w d B3 H3 f g r3 => ?_⟩
    have g' := peekG hb hh S1.le g
    exact k w d ρ1 B1 H3 f.2 (S1.step g') (s1.trans (Ev.pure g')) (rflat' r3 f.1)
/-- (the list at i) op y -/
theorem we_opL {i : Nat} {r : R2} {tb : TE} {s0 : SD} {xs0 : List D} {F : D → List SD → Prop} (h0 : ρ[i]? = some s0) (o0 : Own s0 xs0) (h : WE K tb ρ fun y ρ1 => ∃ s xs, ρ1[i]? = some s ∧ Own s xs ∧ OpD K r (.lst xs) y fun d => d.flat = true ∧ F d ρ1) : WE K (tOp r (tVar i) tb) ρ F :=
  fun P B0 H0 B H σ S Q k => by
    obtain ⟨p0, vs0, e0, _⟩ := S.peek h0 o0
    refine ⟨.ref p0, e0, h P B0 H0 B H σ S _ fun v x ρ1 B1 H1 ⟨s, xs, h1, o, q⟩ S1 s1 r1 => ?_⟩
    obtain ⟨p, vs, e, hb, hh, ra⟩ := S1.peek h1 o
    rw [e0] at e; cases e
    refine q (upd B1 p0 (.lst vs)) H1 (.ref p0) v (peekLe hb hh S1.le) (.lst upd_same (ra.mono (same_new hb))) (r1.mono (same_new hb)) Q fun w d B3 H3 f g r3 => ?_
    have g' := peekG hb hh S1.le g
    exact k w d ρ1 B1 H3 f.2 (S1.step g') (s1.trans (Ev.pure g')) (rflat' r3 f.1)
/-- f(the list at i) of a built-in -/
theorem we_cbO {i : Nat} {r : List V → Hp → VK → Prop} {s : SD} {xs : List D} {F : D → List SD → Prop} (h1 : ρ[i]? = some s) (o : Own s xs) (h : CallD K r [.lst xs] fun d => d.flat = true ∧ F d ρ) : WE K (tCB r (tCons (tVar i) tNil)) ρ F :=
  fun P B0 H0 B H σ S1 Q k => by
    obtain ⟨p, vs, e, hb, hh, ra⟩ := S1.peek h1 o
    refine ⟨.ref p, e, h (upd B p (.lst vs)) H [.ref p] (peekLe hb hh S1.le) (.cons (.lst upd_same (ra.mono (same_new hb))) .nil) Q fun w d B3 H3 f g r3 => ?_⟩
    have g' := peekG hb hh S1.le g
    exact k w d ρ B H3 f.2 (S1.step g') (Ev.pure g') (rflat' r3 f.1)
theorem we_lenO {i : Nat} {s : SD} {xs : List D} {F : D → List SD → Prop} (h1 : ρ[i]? = some s) (o : Own s xs) (q : F (.int xs.length) ρ) : WE K (tCB (rLenA K) (tCons (tVar i) tNil)) ρ F :=
  we_cbO h1 o (cd_len (x := .lst xs) ⟨rfl, q⟩)
/-- f(the list at i, ..) of a def that changes nothing -/
theorem we_callO {i n : Nat} {S : List D → (D → Prop) → Prop} {t : TA} {s0 : SD} {xs0 : List D} {F : D → List SD → Prop} (h0 : ρ[i]? = some s0) (o0 : Own s0 xs0)
    (h : WA K t ρ fun ds ρ1 => ∃ s xs, ρ1[i]? = some s ∧ Own s xs ∧ ds.length + 1 = n ∧ S (.lst xs :: ds) fun d => d.flat = true ∧ F d ρ1) : WE K (tCall (pureSp K n S) [] E0 (tCons (tVar i) t)) ρ F :=
  fun P B0 H0 B H σ Z Q k => by
    obtain ⟨p0, vs0, e0, _⟩ := Z.peek h0 o0
    refine ⟨.ref p0, e0, h P B0 H0 B H σ Z _ fun us ds ρ1 B1 H1 ⟨s, xs, h1, o, l, q⟩ S1 s1 r1 => ?_⟩
    obtain ⟨p, vs, e, hb, hh, ra⟩ := S1.peek h1 o
    rw [e0] at e; cases e
    have z : us.append [] = us := List.append_nil us
    have ra' : RA K (upd B1 p0 (.lst vs)) (us.append []) ds := by rw [z]; exact r1.mono (same_new hb)
    refine ⟨upd B1 p0 (.lst vs), .lst xs :: ds, _, peekLe hb hh S1.le, peekOk S1.ok hh, .cons (.lst upd_same (ra.mono (same_new hb))) ra', l, q, fun w d B3 H3 f g r3 => ?_⟩
    have g' := peekG hb hh S1.le g
    exact k w d ρ1 B1 H3 f.2 (S1.step g') (s1.trans (Ev.pure g')) (rflat' r3 f.1)
/-- (the list at i)[y], flat -/
theorem we_ixO {i : Nat} {tb : TE} {s0 : SD} {xs0 : List D} {F : D → List SD → Prop} (h0 : ρ[i]? = some s0) (o0 : Own s0 xs0) (h : WE K tb ρ fun y ρ1 => ∃ s xs j d, ρ1[i]? = some s ∧ Own s xs ∧ y = .int j ∧ atI xs j = some d ∧ d.flat = true ∧ F d ρ1) : WE K (tOp (rIxA K) (tVar i) tb) ρ F :=
  we_opL h0 o0 (h.mono fun y ρ1 ⟨s, xs, j, d, h1, o, e, a, f, q⟩ => ⟨s, xs, h1, o, by subst e; exact opd_ix (x := .lst xs) ⟨xs, j, d, rfl, rfl, a, f, q⟩⟩)
/-- (the list at i)[y] = x -/
theorem wg_setO {i : Nat} {ti : TE} {x : D} {s0 : SD} {xs0 : List D} {F : List SD → Prop} (h0 : ρ[i]? = some s0) (o0 : Own s0 xs0) (E : Out) (hE : E.nx = F) {te : TE}
    (h : WE K te ρ fun x ρ1 => WE K ti ρ1 fun y ρ2 => ∃ xs j n, ρ2[i]? = some (.pl xs) ∧ y = .int j ∧ ixN xs.length j = some n ∧ F (ρ2.set i (.pl (xs.set n x)))) : WS K (tAsg te (gSub (tVar i) ti rSetL)) ρ E :=
  fun P B0 H0 B H σ S D k1 k2 k3 k4 => h P B0 H0 B H σ S _ fun v x ρ1 B1 H1 h1 S1 s1 r1 => by
    obtain ⟨p0, vs0, e0, _⟩ := S.peek h0 o0
    refine ⟨.ref p0, e0, h1 P B0 H0 B1 H1 σ S1 _ fun u y ρ2 B2 H2 ⟨xs, j, n, h2, e2, hn, q⟩ S2 s2 r2 => ?_⟩
    subst e2
    obtain ⟨o, e3, a, vs, q1, q2, q3, q4, q5⟩ := S2.slot h2
    rw [e0] at e3; cases e3; cases q1
    rw [rint r2]
    refine ⟨p0, vs, j, n, rfl, rfl, q4, by rw [q5.length]; exact hn, ?_⟩
    have S3 := S2.chg (o := .lst (vs.set n v)) (s' := .pl (xs.set n x)) h2 rfl rfl e0 ⟨p0, _, rfl, q2, q3, upd_same, RA.set (r1.mono s2.bb) n q5⟩
    exact k1 _ B2 _ _ (by rw [hE]; exact q) S3 (s1.bb.trans s2.bb)
/-! ### join, split -/
theorem RA.strs' {B : Hp} {vs : List V} {ds : List D} {ns : List Str} (h : RA K B vs ds) (e : ds = ns.map D.str) : vs = ns.map V.str := by
  subst e
  exact RA.strs h
theorem we_join {to te : TE} {F : D → List SD → Prop} (h : WE K to ρ fun x ρ1 => ∃ a, x = .str a ∧ WE K te ρ1 fun y ρ2 => ∃ ys : List Str, (y = .lst (ys.map D.str) ∨ y = .tup (ys.map D.str)) ∧ (ys.map (·.length)).sum + ys.length * a.length ≤ 16777216 ∧ F (.str (Txt.join a ys)) ρ2) :
    WE K (tM1 (fun x xs H Q => ∃ a p, ∃ ys : List Str, x = .str a ∧ xs = [.ref p] ∧ (SqL K H p (ys.map V.str) ∨ SqT K H p (ys.map V.str)) ∧
      (ys.map (·.length)).sum + ys.length * a.length ≤ 16777216 ∧ Q (.str (Txt.join a ys)) H) to te) ρ F :=
  fun P B0 H0 B H σ S Q k => h P B0 H0 B H σ S _ fun v x ρ1 B1 H1 ⟨a, e, h1⟩ S1 s1 r1 => by
    subst e
    rw [rstr r1]
    refine ⟨⟨a, rfl⟩, h1 P B0 H0 B1 H1 σ S1 _ fun u y ρ2 B2 H2 ⟨ys, e, hl, f⟩ S2 s2 r2 => ?_⟩
    rcases e with rfl | rfl
    · cases r2 with
      | lst h2 a2 =>
        rw [RA.strs a2] at h2
        exact ⟨a, _, ys, rfl, rfl, .inl (SqL.of (S2.le _ _ h2)), hl, k _ _ ρ2 B2 H2 f S2 (s1.trans s2) (.str _)⟩
    · cases r2 with
      | tup h2 a2 =>
        rw [RA.strs a2] at h2
        exact ⟨a, _, ys, rfl, rfl, .inr (same_t S2.le h2), hl, k _ _ ρ2 B2 H2 f S2 (s1.trans s2) (.str _)⟩
theorem strs_ra {B : Hp} : ∀ (ys : List Str), RA K B (ys.map V.str) (ys.map D.str)
  | [] => .nil
  | _ :: ys => .cons (.str _) (strs_ra ys)
theorem we_split {to te : TE} {F : D → List SD → Prop} (h : WE K to ρ fun x ρ1 => ∃ a, x = .str a ∧ WE K te ρ1 fun y ρ2 => ∃ b, y = .str b ∧ (b.length == 0) = false ∧ a.length + 2 ≤ sizeLine ∧ F (.lst ((Txt.split a b).map D.str)) ρ2) :
    WE K (tM1 (fun x xs H Q => ∃ a b, x = .str a ∧ xs = [.str b] ∧ (b.length == 0) = false ∧ a.length + 2 ≤ sizeLine ∧ rNewStrs (Txt.split a b) H Q) to te) ρ F :=
  fun P B0 H0 B H σ S Q k => h P B0 H0 B H σ S _ fun v x ρ1 B1 H1 ⟨a, e1, h1⟩ S1 s1 r1 => by
    subst e1
    rw [rstr r1]
    refine ⟨⟨a, rfl⟩, h1 P B0 H0 B1 H1 σ S1 _ fun u y ρ2 B2 H2 ⟨b, e2, c1, c2, f⟩ S2 s2 r2 => ?_⟩
    · subst e2
      rw [rstr r2]
      refine ⟨a, b, rfl, rfl, c1, c2, fun p hp => ?_⟩
      have hb := S2.bfree hp
      exact k _ _ ρ2 (upd B2 p _) _ f (S2.new _ hp) ((s1.trans s2).trans (Ev.new S2.le hp)) (.lst upd_same (strs_ra _))
end
theorem room65 {k : Nat} {A : Around} (r : Room k A) : A.units + 65 < cLine := by
  have := r.un
  omega
end Lw

set_option Elab.async false
set_option linter.all false
set_option maxRecDepth 100000
set_option maxHeartbeats 4000000
namespace Lz
open PySem PySem.Spec PyProof.Rows L2
section
variable {prog : Program} {w : World} {A : Around} {E : Value → Shared → Prop} {s : Shared}
theorem zt_item {zz tI tO T j1 j2 m1 m2 : Addr} {f : Bool} {oT : Obj} {k1 k2 : Nat} {us ws : Array Value} {x y : Value} {Q : Value → Shared → Prop} (D : ZipApart zz tI tO j1 j2 m1 m2)
    (gz : IsZipHeld s.heap zz tI tO T f) (gT : s.heap.get? T = some oT) (gI : IsPair s.heap tI (.ref j1) (.ref j2))
    (g1 : s.heap.IsTupleIter j1 m1 k1) (g2 : s.heap.IsTupleIter j2 m2 k2) (gm1 : s.heap.IsTuple m1 us) (gm2 : s.heap.IsTuple m2 ws) (gx : us[k1]? = some x) (gy : ws[k2]? = some y)
    (gQ : ∀ h', IsZipHeld h' zz tI tO T true → h'.IsTupleIter j1 m1 (k1 + 1) → h'.IsTupleIter j2 m2 (k2 + 1) → IsPair h' s.heap.objs.size x y → h'.objs.size = s.heap.objs.size + 1 →
      (∀ c o, c ≠ zz → c ≠ j1 → c ≠ j2 → s.heap.get? c = some o → h'.get? c = some o) → Q (.ref s.heap.objs.size) { s with heap := h' }) :
    wpAny (model prog w) A (Builtin.«zip.__next__» ⟨[.ref zz], []⟩) (fun fin s' => ∃ v, fin = .done (.ret v) ∧ Q v s') E s := by
  show wpAny _ _ (field (.ref zz) 2 >>= _) _ _ _
  refine wpAny_bind (wpAny_field gz rfl (x := .bool false) rfl ?_)
  show wpAny _ _ (field (.ref zz) 3 >>= _) _ _ _
  refine wpAny_bind (wpAny_field gz rfl (x := .ref tI) rfl ?_)
  refine wpAny_bind (wpAny_seqItems gI rfl ?_)
  show wpAny _ _ (Builtin.SmallTypes.ownedTupleIsFree (.ref zz) >>= _) _ _ _
  refine wpAny_bind (wpAny_tupleHeld_zip gz gT fun k1h gz1 gs1 => ?_)
  simp only [Bool.false_eq_true, if_false]
  refine wpAny_bind ?_
  rw [← Array.forIn_toList]; simp only [List.forIn_nil, List.forIn_cons]
  refine wpAny_bind (wpAny_bind (wpAny_holding ?_))
  show wpAny _ _ (Builtin.SmallTypes.nextOf (.ref j1) >>= _) _ _ _
  refine wpAny_bind (RZ.nextOf_tuple_item (s := { s with heap := k1h }) (g1.extBut gs1.extBut D.i1z) (gm1.extBut gs1.extBut D.l1z) gx fun k2h g12 gs2 => wpAny_pure ?_)
  refine wpAny_pure ?_
  refine wpAny_bind (wpAny_bind (wpAny_holding ?_))
  show wpAny _ _ (Builtin.SmallTypes.nextOf (.ref j2) >>= _) _ _ _
  refine wpAny_bind (RZ.nextOf_tuple_item (s := { s with heap := k2h }) ((g2.extBut gs1.extBut D.i2z).extBut gs2.extBut D.i12.symm) ((gm2.extBut gs1.extBut D.l2z).extBut gs2.extBut D.l2i1) gy fun k3h g23 gs3 => wpAny_pure ?_)
  refine wpAny_pure (wpAny_pure ?_)
  show wpAny _ _ (newTuple [x, y] >>= _) _ _ _
  refine wpAny_bind (wpAny_newTuple ?_)
  have gsz : k3h.objs.size = s.heap.objs.size := by rw [gs3.1, gs2.1, gs1.1]
  have gz3 : IsZipHeld k3h zz tI tO T true := gs3.extBut _ _ D.i2z.symm (gs2.extBut _ _ D.i1z.symm gz1)
  have gk : ∀ c o, c ≠ zz → c ≠ j1 → c ≠ j2 → s.heap.get? c = some o → k3h.get? c = some o := fun c o c1 c2 c3 e => gs3.extBut _ _ c3 (gs2.extBut _ _ c2 (gs1.extBut _ _ c1 e))
  have g13 : k3h.IsTupleIter j1 m1 (k1 + 1) := g12.extBut gs3.extBut D.i12
  refine wpAny_pure ⟨_, rfl, ?_⟩
  show Q (.ref k3h.objs.size) _
  have gp : IsPair (k3h.push { cls := .type "tuple", data := .seq #[x, y] }) k3h.objs.size x y := Heap.get?_push_size _ rfl
  have gz4 : (k3h.push { cls := .type "tuple", data := .seq #[x, y] }).objs.size = k3h.objs.size + 1 := Heap.size_push ..
  rw [gsz] at gp gz4 ⊢
  exact gQ _ (Heap.get?_push_of_some _ gz3) (g13.at fun o e => Heap.get?_push_of_some _ e) (g23.at fun o e => Heap.get?_push_of_some _ e) gp gz4 fun c o c1 c2 c3 e => Heap.get?_push_of_some _ (gk c o c1 c2 c3 e)

theorem zt_end {zz tI tO T j1 j2 m1 m2 : Addr} {f : Bool} {oT : Obj} {k1 k2 : Nat} {us ws : Array Value} {Q : Fin → Shared → Prop} (hh : A.handled = none) (D : ZipApart zz tI tO j1 j2 m1 m2)
    (gz : IsZipHeld s.heap zz tI tO T f) (gT : s.heap.get? T = some oT) (gI : IsPair s.heap tI (.ref j1) (.ref j2))
    (g1 : s.heap.IsTupleIter j1 m1 k1) (g2 : s.heap.IsTupleIter j2 m2 k2) (gm1 : s.heap.IsTuple m1 us) (gm2 : s.heap.IsTuple m2 ws) (gend : us[k1]? = none ∨ ws[k2]? = none)
    (gE : ∀ h' e, (∀ c o, c ≠ zz → c ≠ j1 → c ≠ j2 → s.heap.get? c = some o → h'.get? c = some o) → (∃ o, h'.get? e = some o ∧ o.cls = .type "StopIteration") → E (.ref e) { s with heap := h' }) :
    wpAny (model prog w) A (Builtin.«zip.__next__» ⟨[.ref zz], []⟩) Q E s := by
  show wpAny _ _ (field (.ref zz) 2 >>= _) _ _ _
  refine wpAny_bind (wpAny_field gz rfl (x := .bool false) rfl ?_)
  show wpAny _ _ (field (.ref zz) 3 >>= _) _ _ _
  refine wpAny_bind (wpAny_field gz rfl (x := .ref tI) rfl ?_)
  refine wpAny_bind (wpAny_seqItems gI rfl ?_)
  show wpAny _ _ (Builtin.SmallTypes.ownedTupleIsFree (.ref zz) >>= _) _ _ _
  refine wpAny_bind (wpAny_tupleHeld_zip gz gT fun k1h gz1 gs1 => ?_)
  simp only [Bool.false_eq_true, if_false]
  refine wpAny_bind ?_
  rw [← Array.forIn_toList]; simp only [List.forIn_nil, List.forIn_cons]
  refine wpAny_bind (wpAny_bind (wpAny_holding ?_))
  show wpAny _ _ (Builtin.SmallTypes.nextOf (.ref j1) >>= _) _ _ _
  cases gx : us[k1]? with
  | none =>
    refine wpAny_bind (RZ.nextOf_tuple_end (s := { s with heap := k1h }) hh (g1.extBut gs1.extBut D.i1z) (gm1.extBut gs1.extBut D.l1z) gx fun k2h e gs2 he => ?_)
    exact gE k2h e (fun c o c1 c2 _ x => gs2 _ _ c2 (gs1.extBut _ _ c1 x)) he
  | some x =>
    have gy : ws[k2]? = none := by rcases gend with h | h; rw [gx] at h; cases h; exact h
    refine wpAny_bind (RZ.nextOf_tuple_item (s := { s with heap := k1h }) (g1.extBut gs1.extBut D.i1z) (gm1.extBut gs1.extBut D.l1z) gx fun k2h g12 gs2 => wpAny_pure ?_)
    refine wpAny_pure ?_
    refine wpAny_bind (wpAny_bind (wpAny_holding ?_))
    show wpAny _ _ (Builtin.SmallTypes.nextOf (.ref j2) >>= _) _ _ _
    refine wpAny_bind (RZ.nextOf_tuple_end (s := { s with heap := k2h }) hh ((g2.extBut gs1.extBut D.i2z).extBut gs2.extBut D.i12.symm) ((gm2.extBut gs1.extBut D.l2z).extBut gs2.extBut D.l2i1) gy fun k3h e gs3 he => ?_)
    exact gE k3h e (fun c o c1 c2 c3 x => gs3 _ _ c3 (gs2.extBut _ _ c2 (gs1.extBut _ _ c1 x))) he

theorem nextZT_item {zz tI tO T j1 j2 m1 m2 : Addr} {f : Bool} {oT : Obj} {k1 k2 : Nat} {us ws : Array Value} {x y : Value} {Q : Option Value → Shared → Prop} (D : ZipApart zz tI tO j1 j2 m1 m2)
    (gz : IsZipHeld s.heap zz tI tO T f) (gT : s.heap.get? T = some oT) (gI : IsPair s.heap tI (.ref j1) (.ref j2))
    (g1 : s.heap.IsTupleIter j1 m1 k1) (g2 : s.heap.IsTupleIter j2 m2 k2) (gm1 : s.heap.IsTuple m1 us) (gm2 : s.heap.IsTuple m2 ws) (gx : us[k1]? = some x) (gy : ws[k2]? = some y)
    (gQ : ∀ h', IsZipHeld h' zz tI tO T true → h'.IsTupleIter j1 m1 (k1 + 1) → h'.IsTupleIter j2 m2 (k2 + 1) → IsPair h' s.heap.objs.size x y → h'.objs.size = s.heap.objs.size + 1 →
      (∀ c o, c ≠ zz → c ≠ j1 → c ≠ j2 → s.heap.get? c = some o → h'.get? c = some o) → Q (some (.ref s.heap.objs.size)) { s with heap := h' }) :
    wpAny (model prog w) A (pyNext (.ref zz)) Q E s := by
  have hTy : s.TypeIs (.ref zz) "zip" := ⟨_, gz, rfl⟩
  unfold pyNext
  exact wpAny_bind (wpAny_attempt (wpAny_callSpecial?_slot (name := Str.ofString "__next__") hTy F.slot_zip_next
    (wpAny_call_entry F.slot_zip_next hTy F.entry_zip_next
      (zt_item D gz gT gI g1 g2 gm1 gm2 gx gy fun h' a1 a3 a4 a5 a6 a7 => wpAny_pure (gQ h' a1 a3 a4 a5 a6 a7)) (F.args_zip_next_1 _))))
theorem nextZT_end {zz tI tO T j1 j2 m1 m2 : Addr} {f : Bool} {oT : Obj} {k1 k2 : Nat} {us ws : Array Value} {Q : Option Value → Shared → Prop} (hh : A.handled = none) (D : ZipApart zz tI tO j1 j2 m1 m2)
    (gz : IsZipHeld s.heap zz tI tO T f) (gT : s.heap.get? T = some oT) (gI : IsPair s.heap tI (.ref j1) (.ref j2))
    (g1 : s.heap.IsTupleIter j1 m1 k1) (g2 : s.heap.IsTupleIter j2 m2 k2) (gm1 : s.heap.IsTuple m1 us) (gm2 : s.heap.IsTuple m2 ws) (gend : us[k1]? = none ∨ ws[k2]? = none)
    (gQ : ∀ h', (∀ c o, c ≠ zz → c ≠ j1 → c ≠ j2 → s.heap.get? c = some o → h'.get? c = some o) → Q none { s with heap := h' }) : wpAny (model prog w) A (pyNext (.ref zz)) Q E s := by
  have hTy : s.TypeIs (.ref zz) "zip" := ⟨_, gz, rfl⟩
  unfold pyNext
  refine wpAny_bind (wpAny_attempt (wpAny_callSpecial?_slot (name := Str.ofString "__next__") hTy F.slot_zip_next
    (wpAny_call_entry F.slot_zip_next hTy F.entry_zip_next (zt_end hh D gz gT gI g1 g2 gm1 gm2 gend fun h' e gk he => ?_) (F.args_zip_next_1 _))))
  obtain ⟨o, ho, hc⟩ := he
  refine wpAny_bind (wpAny_isInstance (T := "StopIteration") (b := true) ⟨o, ho, hc⟩ isSubtype_stop ?_)
  exact wpAny_pure (gQ _ gk)

theorem pairArg_zipT (zz tI tO j1 j2 m1 m2 : Addr) (D : ZipApart zz tI tO j1 j2 m1 m2) (us ws : Array Value) :
    PairArg prog w "zip" zz [zz, tI, tO, j1, j2, m1, m2] [zz, tO, j1, j2] (min us.size ws.size) (fun i k v => us[i]? = some k ∧ ws[i]? = some v)
      (fun h => IsZip h zz tI tO .none ∧ IsPair h tI (.ref j1) (.ref j2) ∧ (∃ a b, IsPair h tO a b) ∧ h.IsTupleIter j1 m1 0 ∧ h.IsTupleIter j2 m2 0 ∧ h.IsTuple m1 us ∧ h.IsTuple m2 ws) where
  type := fun s fine => ⟨_, fine.1, rfl⟩
  notDict := by decide
  keep := fun h h' fine gk => by
    obtain ⟨gz, gI, ⟨a, b, gO⟩, g1, g2, gm1, gm2⟩ := fine
    exact ⟨gk _ _ gz, gk _ _ gI, ⟨a, b, gk _ _ gO⟩, g1.at fun o e => gk _ o e, g2.at fun o e => gk _ o e, gm1.at fun o e => gk _ o e, gm2.at fun o e => gk _ o e⟩
  there := fun h fine b hb => by
    obtain ⟨gz, gI, ⟨a, c, gO⟩, ⟨o1, g1, _⟩, ⟨o2, g2, _⟩, ⟨o3, gm1, _⟩, ⟨o4, gm2, _⟩⟩ := fine
    simp only [List.mem_cons, List.not_mem_nil, or_false] at hb
    rcases hb with rfl | rfl | rfl | rfl | rfl | rfl | rfl
    all_goals first | exact ⟨_, gz⟩ | exact ⟨_, gI⟩ | exact ⟨_, gO⟩ | exact ⟨_, g1⟩ | exact ⟨_, g2⟩ | exact ⟨_, gm1⟩ | exact ⟨_, gm2⟩
  sub := fun b hb => by simp at hb ⊢; rcases hb with rfl | rfl | rfl | rfl <;> simp
  noKeys := fun A s Q E hA fine h => getAttrOr_miss_zip fine.1 rfl rfl rfl zip_no_keys (by decide +kernel) hA h
  iter := fun A s d Q E hA fine hd hdf h => by
    obtain ⟨gz, gI, ⟨a, b, gO⟩, g1, g2, gm1, gm2⟩ := fine
    simp only [List.mem_cons, List.not_mem_nil, or_false, not_or] at hdf
    obtain ⟨dz, dTI, dTO, di1, di2, dl1, dl2⟩ := hdf
    refine wpAny_pyIter_zip gz (h zz [zz, tO, j1, j2] (fun i h => IsPair h tI (.ref j1) (.ref j2) ∧ h.IsTupleIter j1 m1 i ∧ h.IsTupleIter j2 m2 i ∧ h.IsTuple m1 us ∧ h.IsTuple m2 ws ∧
      ((IsZip h zz tI tO .none ∧ ∃ a b, IsPair h tO a b) ∨ ∃ T f oT, IsZipHeld h zz tI tO T f ∧ h.get? T = some oT ∧ T ≠ zz ∧ T ≠ j1 ∧ T ≠ j2 ∧ T ≠ d)) s.heap s.toks ?_
      ⟨gI, g1, g2, gm1, gm2, .inl ⟨gz, a, b, gO⟩⟩ (fun _ _ e => e) fun b hb => .inl hb)
    exact {
      off := fun hm => by
        simp only [List.mem_cons, List.not_mem_nil, or_false] at hm
        rcases hm with e | e | e | e
        · exact dz e
        · exact dTO e
        · exact di1 e
        · exact di2 e
      frame := fun i k1h k2h st gk => by
        obtain ⟨gI, g1, g2, gm1, gm2, gz⟩ := st
        refine ⟨gk _ _ (Ne.symm dTI) gI, g1.at fun o e => gk _ o (Ne.symm di1) e, g2.at fun o e => gk _ o (Ne.symm di2) e, gm1.at fun o e => gk _ o (Ne.symm dl1) e, gm2.at fun o e => gk _ o (Ne.symm dl2) e, ?_⟩
        rcases gz with ⟨gz, a, b, gO⟩ | ⟨T, f, oT, gz, gT, r1, r2, r3, r4⟩
        · exact .inl ⟨gk _ _ (Ne.symm dz) gz, a, b, gk _ _ (Ne.symm dTO) gO⟩
        · exact .inr ⟨T, f, oT, gk _ _ (Ne.symm dz) gz, gk _ _ r4 gT, r1, r2, r3, r4⟩
      item := fun i s₁ Q₁ E₁ hi st hds gQ => by
        obtain ⟨gI, g1, g2, gm1, gm2, gz⟩ := st
        have gix : i < us.size := Nat.lt_of_lt_of_le hi (Nat.min_le_left ..)
        have giy : i < ws.size := Nat.lt_of_lt_of_le hi (Nat.min_le_right ..)
        have e1 := Array.getElem?_eq_getElem gix
        have e2 := Array.getElem?_eq_getElem giy
        have below : ∀ {c o}, s₁.heap.get? c = some o → s₁.heap.objs.size ≠ c := fun e => Nat.ne_of_gt (Heap.lt_size e)
        have n1 : s₁.heap.objs.size ≠ j1 := let ⟨_, e, _⟩ := g1; below e
        have n2 : s₁.heap.objs.size ≠ j2 := let ⟨_, e, _⟩ := g2; below e
        rcases gz with ⟨gz, a, b, gO⟩ | ⟨T, f, oT, gz, gT, r1, r2, r3, r4⟩
        · refine RZ.pyNext_zipT_item D gz gI gO g1 g2 gm1 gm2 e1 e2 fun h' a1 a2 a3 a4 a5 a6 gk => ?_
          exact gQ s₁.heap.objs.size _ _ h' s₁.toks ⟨e1, e2⟩ (.inl ⟨_, a5, rfl, _, rfl⟩)
            ⟨gk _ _ D.TIz D.TITO D.TIi1 D.TIi2 gI, a3, a4, gm1.at fun o e => gk _ o D.l1z D.l1TO D.l1i1 D.l1i2 e, gm2.at fun o e => gk _ o D.l2z D.l2TO D.l2i1 D.l2i2 e,
              .inr ⟨s₁.heap.objs.size, false, _, a1, a5, below gz, n1, n2, Nat.ne_of_gt hds⟩⟩
            fun c o hc e => gk c o (fun x => hc (by simp [x])) (fun x => hc (by simp [x])) (fun x => hc (by simp [x])) (fun x => hc (by simp [x])) e
        · refine nextZT_item D gz gT gI g1 g2 gm1 gm2 e1 e2 fun h' a1 a3 a4 a5 a6 gk => ?_
          exact gQ s₁.heap.objs.size _ _ h' s₁.toks ⟨e1, e2⟩ (.inl ⟨_, a5, rfl, _, rfl⟩)
            ⟨gk _ _ D.TIz D.TIi1 D.TIi2 gI, a3, a4, gm1.at fun o e => gk _ o D.l1z D.l1i1 D.l1i2 e, gm2.at fun o e => gk _ o D.l2z D.l2i1 D.l2i2 e,
              .inr ⟨T, true, oT, a1, gk _ _ r1 r2 r3 gT, r1, r2, r3, r4⟩⟩
            fun c o hc e => gk c o (fun x => hc (by simp [x])) (fun x => hc (by simp [x])) (fun x => hc (by simp [x])) e
      done := fun s₁ Q₁ E₁ st gQ => by
        obtain ⟨gI, g1, g2, gm1, gm2, gz⟩ := st
        have gend : us[min us.size ws.size]? = none ∨ ws[min us.size ws.size]? = none := by
          rcases Nat.le_total us.size ws.size with h | h
          · exact .inl (Array.getElem?_eq_none (by rw [Nat.min_eq_left h]; exact Nat.le_refl _))
          · exact .inr (Array.getElem?_eq_none (by rw [Nat.min_eq_right h]; exact Nat.le_refl _))
        rcases gz with ⟨gz, a, b, gO⟩ | ⟨T, f, oT, gz, gT, r1, r2, r3, r4⟩
        · exact RZ.pyNext_zipT_end hA D gz gI gO g1 g2 gm1 gm2 gend fun h' gk => gQ h' s₁.toks fun c o hc e => gk c o (fun x => hc (by simp [x])) (fun x => hc (by simp [x])) (fun x => hc (by simp [x])) (fun x => hc (by simp [x])) e
        · exact nextZT_end hA D gz gT gI g1 g2 gm1 gm2 gend fun h' gk => gQ h' s₁.toks fun c o hc e => gk c o (fun x => hc (by simp [x])) (fun x => hc (by simp [x])) (fun x => hc (by simp [x])) e }

end
end Lz

set_option Elab.async false
set_option linter.all false
set_option maxRecDepth 100000
set_option maxHeartbeats 4000000
namespace Lw
open PySem PySem.Spec PyProof.Rows L2
variable [Tabl] [Exn]
/-! ### dict(zip(..)) of two tuples -/
def tDictZip (K : Fg) (ta : TA) : TE := fun σ H Q => ta σ H fun vs H1 => ∃ (a b : Addr) (ks : List Key) (ys : List V), vs = [.ref a, .ref b] ∧ SqT K H1 a (ks.map kV) ∧ SqT K H1 b ys ∧ ks.length = ys.length ∧ ys.length ≤ sizeLine ∧
  ∀ p, H1 p = none → Q (.ref p) (upd H1 p (.dK (mergeK [] (ks.zip ys))))
theorem kv_zip : ∀ {ks : List Key} {ys : List V} {its : List Value}, Vals ys its → KV (ks.zip ys) (ks.zip its)
  | [], _, _, _ => .nil
  | _ :: _, _, _, .nil => .nil
  | _ :: ks, _, _, .cons h r => .cons ⟨rfl, h⟩ (kv_zip r)
theorem vals_at {xs : List V} {its : List Value} (r : Vals xs its) {i : Nat} {x : V} {u : Value} (h1 : xs[i]? = some x) (h2 : its[i]? = some u) : RelV x u := by
  obtain ⟨u', e, q⟩ := r.get h1
  rw [h2] at e
  cases e
  exact q
section
variable {X : Cx} {e e2 : Expr} {ta : TA} {p p2 pos pos2 : Pos}
theorem pe_dictZip (hc : X.calm = true) (hmd : X.mg "dict" = none) (hm : X.mg "zip" = none) (ha : PA X [e, e2] ta) (hgd : Gl X "dict" := by rfl) (hg : Gl X "zip" := by rfl)
    (hs : starEach [e, e2] X.env = (false, eval e X.env) :: starEach [e2] X.env := by rfl) (hpl : (backTo pos2 (starEach [e2] X.env)).any (·.1) = false := by rfl)
    (hs1 : starEach [.Call (.Name "zip" p2) [e, e2] [] pos2] X.env = (false, eval (.Call (.Name "zip" p2) [e, e2] [] pos2) X.env) :: starEach [] X.env := by rfl) (hpl1 : (backTo pos (starEach [] X.env)).any (·.1) = false := by rfl) :
    PE X (.Call (.Name "dict" p) [.Call (.Name "zip" p2) [e, e2] [] pos2] [] pos) (tDictZip X.K ta) := by
  refine ⟨fun pins s σ H Q I h => ?_⟩
  refine wpAny_Call_Name_kw (ld_blt I hgd hmd boot_dict (PyProof.Rows.callWith_type1 ?_ hs1 hpl1))
  rw [hs1]
  show wpAny _ _ (spliced ((false, eval (.Call (.Name "zip" p2) [e, e2] [] pos2) X.env) :: backTo pos (starEach [] X.env))) _ _ s
  refine Calls.spliced_cons (wpAny_Call_Name_kw (ld_blt I hg hm boot_zip (PyProof.Rows.callWith_type1 (thn (ha.run pos2 pins s σ H _ I h) fun us s1 ⟨vs, H1, I1, r1, q1⟩ => ?_) hs hpl)))
  obtain ⟨a, b, ks, ys, ex, qa, qb, hl, hz, q⟩ := q1
  subst ex
  cases r1 with
  | cons ra rr =>
    cases rr with
    | cons rb rr =>
      cases rr
      cases ra
      cases rb
      obtain ⟨its, rv, p1, _⟩ := I1.tuple qa
      obtain ⟨its2, rv2, p2, _⟩ := I1.tuple qb
      obtain ⟨o1, ho1, _⟩ := id p1
      obtain ⟨o2, ho2, _⟩ := id p2
      refine RZ.call_zipT (show s1.heap.IsTuple a its.toArray from p1) (show s1.heap.IsTuple b its2.toArray from p2) fun h' z1 z2 z3 z4 z5 z6 hk => ?_
      refine Calls.spliced_nil ?_
      have le5 : ∀ c, c ∈ [s1.heap.objs.size + 4, s1.heap.objs.size + 3, s1.heap.objs.size, s1.heap.objs.size + 1] → s1.heap.objs.size ≤ c := fun c hcm => by
        simp only [List.mem_cons, List.not_mem_nil, or_false] at hcm
        omega
      have l1 := rv.length
      have l2 := rv2.length
      rw [List.length_map] at l1
      have rel : KV (ks.zip ys) (ks.zip its2) := kv_zip rv2
      refine call_dict_pairs (knd := mixKind X.prog X.w) (kvs := ks.zip its2) (Lz.pairArg_zipT _ _ _ _ _ a b (PySem.W.ktu_apart s1.heap.objs.size a b (Heap.lt_size ho1) (Heap.lt_size ho2)) its.toArray its2.toArray) (I1.ok.hd hc)
        ⟨z1, z2, ⟨_, _, z3⟩, z4, z5, Heap.IsTuple.at (show s1.heap.IsTuple a its.toArray from p1) (fun o e => hk _ o e), Heap.IsTuple.at (show s1.heap.IsTuple b its2.toArray from p2) (fun o e => hk _ o e)⟩ ⟨?_, fun i key v ⟨e1, e2⟩ => ?_⟩ ?_ fun h2 tk hd hk2 => ?_
      · simp [l1.symm, l2.symm, hl]
      · have e1' : its[i]? = some key := by simpa using e1
        have e2' : its2[i]? = some v := by simpa using e2
        have hi : i < ks.length := by
          have := (List.getElem?_eq_some_iff.mp e1').1
          omega
        have ek : ks[i]? = some ks[i] := List.getElem?_eq_getElem hi
        refine ⟨ks[i], List.getElem?_zip_eq_some.mpr ⟨ek, e2'⟩, kV_is (vals_at rv (by rw [List.getElem?_map, ek]; rfl) e1')⟩
      · refine Nat.le_trans (Nat.min_le_right _ _) ?_
        rw [List.size_toArray, ← l2]
        exact hz
      · have ne : (h'.objs.size == sysModules) = false := beq_eq_false_iff_ne.mpr (Nat.ne_of_gt (Nat.lt_of_lt_of_le I1.big (by rw [z6]; exact Nat.le_add_right _ _)))
        have hlen : (mergeK [] (ks.zip ys)).length ≤ sizeLine := by
          refine Nat.le_trans (length_mergeK (ks.zip ys) []) ?_
          rw [List.length_nil, Nat.zero_add, List.length_zip]
          omega
        have fr : ∀ c, s1.heap.objs.size ≤ c → H1 c = none := fun c hcm => I1.hok.fresh hcm
        have new : ObjOk X.prog X.w (upd H1 h'.objs.size (.dK (mergeK [] (ks.zip ys)))) h2 h'.objs.size (.dK (mergeK [] (ks.zip ys))) := ⟨hlen, ne, merged [] (ks.zip its2), KV.merge rel .nil, hd⟩
        refine ⟨.ref h'.objs.size, _, I1.turnedNew (t' := tk) (ch := [s1.heap.objs.size + 4, s1.heap.objs.size + 3, s1.heap.objs.size, s1.heap.objs.size + 1]) (fun c o hb ec => hk2 c o hb (hk c o ec)) (fun c hcm => I1.fpOk (le5 c hcm) (fr c (le5 c hcm))) (by rw [z6]; exact Nat.le_add_right _ _) new, rfl, q _ (fr _ (by rw [z6]; exact Nat.le_add_right _ _))⟩
end
end Lw

set_option Elab.async false
set_option linter.all false
set_option maxRecDepth 100000
set_option maxHeartbeats 4000000
namespace Lw
open PySem PySem.Spec PyProof.Rows L2
variable [Tabl] [Exn]
/-! ### zip of three tuples -/
def Itz3 (K : Fg) (a b c : Addr) : It :=
  ⟨fun i H => ∃ (xs ys zs : List V) (x y z : V), SqT K H a xs ∧ SqT K H b ys ∧ SqT K H c zs ∧ xs[i]? = some x ∧ ys[i]? = some y ∧ zs[i]? = some z,
    fun i H v H' => ∃ T x y z, v = .ref T ∧ H T = none ∧ H' = upd H T (.tup [x, y, z]) ∧ (∀ xs, SqT K H a xs → xs[i]? = some x) ∧ (∀ ys, SqT K H b ys → ys[i]? = some y) ∧ ∀ zs, SqT K H c zs → zs[i]? = some z,
    fun i H => ∃ (xs ys zs : List V), SqT K H a xs ∧ SqT K H b ys ∧ SqT K H c zs ∧ xs.length = i ∧ ys.length = i ∧ zs.length = i⟩
/-- the objects of such a zip stand apart -/
structure Ap3 (z TI TO i1 i2 i3 a b c : Addr) : Prop where
  nd : [z, TI, TO, i1, i2, i3].Nodup
  na : a ∉ [z, TI, TO, i1, i2, i3]
  nb : b ∉ [z, TI, TO, i1, i2, i3]
  nc : c ∉ [z, TI, TO, i1, i2, i3]
theorem Ap3.sep {z TI TO i1 i2 i3 a b c : Addr} (D : Ap3 z TI TO i1 i2 i3 a b c) : ZipSep3 z TI TO i1 i2 i3 [i1, a] [i2, b] [i3, c] := by
  obtain ⟨nd, na, nb, nc⟩ := D
  simp only [List.nodup_cons, List.mem_cons, List.not_mem_nil, or_false, not_or, List.nodup_nil, and_true, not_false_eq_true] at nd na nb nc
  obtain ⟨⟨a1, a2, a3, a4, a5⟩, ⟨b1, b2, b3, b4⟩, ⟨c1, c2, c3⟩, ⟨d1, d2⟩, e1⟩ := nd
  obtain ⟨p1, p2, p3, p4, p5, p6⟩ := na
  obtain ⟨q1, q2, q3, q4, q5, q6⟩ := nb
  obtain ⟨r1, r2, r3, r4, r5, r6⟩ := nc
  constructor <;> first | exact Ne.symm ‹_› | assumption | (simp; done) | (simp only [List.mem_cons, List.not_mem_nil, or_false, not_or, true_or]; first | trivial | (constructor <;> first | assumption | (exact fun z => (by first | exact a3 z | exact a3 z.symm | exact a4 z | exact a4 z.symm | exact a5 z | exact a5 z.symm | exact p1 z | exact p1 z.symm | exact q1 z | exact q1 z.symm | exact r1 z | exact r1 z.symm | exact p3 z | exact p3 z.symm | exact q3 z | exact q3 z.symm | exact r3 z | exact r3 z.symm | exact p5 z.symm | exact p6 z.symm | exact q4 z.symm | exact q6 z.symm | exact r4 z.symm | exact r5 z.symm | exact d1 z | exact d1 z.symm | exact d2 z | exact d2 z.symm | exact e1 z | exact e1 z.symm | exact c1 z | exact c2 z | exact c3 z))))
theorem turn_zip3 {P : Program} {w : World} {K : Fg} {elts : List Expr} {kk : Nat} {tpos : Pos} {a b c z TI TO i1 i2 i3 : Addr} (D : Ap3 z TI TO i1 i2 i3 a b c) :
    Turn P w K (.Tuple elts kk tpos) (Itz3 K a b c) [z, TI, TO, i1, i2, i3] z (fun i h => IsZip h z TI TO .none ∧ IsTupOf3 h TI (.ref i1) (.ref i2) (.ref i3) ∧ (∃ x y u, IsTupOf3 h TO x y u) ∧ h.IsTupleIter i1 a i ∧ h.IsTupleIter i2 b i ∧ h.IsTupleIter i3 c i) where
  mem := by simp
  obj := fun i h st d hd => by
    obtain ⟨hz, hTI, ⟨x, y, u, hTO⟩, ⟨o1, e1, _, d1⟩, ⟨o2, e2, _, d2⟩, ⟨o3, e3, _, d3⟩⟩ := st
    simp only [List.mem_cons, List.not_mem_nil, or_false] at hd
    rcases hd with rfl | rfl | rfl | rfl | rfl | rfl
    · exact ⟨_, hz, fun v q => nomatch q⟩
    · exact ⟨_, hTI, fun v q => nomatch q⟩
    · exact ⟨_, hTO, fun v q => nomatch q⟩
    · exact ⟨o1, e1, fun v q => by rw [d1] at q; cases q⟩
    · exact ⟨o2, e2, fun v q => by rw [d2] at q; cases q⟩
    · exact ⟨o3, e3, fun v q => by rw [d3] at q; cases q⟩
  keep := fun i h h' st k => by
    obtain ⟨hz, hTI, ⟨x, y, u, hTO⟩, h1, h2, h3⟩ := st
    exact ⟨k z (by simp) _ hz, k TI (by simp) _ hTI, ⟨x, y, u, k TO (by simp) _ hTO⟩, h1.at fun o q => k i1 (by simp) o q, h2.at fun o q => k i2 (by simp) o q, h3.at fun o q => k i3 (by simp) o q⟩
  item := by
    intro X hP hw hK hc i pins s σ H E I hf st hg
    subst hP hw hK
    obtain ⟨hz, hTI, ⟨x0, y0, u0, hTO⟩, h1, h2, h3⟩ := st
    obtain ⟨xs, ys, zs, x, y, u, hqx, hqy, hqz, hx, hy, hu⟩ := hg
    obtain ⟨its, rv, p, _⟩ := I.tuple hqx
    obtain ⟨its2, rv2, p2, _⟩ := I.tuple hqy
    obtain ⟨its3, rv3, p3, _⟩ := I.tuple hqz
    have hh : X.A.in1.handled = none := I.ok.hd hc
    have S := D.sep
    have n1 : a ≠ i1 := fun e => D.na (by simp [e])
    have n2 : b ≠ i2 := fun e => D.nb (by simp [e])
    have n3 : c ≠ i3 := fun e => D.nc (by simp [e])
    obtain ⟨v1, f1, r1⟩ := rv.get hx
    obtain ⟨v2, f2, r2⟩ := rv2.get hy
    obtain ⟨v3, f3, r3⟩ := rv3.get hu
    have hzl : z < s.heap.objs.size := Heap.lt_size hz
    refine wpAny_pyNext_zipD3_item S (Draws.tuple hh i1 a n1 its.toArray) (Draws.tuple hh i2 b n2 its2.toArray) (Draws.tuple hh i3 c n3 its3.toArray) hz hTI hTO ⟨h1, p⟩ ⟨h2, p2⟩ ⟨h3, p3⟩
      (by simpa using (List.getElem?_eq_some_iff.mp f1).1) (by simpa using (List.getElem?_eq_some_iff.mp f2).1) (by simpa using (List.getElem?_eq_some_iff.mp f3).1) fun w1 w2 w3 h' tk g1 g2 g3 z' TO' k1 k2 k3 hT hsz hk => ?_
    have g1' : its[i]? = some w1 := by simpa using g1
    have g2' : its2[i]? = some w2 := by simpa using g2
    have g3' : its3[i]? = some w3 := by simpa using g3
    rw [f1] at g1'; cases g1'
    rw [f2] at g2'; cases g2'
    rw [f3] at g3'; cases g3'
    refine ⟨_, rfl, wpAny_letOwnedTupleGo_zip (s := { s with heap := h', toks := tk }) z' fun h'' z'' sb => ?_⟩
    have hT2 : h''.get? s.heap.objs.size = some { cls := .type "tuple", data := .seq #[v1, v2, v3] } := (sb.2 _ (Nat.ne_of_gt hzl)).trans hT
    have new : ObjOk X.prog X.w (upd H s.heap.objs.size (.tup [x, y, u])) h'' s.heap.objs.size (.tup [x, y, u]) :=
      ⟨by show 3 ≤ sizeLine; decide, [v1, v2, v3], .cons r1 (.cons r2 (.cons r3 .nil)), ⟨_, hT2, rfl, _, rfl⟩⟩
    have I1 : Inv X pins σ (upd H s.heap.objs.size (.tup [x, y, u])) { s with heap := h'', toks := tk } :=
      I.turnedNew (t' := tk) (ch := [z, TI, TO, i1, i2, i3]) (fun d o hb q => (sb.2 d (fun q' => hb (by simp [q']))).trans (hk d o (fun q' => hb (by simp [q'])) (fun q' => hb (by simp [q'])) (fun q' => hb (by simp [q'])) (fun q' => hb (by simp [q'])) (fun q' => hb (by simp [q'])) q)) hf (Nat.le_refl _) new
    refine ⟨.ref s.heap.objs.size, _, I1, rfl, ⟨_, x, y, u, rfl, I.hok.fresh (Nat.le_refl _), rfl, fun l hl => by rw [I.tuple_inj hl hqx]; exact hx, fun l hl => by rw [I.tuple_inj hl hqy]; exact hy, fun l hl => by rw [I.tuple_inj hl hqz]; exact hu⟩, ⟨z'', ?_, ⟨v1, v2, v3, ?_⟩, ?_, ?_, ?_⟩, fun d hcm => ?_⟩
    · exact (sb.2 _ S.TIz).trans (hk _ _ S.TIz S.TITO S.TIi1 S.TIi2 S.TIi3 hTI)
    · exact (sb.2 _ S.TOz).trans TO'
    · exact k1.1.at fun o q => (sb.2 _ (fun e => S.zf1 (by simp [e]))).trans q
    · exact k2.1.at fun o q => (sb.2 _ (fun e => S.zf2 (by simp [e]))).trans q
    · exact k3.1.at fun o q => (sb.2 _ (fun e => S.zf3 (by simp [e]))).trans q
    · have hlt : d < s.heap.objs.size := by
        simp only [List.mem_cons, List.not_mem_nil, or_false] at hcm
        rcases hcm with rfl | rfl | rfl | rfl | rfl | rfl
        · exact hzl
        · exact Heap.lt_size hTI
        · exact Heap.lt_size hTO
        · obtain ⟨_, e1, _⟩ := h1; exact Heap.lt_size e1
        · obtain ⟨_, e2, _⟩ := h2; exact Heap.lt_size e2
        · obtain ⟨_, e3, _⟩ := h3; exact Heap.lt_size e3
      rw [upd_ne (Nat.ne_of_lt hlt)]
      exact (hf d hcm).1
  done := by
    intro X hP hw hK hc i pins s σ H E I hf st hg
    subst hP hw hK
    obtain ⟨hz, hTI, ⟨x0, y0, u0, hTO⟩, h1, h2, h3⟩ := st
    obtain ⟨xs, ys, zs, hqx, hqy, hqz, lx, ly, lz⟩ := hg
    obtain ⟨its, rv, p, _⟩ := I.tuple hqx
    obtain ⟨its2, rv2, p2, _⟩ := I.tuple hqy
    obtain ⟨its3, rv3, p3, _⟩ := I.tuple hqz
    have l1 := rv.length
    have l2 := rv2.length
    have l3 := rv3.length
    have hh : X.A.in1.handled = none := I.ok.hd hc
    have n1 : a ≠ i1 := fun e => D.na (by simp [e])
    have n2 : b ≠ i2 := fun e => D.nb (by simp [e])
    have n3 : c ≠ i3 := fun e => D.nc (by simp [e])
    have m1 : i = its.toArray.size := by simp; omega
    have m2 : i = its2.toArray.size := by simp; omega
    have m3 : i = its3.toArray.size := by simp; omega
    exact wpAny_pyNext_zipD3_end D.sep (Draws.tuple hh i1 a n1 its.toArray) (Draws.tuple hh i2 b n2 its2.toArray) (Draws.tuple hh i3 c n3 its3.toArray) hz hTI hTO ⟨h1, p⟩ ⟨h2, p2⟩ ⟨h3, p3⟩ (Nat.le_of_eq m1) (Nat.le_of_eq m2) (Nat.le_of_eq m3) (.inl m1) fun h' tk hk =>
      ⟨rfl, I.turnedL (t' := tk) (ch := [z, TI, TO, i1, i2, i3]) (fun d o hb q => hk d o (fun q' => hb (by simp [q'])) (fun q' => hb (by simp [q'])) (fun q' => hb (by simp [q'])) (fun q' => hb (by simp [q'])) (fun q' => hb (by simp [q'])) q) hf⟩
  self := fun A i s Q E st h => wpAny_pyIter_zip st.1 h
def iZip3 (K : Fg) (ta : TA) : TI := fun σ H RR => ta σ H fun vs H1 => ∃ a b c xs ys zs, vs = [.ref a, .ref b, .ref c] ∧ SqT K H1 a xs ∧ SqT K H1 b ys ∧ SqT K H1 c zs ∧ RR (Itz3 K a b c) H1
theorem pi_zip3 {X : Cx} {e e2 e3 : Expr} {ta : TA} {p pos tpos : Pos} {elts : List Expr} {kk : Nat} (hg : Gl X "zip") (hm : X.mg "zip" = none) (ha : PA X [e, e2, e3] ta)
    (hs : starEach [e, e2, e3] X.env = (false, eval e X.env) :: starEach [e2, e3] X.env := by rfl) (hpl : (backTo pos (starEach [e2, e3] X.env)).any (·.1) = false := by rfl) :
    PI X (.Tuple elts kk tpos) (.Call (.Name "zip" p) [e, e2, e3] [] pos) (iZip3 X.K ta) := by
  refine ⟨fun pins s σ H RR I h => ?_⟩
  refine Call_ (ld_blt I hg hm boot_zip (PyProof.Rows.callWith_type1 (thn (ha.run pos pins s σ H _ I h) fun us s1 ⟨vs, H1, I1, r1, q1⟩ => ?_) hs hpl))
  obtain ⟨a, b, c, xs, ys, zs, ex, qa, qb, qc, q⟩ := q1
  subst ex
  cases r1 with
  | cons ra rr =>
    cases rr with
    | cons rb rr =>
      cases rr with
      | cons rc rr =>
        cases rr
        cases ra
        cases rb
        cases rc
        obtain ⟨its, rv, p1, _⟩ := I1.tuple qa
        obtain ⟨its2, rv2, p2, _⟩ := I1.tuple qb
        obtain ⟨its3, rv3, p3, _⟩ := I1.tuple qc
        have la : a < s1.heap.objs.size := by obtain ⟨o1, ho1, _⟩ := id p1; exact Heap.lt_size ho1
        have lb : b < s1.heap.objs.size := by obtain ⟨o1, ho1, _⟩ := id p2; exact Heap.lt_size ho1
        have lc : c < s1.heap.objs.size := by obtain ⟨o1, ho1, _⟩ := id p3; exact Heap.lt_size ho1
        refine zip_begins3 (begins_tuple a its.toArray) (begins_tuple b its2.toArray) (begins_tuple c its3.toArray) p1 p2 p3 fun h' z1 z2 z3 k1 k2 k3 z4 hk => wpAny_pyIter_zip z1 ?_
        have I2 : Inv X pins σ H1 { s1 with heap := h' } := I1.kept (t' := s1.toks) hk
        have D : Ap3 (s1.heap.objs.size + 5) (s1.heap.objs.size + 3) (s1.heap.objs.size + 4) s1.heap.objs.size (s1.heap.objs.size + 1) (s1.heap.objs.size + 2) a b c := by
          have aux : ∀ n a b c : Nat, a < n → b < n → c < n → Ap3 (n + 5) (n + 3) (n + 4) n (n + 1) (n + 2) a b c := fun n a b c la lb lc => by
            have h1 : ([n + 5, n + 3, n + 4, n, n + 1, n + 2] : List Nat).Nodup := by
              simp only [List.nodup_cons, List.mem_cons, List.not_mem_nil, or_false, not_or, List.nodup_nil, and_true, not_false_eq_true]
              omega
            have h2 : ∀ m : Nat, m < n → m ∉ ([n + 5, n + 3, n + 4, n, n + 1, n + 2] : List Nat) := fun m hm => by
              simp only [List.mem_cons, List.not_mem_nil, or_false, not_or]
              omega
            exact ⟨h1, h2 a la, h2 b lb, h2 c lc⟩
          exact aux _ _ _ _ la lb lc
        refine ⟨s1.heap.objs.size + 5, [s1.heap.objs.size + 5, s1.heap.objs.size + 3, s1.heap.objs.size + 4, s1.heap.objs.size, s1.heap.objs.size + 1, s1.heap.objs.size + 2], _, _, H1, rfl, I2, turn_zip3 D, ⟨z1, z2, ⟨_, _, _, z3⟩, ⟨_, k1, rfl, rfl⟩, ⟨_, k2, rfl, rfl⟩, ⟨_, k3, rfl, rfl⟩⟩, fun d hcm => ?_, q⟩
        have hle : s1.heap.objs.size ≤ d := by
          have aux : ∀ n d : Nat, d ∈ [n + 5, n + 3, n + 4, n, n + 1, n + 2] → n ≤ d := fun n d hd => by
            simp only [List.mem_cons, List.not_mem_nil, or_false] at hd
            omega
          exact aux _ _ hcm
        exact I1.fpOk hle (I1.hok.fresh hle)
end Lw

set_option Elab.async false
set_option linter.all false
set_option maxRecDepth 100000
set_option maxHeartbeats 4000000
namespace Lw
open PySem PySem.Spec PyProof.Rows L2
variable [Tabl] [Exn]
section
variable {K : Fg} {ρ : List SD}
/-! ### zip of three, as data -/
def zip3D (xs ys zs : List D) : List D := (xs.zip (ys.zip zs)).map fun p => .tup [p.1, p.2.1, p.2.2]
theorem zip3D_get {xs ys zs : List D} {i : Nat} {d : D} (h : (zip3D xs ys zs)[i]? = some d) : ∃ x y z, xs[i]? = some x ∧ ys[i]? = some y ∧ zs[i]? = some z ∧ d = .tup [x, y, z] := by
  unfold zip3D at h
  rw [List.getElem?_map] at h
  cases q : (xs.zip (ys.zip zs))[i]? with
  | none => rw [q] at h; cases h
  | some p =>
    rw [q] at h
    rw [List.getElem?_zip_eq_some, List.getElem?_zip_eq_some] at q
    exact ⟨p.1, p.2.1, p.2.2, q.1, q.2.1, q.2.2, (Option.some.inj h).symm⟩
theorem dw_zip3 {B : Hp} {a b c : Addr} {vs us ws : List V} {ds es fs : List D} (h : SqT K B a vs) (r : RA K B vs ds) (h' : SqT K B b us) (r' : RA K B us es) (h'' : SqT K B c ws) (r'' : RA K B ws fs) (l1 : ds.length = es.length) (l2 : ds.length = fs.length) : DW K B (Itz3 K a b c) (zip3D ds es fs) where
  go := fun i H hi s => by
    have hl : i < ds.length := by
      unfold zip3D at hi
      simp at hi
      omega
    have h1 : i < vs.length := by rw [r.length]; omega
    have h2 : i < us.length := by rw [r'.length]; omega
    have h3 : i < ws.length := by rw [r''.length]; omega
    exact ⟨vs, us, ws, vs[i], us[i], ws[i], same_t s h, same_t s h', same_t s h'', by simp [h1], by simp [h2], by simp [h3]⟩
  stop := fun H s => by
    have hl : (zip3D ds es fs).length = ds.length := by
      unfold zip3D
      simp
      omega
    rw [hl]
    exact ⟨vs, us, ws, same_t s h, same_t s h', same_t s h'', r.length, by rw [r'.length]; omega, by rw [r''.length]; omega⟩
  yld := fun i H x H' d e y Bc s1 s2 => by
    obtain ⟨T, v, u, w, rfl, hT, rfl, f1, f2, f3⟩ := y
    obtain ⟨d1, d2, d3, e1, e2, e3, rfl⟩ := zip3D_get e
    obtain ⟨v', q1, r1⟩ := r.get e1
    obtain ⟨u', q2, r2⟩ := r'.get e2
    obtain ⟨w', q3, r3⟩ := r''.get e3
    have z1 := f1 vs (same_t (s1.trans s2) h)
    have z2 := f2 us (same_t (s1.trans s2) h')
    have z3 := f3 ws (same_t (s1.trans s2) h'')
    rw [q1] at z1; cases z1
    rw [q2] at z2; cases z2
    rw [q3] at z3; cases z3
    have hb := same_none s2 hT
    exact ⟨upd Bc T _, (Gr.refl s2).new hT hT, .tup (SqT.of upd_same) (.cons ((r1.mono s1).mono (same_new hb)) (.cons ((r2.mono s1).mono (same_new hb)) (.cons ((r3.mono s1).mono (same_new hb)) .nil)))⟩
theorem wi_zip3 {ta tb tc : TE} {F : List D → List SD → Prop} (h : WE K ta ρ fun x ρ1 => WE K tb ρ1 fun y ρ2 => WE K tc ρ2 fun z ρ3 => ∃ xs ys zs, x = .tup xs ∧ y = .tup ys ∧ z = .tup zs ∧ xs.length = ys.length ∧ xs.length = zs.length ∧ F (zip3D xs ys zs) ρ3) :
    WI K (iZip3 K (tCons ta (tCons tb (tCons tc tNil)))) ρ F :=
  fun P B0 H0 B H σ S RR k => h P B0 H0 B H σ S _ fun v x ρ1 B1 H1 h1 S1 s1 r1 => h1 P B0 H0 B1 H1 σ S1 _ fun u y ρ2 B2 H2 h2 S2 s2 r2 => h2 P B0 H0 B2 H2 σ S2 _ fun w z ρ3 B3 H3 ⟨xs, ys, zs, e1, e2, e3, l1, l2, f⟩ S3 s3 r3 => by
    subst e1 e2 e3
    have r1' := (r1.mono s2.bb).mono s3.bb
    have r2' := r2.mono s3.bb
    cases r1' with
    | tup h1 a1 =>
      cases r2' with
      | tup h2 a2 =>
        cases r3 with
        | tup h3 a3 => exact ⟨_, _, _, _, _, _, rfl, same_t S3.le h1, same_t S3.le h2, same_t S3.le h3, k _ _ ρ3 B3 H3 f S3 ((s1.trans s2).trans s3) (dw_zip3 h1 a1 h2 a2 h3 a3 l1 l2)⟩
/-! ### dicts -/
def kD : Key → D
  | .inl i => .int i
  | .inr s => .str s
def putD (kvs : List (Key × D)) (k : Key) (d : D) : List (Key × D) := if (kvs.any fun kv => decide (kv.1 = k)) = true then kvs.map (fun kv => if kv.1 = k then (kv.1, d) else kv) else kvs ++ [(k, d)]
def mergeD (kvs more : List (Key × D)) : List (Key × D) := more.foldl (fun acc kv => putD acc kv.1 kv.2) kvs
theorem RA.keys {B : Hp} : ∀ {ks : List Key} {vs : List V}, RA K B vs (ks.map kD) → vs = ks.map kV
  | [], _, .nil => rfl
  | .inl i :: ks, _, .cons (.int _) q => by rw [List.map_cons, RA.keys q]; rfl
  | .inr i :: ks, _, .cons (.str _) q => by rw [List.map_cons, RA.keys q]; rfl
theorem RK.any {B : Hp} {k : Key} : ∀ {vs : List (Key × V)} {ds : List (Key × D)}, RK K B vs ds → (vs.any fun kv => decide (kv.1 = k)) = (ds.any fun kv => decide (kv.1 = k))
  | _, _, .nil => rfl
  | _, _, .cons h q => by
    rw [List.any_cons, List.any_cons, RK.any q]
theorem RK.append {B : Hp} : ∀ {vs ws : List (Key × V)} {ds es : List (Key × D)}, RK K B vs ds → RK K B ws es → RK K B (vs ++ ws) (ds ++ es)
  | _, _, _, _, .nil, q => q
  | _, _, _, _, .cons h p, q => .cons h (RK.append p q)
theorem RK.over {B : Hp} {k : Key} {v : V} {d : D} (hv : R K B v d) : ∀ {vs : List (Key × V)} {ds : List (Key × D)}, RK K B vs ds → RK K B (vs.map fun kv => if kv.1 = k then (kv.1, v) else kv) (ds.map fun kv => if kv.1 = k then (kv.1, d) else kv)
  | _, _, .nil => .nil
  | _, _, .cons (k := k') (v := v') (d := d') (vs := vs) (ds := ds) h q => by
    rw [List.map_cons, List.map_cons]
    by_cases z : k' = k
    · subst z
      simp only [if_true]
      exact .cons hv (RK.over hv q)
    · simp only [if_neg z]
      exact .cons h (RK.over hv q)
theorem RK.put {B : Hp} {k : Key} {v : V} {d : D} (hv : R K B v d) {vs : List (Key × V)} {ds : List (Key × D)} (q : RK K B vs ds) : RK K B (putK vs k v) (putD ds k d) := by
  unfold putK putD
  rw [RK.any q]
  by_cases z : (ds.any fun kv => decide (kv.1 = k)) = true
  · rw [if_pos z, if_pos z]; exact RK.over hv q
  · rw [if_neg z, if_neg z]; exact RK.append q (.cons hv .nil)
theorem RK.merge {B : Hp} : ∀ {ws : List (Key × V)} {es : List (Key × D)}, RK K B ws es → ∀ {vs : List (Key × V)} {ds : List (Key × D)}, RK K B vs ds → RK K B (mergeK vs ws) (mergeD ds es)
  | _, _, .nil, _, _, q => q
  | _, _, .cons h r, _, _, q => RK.merge r (RK.put h q)
theorem RK.zip {B : Hp} : ∀ {ks : List Key} {ys : List V} {ds : List D}, RA K B ys ds → RK K B (ks.zip ys) (ks.zip ds)
  | [], _, _, _ => .nil
  | _ :: _, _, _, .nil => .nil
  | _ :: ks, _, _, .cons h r => .cons h (RK.zip r)
/-- unlike keys: the pairs as they are -/
theorem mergeD_new : ∀ {es ds : List (Key × D)}, (ds ++ es).Pairwise (fun p q => p.1 ≠ q.1) → mergeD ds es = ds ++ es
  | [], ds, _ => (List.append_nil ds).symm
  | e :: es, ds, h => by
    have ne : (ds.any fun kv => decide (kv.1 = e.1)) = false := by
      rw [List.any_eq_false]
      intro p hp
      have := (List.pairwise_append.mp h).2.2 p hp e List.mem_cons_self
      simpa using this
    show mergeD (putD ds e.1 e.2) es = _
    have e2 : putD ds e.1 e.2 = ds ++ [e] := by
      unfold putD
      rw [ne, if_neg Bool.false_ne_true]
    rw [e2, mergeD_new (by rw [List.append_assoc]; exact h), List.append_assoc]
    rfl
theorem we_dictZip {ta tb : TE} {F : D → List SD → Prop} (h : WE K ta ρ fun x ρ1 => WE K tb ρ1 fun y ρ2 => ∃ (ks : List Key) (ys : List D), x = .tup (ks.map kD) ∧ y = .tup ys ∧ ks.length = ys.length ∧ ys.length ≤ sizeLine ∧ F (.dct (mergeD [] (ks.zip ys))) ρ2) : WE K (tDictZip K (tCons ta (tCons tb tNil))) ρ F :=
  fun P B0 H0 B H σ S Q k => h P B0 H0 B H σ S _ fun v x ρ1 B1 H1 h1 S1 s1 r1 => h1 P B0 H0 B1 H1 σ S1 _ fun u y ρ2 B2 H2 ⟨ks, ys, e1, e2, l1, l2, f⟩ S2 s2 r2 => by
    subst e1 e2
    have r1' := r1.mono s2.bb
    cases r1' with
    | tup h1 a1 =>
      cases r2 with
      | tup h2 a2 =>
        rw [RA.keys a1] at h1
        refine ⟨_, _, ks, _, rfl, same_t S2.le h1, same_t S2.le h2, by rw [l1, a2.length], by rw [a2.length]; exact l2, fun p hp => ?_⟩
        have hb := S2.bfree hp
        exact k _ _ ρ2 (upd B2 p _) _ f (S2.new _ hp) ((s1.trans s2).trans (Ev.new S2.le hp)) (.dct upd_same ((RK.merge (RK.zip a2) .nil).mono (same_new hb)))
/-- dict(xs), xs a list of pairs -/
theorem we_dictP {te : TE} {F : D → List SD → Prop} (h : WE K te ρ fun x ρ1 => ∃ es : List (Key × D), x = .lst (es.map fun e => .tup [kD e.1, e.2]) ∧ F (.dct (mergeD [] es)) ρ1) :
    WE K (tCB (fun xs H Q => ∃ (a : Addr) (ps : List Addr) (kvs : List (Key × V)), xs = [.ref a] ∧ SqL K H a (ps.map V.ref) ∧ Paired (fun p kv => SqT K H p [kV kv.1, kv.2]) ps kvs ∧
    ∀ p, H p = none → Q (.ref p) (upd H p (.dK (mergeK [] kvs)))) (tCons te tNil)) ρ F :=
  we_cb1 (h.mono fun x _ ⟨es, e, q⟩ => fun B H vs s r Q k => by
    obtain ⟨v, rfl, r1⟩ := ra1 r
    subst e
    cases r1 with
    | lst h1 a1 =>
      rename_i a vs
      have key : ∀ {es : List (Key × D)} {vs : List V}, RA K B vs (es.map fun e => .tup [kD e.1, e.2]) → ∃ (ps : List Addr) (kvs : List (Key × V)), vs = ps.map V.ref ∧ Paired (fun p kv => SqT K H p [kV kv.1, kv.2]) ps kvs ∧ RK K B kvs es := by
        intro es
        induction es with
        | nil =>
          intro vs r
          cases r
          exact ⟨[], [], rfl, .nil, .nil⟩
        | cons e es ih =>
          intro vs r
          cases r with
          | cons hr tr =>
            cases hr with
            | tup hs ha =>
              cases ha with
              | cons k1 k2 =>
                cases k2 with
                | cons k2 k3 =>
                  cases k3
                  obtain ⟨ps, kvs, e1, e2, e3⟩ := ih tr
                  have ek := RA.keys (ks := [e.1]) (.cons k1 .nil)
                  rename_i p x y
                  refine ⟨_ :: ps, (e.1, y) :: kvs, by rw [List.map_cons, e1], .cons ?_ e2, .cons k2 e3⟩
                  have hk : x = kV e.1 := by simpa using ek
                  rw [← hk]
                  exact same_t s hs
      obtain ⟨ps, kvs, e1, e2, e3⟩ := key a1
      subst e1
      refine ⟨a, ps, kvs, rfl, SqL.of (s _ _ h1), e2, fun p hp => ?_⟩
      have hb := same_none s hp
      exact k _ _ (upd B p _) _ q ((Gr.refl s).new hp hp) (.dct upd_same ((RK.merge e3 .nil).mono (same_new hb))))
/-! ### repr of flat things -/
def rReprF : List V → Hp → VK → Prop := fun xs H Q => (∃ i, xs = [.int i] ∧ i.natAbs.log2 < 1920 ∧ Q (.str (toString i)) H) ∨ (∃ b, xs = [.bl b] ∧ Q (.str (if b then "True" else "False")) H) ∨ (∃ z : Str, xs = [.str z] ∧ (reprText z).length ≤ sizeLine ∧ Q (.str (reprText z)) H)
theorem call_reprF {X : Cx} : CallR X (.builtin "repr") rReprF := by
  intro pins s σ H xs us Q I r h
  rcases h with ⟨i, rfl, hz, q⟩ | ⟨b, rfl, q⟩ | ⟨z, rfl, hz, q⟩
  · obtain ⟨u, rfl, t, rfl⟩ := vals1 r
    exact PySem.P.repr_of_int hz ⟨.str _, H, I.tok _, ⟨_, rfl⟩, q⟩
  · obtain ⟨u, rfl, e⟩ := vals1 r
    obtain rfl : u = Value.bool b := e
    exact PySem.P.repr_of_bool ⟨.str _, H, I.tok _, ⟨_, rfl⟩, q⟩
  · obtain ⟨u, rfl, t, rfl⟩ := vals1 r
    exact PySem.P.repr_of_str ⟨.str _, H, I.tok _, ⟨_, rfl⟩, q⟩ hz
def dRepr (x : D) (F : D → Prop) : Prop := match x with
  | .int i => i.natAbs.log2 < 1920 ∧ F (.str (toString i))
  | .bl b => F (.str (if b then "True" else "False"))
  | .str z => (reprText z).length ≤ sizeLine ∧ F (.str (reprText z))
  | _ => False
theorem we_reprF {te : TE} {F : D → List SD → Prop} (h : WE K te ρ fun x ρ1 => dRepr x fun d => F d ρ1) : WE K (tCB rReprF (tCons te tNil)) ρ F :=
  we_cb1 (h.mono fun x _ q => fun B H vs s r Q k => by
    obtain ⟨v, rfl, r1⟩ := ra1 r
    unfold dRepr at q
    split at q
    · rw [rint r1]
      exact .inl ⟨_, rfl, q.1, k _ _ B H q.2 (Gr.refl s) (.str _)⟩
    · rw [rbl r1]
      exact .inr (.inl ⟨_, rfl, k _ _ B H q (Gr.refl s) (.str _)⟩)
    · rw [rstr r1]
      exact .inr (.inr ⟨_, rfl, q.1, k _ _ B H q.2 (Gr.refl s) (.str _)⟩)
    · exact q.elim)
end
/-! ### == of own instances -/
end Lw
namespace Lw
open PySem PySem.Spec PyProof.Rows L2
/-- an own == : its answer is True, nothing that stood changes -/
def eqSp (K : Fg) (C : Addr) (S : List D → (D → Prop) → Prop) : Sp := fun vs H Q _ => ∃ (a b : Addr) (B : Hp) (fs gs : List (Str × D)), vs = [.ref a, .ref b] ∧ Same B H ∧ R K B (.ref a) (.obj C fs) ∧ R K B (.ref b) (.obj C gs) ∧ (S [.obj C fs, .obj C gs] fun d => d = .bl true) ∧ ∀ H', Ext H H' → Q (.bl true) H'
theorem fn_eq {P : Program} {w : World} {K : Fg} {mg : Str → Option Value} {base : Heap} {name qual : Str} {params : Arguments} {body : List Stmt} {scope : Scope} {f C : Addr} {fd : FuncData} {N ps : List Str} {k : Nat} {S : List D → (D → Prop) → Prop}
    (F : FunD K name qual params body scope [] [] f fd) (sc : FnScope N ps scope) (hn : 2 = ps.length) (hN : 2 ≤ N.length)
    (hb : ∀ (cdv : Value) (A : Around) (outer : List Env) (s : Shared) (H : Hp) (E : XK), Room k (A.deeper (envOfC qual scope s.heap.objs.size f cdv)) →
      ∃ t, PSs (cxOf CX0 P w K mg base N qual scope f cdv A outer s H E).nox body t ∧ ∀ ds G, ds.length = 2 → S ds G → ∀ [Exn], @WS ⟨[]⟩ _ K t (rho N ds) (outP G)) :
    FnOk P w K mg base CX0 (k + 1) f fd ps (eqSp K C S) := by
  refine F.ok sc (fun vs H Q E h => ?_) (fun cdv A outer s H vs Q E hr h => ?_)
  · obtain ⟨a, b, B, fs, gs, rfl, _⟩ := h
    rw [← hn]; rfl
  · obtain ⟨t, hp, hw⟩ := hb cdv A outer s H E hr
    refine ⟨t, hp.nox, ?_⟩
    obtain ⟨a, b, B, fs, gs, rfl, h1, r1, r2, h4, h5⟩ := h
    letI : Tabl := ⟨[]⟩
    letI := exn0
    have nt : ∀ b, ¬ Tb b := fun b ⟨p, hp, _⟩ => nomatch hp
    have ext : ∀ {B' H' : Hp}, Gr Non B H B' H' → Ext H H' := fun g b o e => g.same (nt b) e
    refine hw [_, _] (fun d => d = .bl true) rfl h4 Non B H B H (start N [.ref a, .ref b]) (st_start exOk0 h1 ⟨fun p hp => (nomatch hp), fun b t => absurd t (nt b)⟩ (.cons r1 (.cons r2 .nil)) hN) _ (fun ρ' B' H' σ' f S' s' => ?_) (fun v d ρ' B' H' σ' f S' s' r => ?_) (fun _ _ _ _ z => z.elim) (fun _ _ _ _ z => z.elim)
    · cases f
    · rw [show d = .bl true from f] at r
      rw [rbl r]
      exact h5 H' (ext S'.gr)
def rEqI (K : Fg) (C : Addr) (S : List D → (D → Prop) → Prop) : R2 := fun x y H Q => (∃ B fs gs, Same B H ∧ R K B x (.obj C fs) ∧ R K B y (.obj C gs) ∧ S [.obj C fs, .obj C gs] fun d => d = .bl true) ∧ ∀ H', Ext H H' → Q (.bl true) H'
theorem op_eqI {X : Cx} {C : Addr} {n : Nat} {ps : List Str} {S : List D → (D → Prop) → Prop} (M : Met X.prog X.w X.K X.mg X.base C "__eq__" n ps (eqSp X.K C S)) (hr : Room n X.A) : OpR X (compareOp .Eq) (rEqI X.K C S) := by
  obtain ⟨f, fd, c, hm, hb, F⟩ := M
  let RR : Addr → Addr → Hp → Prop := fun a b H => ∃ B fs gs, Same B H ∧ R X.K B (.ref a) (.obj C fs) ∧ R X.K B (.ref b) (.obj C gs) ∧ S [.obj C fs, .obj C gs] fun d => d = .bl true
  have F2 : FnOk X.prog X.w X.K X.mg X.base CX0 n f fd ps (spEq RR) := F.imp fun vs H Q E ⟨a, b, e, ⟨B, fs, gs, s, r1, r2, h⟩, k⟩ => by
    subst e
    exact ⟨a, b, B, fs, gs, rfl, s, r1, r2, h, k⟩
  have G := rcG_ins (X := X) F2 hm.at_ (beq_iff_eq.mp (by simpa using hm.fn)) hb pass0
  intro pins s σ H x y v u Q I rx ry h
  obtain ⟨⟨B, fs, gs, sm, r1, r2, hs⟩, q⟩ := h
  cases r1 with
  | obj e1 f1 =>
    cases r2 with
    | obj e2 f2 => exact op_eqG G hr pins s σ H _ _ v u Q I rx ry ⟨⟨_, _, _, _, _, _, rfl, rfl, sm _ _ e1, sm _ _ e2, ⟨B, fs, gs, sm, .obj e1 f1, .obj e2 f2, hs⟩⟩, q⟩
end Lw
namespace Lw
open PySem PySem.Spec PyProof.Rows L2
variable [Tabl] [Exn]
theorem we_eqI {K : Fg} {ρ : List SD} {C : Addr} {S : List D → (D → Prop) → Prop} {ta tb : TE} {F : D → List SD → Prop} (h : WE K ta ρ fun x ρ1 => WE K tb ρ1 fun y ρ2 => ∃ fs gs, x = .obj C fs ∧ y = .obj C gs ∧ (S [x, y] fun d => d = .bl true) ∧ F (.bl true) ρ2) : WE K (tOp (rEqI K C S) ta tb) ρ F :=
  we_op (h.mono fun x _ q => q.mono fun y _ ⟨fs, gs, e1, e2, hs, f⟩ => by
    subst e1 e2
    intro B H v u s r1 r2 Q k
    refine ⟨⟨B, fs, gs, s, r1, r2, hs⟩, fun H' e => k _ _ B H' f ⟨fun b o _ z => e b o z, Same.refl _, fun b o z => e b o (s b o z), fun b o z => .inl z, fun b _ z => ?_, fun _ z => z, fun z => ⟨z.1.ext fun b o q => e b o q, z.2⟩⟩ (.bl true)⟩
    cases q : H b with
    | none => exact absurd q z
    | some o => rw [e b o q]; exact fun z => nomatch z)
/-! ### len(set(..)) of tuples of ints -/
/-- so many unlike ones are among them -/
def Dist {α : Type} (xs : List α) (n : Nat) : Prop := ∃ M : List α, M.Nodup ∧ M.length = n ∧ ∀ x, x ∈ M ↔ x ∈ xs
def tLenSetT (K : Fg) (ta : TE) : TE := fun σ H Q => ta σ H fun x H1 => ∃ (l : Addr) (ks : List (Addr × List Int)), x = V.ref l ∧ SqL K H1 l (ks.map fun p => V.ref p.1) ∧ (∀ p ∈ ks, SqT K H1 p.1 (p.2.map V.int)) ∧ ks.length < 64 ∧ ∀ n, Dist (ks.map (·.2)) n → Q (.int (n : Nat)) H1
theorem pe_lenSetT {X : Cx} {a : Expr} {ta : TE} {p p2 q pos : Pos} (hc : X.calm = true) (hu : X.A.units + 64 < cLine) (hm : X.mg "len" = none) (hm2 : X.mg "set" = none) (ha : PE X a ta) (hg : Gl X "len" := by rfl) (hg2 : Gl X "set" := by rfl)
    (na : starEach [a] X.env = (false, eval a X.env) :: starEach [] X.env := by rfl) : PE X (.Call (.Name "len" p) [.Call (.Name "set" p2) [a] [] q] [] pos) (tLenSetT X.K ta) := by
  refine ⟨fun pins s σ H Q I h => ?_⟩
  refine Call_ (ld_blt I hg hm PySem.boot_len (PyProof.Rows.callWith_builtin1 (PyProof.Rows.args_cons ?_ rfl) rfl rfl))
  refine Call_ (ld_blt I hg2 hm2 PyProof.Rows.boot_set (PyProof.Rows.callWith_type1 (PyProof.Rows.args_cons (thn (ha.run pins s σ H _ I h) fun v s1 ⟨x, H1, I1, r1, q1⟩ => PyProof.Rows.args_nil ?_) na) na rfl))
  obtain ⟨l, ks, rfl, hl, hk, hf, q1⟩ := q1
  cases r1
  obtain ⟨its, rv, pl, hz⟩ := I1.list hl
  refine call_set_tups (P := X.prog) (w := X.w) ks (I1.ok.hd hc) pl.isList (by simpa using refs_of_vals rv) (fun p hp => I1.isT (hk p hp)) hf (by omega) fun h' tk L es ep t RR g hk2 => PyProof.Rows.args_nil ?_
  have I2 : Inv X pins σ H1 { s1 with heap := h', toks := tk } := I1.kept fun b o e => hk2 b o e
  obtain ⟨o, ho, hex, hd⟩ := RR.ob
  have sz : es.size = L.length := SetTR.size (s := { s1 with heap := h', toks := tk }) RR
  refine call_len_set (s := { s1 with heap := h', toks := tk }) ho hex hd (SetTR.fits (s := { s1 with heap := h', toks := tk }) RR) (by
    rw [sz]
    have := RR.few
    omega) ⟨.int L.length, H1, I2.tok _, ⟨_, by rw [sz]⟩, q1 L.length ⟨L.map (·.2), RR.nd, by simp, fun y => ⟨fun hy => ?_, fun hy => ?_⟩⟩⟩
  · obtain ⟨p, hp, rfl⟩ := List.mem_map.mp hy
    have := g.sub p hp
    rw [List.take_length] at this
    exact List.mem_map.mpr ⟨p, this, rfl⟩
  · obtain ⟨p, hp, rfl⟩ := List.mem_map.mp hy
    exact g.all p (by rw [List.take_length]; exact hp)
theorem we_lenSetT {K : Fg} {ρ : List SD} {ta : TE} {F : D → List SD → Prop} (h : WE K ta ρ fun x ρ1 => ∃ xs : List (List Int), x = .lst (xs.map fun y => .tup (y.map D.int)) ∧ xs.length < 64 ∧ ∀ n, Dist xs n → F (.int (n : Nat)) ρ1) : WE K (tLenSetT K ta) ρ F :=
  fun P B0 H0 B H σ S Q k => h P B0 H0 B H σ S _ fun v x ρ1 B1 H1 ⟨xs, e, hl, f⟩ S1 s1 r1 => by
    subst e
    cases r1 with
    | lst h1 a1 =>
      rename_i l vs
      have key : ∀ {xs : List (List Int)} {vs : List V}, RA K B1 vs (xs.map fun y => .tup (y.map D.int)) → ∃ ks : List (Addr × List Int), vs = ks.map (fun p => V.ref p.1) ∧ (∀ p ∈ ks, SqT K H1 p.1 (p.2.map V.int)) ∧ ks.map (·.2) = xs := by
        intro xs
        induction xs with
        | nil =>
          intro vs r
          cases r
          exact ⟨[], rfl, (fun p hp => nomatch hp), rfl⟩
        | cons y ys ih =>
          intro vs r
          cases r with
          | cons hr tr =>
            cases hr with
            | tup hs ha =>
              obtain ⟨ks, e1, e2, e3⟩ := ih tr
              rw [RA.ints ha] at hs
              refine ⟨(_, y) :: ks, by rw [List.map_cons, e1], fun p hp => ?_, by rw [List.map_cons, e3]⟩
              rcases List.mem_cons.mp hp with rfl | hp
              · exact same_t S1.le hs
              · exact e2 p hp
      obtain ⟨ks, e1, e2, e3⟩ := key a1
      subst e1
      refine ⟨l, ks, rfl, SqL.of (S1.le _ _ h1), e2, by rw [← List.length_map (f := (·.2)), e3]; exact hl, fun n hn => ?_⟩
      rw [e3] at hn
      exact k _ _ ρ1 B1 H1 (f n hn) S1 s1 (.int _)
end Lw

set_option Elab.async false
set_option linter.all false
set_option maxRecDepth 100000
set_option maxHeartbeats 4000000
namespace Lw
open PySem PySem.Spec PyProof.Rows L2
variable [Tabl] [Exn]
/-! ### what the operations do to data, by kind -/
section
variable {K : Fg} {F : D → Prop} {i j : Int} {xs ys : List D} {d : D}
theorem q_sub (h : F (.int (i - j))) : dSub (.int i) (.int j) F := h
theorem q_addI (h : F (.int (i + j))) : dAdd (.int i) (.int j) F := h
theorem q_addS {z u : Str} (hl : z.length + u.length ≤ sizeLine) (h : F (.str (z ++ u))) : dAdd (.str z) (.str u) F := ⟨hl, h⟩
theorem q_addL (hl : xs.length + ys.length ≤ sizeLine) (h : F (.lst (xs ++ ys))) : dAdd (.lst xs) (.lst ys) F := ⟨hl, h⟩
theorem q_addT (hl : xs.length + ys.length ≤ sizeLine) (h : F (.tup (xs ++ ys))) : dAdd (.tup xs) (.tup ys) F := ⟨hl, h⟩
theorem big1 : (10 : Nat) ^ 200 < 2 ^ 400000 := Nat.lt_of_lt_of_le (by decide : (10 : Nat) ^ 200 < 2 ^ 1400) (Nat.pow_le_pow_right (by decide) (by decide))
theorem mulA (hi : i.natAbs ≤ 10 ^ 200) (hj : j.natAbs ≤ 10 ^ 200) : CMulA i j := .inr ⟨Nat.lt_of_le_of_lt hi big1, Nat.lt_of_le_of_lt hj big1⟩
theorem mulA' {n : Nat} (hn : n ≤ 10 ^ 200) (hi : i.natAbs ≤ n) (hj : j.natAbs ≤ n) : CMulA i j := mulA (Nat.le_trans hi hn) (Nat.le_trans hj hn)
theorem q_mul (hm : CMulA i j) (h : F (.int (i * j))) : dMul (.int i) (.int j) F := ⟨hm, h⟩
theorem q_fdiv (hm : CDivN i j) (h : F (.int (i.fdiv j))) : dFdiv (.int i) (.int j) F := ⟨hm, h⟩
theorem q_mod (hm : j ≠ 0) (h : F (.int (i.fmod j))) : dMod (.int i) (.int j) F := ⟨hm, h⟩
theorem q_neg (h : F (.int (-i))) : dNeg (.int i) F := h
theorem q_cmp {p : Int → Int → Bool} (h : F (.bl (p i j))) : dCmp p (.int i) (.int j) F := h
theorem q_opdCmp {p : Int → Int → Bool} (h : F (.bl (p i j))) : OpD K (rI0 fun i j => .bl (p i j)) (.int i) (.int j) F := opd_cmp (x := .int i) (y := .int j) h
theorem q_ixT (e : atI xs i = some d) (h : F d) : dIx (.tup xs) (.int i) F := ⟨xs, i, d, rfl, rfl, e, h⟩
theorem q_ixL (e : atI xs i = some d) (h : F d) : dIx (.lst xs) (.int i) F := ⟨xs, i, d, rfl, rfl, e, h⟩
theorem q_ixF (e : atI xs i = some d) (h : F d) : dIx (.frl xs) (.int i) F := ⟨xs, i, d, rfl, rfl, e, h⟩
theorem q_ixD {ds : List (Key × D)} {x : D} {k : Key} (hk : keyD x = some k) (e : lookD ds k = some d) (h : F d) : dIx (.dct ds) x F := ⟨k, d, hk, e, h⟩
theorem q_ixS {z : Str} {c : Nat} (hl : z.length ≤ sizeLine) (e : atI z.cps.toList i = some c) (h : F (.str ⟨#[c]⟩)) : dIx (.str z) (.int i) F := ⟨i, c, rfl, hl, e, h⟩
theorem q_lenL (h : F (.int xs.length)) : dLen (.lst xs) F := h
theorem q_lenT (h : F (.int xs.length)) : dLen (.tup xs) F := h
theorem q_lenF (h : F (.int xs.length)) : dLen (.frl xs) F := h
theorem q_lenS {z : Str} (hl : z.length ≤ sizeLine) (h : F (.int z.length)) : dLen (.str z) F := ⟨hl, h⟩
theorem q_lenD {ds : List (Key × D)} (h : F (.int ds.length)) : dLen (.dct ds) F := h
theorem q_intI (h : F (.int i)) : dInt (.int i) F := h
theorem q_intB {b : Bool} (h : F (.int (if b then 1 else 0))) : dInt (.bl b) F := h
theorem q_abs (h : F (.int (if i < 0 then -i else i))) : dAbs (.int i) F := h
theorem q_str (hl : i.natAbs.log2 < 1920) (h : F (.str (toString i))) : dStr (.int i) F := ⟨hl, h⟩
theorem q_2I {g : Int → Int → Int} (h : F (.int (g i j))) : d2I g (.int i) (.int j) F := h
theorem q_rI (hl : i.natAbs.log2 < 1920) (h : F (.str (toString i))) : dRepr (.int i) F := ⟨hl, h⟩
theorem q_rB {b : Bool} (h : F (.str (if b then "True" else "False"))) : dRepr (.bl b) F := h
theorem q_rS {z : Str} (hl : (reprText z).length ≤ sizeLine) (h : F (.str (reprText z))) : dRepr (.str z) F := ⟨hl, h⟩
variable {G : Bool → Prop}
theorem q_eqI (h : G (decide (i = j))) : dEqB (.int i) (.int j) G := h
theorem q_eqS {z u : Str} (h : G (decide (z = u))) : dEqB (.str z) (.str u) G := h
theorem q_eqB {z u : Bool} (h : G (decide (z = u))) : dEqB (.bl z) (.bl u) G := h
theorem q_eqN (h : G true) : dEqB .non .non G := h
theorem q_eqNI (h : G false) : dEqB .non (.int i) G := h
theorem q_eqNS {z : Str} (h : G false) : dEqB .non (.str z) G := h
theorem q_eqIN (h : G false) : dEqB (.int i) .non G := h
theorem q_eqSN {z : Str} (h : G false) : dEqB (.str z) .non G := h
theorem q_eqT (h1 : (D.tup xs).ok = true) (h2 : (D.tup ys).ok = true) (h : G (D.eqb (.tup xs) (.tup ys))) : dEqB (.tup xs) (.tup ys) G := ⟨h1, h2, h⟩
theorem q_eqL (h1 : (D.lst xs).ok = true) (h2 : (D.lst ys).ok = true) (h : G (D.eqb (.lst xs) (.lst ys))) : dEqB (.lst xs) (.lst ys) G := ⟨h1, h2, h⟩
theorem q_slS {z : Str} {lo hi : Option Int} (hl : z.length ≤ sizeLine) (h : F (.str (cutS z lo hi))) : dSl (.str z) lo hi F := ⟨hl, h⟩
theorem q_slL {lo hi : Option Int} (h : F (.lst (cutD xs lo hi))) : dSl (.lst xs) lo hi F := h
theorem q_slF {lo hi : Option Int} (h : F (.lst (cutD xs lo hi))) : dSl (.frl xs) lo hi F := h
theorem q_slT {lo hi : Option Int} (h : F (.tup (cutD xs lo hi))) : dSl (.tup xs) lo hi F := h
/-- a list's bools -/
theorem q_bools {g : List Bool → Bool} {bs : List Bool} (e : xs = bs.map D.bl) (h : F (.bl (g bs))) : dBools g (.lst xs) F := ⟨bs, by rw [e], h⟩
end
/-! ### data of spots -/
abbrev Spot := Int × Int
abbrev spD (p : Spot) : D := .tup [.int p.1, .int p.2]
/-- its numbers are small -/
def SpOk (p : Spot) : Prop := p.1.natAbs ≤ 10 ^ 9 ∧ p.2.natAbs ≤ 10 ^ 9
end Lw

set_option Elab.async false
set_option linter.all false
set_option maxRecDepth 100000
set_option maxHeartbeats 4000000
namespace Lw
open PySem PySem.Spec PyProof.Rows L2
variable [Tabl] [Exn]
/-! ### texts of numbers, names, wells -/
abbrev numS (i : Int) : Str := Str.ofString (toString i)
def numC (i : Int) : List Nat := if i < 0 then 45 :: TL.numL i.natAbs else TL.numL i.natAbs
theorem tl_numS (i : Int) : TL.tl (numS i) = numC i := by
  unfold numC numS
  by_cases h : i < 0
  · rw [if_pos h]
    obtain ⟨n, rfl⟩ : ∃ n : Nat, i = Int.negSucc n := ⟨i.natAbs - 1, by omega⟩
    have e : toString (Int.negSucc n) = "-" ++ toString ((n + 1 : Nat) : Int) := rfl
    have e2 := TL.tl_num (n + 1)
    rw [TL.tl_ofString] at e2
    rw [TL.tl_ofString, e, String.toList_append, List.map_append, e2]
    rfl
  · rw [if_neg h]
    obtain ⟨n, rfl⟩ : ∃ n : Nat, i = (n : Int) := ⟨i.natAbs, by omega⟩
    rw [TL.tl_num]
    simp
theorem numC_in {i : Int} {c : Nat} (h : c ∈ numC i) : c = 45 ∨ 48 ≤ c ∧ c ≤ 57 := by
  unfold numC at h
  split at h
  · rcases List.mem_cons.mp h with rfl | h
    · exact .inl rfl
    · exact .inr (TL.numL_digits _ c h)
  · exact .inr (TL.numL_digits _ c h)
theorem numC_ne (i : Int) : numC i ≠ [] := by
  unfold numC
  split
  · simp
  · exact TL.numL_ne _
theorem numC_len {i : Int} {k : Nat} (hk : 0 < k) (h : i.natAbs < 10 ^ k) : (numC i).length ≤ k + 1 := by
  have := TL.numL_len hk h
  unfold numC
  split
  · rw [List.length_cons]; omega
  · omega
theorem len_tl (z : Str) : z.length = (TL.tl z).length := TL.len_tl z
theorem int_numS {i : Int} (h : i.natAbs < 10 ^ 9) : intText? (numS i) = some i := by
  have hl := TL.numL_len (by decide : 0 < 9) h
  by_cases n : i < 0
  · have e := intText_neg (x := numS i) (cs := TL.numL i.natAbs) (by rw [show (numS i).cps.toList = TL.tl (numS i) from rfl, tl_numS]; unfold numC; rw [if_pos n]) (TL.numL_digits _) (TL.numL_ne _) (by
      rw [len_tl, tl_numS]
      unfold numC
      rw [if_pos n, List.length_cons]
      omega)
    rw [e, TL.numL_val]
    congr 1
    omega
  · have z : (numS i).cps.toList = TL.numL i.natAbs := by
      rw [show (numS i).cps.toList = TL.tl (numS i) from rfl, tl_numS]
      unfold numC
      rw [if_neg n]
    have e := intText_digits (x := numS i) (by rw [z]; exact TL.numL_digits _) (by rw [z]; exact TL.numL_ne _) (by
      rw [len_tl, tl_numS]
      unfold numC
      rw [if_neg n]
      omega)
    rw [e, z, TL.numL_val]
    congr 1
    omega
/-! names -/
def letC : List Nat := TL.tl "abcdefghijklmnopqrstuvwxyz"
def figC : List Nat := TL.tl "0123456789"
def nameB (z : Str) : Bool := match TL.tl z with
  | [] => false
  | c :: r => decide (r.length < 8) && decide (c ∈ letC) && r.all fun c => decide (c ∈ letC) || decide (c ∈ figC)
theorem let_range {c : Nat} (h : c ∈ letC) : 97 ≤ c ∧ c ≤ 122 := by
  have : ∀ c ∈ letC, 97 ≤ c ∧ c ≤ 122 := by decide +kernel
  exact this c h
theorem fig_range {c : Nat} (h : c ∈ figC) : 48 ≤ c ∧ c ≤ 57 := by
  have : ∀ c ∈ figC, 48 ≤ c ∧ c ≤ 57 := by decide +kernel
  exact this c h
theorem fig_of {c : Nat} (h1 : 48 ≤ c) (h2 : c ≤ 57) : c ∈ figC := by
  have : ∀ k : Fin 10, (48 + k.val) ∈ figC := by decide +kernel
  have q := this ⟨c - 48, by omega⟩
  simpa [show 48 + (c - 48) = c by omega] using q
theorem name_in {z : Str} (h : nameB z = true) {c : Nat} (hc : c ∈ TL.tl z) : 97 ≤ c ∧ c ≤ 122 ∨ 48 ≤ c ∧ c ≤ 57 := by
  unfold nameB at h
  split at h
  · cases h
  · rename_i d r e
    simp only [Bool.and_eq_true, decide_eq_true_eq, List.all_eq_true, Bool.or_eq_true] at h
    rw [e] at hc
    rcases List.mem_cons.mp hc with rfl | hc
    · exact .inl (let_range h.1.2)
    · rcases h.2 c hc with q | q
      · exact .inl (let_range q)
      · exact .inr (fig_range q)
theorem name_len {z : Str} (h : nameB z = true) : 1 ≤ z.length ∧ z.length ≤ 8 := by
  rw [len_tl]
  unfold nameB at h
  split at h
  · cases h
  · rename_i d r e
    simp only [Bool.and_eq_true, decide_eq_true_eq] at h
    rw [e, List.length_cons]
    omega
/-! wells -/
abbrev Well := Str × Spot
abbrev wellD (w : Well) : D := .tup [.str w.1, .int w.2.1, .int w.2.2]
def lineOf (w : Well) : Str := Txt.join " " ["well", w.1, numS w.2.1, numS w.2.2]
def textOf (ws : List Well) : Str := Txt.join "\n" (ws.map lineOf)
structure WOk (w : Well) : Prop where
  name : nameB w.1 = true
  x : w.2.1.natAbs ≤ 9999
  y : w.2.2.natAbs ≤ 9999
theorem tl_line (w : Well) : TL.tl (lineOf w) = TL.tl "well" ++ (32 :: (TL.tl w.1 ++ (32 :: (numC w.2.1 ++ (32 :: numC w.2.2))))) := by
  unfold lineOf
  rw [TL.join_eq, TL.tl_join]
  simp only [List.map_cons, List.map_nil, TL.joinL, tl_numS]
  rfl
theorem line_no10 {w : Well} (h : nameB w.1 = true) : 10 ∉ TL.tl (lineOf w) := fun hm => by
  rw [tl_line] at hm
  simp only [List.mem_append, List.mem_cons] at hm
  rcases hm with q | q | q | q | q | q | q
  · exact absurd q (by decide +kernel)
  · cases q
  · have := name_in h q; omega
  · cases q
  · have := numC_in q; omega
  · cases q
  · have := numC_in q; omega
theorem sp_no32 {w : Well} (h : nameB w.1 = true) : ∀ p ∈ (["well", w.1, numS w.2.1, numS w.2.2] : List Str), 32 ∉ TL.tl p := fun p hp hm => by
  simp only [List.mem_cons, List.not_mem_nil, or_false] at hp
  rcases hp with rfl | rfl | rfl | rfl
  · exact absurd hm (by decide +kernel)
  · have := name_in h hm; omega
  · rw [tl_numS] at hm; have := numC_in hm; omega
  · rw [tl_numS] at hm; have := numC_in hm; omega
theorem split_line {w : Well} (h : nameB w.1 = true) : Txt.split (lineOf w) " " = ([("well" : Str), w.1, numS w.2.1, numS w.2.2] : List Str) :=
  TL.split_join (y := " ") (s := 32) (S := []) rfl (by decide +kernel) (by simp) (sp_no32 h)
theorem split_text {ws : List Well} (hne : ws ≠ []) (h : ∀ w ∈ ws, nameB w.1 = true) : Txt.split (textOf ws) "\n" = ws.map lineOf :=
  TL.split_join (y := "\n") (s := 10) (S := []) rfl (by decide +kernel) (by simpa using hne) fun p hp => by
    obtain ⟨w, hw, rfl⟩ := List.mem_map.mp hp
    exact line_no10 (h w hw)
theorem line_len {w : Well} (h : WOk w) : (lineOf w).length ≤ 40 := by
  rw [len_tl, tl_line]
  have h1 := (name_len h.name).2
  rw [len_tl] at h1
  have h2 := numC_len (i := w.2.1) (by decide : 0 < 4) (by have := h.x; omega)
  have h3 := numC_len (i := w.2.2) (by decide : 0 < 4) (by have := h.y; omega)
  have h4 : (TL.tl "well").length = 4 := by decide +kernel
  simp only [List.length_append, List.length_cons]
  omega
theorem lines_len : ∀ {ws : List Well}, (∀ w ∈ ws, WOk w) → ((ws.map lineOf).map (·.length)).sum ≤ 40 * ws.length
  | [], _ => by simp
  | w :: ws, h => by
    have h2 := line_len (h w List.mem_cons_self)
    have h3 := lines_len (ws := ws) fun v hv => h v (List.mem_cons_of_mem _ hv)
    simp only [List.map_cons, List.sum_cons, List.length_cons] at h3 ⊢
    omega
theorem text_len {ws : List Well} (h : ∀ w ∈ ws, WOk w) : (textOf ws).length ≤ 41 * ws.length := by
  unfold textOf
  rw [TL.join_eq]
  refine Nat.le_trans (StrLaws.join_length_le _ _) ?_
  have h1 := lines_len h
  have h2 : ("\n" : Str).length = 1 := by decide +kernel
  rw [h2, List.length_map]
  omega
end Lw

set_option Elab.async false
set_option linter.all false
set_option maxRecDepth 100000
set_option maxHeartbeats 4000000
namespace Lw
open PySem PySem.Spec PyProof.Rows L2
variable [Tabl] [Exn]
/-! ### the rules, K told -/
section
variable (K : Fg) {w : World} {X : Cx}
theorem op_addK (hK : X.K = K := by rfl) : OpR X (binaryOp .Add) (rAddA K) := by subst hK; exact op_addA
theorem op_eqK (hu : X.A.units + 64 < cLine) (hK : X.K = K := by rfl) : OpR X (compareOp .Eq) (rEqA K) := by subst hK; exact op_eqA hu
theorem op_neK (hu : X.A.units + 64 < cLine) (hK : X.K = K := by rfl) : OpR X (compareOp .NotEq) (rNeA K) := by subst hK; exact op_neA hu
theorem op_inK (w : World) (hu : X.A.units + 65 < cLine) (hK : X.K = K := by rfl) (hw : X.w = w := by rfl) : OpR X (compareOp .In) (rInA K w) := by subst hK hw; exact op_inA hu
theorem op_notInK (w : World) (hu : X.A.units + 65 < cLine) (hK : X.K = K := by rfl) (hw : X.w = w := by rfl) : OpR X (compareOp .NotIn) (rNotInA K w) := by subst hK hw; exact op_notInA hu
theorem ix_K (hu : X.A.units + 1 < cLine) (hK : X.K = K := by rfl) : IxR X (rIxA K) := by subst hK; exact ix_any hu
theorem sl_K (hK : X.K = K := by rfl) : L2.SlR X (rSlAny K) := by subst hK; exact sl_any
theorem call_lenK (hK : X.K = K := by rfl) : CallR X (.builtin "len") (rLenA K) := by subst hK; exact call_lenA
theorem call_isiQ (hK : X.K = K := by rfl) : CallR X (.builtin "isinstance") (rIsiA K) := by subst hK; exact call_isi.or call_isiE
theorem cr_allK (hc : X.calm = true) (hK : X.K = K := by rfl) : CallR X (.builtin "all") (rAll K) := by subst hK; exact cr_all hc
theorem cr_anyK (hc : X.calm = true) (hK : X.K = K := by rfl) : CallR X (.builtin "any") (rAny K) := by subst hK; exact cr_any hc
theorem call_listK (hK : X.K = K := by rfl) : CallR X (.type "list") (fun xs H Q => ∃ p ys, xs = [V.ref p] ∧ (SqL K H p ys ∨ SqT K H p ys) ∧ ∀ l, H l = none → Q (.ref l) (upd H l (.lst ys))) := by subst hK; exact call_list_of
theorem call_tupleK (hK : X.K = K := by rfl) : CallR X (.type "tuple") (fun xs H Q => ∃ p ys, xs = [V.ref p] ∧ ((SqL K H p ys ∧ ∀ l, H l = none → Q (.ref l) (upd H l (.tup ys))) ∨ (SqT K H p ys ∧ Q (.ref p) H))) := by subst hK; exact call_tuple_of
theorem call_dictK (hc : X.calm = true) (hK : X.K = K := by rfl) : CallR X (.type "dict") (fun xs H Q => ∃ (a : Addr) (ps : List Addr) (kvs : List (Key × V)), xs = [.ref a] ∧ SqL K H a (ps.map V.ref) ∧ Paired (fun p kv => SqT K H p [kV kv.1, kv.2]) ps kvs ∧
    ∀ p, H p = none → Q (.ref p) (upd H p (.dK (mergeK [] kvs)))) := by subst hK; exact call_dictP hc
theorem op_eqIK {C : Addr} {n : Nat} {ps : List Str} {S : List D → (D → Prop) → Prop} (M : Met X.prog X.w X.K X.mg X.base C "__eq__" n ps (eqSp X.K C S)) (hr : Room n X.A) : OpR X (compareOp .Eq) (rEqI X.K C S) := op_eqI M hr
section
variable {pos apos cpos p p2 pos2 q : Pos} {e e2 e3 o l tg : Expr} {ta te tl to : TE} {t : TA} {m : Str}
theorem pg_seqK {es : List Expr} {k : Nat} {t : TGs} {n : Nat} (hc : X.calm = true) (h : PGs X es t) (hK : X.K = K := by rfl) (hn : (assignEach es X.env).length = n := by rfl) (hst : (assignEach es X.env).findIdx? (·.1) = none := by rfl) : PG X (.Tuple es k pos) (gSeq K n t) := by
  subst hK; exact pg_seq hc h hn hst
theorem pe_fldK (he : PE X e ta) (hK : X.K = K := by rfl) (hb : attributeBase e m X.env (eval e X.env) = eval e X.env := by rfl) : PE X (.Attribute e m pos) (tFld K ta m) := by subst hK; exact pe_fld he hb
theorem pi_anyK (hl : PE X l tl) (hK : X.K = K := by rfl) : PI X tg l (iAny K tl) := by subst hK; exact pi_any hl
theorem pe_joinK (ho : PE X o to) (he : PE X e te) (hK : X.K = K := by rfl) (hs : starEach [e] X.env = [(false, eval e X.env)] := by rfl) (hbase : attributeBase o "join" X.env (eval o X.env) = eval o X.env := by rfl) (hline : (apos.endLine == pos.line) = true := by rfl) :
    PE X (.Call (.Attribute o "join" apos) [e] [] pos) (tM1 (fun x xs H Q => ∃ a p, ∃ ys : List Str, x = .str a ∧ xs = [.ref p] ∧ (SqL K H p (ys.map V.str) ∨ SqT K H p (ys.map V.str)) ∧
      (ys.map (·.length)).sum + ys.length * a.length ≤ 16777216 ∧ Q (.str (Txt.join a ys)) H) to te) := by subst hK; exact pe_join ho he hs hbase hline
theorem pi_zipK {kk : Nat} {elts : List Expr} {tpos : Pos} (hg : Gl X "zip") (hm : X.mg "zip" = none) (ha : PA X [e, e2] t) (hK : X.K = K := by rfl)
    (hs : starEach [e, e2] X.env = (false, eval e X.env) :: starEach [e2] X.env := by rfl) (hpl : (backTo pos (starEach [e2] X.env)).any (·.1) = false := by rfl) :
    PI X (.Tuple elts kk tpos) (.Call (.Name "zip" p) [e, e2] [] pos) (RZ.iZipA K t) := by subst hK; exact RZ.pi_zipA hg hm ha hs hpl
theorem pi_zip3K {kk : Nat} {elts : List Expr} {tpos : Pos} (hg : Gl X "zip") (hm : X.mg "zip" = none) (ha : PA X [e, e2, e3] t) (hK : X.K = K := by rfl)
    (hs : starEach [e, e2, e3] X.env = (false, eval e X.env) :: starEach [e2, e3] X.env := by rfl) (hpl : (backTo pos (starEach [e2, e3] X.env)).any (·.1) = false := by rfl) :
    PI X (.Tuple elts kk tpos) (.Call (.Name "zip" p) [e, e2, e3] [] pos) (iZip3 K t) := by subst hK; exact pi_zip3 hg hm ha hs hpl
end
end
/-! ### places, cuts -/
theorem atI_at {α : Type} {xs : List α} {j : Nat} {d : α} (h : xs[j]? = some d) : atI xs (j : Int) = some d := by
  have hj := (List.getElem?_eq_some_iff.mp h).1
  unfold atI ixN
  rw [if_pos (by omega), if_pos (by omega)]
  simpa using h
theorem cut_head {z : Str} (h : 1 ≤ z.length) : TL.tl (cutS z none (some 1)) = (TL.tl z).take 1 := by
  have e1 : HT.sIx z.length 0 none = 0 := rfl
  have e2 : HT.sIx z.length z.length (some 1) = 1 := by
    unfold HT.sIx
    simp
    omega
  unfold cutS
  rw [e1, e2]
  rfl
theorem cut_tail {z : Str} (h : 1 ≤ z.length) : TL.tl (cutS z (some 1) none) = (TL.tl z).drop 1 := by
  have e1 : HT.sIx z.length 0 (some 1) = 1 := by
    unfold HT.sIx
    simp
    omega
  have e2 : HT.sIx z.length z.length none = z.length := rfl
  unfold cutS
  rw [e1, e2]
  show ((TL.tl z).drop 1).take (z.length - 1) = _
  rw [len_tl, ← List.length_drop, List.take_length]
theorem str_ext {x y : Str} (h : TL.tl x = TL.tl y) : x = y := TL.ext_tl h
theorem numS_first (i : Int) : ∃ c r, numC i = c :: r ∧ ((i < 0 ∧ c = 45 ∧ r = TL.numL i.natAbs) ∨ (¬ i < 0 ∧ 48 ≤ c ∧ c ≤ 57)) := by
  by_cases h : i < 0
  · refine ⟨45, TL.numL i.natAbs, ?_, .inl ⟨h, rfl, rfl⟩⟩
    unfold numC
    rw [if_pos h]
  · cases e : TL.numL i.natAbs with
    | nil => exact absurd e (TL.numL_ne _)
    | cons c r =>
      have d := TL.numL_digits i.natAbs c (by rw [e]; exact List.mem_cons_self)
      refine ⟨c, r, ?_, .inr ⟨h, d.1, d.2⟩⟩
      unfold numC
      rw [if_neg h, e]
theorem cut_minus (i : Int) : decide (cutS (numS i) none (some 1) = ("-" : Str)) = decide (i < 0) := by
  obtain ⟨c, r, e, q⟩ := numS_first i
  have hl : 1 ≤ (numS i).length := by rw [len_tl, tl_numS, e, List.length_cons]; omega
  have e1 : TL.tl (cutS (numS i) none (some 1)) = [c] := by rw [cut_head hl, tl_numS, e]; rfl
  have e2 : TL.tl ("-" : Str) = [45] := by decide +kernel
  have key : cutS (numS i) none (some 1) = ("-" : Str) ↔ i < 0 := by
    constructor
    · intro h
      rw [h, e2] at e1
      have : c = 45 := by simpa using e1.symm
      rcases q with q | q
      · exact q.1
      · omega
    · intro h
      refine str_ext ?_
      rw [e1, e2]
      rcases q with q | q
      · rw [q.2.1]
      · omega
  exact decide_eq_decide.mpr key
theorem log_small {i : Int} {k : Nat} (h : i.natAbs < 2 ^ k) (hk : k ≤ 1920) (hp : 0 < k) : i.natAbs.log2 < 1920 := by
  by_cases z : i.natAbs = 0
  · rw [z]; decide
  · have := (Nat.log2_lt z).mpr h
    omega
theorem spd_ok (p : Spot) : (spD p).ok = true := rfl
theorem spd_eqb (p q : Spot) : D.eqb (spD p) (spD q) = decide (p = q) := by
  obtain ⟨a, b⟩ := p
  obtain ⟨c, d⟩ := q
  unfold D.eqb
  simp [D.py, D.pys, PyData.eqv, PyData.eqvAll]
  rfl
theorem len_le {n : Nat} (h : Nat.ble n 1000 = true) : n ≤ sizeLine := Nat.le_trans (Nat.le_of_ble_eq_true h) (by decide)
end Lw

set_option Elab.async false
set_option linter.all false
set_option maxHeartbeats 0
open PySem PySem.Spec PyProof.Rows L2
namespace Lw
open PySem PySem.Spec PyProof.Rows L2
variable [Tabl] [Exn]
theorem zipD_map {α : Type} (f g : α → D) : ∀ ws : List α, zipD (ws.map f) (ws.map g) = ws.map fun v => .tup [f v, g v]
  | [] => rfl
  | w :: ws => by
    have := zipD_map f g ws
    unfold zipD at this ⊢
    simp only [List.map_cons, List.zip_cons_cons]
    rw [this]
end Lw
namespace Lw
open PySem PySem.Spec PyProof.Rows L2
variable [Tabl] [Exn]
theorem enumD_map {α : Type} {f : α → D} {ws : List α} {i : Nat} {x : D} (h : (enumD (ws.map f))[i]? = some x) : ∃ v, ws[i]? = some v ∧ x = .tup [.int i, f v] := by
  unfold enumD at h
  obtain ⟨a, b, h1, h2, rfl⟩ := zipD_get h
  rw [List.getElem?_map] at h2
  cases q : ws[i]? with
  | none => rw [q] at h2; cases h2
  | some v =>
    rw [q] at h2
    cases h2
    refine ⟨v, rfl, ?_⟩
    have e : a = .int i := by
      unfold rangeD at h1
      rw [List.getElem?_map] at h1
      cases z : (List.range (((ws.map f).length : Int) - 0).toNat)[i]? with
      | none => rw [z] at h1; cases h1
      | some n =>
        rw [z] at h1
        cases h1
        have := List.getElem?_eq_some_iff.mp z
        obtain ⟨k, e⟩ := this
        rw [List.getElem_range] at e
        rw [← e]
        show D.int _ = _
        rw [Int.zero_add]
    rw [e]
theorem enumD_len {xs : List D} : (enumD xs).length = xs.length := by
  unfold enumD
  rw [zipD_len]
  simp [rangeD]
end Lw

set_option Elab.async false
set_option linter.all false
set_option maxHeartbeats 0
open PySem PySem.Spec PyProof.Rows L2
namespace Lw
open PySem PySem.Spec PyProof.Rows L2
variable [Tabl] [Exn]
/-! ### defs that hand out a new list -/
def newSp (K : Fg) (n : Nat) (S : List D → (List D → Prop) → Prop) : Sp := fun vs H Q _ =>
  ∃ B ds F, Same B H ∧ TbOk B H ∧ RA K B vs ds ∧ ds.length = n ∧ S ds F ∧ ∀ p us xs B' H', F xs → Gr Non B H B' H' → H' p = none → RA K B' us xs → Q (.ref p) (upd H' p (.lst us))
def WSn (K : Fg) (t : TS) (ρ : List SD) (F : List D → Prop) : Prop :=
  ∀ P B0 H0 B H σ, ST K P B0 H0 ρ B H σ → ∀ D : Ends, (∀ p us xs ρ' B' H' σ', F xs → ST K P B0 H0 ρ' B' H' σ' → H' p = none → RA K B' us xs → D.rt (.ref p) (upd H' p (.lst us))) → t D σ H
section
variable {K : Fg} {ρ : List SD}
theorem wsn_seq {t u : TS} {F : List D → Prop} (h : WS K t ρ { nx := fun ρ1 => WSn K u ρ1 F, rt := fun _ _ => False }) : WSn K (tSeq t u) ρ F :=
  fun P B0 H0 B H σ S D k => h P B0 H0 B H σ S { D with nx := u D } (fun ρ1 B1 H1 σ1 h1 S1 _ => h1 P B0 H0 B1 H1 σ1 S1 D k) (fun _ _ _ _ _ _ z => z.elim) (fun _ _ _ _ z => z.elim) (fun _ _ _ _ z => z.elim)
theorem wsn_ret {te : TE} {F : List D → Prop} (h : WN K te ρ fun xs _ => F xs) : WSn K (tRet te) ρ F :=
  fun P B0 H0 B H σ S D k => h P B0 H0 B H σ S _ fun p us xs ρ' B' H' f S' _ hp r => k p us xs ρ' B' H' σ f S' hp r
theorem wn_call {n : Nat} {S : List D → (List D → Prop) → Prop} {t : TA} {F : List D → List SD → Prop} (h : WA K t ρ fun ds ρ1 => ds.length = n ∧ S ds fun xs => F xs ρ1) : WN K (tCall (newSp K n S) [] E0 t) ρ F :=
  fun P B0 H0 B H σ Z Q k => h P B0 H0 B H σ Z _ fun vs ds ρ1 B1 H1 ⟨l, f⟩ S1 s1 r1 =>
    ⟨B1, ds, _, S1.le, S1.ok, by rw [List.append_nil]; exact r1, l, f, fun p us xs B' H' g q hp r => k p us xs ρ1 B' H' g (S1.step q) (s1.trans (Ev.pure q)) hp r⟩
/-! ### a pot of one's own -/
def PotI (x y z : Int) (m : Nat) : Prop := 0 ≤ x ∧ 0 ≤ y ∧ y < 2305843009213693951 ∧ 0 ≤ z ∧ z ≤ m
theorem we_callPO {n c i : Nat} {S : List D → (D → Prop) → Prop} {t : TA} {F : D → List SD → Prop} {xs0 : List D} (h0 : ρ[i]? = some (.ow xs0))
    (h : WA K t ρ fun ds ρ1 => ∃ x y z m, ρ1[i]? = some (.ow [.int x, .int y, .int z]) ∧ PotI x y z m ∧ m + c ≤ LIM ∧ ds.length = n ∧ S ds fun d => ∀ x' y' z', PotI x' y' z' (m + c) → F d (ρ1.set i (.ow [.int x', .int y', .int z']))) :
    WE K (tCall (potSp K n c S) [] E0 (tCons (tVar i) t)) ρ F :=
  fun P B0 H0 B H σ Z Q k => by
    obtain ⟨o, e0, a, vs0, rfl, pa, ea, ep, ra⟩ := Z.slot h0
    refine ⟨.ref a, e0, ?_⟩
    refine h _ B0 H0 B H σ Z _ fun vs ds ρ1 B1 H1 ⟨x, y, z, m, h1, pi, hm, l, f⟩ S1 s1 r1 => ?_
    obtain ⟨o1, e1, a1, vs1, q1, q2, q3, q4, q5⟩ := S1.slot h1
    rw [e0] at e1
    cases e1
    cases q1
    have hp : PotAt H1 a m := ⟨x, y, z, by rw [q4, RA.ints (ns := [x, y, z]) q5]; rfl, pi⟩
    refine ⟨a, vs, B1, ds, _, m, by rw [List.append_nil], S1.le, S1.ok, q3, hp, hm, r1, l, f, fun v d B2 H2 g q hb hp2 r => ?_⟩
    obtain ⟨x', y', z', g1, g2⟩ := hp2
    exact k v d _ B2 H2 (g x' y' z' g2) (S1.called h1 rfl rfl e0 q hb ⟨a, _, rfl, q2, hb, g1, .cons (.int _) (.cons (.int _) (.cons (.int _) .nil))⟩) (s1.trans (Ev.called h1 rfl e0 q)) r
end
section
variable {P : Program} {w : World} {K : Fg} {mg : Str → Option Value} {base : Heap}
omit [Exn] in
theorem fn_new {name qual : Str} {params : Arguments} {body : List Stmt} {scope : Scope} {f : Addr} {fd : FuncData} {N ps : List Str} {k n : Nat} {S : List D → (List D → Prop) → Prop}
    (F : FunD K name qual params body scope [] [] f fd) (sc : FnScope N ps scope) (hn : n = ps.length) (hN : n ≤ N.length)
    (hb : ∀ (cdv : Value) (A : Around) (outer : List Env) (s : Shared) (H : Hp) (E : XK), Room k (A.deeper (envOfC qual scope s.heap.objs.size f cdv)) →
      ∃ t, PSs (cxOf CX0 P w K mg base N qual scope f cdv A outer s H E).nox body t ∧ ∀ ds G, ds.length = n → S ds G → ∀ [Exn], WSn K t (rho N ds) G) :
    FnOk P w K mg base CX0 (k + 1) f fd ps (newSp K n S) := by
  refine F.ok sc (fun vs H Q E h => ?_) (fun cdv A outer s H vs Q E hr h => ?_)
  · obtain ⟨B, ds, G, h1, _, h2, h3, _⟩ := h
    rw [h2.length, h3, hn]
  · obtain ⟨t, hp, hw⟩ := hb cdv A outer s H E hr
    refine ⟨t, hp.nox, ?_⟩
    obtain ⟨B, ds, G, h1, tk, h2, h3, h4, h5⟩ := h
    letI := exn0
    exact hw ds G h3 h4 Non B H B H (start N vs) (st_start exOk0 h1 tk h2 (by rw [h3]; exact hN)) _ fun p us xs ρ' B' H' σ' f S' hp r => h5 p us xs B' H' f S'.gr hp r
end
end Lw
namespace Lw
open PySem PySem.Spec PyProof.Rows L2
variable [Tabl] [Exn]
theorem bits_le {m : Nat} {x : Int} (h : x.natAbs < 2 ^ m) : Builtin.Int.intBits x ≤ m := by
  unfold Builtin.Int.intBits
  split
  · exact Nat.zero_le _
  · rename_i z
    have ne : x.natAbs ≠ 0 := fun e => z (by rw [Int.natAbs_eq_zero.mp e]; rfl)
    exact (Nat.log2_lt ne).mpr h
theorem cpow {i j : Int} (k : Nat) (h0 : 0 ≤ j) (hi : i.natAbs < 2 ^ k) (hj : (k : Int) * j ≤ 2 ^ 27) : CPowA i j :=
  ⟨h0, Int.le_trans (Int.mul_le_mul_of_nonneg_right (Int.ofNat_le.mpr (bits_le hi)) h0) hj⟩
theorem q_pow {i j : Int} {F : D → Prop} (hm : CPowA i j) (h : F (.int (i ^ j.toNat))) : dPow (.int i) (.int j) F := ⟨hm, h⟩
end Lw
namespace Lw
open PySem PySem.Spec PyProof.Rows L2
variable [Tabl] [Exn]
theorem ws_mid {K : Fg} {ρ : List SD} {t u : TS} {F : List SD → Prop} {E : Out} (h : WS K t ρ { nx := F, rt := fun _ _ => False }) (k : ∀ ρ1, F ρ1 → WS K u ρ1 E) : WS K (tSeq t u) ρ E :=
  ws_seq (fun P B0 H0 B H σ S D k1 k2 k3 k4 => h P B0 H0 B H σ S D (fun ρ' B' H' σ' f S' s => k1 ρ' B' H' σ' (k ρ' f) S' s) (fun _ _ _ _ _ _ z => z.elim) (fun _ _ _ _ z => z.elim) (fun _ _ _ _ z => z.elim))
end Lw

set_option Elab.async false
set_option linter.all false
set_option maxRecDepth 100000
set_option maxHeartbeats 4000000
namespace Lk
open PySem PySem.W PySem.Calls PyProof.Rows
section
variable {prog : Program} {w : World} {A : Around} {E : Value → Shared → Prop} {s : Shared} {a kS : Addr} {b : Bool} {e1 : Nat} {vs : List Value} {P : PySem.Fin → Shared → Prop}
/-- the keys made one by one, then the sort: J tells, behind i keys, the keys and the state -/
theorem keyJ_rest {f : Value} (J : Nat → List Value → Shared → Prop)
    (nk : s.heap.get? kS = some (seqObj "list" #[] 0)) (na : s.heap.get? a = some (seqObj "list" #[] e1)) (hka : kS ≠ a) (hZ : vs.length ≤ sizeLine) (j0 : J 0 [] s)
    (turn : ∀ (i : Nat) (v : Value) (ks : List Value) (s1 : Shared), vs[i]? = some v → J i ks s1 →
      wpAny (model prog w) A (call f [v]) (fun u s2 => (∀ o, s1.heap.get? kS = some o → s2.heap.get? kS = some o) ∧ (∀ o, s1.heap.get? a = some o → s2.heap.get? a = some o) ∧
        ∀ h', (∀ c o, c ≠ kS → s2.heap.get? c = some o → h'.get? c = some o) → (∃ o, h'.get? kS = some o) → J (i + 1) (ks ++ [u]) { s2 with heap := h' }) (fun _ _ => False) s1)
    (fin : ∀ (ks : List Value) (s1 : Shared), J vs.length ks s1 → ∃ ds : List PyData, EachIs (fun v d => ∃ as, Reads s1.heap v d as) ks ds ∧ AllAlike ds ∧ Sortable ds ∧ (∀ d, d ∈ ds → A.units + d.depth < cLine) ∧
      ∀ h' tk out c, (∀ d o, d ≠ kS → d ≠ a → s1.heap.get? d = some o → h'.get? d = some o) → h'.get? a = some (seqObj "list" (List.toArray out) c) → KeyedOut b ds vs out → P (.done (.ret .none)) { s1 with heap := h', toks := tk }) :
    wpAny (model prog w) A (ksk_rest a f b vs.toArray e1 (.ref kS)) P E s := by
  unfold ksk_rest
  refine wpAny_bind (wpAny_rule ?_)
  first
    | rw [List.forIn_toArray]
    | (rw [← Array.forIn_toList]; simp only [List.toList_toArray])
    | rw [← Array.forIn_toList]
  refine wpAny_bind (ksk_fold (fun i s' => ∃ kA e, s'.heap.get? kS = some (seqObj "list" kA e) ∧ s'.heap.get? a = some (seqObj "list" #[] e1) ∧ kA.size = i ∧ J i kA.toList s') vs 0 s ⟨#[], 0, nk, na, rfl, j0⟩ ?step ?done)
  case step =>
    rintro j x s' hx ⟨kA, e, nk', na', hz, hJ⟩
    rw [Nat.zero_add] at hz hJ
    have hj : j < vs.length := (List.getElem?_eq_some_iff.mp hx).1
    refine wpAny_bind (wpAny_attempt (wpAny_mono (turn j x kA.toList s' hx hJ) (fun v s'' he => ?_) fun _ _ hF => hF.elim))
    obtain ⟨q1, q2, q3⟩ := he
    try dsimp only
    have nk2 := q1 _ nk'
    have na2 := q2 _ na'
    have sb := Heap.SameBut.update s''.heap kS (Obj.mapSeq (·.push v))
    obtain ⟨c2, hc2⟩ : ∃ c2, (s''.heap.update kS (Obj.mapSeq (·.push v))).get? kS = some (seqObj "list" (kA.push v) c2) := ⟨_, get?_update_seq nk2 (·.push v)⟩
    refine wpAny_bind (listUpdate_at nk2 rfl ?_ (by omega) (Nat.le_trans (Nat.le_of_eq (Array.size_push ..)) (by omega)))
    refine wpAny_pure ⟨rfl, kA.push v, c2, hc2, (sb.2 a hka.symm).trans na2, by rw [Array.size_push]; omega, ?_⟩
    have q4 := q3 (s''.heap.update kS (Obj.mapSeq (·.push v))) (fun c o hc e => (sb.2 c hc).trans e) ⟨_, hc2⟩
    rw [show (kA.push v).toList = kA.toList ++ [v] by simp]
    rw [show 0 + j + 1 = j + 1 by omega]
    exact q4
  case done =>
    rintro s' ⟨kA, e, nk', na', hz, hJ⟩
    rw [Nat.zero_add] at hz hJ
    obtain ⟨ds, g1, g2, g3, g4, g5⟩ := fin kA.toList s' hJ
    try dsimp only
    refine wpAny_bind (listItems_at nk' rfl ?_)
    let Hk : L2.Hp := fun c => if c = kS then some (.lst []) else none
    have hid : ∀ {d : Addr} {o : Obj}, d ≠ kS → s'.heap.get? d = some o → (L2.hidT s'.heap Hk).get? d = some o := fun {d o} hd q => L2.hidT_get q (by show (if d = kS then _ else _) = _; rw [if_neg hd])
    have hk0 : (L2.hidT s'.heap Hk).get? kS = none := by
      cases q : (L2.hidT s'.heap Hk).get? kS with
      | none => rfl
      | some o =>
        have z := (L2.of_hidT q).2
        have z' : (if kS = kS then (some (L2.HO.lst [])) else none) = (none : Option L2.HO) := z
        rw [if_pos rfl] at z'
        cases z'
    exact keyH_end (κ := dataKind s'.heap ds) (h₁ := L2.hidT s'.heap Hk) (fun d o hd q => (L2.of_hidT q).1) hk0 nk' na' hka (SortsAt.data g1 g2 g3 g4) hz hZ fun h3 tk3 c k3 n3 =>
      g5 h3 tk3 _ c (fun d o h1 h2 q => k3 d o h2 (hid h1 q)) n3 ⟨s'.heap, kA.toList, g2, rfl, g1⟩
/-- list.sort(key=f) -/
theorem keyJ_tree {f : Value} {n : Nat} (ho : s.heap.get? a = some (seqObj "list" vs.toArray n)) (hZ : vs.length ≤ sizeLine)
    (hb : ∀ (k e1 : Nat) (h1 : Heap), h1.objs.size = s.heap.objs.size + 2 → k = s.heap.objs.size + 1 → (∀ c o, c ≠ a → s.heap.get? c = some o → h1.get? c = some o) → h1.get? k = some (seqObj "list" #[] 0) → h1.get? a = some (seqObj "list" #[] e1) →
      wpAny (model prog w) A (ksk_rest a f b vs.toArray e1 (.ref k)) P E { s with heap := h1 }) :
    wpAny (model prog w) A (ksk_tree a f b) P E s := by
  have ha : a < s.heap.objs.size := Heap.lt_size ho
  obtain ⟨e1, ho1⟩ : ∃ e1, (s.heap.update a (Obj.mapSeq fun _ => (#[] : Array Value))).get? a = some (seqObj "list" #[] e1) := ⟨_, get?_update_seq ho fun _ => #[]⟩
  have hkS : ((s.heap.update a (Obj.mapSeq fun _ => (#[] : Array Value))).push (seqObj "tuple" vs.toArray 0)).objs.size = s.heap.objs.size + 1 := by rw [size_push', Heap.size_update]
  unfold ksk_tree
  refine wpAny_bind (listItems_at ho rfl ?_)
  refine wpAny_bind (listUpdate_at ho rfl ?_ (by rw [List.size_toArray]; exact hZ) (Nat.zero_le _))
  refine wpAny_bind (seqEpoch_at ho1 rfl ?_)
  refine wpAny_bind (wpAny_newTuple ?_ (by show vs.length ≤ _; exact hZ))
  refine wpAny_bind (wpAny_newList ?_ (Nat.zero_le _))
  refine wpAny_holding ?_
  exact hb _ e1 _ (by rw [size_push', hkS]) hkS (fun c o hc q => sortingHeap_old hc q) (Heap.get?_push_size _ rfl) (Heap.get?_push_of_some _ (Heap.get?_push_of_some _ ho1))
end
end Lk
namespace Lk
open PySem PySem.W PySem.Calls PyProof.Rows
section
variable {prog : Program} {w : World} {A : Around} {E : Value → Shared → Prop} {s : Shared}
theorem collect_tupL {l : Addr} {vs : List Value} {Q : List Value → Shared → Prop} (hl : PyProof.Rows.IsTup s.heap l vs.toArray)
    (h : Q vs { s with heap := (s.heap.push (seqObj "list" #[] 0)).update s.heap.objs.size (Obj.mapSeq (· ++ vs.toArray)) }) (hsz : vs.length ≤ sizeLine) :
    wpAny (model prog w) A (collect (.ref l)) Q E s := by
  obtain ⟨o, ho, hc, n, hd⟩ := id hl
  unfold collect
  refine wpAny_bind (wpAny_runValue (codeAny_builtin entry_proto_collect' ?_))
  show wpAny _ _ (do again (.builtin "list.__iadd__" ⟨[← newList [], .ref l], []⟩)) _ _ s
  refine wpAny_bind (wpAny_newList (wpAny_pure ⟨Code.quiet_builtin _ (by decide +kernel), codeAny_builtin entry_list_iadd' ?_⟩))
  show wpAny _ _ (Builtin.List.listExtendWith (.ref s.heap.objs.size) (.ref l) (.ref s.heap.objs.size)) _ _ { s with heap := s.heap.push (seqObj "list" #[] 0) }
  unfold Builtin.List.listExtendWith
  have ho' : (s.heap.push (seqObj "list" #[] 0)).get? l = some o := Heap.get?_push_of_some _ ho
  refine wpAny_bind (wpAny_typeOf (T := "tuple") ⟨o, ho', hc⟩ ?_)
  have ht : (Value.type "tuple" == Value.type "tuple") = true := by rfl
  rw [if_pos (by rw [ht]; simp)]
  refine wpAny_bind (listItems_at ho' hd ?_)
  refine wpAny_bind (listItems_at (xs := #[]) (n := 0) (Heap.get?_push_size _ rfl) rfl ?_)
  rw [if_neg (by simp)]
  refine wpAny_bind (listUpdate_at (xs := #[]) (n := 0) (Heap.get?_push_size _ rfl) rfl ?_ (Nat.zero_le _) (by show (#[] ++ vs.toArray).size ≤ sizeLine + 1; simp only [Array.size_append, List.size_toArray, List.length_nil]; omega))
  refine wpAny_pure ?_
  show wpAny (model prog w) A (do
      let o ← load s.heap.objs.size
      match o.data with
      | .seq xs _ => pure xs.toList
      | _ => unsupported "internal:collect") Q E { s with heap := (s.heap.push (seqObj "list" #[] 0)).update s.heap.objs.size (Obj.mapSeq (· ++ vs.toArray)) }
  refine wpAny_bind (wpAny_load (get?_update_seq (Heap.get?_push_size _ rfl) _) ?_)
  show wpAny _ _ (pure ((#[] : Array Value) ++ vs.toArray).toList) Q E _
  rw [show ((#[] : Array Value) ++ vs.toArray).toList = vs by simp]
  exact wpAny_pure h
theorem sorted_of2 {l : Addr} {vs : List Value} {kw : List (Str × Value)} {Q : Value → Shared → Prop} (hl : s.heap.IsList l vs.toArray ∨ PyProof.Rows.IsTup s.heap l vs.toArray) (hL : vs.length ≤ sizeLine) (ha1 : argsOk "sorted" ⟨[.ref l], kw⟩) (ha2 : ∀ x, argsOk "list.sort" ⟨[.ref x], kw⟩)
    (body : ∀ E' : Value → Shared → Prop, wpAny (model prog w) A.in1.in1 (Builtin.«list.sort» ⟨[.ref (s.heap.objs.size + 1)], kw⟩) (fun f s' => f = .done (.ret .none) ∧ Q (.ref (s.heap.objs.size + 1)) s') E' { s with heap := copyHeap s.heap vs }) :
    wpAny (model prog w) A (call (.builtin "sorted") [.ref l] kw) Q E s := by
  rcases hl with hl | hl
  · exact sorted_of_sort hl hL ha1 ha2 body
  · refine call_function_entry_kw kind_sorted plain_sorted entry_sorted ha1 ?_
    unfold Builtin.«sorted»
    refine wpAny_bind (m := checkCount "sorted" 1 1 _) (wpAny_pure ?_)
    refine wpAny_bind (collect_tupL hl ?_ hL)
    refine wpAny_bind (wpAny_newList ?_ hL)
    have hsz : ((s.heap.push (seqObj "list" #[] 0)).update s.heap.objs.size (Obj.mapSeq (· ++ vs.toArray))).objs.size = s.heap.objs.size + 1 := by
      rw [Heap.size_update, size_push']
    show wpAny _ _ _ _ _ { s with heap := copyHeap s.heap vs }
    rw [hsz]
    refine wpAny_bind (wpAny_holding (wpAny_call_entry_kw slot_list_sort ⟨_, copyHeap_at s.heap vs, rfl⟩ entry_list_sort ?body (ha2 _)))
    case body =>
      show wpAny (model prog w) A.in1.in1 (Builtin.«list.sort» ⟨[.ref (s.heap.objs.size + 1)], kw⟩) _ _ _
      refine wpAny_mono (body _) (fun f s' hf => ?_) fun _ _ e => e
      obtain ⟨rfl, hq⟩ := hf
      exact ⟨_, rfl, wpAny_pure ⟨_, rfl, hq⟩⟩
end
end Lk

set_option Elab.async false
set_option linter.all false
set_option maxRecDepth 100000
set_option maxHeartbeats 4000000
namespace Lk
open PySem PySem.Spec PyProof.Rows L2
/-! ### sorted(xs, key=f), f any function value whose call is known -/
/-- a call of the function at f, in the calls that X makes: where C holds it does what tb says -/
def KCall (X : Cx) (k : Nat) (C : Hp → Addr → Prop) (σ : L2.St) (tb : V → Hp → VK → Prop) : Prop :=
  ∀ (pins : List (Addr × Obj)) (s : Shared) (H : Hp) (f : Addr) (v : V) (u : Value) (Q : VK) (A : Around), Room k A → A.frames = X.A.frames → Inv X pins σ H s → C H f → RelV v u → tb v H Q →
    wpAny (model X.prog X.w) A (call (.ref f) [u]) (fun u' s' => CE X.stack X.prog X.w H s Q u' s') (fun _ _ => False) s
/-- the keys, one by one -/
def keysR (C : Hp → Addr → Prop) (f : Addr) (tb : V → Hp → VK → Prop) : List V → List V → Hp → (List V → Hp → Prop) → Prop
  | [], acc, H, R => R acc H
  | x :: xs, acc, H, R => C H f ∧ tb x H fun v H1 => keysR C f tb xs (acc ++ [v]) H1 R
/-- the items sorted by their keys -/
def sortK {α : Type} (b : Bool) (ds : List PyData) (xs : List α) : List α := ((ds.zip xs).mergeSort (PySem.W.dataLe b Prod.fst)).map Prod.snd
theorem sortK_len {α : Type} {b : Bool} {ds : List PyData} {xs : List α} (h : ds.length = xs.length) : (sortK b ds xs).length = xs.length := by
  unfold sortK
  rw [List.length_map, List.length_mergeSort, List.length_zip]
  omega
def finK (K : PySem.W.Frag) (b : Bool) (xs : List V) (Q : VK) (kvs : List V) (H : Hp) : Prop :=
  ∃ ds : List PyData, DpAll K H kvs ds ∧ ds.length = xs.length ∧ PySem.W.AllAlike ds ∧ PySem.W.Sortable ds ∧ (∀ d ∈ ds, d.depth ≤ 60) ∧ ∀ r, H r = none → Q (.ref r) (upd H r (.lst (sortK b ds xs)))
theorem readsAll_each {h : Heap} : ∀ {us : List Value} {ds : List PyData} {as : List Addr}, PySem.ReadsAll h us ds as → PySem.W.EachIs (fun v d => ∃ as, PySem.Reads h v d as) us ds
  | _, _, _, .nil => .nil
  | _, _, _, .cons h1 h2 => .cons ⟨_, h1⟩ (readsAll_each h2)
theorem each_vals {xs : List V} {ds : List PyData} : ∀ {ps : List (PyData × V)} {out : List Value}, PySem.W.EachIs (fun (v : Value) (p : PyData × V) => RelV p.2 v) out ps → Vals (ps.map Prod.snd) out
  | _, _, .nil => .nil
  | _, _, .cons h1 h2 => .cons h1 (each_vals (xs := xs) (ds := ds) h2)
theorem vals_each : ∀ {xs : List V} {vs : List Value} {ds : List PyData}, Vals xs vs → ds.length = xs.length → PySem.W.EachIs (fun (v : Value) (p : PyData × V) => RelV p.2 v) vs (ds.zip xs)
  | _, _, [], .nil, _ => .nil
  | _, _, d :: ds, .cons h1 h2, h => .cons h1 (vals_each h2 (by simpa using h))
section
variable {X : Cx} {pins : List (Addr × Obj)} {σ : L2.St} {H : Hp} {s : Shared}
theorem inv_nofr (I : Inv X pins σ H s) {f : Addr} (hf : s.heap.objs.size ≤ f) : f ∉ frs X.stack := fun z => by
  rcases List.mem_cons.mp (I.stkSub _ z) with e | e
  · have h1 := I.lt
    rw [← e] at h1
    exact Nat.lt_irrefl _ (Nat.lt_of_lt_of_le h1 hf)
  · exact I.nofs hf e
/-- what was a thing of the call's own is known from now on -/
theorem inv_known {t' : Nat} {h' : Heap} {ch : List Addr} {T : Addr} {ob : HO} (I : Inv X pins σ H s) (k : ∀ b o, b ∉ ch → s.heap.get? b = some o → h'.get? b = some o) (hf : ∀ b ∈ ch, FpOk X pins H b) (hT : T ∈ ch)
    (new : ObjOk X.prog X.w (upd H T ob) h' T ob) : Inv X pins σ (upd H T ob) { s with heap := h', toks := t' } := by
  have hn : H T = none := (hf T hT).1
  have nit : ∀ b u, H b = some u → b ∉ ch := fun b u e z => by
    have q := (hf b z).1
    rw [q] at e; cases e
  refine I.step (g' := s.gens) (d' := s.drawn) (ch := ch) (fun b hb => ⟨(hf b hb).2.2.2.1, (hf b hb).2.1, (hf b hb).2.2.2.2.1, (hf b hb).2.2.2.2.2⟩) (fun b o _ _ hc e _ => k b o hc e) (fun b o _ _ hc e _ => ⟨o.slots, k b o hc e⟩)
    (fun b o hc e n => ?_) (fun b o hc e => ⟨o, k b o hc e⟩) (fun b xs e => ?_) (fun b o u e => ?_) (fun b ps e => ⟨#[], ?_⟩) (fun m hm => ?_) (fun b u e => ?_) I.bare
  · have ne : b ≠ T := fun z => hc (z ▸ hT)
    rw [upd_ne ne]; exact n
  · rw [upd_ne (ne_of_none e hn)]; exact e
  · rw [upd_ne (ne_of_none e hn)]; exact e
  · rw [upd_ne (ne_of_none e hn), e]; simp
  · obtain ⟨o, es, ep, ho, r⟩ := hm
    exact ⟨o, es, ep, k _ o (fun z => (hf _ z).2.1 rfl) ho, r⟩
  · by_cases hb : b = T
    · subst hb
      rw [upd_same] at e
      cases e
      exact new
    · rw [upd_ne hb] at e
      refine (I.hok b u e).stay (fun c v hc q => k c v ?_ q) (fun c q => by rw [upd_ne (ne_of_none q hn)]; exact q) fun c xs q => by rw [upd_ne (ne_of_none q hn)]; exact q
      rcases hc with z | z
      · rw [z]; exact nit b u e
      · exact nit c _ z
theorem sorted_runK {p : Addr} {xs : List V} {f : Addr} {Q : VK} {b : Bool} {kw : List (Str × Value)} {k : Nat} {C : Hp → Addr → Prop} {tb : V → Hp → VK → Prop} (I : Inv X pins σ H s) (hs : SqL X.K H p xs ∨ SqT X.K H p xs) (hr : Room (k + 2) X.A) (hu : X.A.units + 65 < cLine)
    (KC : KCall X k C σ tb) (h : keysR C f tb xs [] H (finK X.K b xs Q)) (ha1 : ∀ x, argsOk "sorted" ⟨[.ref x], kw⟩) (ha2 : ∀ x, argsOk "list.sort" ⟨[.ref x], kw⟩) (ht : ∀ x, Builtin.«list.sort» ⟨[.ref x], kw⟩ = ksk_tree x (.ref f) b) :
    wpAny (model X.prog X.w) X.A (call (.builtin "sorted") [.ref p] kw) (EP X pins σ Q) X.xe s := by
  obtain ⟨its, rv, pl, hz⟩ : ∃ its : List Value, Vals xs its ∧ (s.heap.IsList p its.toArray ∨ IsTup s.heap p its.toArray) ∧ xs.length ≤ sizeLine := by
    rcases hs with hs | hs
    · obtain ⟨its, rv, pl, hz⟩ := I.list hs
      exact ⟨its, rv, .inl pl.isList, hz⟩
    · obtain ⟨its, rv, pl, hz⟩ := I.tuple hs
      exact ⟨its, rv, .inr pl, hz⟩
  have hZ : its.length ≤ sizeLine := by rw [← rv.length]; exact hz
  refine sorted_of2 pl hZ (ha1 p) ha2 fun E' => ?_
  rw [ht]
  have nfa : s.heap.objs.size + 1 ∉ frs X.stack := inv_nofr I (Nat.le_succ _)
  have fa : FpOk X pins H (s.heap.objs.size + 1) := I.fpOk (Nat.le_succ _) (I.hok.fresh (Nat.le_succ _))
  have csz : (PySem.W.copyHeap s.heap its).objs.size = s.heap.objs.size + 2 := by
    unfold PySem.W.copyHeap
    rw [size_push', Heap.size_update, size_push']
  refine keyJ_tree (s := { s with heap := PySem.W.copyHeap s.heap its }) (PySem.W.copyHeap_at s.heap its) hZ fun kS e1 h1 sz ek hold nk na => ?_
  have kge : s.heap.objs.size ≤ kS := by rw [ek]; show _ ≤ (PySem.W.copyHeap s.heap its).objs.size + 1; rw [csz]; omega
  have hka : kS ≠ s.heap.objs.size + 1 := by rw [ek]; show (PySem.W.copyHeap s.heap its).objs.size + 1 ≠ _; rw [csz]; omega
  have nfk : kS ∉ frs X.stack := inv_nofr I kge
  have fk : FpOk X pins H kS := I.fpOk kge (I.hok.fresh kge)
  have I2 : Inv X pins σ H { s with heap := h1 } := I.kept (t' := s.toks) fun b o e => hold b o (Nat.ne_of_lt (Nat.lt_succ_of_lt (Heap.lt_size e))) (PySem.W.copyHeap_old e)
  have fpk : ∀ {H' : Hp} {b : Addr}, FpOk X pins H b → H' b = none → FpOk X pins H' b := fun q n => ⟨n, q.2⟩
  refine keyJ_rest (A := X.A.in1.in1) (kS := kS) (a := s.heap.objs.size + 1) (f := .ref f) (s := { s with heap := h1 })
    (fun i ks s' => ∃ H' kvs, Inv X pins σ H' s' ∧ H' kS = none ∧ H' (s.heap.objs.size + 1) = none ∧ (∃ o, s'.heap.get? kS = some o) ∧ (∃ o, s'.heap.get? (s.heap.objs.size + 1) = some o) ∧ Vals kvs ks ∧ kvs.length = i ∧ keysR C f tb (xs.drop i) kvs H' (finK X.K b xs Q))
    nk na hka hZ ⟨H, [], I2, fk.1, fa.1, ⟨_, nk⟩, ⟨_, na⟩, .nil, rfl, by rw [List.drop_zero]; exact h⟩ (fun i v ks s1 hv ⟨H', kvs, J, n1, n2, ⟨o1, g1⟩, ⟨o2, g2⟩, rk, lk, hk⟩ => ?_) (fun ks s1 ⟨H', kvs, J, n1, n2, g1, g2, rk, lk, hk⟩ => ?_)
  · obtain ⟨x, hx, rx⟩ : ∃ x, xs[i]? = some x ∧ RelV x v := by
      have hi : i < its.length := (List.getElem?_eq_some_iff.mp hv).1
      have hi2 : i < xs.length := by rw [rv.length]; exact hi
      obtain ⟨v2, e2, q2⟩ := rv.get (List.getElem?_eq_getElem hi2)
      rw [hv] at e2
      cases e2
      exact ⟨_, List.getElem?_eq_getElem hi2, q2⟩
    have ed : xs.drop i = x :: xs.drop (i + 1) := by
      rw [List.drop_eq_getElem_cons (List.getElem?_eq_some_iff.mp hx).1, (List.getElem?_eq_some_iff.mp hx).2]
    rw [ed] at hk
    obtain ⟨hc, hk⟩ := hk
    refine wpAny_mono (KC pins s1 H' f x v _ X.A.in1.in1 hr.in1.in1 rfl J hc rx hk) (fun u s2 q => ?_) fun _ _ z => z
    obtain ⟨v', H2, os, bare, un, hok, r', q⟩ := q
    refine ⟨fun o e => un.keep _ o e n1 nfk (by simp), fun o e => un.keep _ o e n2 nfa (by simp), fun h' hh hk2 => ?_⟩
    have J2 : Inv X pins σ H2 s2 := J.call' (ch := []) os un hok bare (fun b z => absurd z (by simp))
    have m1 : H2 kS = none := un.free _ _ g1 n1 (by simp)
    have m2 : H2 (s.heap.objs.size + 1) = none := un.free _ _ g2 n2 (by simp)
    have G2 := un.keep _ _ g2 n2 nfa (by simp)
    have J3 : Inv X pins σ H2 { s2 with heap := h' } := J2.turnedL (t' := s2.toks) (ch := [kS]) (fun b o hb e => hh b o (by simpa using hb) e) (fun b hb => by rw [List.mem_singleton.mp hb]; exact fpk fk m1)
    exact ⟨H2, kvs ++ [v'], J3, m1, m2, hk2, ⟨_, hh _ _ (Ne.symm hka) G2⟩, rk.append (.cons r' .nil), by rw [List.length_append, lk]; rfl, q⟩
  · have e0 : xs.drop its.length = [] := List.drop_eq_nil_of_le (by rw [rv.length]; exact Nat.le_refl _)
    rw [e0] at hk
    obtain ⟨ds, d1, d2, d3, d4, d5, d6⟩ := hk
    obtain ⟨as, ra⟩ := Dp.readsAll J ds kvs ks d1 rk
    refine ⟨ds, readsAll_each ra, d3, d4, fun d hd => ?_, fun h' tk out c hh ha' ko => ⟨rfl, ?_⟩⟩
    · have := d5 d hd
      show X.A.units + 1 + 1 + d.depth < cLine
      omega
    · have ev := PySem.W.keyedOut_each (R := fun (v : Value) (p : PyData × V) => RelV p.2 v) (bs := ds.zip xs) Prod.fst (by rw [List.map_fst_zip (by omega)]; exact ko) (vals_each rv d2)
      have vo : Vals (sortK b ds xs) out := each_vals (xs := xs) (ds := ds) ev
      have J3 : Inv X pins σ (upd H' (s.heap.objs.size + 1) (.lst (sortK b ds xs))) { s1 with heap := h', toks := tk } := inv_known (t' := tk) (ch := [s.heap.objs.size + 1, kS]) J (fun b o hb e => by
        simp only [List.mem_cons, List.not_mem_nil, or_false, not_or] at hb
        exact hh b o hb.2 hb.1 e) (fun b hb => by
        simp only [List.mem_cons, List.not_mem_nil, or_false] at hb
        rcases hb with rfl | rfl
        · exact fpk fa n2
        · exact fpk fk n1) (by simp) ⟨by rw [sortK_len d2]; exact hz, out, c, vo, ha'⟩
      exact ⟨.ref (s.heap.objs.size + 1), _, J3, rfl, d6 _ n2⟩
end
end Lk

set_option Elab.async false
set_option linter.all false
set_option maxRecDepth 100000
set_option maxHeartbeats 4000000
namespace Lk
open PySem PySem.Spec PyProof.Rows L2 LamX NdefX
/-! ### a lambda of one parameter -/
structure LW where
  qual : Str
  params : Arguments
  body : Expr
  scope : Scope
  cl : List (Str × Addr)
/-- the object at f is the lambda, its code object at c -/
def LamO (f : Addr) (L : LW) (c : Addr) : HO := .ext fun h => ∃ (pm ctv : Value), h.get? f = some (PySem.W.kla_obj "<lambda>" L.qual L.params L.body L.scope L.cl pm c ctv)
theorem lamO_at {P : Program} {w : World} {H : Hp} {h : Heap} {f c : Addr} {L : LW} (hok : HOk P w H h) (e : H f = some (LamO f L c)) : ∃ (pm ctv : Value), h.get? f = some (PySem.W.kla_obj "<lambda>" L.qual L.params L.body L.scope L.cl pm c ctv) := by
  obtain ⟨z, _, _⟩ := hok f _ e
  exact z
/-- all but the table at P stays -/
def KeepP (P : Addr) (H H' : Hp) : Prop := (∀ b o, b ≠ P → H b = some o → H' b = some o) ∧ ∀ b, H' b = none → H b = none
section
variable {X : Cx} {pins : List (Addr × Obj)} {σ : L2.St} {H : Hp} {s : Shared}
theorem inv_lam {L : LW} {c : Addr} {o : Obj} {t' : Nat} {pm ctv : Value} (I : Inv X pins σ H s) (ho : o = PySem.W.kla_obj "<lambda>" L.qual L.params L.body L.scope L.cl pm c ctv) :
    Inv X pins σ (upd H s.heap.objs.size (LamO s.heap.objs.size L c)) { s with heap := s.heap.push o, toks := t' } := by
  subst ho
  refine I.laid (a := s.heap.objs.size) (fun b u e => Heap.get?_push_of_some _ e) (Nat.le_refl _) ?_
  have e : (s.heap.push (PySem.W.kla_obj "<lambda>" L.qual L.params L.body L.scope L.cl pm c ctv)).get? s.heap.objs.size = some (PySem.W.kla_obj "<lambda>" L.qual L.params L.body L.scope L.cl pm c ctv) := Heap.get?_push_size _ rfl
  exact ⟨⟨pm, ctv, e⟩, ⟨_, e⟩, fun h1 h2 ⟨p, t, z⟩ st => ⟨p, t, st _ z⟩⟩
theorem ext_tbl {φ : Heap → Prop} (ps : Array Value) : HO.ext φ ≠ .tbl ps := fun z => by cases z
/-- the lambda is made -/
theorem lam_makeN {T : List NTab} {nm : Nat → Nat → Str} {c P : Addr} {params : Arguments} {body : Expr} {scope : Scope} {pos : Pos} {E : Value → Shared → Prop} {Q : Value → Shared → Prop} (I : Inv X pins σ H s) (TB : TabB X.base X.mg c P) (hcode : X.env.code = .ref c)
    (hm : (P, nm) ∈ T) (hn : nm pos.line pos.col = X.env.qual ++ "<lambda>") (hu : ∀ p ∈ T, p.1 = P → p.2 = nm) (hT : TabsN T H) (hdef : defaultsOf params X.env = ([], [])) (hfree : ∀ y ∈ scope.names, y.2 = .free → ∃ c, X.env.cells.lookup y.1 = some c)
    (h : ∀ (f c' : Addr) (H1 : Hp) (s' : Shared), Inv X pins σ H1 s' → KeepP P H H1 → TabsN T H1 → H f = none → H1 f = some (LamO f ⟨X.env.qual ++ "<lambda>", params, body, scope, cloFrom X.env.cells scope.names []⟩ c') → H1 c' = some (CodeO c' (X.env.qual ++ "<lambda>")) → Q (.ref f) s') :
    wpAny (model X.prog X.w) X.A (eval (.Lambda params body scope pos) X.env) Q E s := by
  obtain ⟨ps, hP, ht, ha⟩ := (show TabN H P nm from hT _ hm)
  refine PySem.W.kla_eval hdef ?_
  have bP : s.heap.BuiltinsAt X.mg P := TB.bm.keeps I.bk
  have hP' : s.heap.get? P = some { cls := .none, data := .fields ps } := I.hok P _ hP
  cases hc : codeAmong pos ps.toList with
  | none =>
    refine PySem.W.kla_makeFunction (mg := X.mg) (c := c) (P := P) (ps := ps) (closure_ok hfree) I.ok.glob (I.mod.glob.keeps I.bk) hcode (TB.code.keeps I.bk) hP' ht hc TB.gP bP fun c' ctv h' tk hx hge hlt hrec htb => ?_
    obtain ⟨c2, oc, vs, t, e2, hoc, hd, hv⟩ := hrec
    cases e2
    have nC : H c' = none := I.hok.fresh hge
    have I1 := inv_table (t' := tk) (more := #[rawInt pos.line, rawInt pos.col, .ref c']) (h' := h') I hP (fun b o hb e => hx b o hb e) htb hge ⟨oc, vs, t, hoc, hd, hv⟩
    have K1 : ∀ b o, b ≠ P → H b = some o → upd (upd H P (.tbl (ps ++ #[rawInt pos.line, rawInt pos.col, .ref c']))) c' (CodeO c' (X.env.qual ++ "<lambda>")) b = some o := fun b o n e => by
      rw [upd_ne (ne_of_none e nC), upd_ne n]
      exact e
    have eL : (ps ++ #[rawInt pos.line, rawInt pos.col, .ref c']).toList = ps.toList ++ [rawInt pos.line, rawInt pos.col, .ref c'] := by simp
    have cP : ∀ {c0 : Addr} {q : Str}, H c0 = some (CodeO c0 q) → c0 ≠ P := fun {c0 q} e z => by
      rw [z, hP] at e
      exact codeO_ne ps (Option.some.inj e).symm
    have T1 : TabsN T (upd (upd H P (.tbl (ps ++ #[rawInt pos.line, rawInt pos.col, .ref c']))) c' (CodeO c' (X.env.qual ++ "<lambda>"))) := fun p hp => by
      by_cases hb : p.1 = P
      · rw [hu p hp hb, hb]
        refine ⟨_, by rw [upd_ne (ne_of_none hP nC), upd_same], by rw [eL]; exact PySem.TriplesOk_snoc _ _ _ _ ht, fun p' cv hcv => ?_⟩
        rw [eL] at hcv
        rcases among_app2 _ ht hcv with z | ⟨z, z1, z2⟩
        · obtain ⟨c0, e1, e2⟩ := ha p' cv z
          exact ⟨c0, e1, K1 _ _ (cP e2) e2⟩
        · refine ⟨c', z, ?_⟩
          rw [← z1, ← z2, hn]
          exact upd_same
      · obtain ⟨ps', a1, a2, a3⟩ := hT p hp
        refine ⟨ps', by rw [upd_ne (ne_of_none a1 nC), upd_ne hb]; exact a1, a2, fun p' cv hcv => ?_⟩
        obtain ⟨c0, e1, e2⟩ := a3 p' cv hcv
        exact ⟨c0, e1, K1 _ _ (cP e2) e2⟩
    have nF := I1.hok.fresh (Nat.le_refl _)
    have I2 := inv_lam (L := ⟨X.env.qual ++ "<lambda>", params, body, scope, cloFrom X.env.cells scope.names []⟩) (c := c') (t' := tk) (pm := (X.mg "__name__").getD .none) (ctv := ctv) I1 rfl
    refine h h'.objs.size c' _ _ I2 ⟨fun b o n e => ?_, fun b e => upd_none (upd_none (upd_none e))⟩ (T1.ext fun b o e => ?_) (I.hok.fresh (Nat.le_trans hge (Nat.le_of_lt hlt))) upd_same ?_
    · have e1 := K1 b o n e
      exact (upd_ne (ne_of_none e1 nF)).trans e1
    · exact (upd_ne (ne_of_none e nF)).trans e
    · exact (upd_ne (Nat.ne_of_lt hlt)).trans upd_same
  | some cv =>
    obtain ⟨c', e, hco⟩ := ha pos cv hc
    subst e
    rw [hn] at hco
    refine PySem.W.kla_makeFunctionHit (mg := X.mg) (c := c) (P := P) (ps := ps) (closure_ok hfree) I.ok.glob (I.mod.glob.keeps I.bk) hcode (TB.code.keeps I.bk) hP' ht hc bP fun ctv h' tk hx hsz => ?_
    have I1 : Inv X pins σ H { s with heap := h', toks := tk } := I.kept hx
    have nF : H h'.objs.size = none := I1.hok.fresh (Nat.le_refl _)
    have I2 := inv_lam (L := ⟨X.env.qual ++ "<lambda>", params, body, scope, cloFrom X.env.cells scope.names []⟩) (c := c') (t' := tk) (pm := (X.mg "__name__").getD .none) (ctv := ctv) I1 rfl
    refine h h'.objs.size c' _ _ I2 ⟨fun b o n e => ?_, fun b e => upd_none e⟩ (hT.ext fun b o e => ?_) nF upd_same ?_
    · exact (upd_ne (ne_of_none e nF)).trans e
    · exact (upd_ne (ne_of_none e nF)).trans e
    · exact (upd_ne (ne_of_none hco nF)).trans hco
end
/-- its reading: a new function, its code object told -/
def tLamE (T : List NTab) (P : Addr) (mk : Addr → Addr → HO) (q : Str) : TE := fun σ H Q => TabsN T H ∧ ∀ (f c' : Addr) (H1 : Hp), KeepP P H H1 → TabsN T H1 → H f = none → H1 f = some (mk f c') → H1 c' = some (CodeO c' q) → Q (.ref f) H1
theorem pe_lam {X : Cx} {T : List NTab} {nm : Nat → Nat → Str} {c P : Addr} {params : Arguments} {body : Expr} {scope : Scope} {pos : Pos} (TB : TabB X.base X.mg c P) (hcode : X.env.code = .ref c)
    (hm : (P, nm) ∈ T) (hn : nm pos.line pos.col = X.env.qual ++ "<lambda>") (hu : ∀ p ∈ T, p.1 = P → p.2 = nm) (hdef : defaultsOf params X.env = ([], []))
    (hfree : ∀ y ∈ scope.names, y.2 = .free → X.env.scope.names.lookup y.1 = some .cell ∨ X.env.scope.names.lookup y.1 = some .free) :
    PE X (.Lambda params body scope pos) (tLamE T P (fun f c' => LamO f ⟨X.env.qual ++ "<lambda>", params, body, scope, cloFrom X.env.cells scope.names []⟩ c') (X.env.qual ++ "<lambda>")) := by
  refine ⟨fun pins s σ H Q I h => ?_⟩
  obtain ⟨hT, h⟩ := h
  exact lam_makeN I TB hcode hm hn hu hT hdef (fun y hy e => (hfree y hy e).elim (fun z => I.ok.has _ (.inl z)) fun z => I.ok.has _ (.inr z)) fun f c' H1 s' I1 kp T1 f0 f1 c1 => ⟨.ref f, H1, I1, rfl, h f c' H1 kp T1 f0 f1 c1⟩
/-! ### its names, its body -/
structure LamS1 (x : Str) (sc scope : Scope) : Prop where
  kind : scope.kind = .function
  co : scope.isCoroutine = false
  gen : scope.isGenerator = false
  loc : scope.names.lookup x = some .local
  own : ∀ y ∈ scope.names, (y.2 = .local → y.1 = x) ∧ y.2 ≠ .cell
  free : ∀ y ∈ scope.names, y.2 = .free → sc.names.lookup y.1 = some .cell ∨ sc.names.lookup y.1 = some .free
abbrev lamE1 (X : Cx) (scope : Scope) (L f c' : Addr) : Env := PySem.W.envX (X.env.qual ++ "<lambda>") scope L f (.ref c') (cloFrom X.env.cells scope.names [])
/-- the body's context -/
def lamC1 (X : Cx) (A : Around) (outer : List Env) (s : Shared) (H : Hp) (scope : Scope) (f c' : Addr) : Cx where
  prog := X.prog
  w := X.w
  K := X.K
  mg := X.mg
  base := X.base
  A := A.deeper (lamE1 X scope s.heap.objs.size f c')
  N := X.N
  s_0 := s
  H_0 := H
  env := lamE1 X scope s.heap.objs.size f c'
  outer := outer
  stack := lamE1 X scope s.heap.objs.size f c' :: outer
  ex := []
  fn := fun _ => false
  calm := true
  pn := []
  xe := fun _ _ => False
section
variable {X : Cx} {pins : List (Addr × Obj)} {σ : L2.St} {H : Hp} {s : Shared}
theorem lam_start1 {A : Around} {scope : Scope} {f c' : Addr} {h₁ : Heap} {tk : Nat} {x : Str} {i : Nat} {v : V} {u : Value} (I : Inv X pins σ H s) (L : LamS1 x X.env.scope scope) (e0 : Env0 X.prog X.w X.K X.mg X.base A X.stack s H) (hd : A.handled = none)
    (hN : X.N.Nodup) (hi : X.N[i]? = some x) (rv : RelV v u)
    (hns : h₁.Ns s.heap.objs.size fun y => ([(x, u)] : List (Str × Value)).reverse.lookup y) (kp : ∀ b o, s.heap.get? b = some o → h₁.get? b = some o) :
    Inv (lamC1 X A X.stack s H scope f c') [] (σ.set i (some v)) H { s with heap := h₁, toks := tk } := by
  have hfree : ∀ y ∈ scope.names, y.2 = .free → ∃ c, X.env.cells.lookup y.1 = some c := fun y hy e => (L.free y hy e).elim (fun z => I.ok.has _ (.inl z)) fun z => I.ok.has _ (.inr z)
  have cm : ∀ {y c}, (cloFrom X.env.cells scope.names []).lookup y = some c → X.env.cells.lookup y = some c := fun {y c} e => by
    rcases cloFrom_mem (PySem.mem_of_lookup e) with hm | ⟨h1, h2⟩
    · cases hm
    · obtain ⟨c1, hc⟩ := hfree _ h1 rfl
      have hc : X.env.cells.lookup y = some c1 := hc
      have e2 : c = c1 := by
        rw [h2, hc] <;> rfl
      rw [e2]
      exact hc
  have look : ∀ {y}, scope.names.lookup y = some .free → ∃ c, (cloFrom X.env.cells scope.names []).lookup y = some c := fun {y} hl => by
    have hy : (y, NameKind.free) ∈ scope.names := PySem.mem_of_lookup hl
    exact mem_lookup (cloFrom_has (cells := X.env.cells) (acc := []) hy)
  have cellK : ∀ {c : Addr} {v : Option Value}, s.heap.IsCell c v → h₁.IsCell c v := fun {c v} ⟨o, ho, hd⟩ => ⟨o, kp _ _ ho, hd⟩
  have noA : ∀ b : Addr, b ∉ (lamC1 X A X.stack s H scope f c').ex := fun b z => absurd (show b ∈ ([] : List Addr) from z) (by simp)
  refine ⟨⟨e0.mod, L.kind, rfl, rfl, Nat.le_refl _, fun y z c e1 e2 => I.ok.inj y z c (cm e1) (cm e2), fun y hy => ?_, fun y c z _ => ?_, fun _ => hd, Around.frames_deeper e0.frames, .inr ⟨rfl, rfl⟩, fun b z => absurd z (noA b), e0.bs, e0.bsz, fun b _ _ => noA b,
      fun b z => absurd z (noA b), e0.funs, e0.frf⟩,
    rfl, e0.bare, Un.kept kp, ⟨_, hns, fun j y w' e1 e2 e3 => ?_⟩, fun y c e => ?_, e0.hok.fresh (Nat.le_refl _), fun y c e => ?_, fun q hq => absurd (show q ∈ ([] : List (Addr × Obj)) ++ [] from hq) (by simp), e0.hok.kept kp, (List.length_set ..).trans I.len⟩
  · have hy : scope.names.lookup y = some .cell ∨ scope.names.lookup y = some .free := hy
    rcases hy with hy | hy
    · exact absurd rfl (L.own _ (PySem.mem_of_lookup hy)).2
    · exact look hy
  · have z : false = true := z
    cases z
  · have e3 : Vis scope y := e3
    have e1 : X.N[j]? = some y := e1
    have e2 : (σ.set i (some v))[j]? = some (some w') := e2
    rcases e3 with k | k | k
    · have ey : y = x := (L.own _ (PySem.mem_of_lookup k)).1 rfl
      subst ey
      have ij : i = j := by
        have hlt : i < X.N.length := (List.getElem?_eq_some_iff.mp hi).1
        exact (List.getElem?_inj hlt hN).mp (hi.trans e1.symm)
      subst ij
      have hl : i < σ.length := by
        have z := (List.getElem?_eq_some_iff.mp e2).1
        rwa [List.length_set] at z
      rw [List.getElem?_set_self hl] at e2
      cases e2
      exact ⟨u, rv, .inl ⟨k, by simp⟩⟩
    · exact absurd rfl (L.own _ (PySem.mem_of_lookup k)).2
    · have ne : i ≠ j := fun z => by
        subst z
        rw [hi] at e1
        cases e1
        rw [L.loc] at k
        cases k
      rw [List.getElem?_set_ne ne] at e2
      obtain ⟨m, hn, hl⟩ := I.loc
      have hvis : Vis X.env.scope y := (L.free _ (PySem.mem_of_lookup k) rfl).elim (fun k => .inr (.inl k)) (fun k => .inr (.inr k))
      obtain ⟨w2, r, q⟩ := hl j y w' e1 e2 hvis
      obtain ⟨c2, h2⟩ := look k
      refine ⟨w2, r, .inr ⟨.inr k, c2, h2, ?_⟩⟩
      have c1 := cm h2
      rcases q with ⟨k', _⟩ | ⟨_, c3, e', z⟩
      · have k' : X.env.scope.names.lookup y = some .local := k'
        rcases L.free _ (PySem.mem_of_lookup k) rfl with k2 | k2 <;> rw [show X.env.scope.names.lookup y = _ from k2] at k' <;> cases k'
      · rw [c1] at e'
        cases e'
        exact cellK z
  · obtain ⟨w', z⟩ := I.cell y c (cm e)
    exact ⟨w', cellK z⟩
  · exact I.freeC y c (cm e)
/-- the call of it, as a key -/
theorem kc_lam {k i : Nat} {x : Str} {scope : Scope} {params : Arguments} {body : Expr} {tb : TE} {σ : L2.St} (L : LamS1 x X.env.scope scope) (hN : X.N.Nodup) (hi : X.N[i]? = some x)
    (hbind : ∀ (q : Str) (cl : List (Str × Addr)) (pm cv ctv u : Value), bindArgs (PySem.W.kla_fn "<lambda>" q params body scope cl pm cv ctv) ⟨[u], []⟩ = pure [(x, u)])
    (hbody : ∀ (A : Around) (s : Shared) (H : Hp) (f c' : Addr), Room k (A.deeper (lamE1 X scope s.heap.objs.size f c')) → PE (lamC1 X A X.stack s H scope f c') body tb) :
    KCall X (k + 1) (fun H f => ∃ c', H f = some (LamO f ⟨X.env.qual ++ "<lambda>", params, body, scope, cloFrom X.env.cells scope.names []⟩ c') ∧ H c' = some (CodeO c' (X.env.qual ++ "<lambda>"))) σ (fun v H Q => tb (σ.set i (some v)) H Q) := by
  intro pins s H f v u Q A hr hA I hC rv h
  obtain ⟨c', hf, hc⟩ := hC
  obtain ⟨pm, ctv, of⟩ := lamO_at I.hok hf
  obtain ⟨⟨oc, vs, t, hoc, hdc, hvc⟩, _, _⟩ := I.hok c' _ hc
  have e0 : Env0 X.prog X.w X.K X.mg X.base A X.stack s H := by
    have e := I.env0
    exact ⟨hA.trans e.frames, e.mod, e.bs, e.bsz, e.funs, e.frf, e.hok, e.bare⟩
  refine wpAny_call ?_
  refine PySem.W.kla_callFunE hr.depth of rfl L.co L.gen rfl ⟨c', oc, vs, t, rfl, hoc, hdc, hvc⟩ ?_
  rw [hbind]
  refine wpAny_pure (wpAny_newFunctionEnv (fun y hy => (L.own y hy).2) (fun y hy => ?_) (fun h₁ hns hsb => ⟨I.nolimit.fresh _ hsb, ?_⟩) L.kind)
  · rw [List.mem_singleton.mp hy]
    exact L.loc
  show codeAny _ _ (.expr body (lamE1 X scope s.heap.objs.size f c')) _ _
  have kp : ∀ b o, s.heap.get? b = some o → h₁.get? b = some o := fun b o e => hsb.extBut b o (Nat.ne_of_lt (Heap.lt_size e)) (Heap.get?_push_of_some _ e)
  have J := lam_start1 (f := f) (c' := c') (tk := s.toks + ([(x, u)] : List (Str × Value)).length) I L e0 hr.hd hN hi rv hns kp
  refine PySem.W.kla_codeExpr (wpAny_mono ((hbody A s H f c' (hr.deeper _)).run [] _ _ H Q J h) (fun v s' hq => ?_) fun e s' hq => (show False from hq).elim)
  obtain ⟨w', H', J', rv', q⟩ := hq
  exact ⟨w', H', J'.os, J'.bare, J'.base, J'.hok, rv', q⟩
end
end Lk

set_option Elab.async false
set_option linter.all false
set_option maxRecDepth 100000
set_option maxHeartbeats 4000000
namespace Lk
open PySem PySem.Spec PyProof.Rows L2
/-! ### the expression -/
def tSortK (K : PySem.W.Frag) (C : Hp → Addr → Prop) (b : Bool) (tb : L2.St → V → Hp → VK → Prop) (te tk : TA) : TE := fun σ H Q => te σ H fun vs H1 => tk σ H1 fun zs H2 => ∃ p xs f, vs = [.ref p] ∧ zs = [.ref f] ∧ (SqL K H2 p xs ∨ SqT K H2 p xs) ∧ keysR C f (tb σ) xs [] H2 (finK K b xs Q)
theorem vals_one {x : V} {us : List Value} (h : Vals [x] us) : ∃ u, us = [u] ∧ RelV x u := by
  cases h with
  | cons h1 h2 => cases h2; exact ⟨_, rfl, h1⟩
theorem pe_sortK {X : Cx} {k : Nat} {C : Hp → Addr → Prop} {tb : L2.St → V → Hp → VK → Prop} {p pos : Pos} {e : Expr} {te tk : TA} {kws : List Keyword} (KC : ∀ σ, KCall X k C σ (tb σ)) (hr : Room (k + 2) X.A) (hu : X.A.units + 65 < cLine) (hm : X.mg "sorted" = none) (ha : PA X [e] te) (hk : PK X kws tk) (hg : Gl X "sorted" := by rfl)
    (he : backTo pos (starEach [e] X.env) = (false, eval e X.env) :: backTo pos (starEach [] X.env) := by rfl) (hpl : (backTo pos (starEach [e] X.env)).any (·.1) = false := by rfl)
    (hall : (backToKw pos (keywordEach kws X.env)).all (·.1.isSome) = true := by rfl) (hnone : (backToKw pos (keywordEach kws X.env)).any (·.1.isNone) = false := by rfl) (hks : (backToKw pos (keywordEach kws X.env)).filterMap (·.1) = [Str.ofString "key"] := by rfl) :
    PE X (.Call (.Name "sorted" p) [e] kws pos) (tSortK X.K C false tb te tk) := by
  refine ⟨fun pins s σ H Q I h => ?_⟩
  refine wpAny_Call_Name_kw (ld_blt I hg hm (show bootBuiltins "sorted" = some (.builtin "sorted") by decide +kernel) ?_)
  refine PyProof.Rows.callWith_kw (thn (ha.run pos pins s σ H _ I h) fun us s1 ⟨vs, H1, I1, r1, q1⟩ => thn (hk.run pos pins s1 σ H1 _ I1 q1) fun ws s2 ⟨zs, H2, I2, r2, q2⟩ => ?_) he hpl hall hnone
  rw [hks]
  obtain ⟨q, xs, f, e1, e2, hs, hq⟩ := q2
  subst e1 e2
  obtain ⟨u, rfl, ru⟩ := vals_one r1
  obtain ⟨y, rfl, ry⟩ := vals_one r2
  obtain rfl : u = Value.ref q := ru
  obtain rfl : y = Value.ref f := ry
  exact sorted_runK I2 hs hr hu (KC σ) hq (fun x => ksk_s1 _ _) (fun x => ksk_l1 _ _) (fun x => ksk_t1 f x)
end Lk
namespace Lw
open PySem PySem.Spec PyProof.Rows L2 LamX NdefX Lk
variable [Tabl] [Exn]
section
variable {K : Fg} {ρ : List SD}
/-! ### what it does to data -/
theorem ST.restore {P : Addr → Prop} {B0 H0 B H B' H' : Hp} {σ : L2.St} {i : Nat} {z : D} {v : Option V} (S : ST K P B0 H0 ρ B H σ) (S' : ST K P B0 H0 (ρ.set i (.d z)) B' H' (σ.set i v)) (bb : Same B B') (hx : ∀ a ψ, H a = some (.ext ψ) → H' a = some (.ext ψ)) (hi : ∀ s, ρ[i]? = some s → s.mu = false) : ST K P B0 H0 ρ B' H' σ where
  len := S.len
  gr := S'.gr
  ok := S'.ok
  ex := S'.ex
  sl := fun j s h => by
    by_cases e : i = j
    · subst e
      have m := hi s h
      have q := S.sl i s h
      cases s with
      | un => trivial
      | d x => obtain ⟨w, e, r⟩ := q; exact ⟨w, e, r.mono bb⟩
      | ow xs => cases m
      | pl xs => cases m
      | pot n => cases m
      | ins C dx fs => cases m
      | odT xs => cases m
      | odK xs => cases m
      | fn φ q0 =>
        obtain ⟨f, c, ψ, e0, e1, e2, e3⟩ := q
        exact ⟨f, c, ψ, e0, e1, by rw [e1] at e2 ⊢; exact hx _ _ e2, hx _ _ e3⟩
    · have q := S'.sl j s (by rw [get_set_ne e]; exact h)
      rw [get_set_ne e] at q
      exact q
  dis := fun j k s t h1 h2 m1 m2 h3 => by
    have n1 : i ≠ j := fun e => by subst e; rw [hi s h1] at m1; cases m1
    have n2 : i ≠ k := fun e => by subst e; rw [hi t h2] at m2; cases m2
    exact S'.dis j k s t (by rw [get_set_ne n1]; exact h1) (by rw [get_set_ne n2]; exact h2) m1 m2 (by rw [get_set_ne n1, get_set_ne n2]; exact h3)
theorem mus_put {σ : L2.St} {i : Nat} {z : D} {v : Option V} {b : Addr} (h : Mus (ρ.set i (.d z)) (σ.set i v) b) : Mus ρ σ b := by
  rcases h with ⟨j, s, e, m, q⟩ | h
  · have n : i ≠ j := fun e2 => by
      subst e2
      obtain ⟨e3, _⟩ := set_same_of e
      rw [e3] at m; cases m
    rw [get_set_ne n] at e q
    exact .inl ⟨j, s, e, m, q⟩
  · exact .inr h
theorem ST.ext_free {P : Addr → Prop} {B0 H0 B H : Hp} {σ : L2.St} (S : ST K P B0 H0 ρ B H σ) {a : Addr} {φ : Heap → Prop} (h : H a = some (.ext φ)) : ¬ Mus ρ σ a := fun q => by
  rcases q with ⟨j, s, e, m, q⟩ | q
  · obtain ⟨w, e1, y⟩ := S.slot e
    rw [e1] at q
    cases q
    exact y.pln m _ h
  · exact S.ok.not h (ext_tbl (φ := φ)) q
/-- a new function: no more has changed than its table -/
theorem gr_keepP {P0 : Addr} {B H H1 : Hp} (le : Same B H) (ok : TbOk B H) (hP : Tb P0) (k : KeepP P0 H H1) (t : TabsN Tabl.T H1) : Gr Non B H B H1 where
  hh := fun b o n e => k.1 b o (fun z => n (z ▸ hP)) e
  bb := Same.refl _
  le := fun b o e => by
    have n : b ≠ P0 := fun z => by
      rw [z, ok.2 P0 hP] at e; cases e
    exact k.1 b o n (le b o e)
  fr := fun b o e => .inl e
  pt := fun b _ n z => n (k.2 b z)
  tp := fun _ z => z
  kp := fun z => ⟨t, z.2⟩
theorem sortK_map {α β : Type} (f : α → β) {b : Bool} {ds : List PyData} {xs : List α} : sortK b ds (xs.map f) = (sortK b ds xs).map f := by
  unfold sortK
  rw [List.zip_map_right]
  have e := PySem.W.sort_maps (r := PySem.W.dataLe b (Prod.fst (α := PyData) (β := α))) (s := PySem.W.dataLe b (Prod.fst (α := PyData) (β := β))) (Prod.map id f) (l := ds.zip xs) (fun _ _ _ _ => rfl)
  rw [← e, List.map_map, List.map_map]
  rfl
theorem ra_sortK {B : Hp} {b : Bool} {ds : List PyData} : ∀ {vs : List V} {xs : List D}, RA K B vs xs → RA K B (sortK b ds vs) (sortK b ds xs) := by
  intro vs xs h
  have key : ∀ {vs : List V} {xs : List D}, RA K B vs xs → ∃ ps : List (V × D), ps.map Prod.fst = vs ∧ ps.map Prod.snd = xs ∧ ∀ p ∈ ps, R K B p.1 p.2 := by
    intro vs xs h
    induction vs generalizing xs with
    | nil => cases h; exact ⟨[], rfl, rfl, fun p hp => nomatch hp⟩
    | cons v vs ih =>
      cases h with
      | cons h1 h2 =>
        obtain ⟨ps, e1, e2, e3⟩ := ih h2
        refine ⟨(v, _) :: ps, by rw [List.map_cons, e1], by rw [List.map_cons, e2], fun p hp => ?_⟩
        rcases List.mem_cons.mp hp with rfl | hp
        · exact h1
        · exact e3 p hp
  obtain ⟨ps, e1, e2, e3⟩ := key h
  rw [← e1, ← e2, sortK_map, sortK_map]
  have sub : ∀ p ∈ sortK b ds ps, p ∈ ps := fun p hp => by
    unfold sortK at hp
    obtain ⟨q, hq, rfl⟩ := List.mem_map.mp hp
    exact (List.of_mem_zip ((List.mergeSort_perm _ _).mem_iff.mp hq)).2
  have e4 : ∀ p ∈ sortK b ds ps, R K B p.1 p.2 := fun p hp => e3 p (sub p hp)
  generalize sortK b ds ps = qs at e4
  induction qs with
  | nil => exact .nil
  | cons q qs ih => exact .cons (e4 q List.mem_cons_self) (ih fun p hp => e4 p (List.mem_cons_of_mem _ hp))
/-- the keys of things w of a list ws -/
theorem keys_run {α : Type} {P : Addr → Prop} {B0 H0 : Hp} {σ : L2.St} {i : Nat} {C : Hp → Addr → Prop} {f : Addr} {tb : TE} {enc kw : α → D} {R' : List V → Hp → Prop} (hi : ∀ s, ρ[i]? = some s → s.mu = false)
    (hC : ∀ {B H B' H' : Hp}, Gr (Mus ρ σ) B H B' H' → ST K P B0 H0 ρ B H σ → C H f → C H' f) :
    ∀ (ws : List α) (vs : List V) (accs : List V) (accd : List D) (B H : Hp), ST K P B0 H0 ρ B H σ → C H f → RA K B vs (ws.map enc) → RA K B accs accd →
      (∀ w ∈ ws, WE K tb (ρ.set i (.d (enc w))) fun y ρ2 => y = kw w ∧ ρ2 = ρ.set i (.d (enc w))) →
      (∀ kvs B' H', ST K P B0 H0 ρ B' H' σ → Gr (Mus ρ σ) B H B' H' → RA K B' kvs (accd ++ ws.map kw) → R' kvs H') → keysR C f (fun v H Q => tb (σ.set i (some v)) H Q) vs accs H R'
  | [], vs, accs, accd, B, H, S, c, r, ra, hb, k => by
    cases r
    exact k accs B H S (Gr.refl S.le (fun _ z => .inr z)) (by rw [List.map_nil, List.append_nil]; exact ra)
  | w :: ws, vs, accs, accd, B, H, S, c, r, ra, hb, k => by
    cases r with
    | cons r1 r2 =>
      rename_i v vs
      refine ⟨c, hb w List.mem_cons_self P B0 H0 B H (σ.set i (some v)) (S.put r1) _ fun y d ρ' B' H' ⟨e1, e2⟩ S' s' r' => ?_⟩
      subst e1 e2
      have g : Gr (Mus ρ σ) B H B' H' := s'.gr.weak fun b q => mus_put q
      have S2 : ST K P B0 H0 ρ B' H' σ := S.restore S' s'.bb (fun a ψ e => g.hh a _ (S.ext_free e) e) hi
      refine keys_run hi hC ws vs (accs ++ [y]) (accd ++ [kw w]) B' H' S2 (hC g S c) (r2.mono s'.bb) ((ra.mono s'.bb).append (.cons r' .nil)) (fun w' hw' => hb w' (List.mem_cons_of_mem _ hw')) fun kvs B2 H2 S3 g2 ra3 => ?_
      exact k kvs B2 H2 S3 (g.trans g2) (by rw [List.append_assoc] at ra3; exact ra3)
theorem ra_py {B : Hp} {kvs : List V} {xs : List D} (r : RA K B kvs xs) (h : ∀ x ∈ xs, x.pl = true) : DpAll K B kvs (xs.map D.py) := by
  rw [← pys_map]
  exact RA.dp r (by rw [pls_all]; exact List.all_eq_true.mpr h)
/-- sorted(xs, key=lambda ..) -/
theorem we_sortLam {α : Type} {i : Nat} {P0 : Addr} {tb te : TE} {mk : Addr → Addr → HO} {q : Str} {F : D → List SD → Prop} (hmk : ∀ f c, ∃ φ, mk f c = .ext φ)
    (h : WE K te ρ fun x ρ1 => Tb P0 ∧ (∀ s, ρ1[i]? = some s → s.mu = false) ∧ ∃ (ws : List α) (enc kw : α → D), x.items = some (ws.map enc) ∧ (∀ w ∈ ws, WE K tb (ρ1.set i (.d (enc w))) fun y ρ2 => y = kw w ∧ ρ2 = ρ1.set i (.d (enc w))) ∧ (∀ w ∈ ws, (kw w).pl = true) ∧
      PySem.W.AllAlike (ws.map fun w => (kw w).py) ∧ PySem.W.Sortable (ws.map fun w => (kw w).py) ∧ (∀ w ∈ ws, (kw w).py.depth ≤ 60) ∧ F (.lst ((sortK false (ws.map fun w => (kw w).py) ws).map enc)) ρ1) :
    WE K (tSortK K (fun H f => ∃ c', H f = some (mk f c') ∧ H c' = some (CodeO c' q)) false (fun σ v H Q => tb (σ.set i (some v)) H Q) (tCons te tNil) (tCons (tLamE Tabl.T P0 mk q) tNil)) ρ F :=
  fun P B0 H0 B H σ S Q k => h P B0 H0 B H σ S _ fun v x ρ1 B1 H1 ⟨hP, hi, ws, enc, kw, e, hb, hpl, ha, hs, hd, f⟩ S1 s1 r1 => by
    refine ⟨S1.ok.1, fun fn c' H2 kp t2 f0 f1 c1 => ?_⟩
    have g2 := gr_keepP S1.le S1.ok hP kp t2
    have S2 := S1.step g2
    obtain ⟨p, vs, rfl, hseq, ra⟩ := r1.seq e
    refine ⟨p, vs, fn, rfl, rfl, hseq.imp (same_l S2.le) (same_t S2.le), ?_⟩
    have hC : ∀ {B H B' H' : Hp}, Gr (Mus ρ1 σ) B H B' H' → ST K P B0 H0 ρ1 B H σ → (∃ c', H fn = some (mk fn c') ∧ H c' = some (CodeO c' q)) → ∃ c', H' fn = some (mk fn c') ∧ H' c' = some (CodeO c' q) := fun {B H B' H'} g S ⟨c, e1, e2⟩ => by
      obtain ⟨φ, e3⟩ := hmk fn c
      exact ⟨c, g.hh _ _ (S.ext_free (by rw [e1, e3])) e1, g.hh _ _ (S.ext_free e2) e2⟩
    refine keys_run (ρ := ρ1) (σ := σ) (i := i) (enc := enc) (kw := kw) hi hC ws vs [] [] B1 H2 S2 ⟨c', f1, c1⟩ ra .nil hb fun kvs B3 H3 S3 g3 ra3 => ?_
    have pyl : ws.map (fun w => (kw w).py) = (ws.map kw).map D.py := by rw [List.map_map]; rfl
    have lv : vs.length = ws.length := by rw [ra.length, List.length_map]
    refine ⟨ws.map fun w => (kw w).py, ?_, by rw [List.length_map, lv], ha, hs, fun d hd' => ?_, fun r hr => ?_⟩
    · rw [pyl]
      rw [List.nil_append] at ra3
      exact ra_py (ra3.mono S3.le) (fun x hx => by obtain ⟨w, hw, rfl⟩ := List.mem_map.mp hx; exact hpl w hw)
    · obtain ⟨w, hw, rfl⟩ := List.mem_map.mp hd'
      exact hd w hw
    · have bb : Same B1 B3 := g3.bb
      have hb3 := S3.bfree hr
      have G : Gr (Mus ρ1 σ) B1 H1 B3 H3 := (g2.weak0 (fun _ z => .inr z)).trans g3
      have ra4 : RA K B3 (sortK false (ws.map fun w => (kw w).py) vs) ((sortK false (ws.map fun w => (kw w).py) ws).map enc) := by
        rw [← sortK_map]
        exact ra_sortK (ra.mono bb)
      exact k (.ref r) _ ρ1 (upd B3 r _) _ f (S3.new _ hr) (s1.trans ⟨G.trans ((Gr.refl S3.le (fun _ z => .inr z)).new hr hr), Sh.refl _⟩) (.lst upd_same (ra4.mono (same_new hb3)))
end
end Lw

set_option Elab.async false
set_option linter.all false
set_option maxRecDepth 100000
set_option maxHeartbeats 4000000
namespace Lk
open PySem PySem.Spec PyProof.Rows L2 LamX NdefX
/-! ### a def within a def -/
section
variable {X : Cx} {pins : List (Addr × Obj)} {σ : L2.St} {H : Hp} {s : Shared}
theorem def_makeN {T : List NTab} {nm : Nat → Nat → Str} {c P : Addr} {name : Str} {params : Arguments} {body : List Stmt} {scope : Scope} {pos : Pos} {E : Value → Shared → Prop} {Q : Value → Shared → Prop} (I : Inv X pins σ H s) (TB : TabB X.base X.mg c P) (hcode : X.env.code = .ref c)
    (hm : (P, nm) ∈ T) (hn : nm pos.line pos.col = X.env.qual ++ name) (hu : ∀ p ∈ T, p.1 = P → p.2 = nm) (hT : TabsN T H) (hfree : ∀ y ∈ scope.names, y.2 = .free → ∃ c, X.env.cells.lookup y.1 = some c)
    (h : ∀ (f c' : Addr) (H1 : Hp) (s' : Shared), Inv X pins σ H1 s' → KeepP P H H1 → TabsN T H1 → H f = Option.none → H1 f = some (FnO f ⟨name, X.env.qual ++ name, params, body, scope, cloFrom X.env.cells scope.names [], c'⟩) → H1 c' = some (CodeO c' (X.env.qual ++ name)) → Q (.ref f) s') :
    wpAny (model X.prog X.w) X.A (makeFunction name (X.env.qual ++ name) params (.stmts body) scope X.env [] [] [] pos pos.line) Q E s := by
  obtain ⟨ps, hP, ht, ha⟩ := (show TabN H P nm from hT _ hm)
  have bP : s.heap.BuiltinsAt X.mg P := TB.bm.keeps I.bk
  have hP' : s.heap.get? P = some { cls := .none, data := .fields ps } := I.hok P _ hP
  cases hc : codeAmong pos ps.toList with
  | none =>
    refine PySem.W.makeFunction_K (mg := X.mg) (c := c) (P := P) (ps := ps) (closure_ok hfree) I.ok.glob (I.mod.glob.keeps I.bk) hcode (TB.code.keeps I.bk) hP' ht hc TB.gP bP fun c' ctv doc h' tk hx hge hlt hrec htb => ?_
    obtain ⟨c2, oc, vs, t, e2, hoc, hd, hv⟩ := hrec
    cases e2
    have nC : H c' = none := I.hok.fresh hge
    have I1 := inv_table (t' := tk) (more := #[rawInt pos.line, rawInt pos.col, .ref c']) (h' := h') I hP (fun b o hb e => hx b o hb e) htb hge ⟨oc, vs, t, hoc, hd, hv⟩
    have K1 : ∀ b o, b ≠ P → H b = some o → upd (upd H P (.tbl (ps ++ #[rawInt pos.line, rawInt pos.col, .ref c']))) c' (CodeO c' (X.env.qual ++ name)) b = some o := fun b o n e => by
      rw [upd_ne (ne_of_none e nC), upd_ne n]
      exact e
    have eL : (ps ++ #[rawInt pos.line, rawInt pos.col, .ref c']).toList = ps.toList ++ [rawInt pos.line, rawInt pos.col, .ref c'] := by simp
    have cP : ∀ {c0 : Addr} {q : Str}, H c0 = some (CodeO c0 q) → c0 ≠ P := fun {c0 q} e z => by
      rw [z, hP] at e
      exact codeO_ne ps (Option.some.inj e).symm
    have T1 : TabsN T (upd (upd H P (.tbl (ps ++ #[rawInt pos.line, rawInt pos.col, .ref c']))) c' (CodeO c' (X.env.qual ++ name))) := fun p hp => by
      by_cases hb : p.1 = P
      · rw [hu p hp hb, hb]
        refine ⟨_, by rw [upd_ne (ne_of_none hP nC), upd_same], by rw [eL]; exact PySem.TriplesOk_snoc _ _ _ _ ht, fun p' cv hcv => ?_⟩
        rw [eL] at hcv
        rcases among_app2 _ ht hcv with z | ⟨z, z1, z2⟩
        · obtain ⟨c0, e1, e2⟩ := ha p' cv z
          exact ⟨c0, e1, K1 _ _ (cP e2) e2⟩
        · refine ⟨c', z, ?_⟩
          rw [← z1, ← z2, hn]
          exact upd_same
      · obtain ⟨ps', a1, a2, a3⟩ := hT p hp
        refine ⟨ps', by rw [upd_ne (ne_of_none a1 nC), upd_ne hb]; exact a1, a2, fun p' cv hcv => ?_⟩
        obtain ⟨c0, e1, e2⟩ := a3 p' cv hcv
        exact ⟨c0, e1, K1 _ _ (cP e2) e2⟩
    have nF := I1.hok.fresh (Nat.le_refl _)
    have I2 := inv_fn (F := ⟨name, X.env.qual ++ name, params, body, scope, cloFrom X.env.cells scope.names [], c'⟩) (t' := tk) (doc := doc) (pm := (X.mg "__name__").getD .none) (ctv := ctv) I1 rfl
    refine h h'.objs.size c' _ _ I2 ⟨fun b o n e => ?_, fun b e => upd_none (upd_none (upd_none e))⟩ (T1.ext fun b o e => ?_) (I.hok.fresh (Nat.le_trans hge (Nat.le_of_lt hlt))) upd_same ?_
    · have e1 := K1 b o n e
      exact (upd_ne (ne_of_none e1 nF)).trans e1
    · exact (upd_ne (ne_of_none e nF)).trans e
    · exact (upd_ne (Nat.ne_of_lt hlt)).trans upd_same
  | some cv =>
    obtain ⟨c', e, hco⟩ := ha pos cv hc
    subst e
    rw [hn] at hco
    refine PySem.W.makeFunction_hit (mg := X.mg) (c := c) (P := P) (ps := ps) (closure_ok hfree) I.ok.glob (I.mod.glob.keeps I.bk) hcode (TB.code.keeps I.bk) hP' ht hc bP fun ctv doc h' tk hx hsz => ?_
    have I1 : Inv X pins σ H { s with heap := h', toks := tk } := I.kept hx
    have nF : H h'.objs.size = none := I1.hok.fresh (Nat.le_refl _)
    have I2 := inv_fn (F := ⟨name, X.env.qual ++ name, params, body, scope, cloFrom X.env.cells scope.names [], c'⟩) (t' := tk) (doc := doc) (pm := (X.mg "__name__").getD .none) (ctv := ctv) I1 rfl
    refine h h'.objs.size c' _ _ I2 ⟨fun b o n e => ?_, fun b e => upd_none e⟩ (hT.ext fun b o e => ?_) nF upd_same ?_
    · exact (upd_ne (ne_of_none e nF)).trans e
    · exact (upd_ne (ne_of_none e nF)).trans e
    · exact (upd_ne (ne_of_none hco nF)).trans hco
end
/-- the reading of a def statement in a def -/
def tNdefP (T : List NTab) (P : Addr) (i : Nat) (mk : Addr → NF) : TS := fun D σ H => TabsN T H ∧ ∀ (f c' : Addr) (H1 : Hp), KeepP P H H1 → TabsN T H1 → H f = none → H1 f = some (FnO f (mk c')) → H1 c' = some (CodeO c' (mk c').qual) → D.nx (σ.set i (some (.ref f))) H1
theorem ps_ndefP {X : Cx} {T : List NTab} {nm : Nat → Nat → Str} {c P : Addr} {name : Str} {params : Arguments} {body : List Stmt} {scope : Scope} {pos : Pos} {i : Nat} (TB : TabB X.base X.mg c P) (hcode : X.env.code = .ref c) (hm : (P, nm) ∈ T) (hn : nm pos.line pos.col = X.env.qual ++ name) (hu : ∀ p ∈ T, p.1 = P → p.2 = nm)
    (hfree : ∀ y ∈ scope.names, y.2 = .free → X.env.scope.names.lookup y.1 = some .cell ∨ X.env.scope.names.lookup y.1 = some .free) (hd0 : params.defaults = []) (hk0 : params.kw_defaults = []) (ha : annTrees params none X.env = [])
    (hN : X.N.Nodup) (hi : X.N[i]? = some name) (hx : Loc X.env.scope name) (hf : X.fn name = true ∨ X.env.scope.names.lookup name = some .local) :
    PS X (.FunctionDef name params body [] none [] scope none name pos) (tNdefP T P i fun c' => ⟨name, X.env.qual ++ name, params, body, scope, cloFrom X.env.cells scope.names [], c'⟩) := by
  refine ⟨fun pins s σ H D I h => ?_⟩
  obtain ⟨hT, h⟩ := h
  have hq : qualnameIn X.env name name = X.env.qual ++ name := by
    have hk : X.env.kindOf name = some .local ∨ X.env.kindOf name = some .cell := hx
    unfold qualnameIn
    rcases hk with k | k <;> rw [k] <;> first | rfl | exact if_neg (by decide)
  refine PySem.W.nestDef_K hd0 hk0 ha ?_
  rw [hq]
  have hfr : ∀ y ∈ scope.names, y.2 = .free → ∃ c, X.env.cells.lookup y.1 = some c := fun y hy e => (hfree y hy e).elim (fun z => I.ok.has _ (.inl z)) fun z => I.ok.has _ (.inr z)
  refine def_makeN I TB hcode hm hn hu hT hfr fun f c' H1 s' I1 kp T1 f0 f1 c1 => ?_
  exact store_ok I1 hN hi hx (v := .ref f) rfl (fun s'' J => ⟨_, H1, J, h f c' H1 kp T1 f0 f1 c1⟩) hf
/-- its call, as a key -/
theorem kc_def {X : Cx} {k : Nat} {ps fr : List Str} {js : List Nat} {mk : Addr → NF} {q : Str} {sp : List (Option V) → Sp} {σ : L2.St} (hc : ∀ c, (mk c).c = c) (hq : ∀ c, (mk c).qual = q) (NO : ∀ f c, NOk X.prog X.w X.K X.mg X.base L2.CX0 k f (mk c) ps fr sp)
    (Cp : X.Ok → ∀ c, Caps X (mk c).cl fr js) : KCall X k (fun H f => ∃ c', H f = some (FnO f (mk c')) ∧ H c' = some (CodeO c' q)) σ (fun v H Q => sp (js.map (slotAt σ)) [v] H Q E0) := by
  intro pins s H f v u Q A hr hA I hC rv h
  obtain ⟨c', hf, hcc⟩ := hC
  have e0 : Env0 X.prog X.w X.K X.mg X.base A X.stack s H := by
    have e := I.env0
    exact ⟨hA.trans e.frames, e.mod, e.bs, e.bsz, e.funs, e.frf, e.hok, e.bare⟩
  refine wpAny_call (codeAny_mono ((NO f c').run A X.stack s H [u] [v] (js.map (slotAt σ)) Q E0 hr e0 hf (by rw [hc, hq]; exact hcc) (cells_of I (Cp I.ok c')) (.cons rv .nil) h) fun r s2 hq => ?_)
  cases r with
  | error e => exact (show False from hq).elim
  | ok fl =>
    cases fl with
    | ret u => exact hq
    | next => exact False.elim hq
    | brk => exact False.elim hq
    | cont => exact False.elim hq
end Lk

set_option Elab.async false
set_option linter.all false
set_option maxRecDepth 100000
set_option maxHeartbeats 4000000
namespace Lw
open PySem PySem.Spec PyProof.Rows L2 LamX NdefX Lk
variable [Tabl] [Exn]
/-! ### a def within a def, that changes nothing: S tells of the captured data and of the arguments -/
def Capt (K : Fg) (B : Hp) (ws : List (Option V)) (cs : List (Option D)) : Prop := ws.length = cs.length ∧ ∀ (m : Nat) d, cs[m]? = some (some d) → ∃ v, ws[m]? = some (some v) ∧ R K B v d
def pureNSp (K : Fg) (n : Nat) (S : List (Option D) → List D → (D → Prop) → Prop) : List (Option V) → Sp := fun ws vs H Q _ =>
  ∃ B ds cs F, Same B H ∧ TbOk B H ∧ RA K B vs ds ∧ ds.length = n ∧ Capt K B ws cs ∧ S cs ds F ∧ ∀ v d B' H', F d → Gr Non B H B' H' → R K B' v d → Q v H'
def capD : Option D → SD
  | some d => .d d
  | none => .un
def rhoN (N : List Str) (ds : List D) (cs : List (Option D)) : List SD := ds.map .d ++ (cs.map capD ++ List.replicate (N.length - ds.length - cs.length) .un)
theorem rhoN_get {N : List Str} {ds : List D} {cs : List (Option D)} {i : Nat} {s : SD} (h : (rhoN N ds cs)[i]? = some s) : (∃ d, ds[i]? = some d ∧ s = .d d) ∨ (∃ m d, i = ds.length + m ∧ cs[m]? = some (some d) ∧ s = .d d) ∨ s = .un := by
  unfold rhoN at h
  by_cases hi : i < ds.length
  · rw [List.getElem?_append_left (by simpa using hi), List.getElem?_map] at h
    left
    cases e : ds[i]? with
    | none => rw [e] at h; cases h
    | some d => rw [e] at h; exact ⟨d, rfl, (Option.some.inj h).symm⟩
  · rw [List.getElem?_append_right (by simpa using hi), List.length_map] at h
    right
    by_cases hj : i - ds.length < cs.length
    · rw [List.getElem?_append_left (by simpa using hj), List.getElem?_map] at h
      cases e : cs[i - ds.length]? with
      | none => rw [e] at h; cases h
      | some o =>
        rw [e] at h
        cases o with
        | none => exact .inr (Option.some.inj h).symm
        | some d => exact .inl ⟨i - ds.length, d, by omega, e, (Option.some.inj h).symm⟩
    · rw [List.getElem?_append_right (by simpa using hj), List.getElem?_replicate] at h
      split at h
      · exact .inr (Option.some.inj h).symm
      · cases h
theorem st_startN {K : Fg} {N : List Str} {B H : Hp} {vs : List V} {ds : List D} {ws : List (Option V)} {cs : List (Option D)} (hx : ExOk K Non B H) (s : Same B H) (tk : TbOk B H) (r : RA K B vs ds) (c : Capt K B ws cs) (hl : ds.length + cs.length ≤ N.length) : ST K Non B H (rhoN N ds cs) B H (startF N vs ws) where
  len := by
    unfold startF rhoN
    simp only [List.length_append, List.length_map, List.length_replicate]
    rw [r.length, c.1]
  gr := Gr.refl s
  ok := tk
  ex := hx
  sl := fun i z h => by
    rcases rhoN_get h with ⟨d, e, rfl⟩ | ⟨m, d, e0, e, rfl⟩ | rfl
    · obtain ⟨v, e1, r1⟩ := r.get e
      refine ⟨v, ?_, r1⟩
      unfold startF
      rw [List.getElem?_append_left (by rw [List.length_map]; exact (List.getElem?_eq_some_iff.mp e1).1), List.getElem?_map, e1]
      rfl
    · obtain ⟨v, e1, r1⟩ := c.2 m d e
      refine ⟨v, ?_, r1⟩
      unfold startF
      have hm := (List.getElem?_eq_some_iff.mp e1).1
      rw [e0, List.getElem?_append_right (by rw [List.length_map, r.length]; omega), List.length_map, r.length, Nat.add_sub_cancel_left, List.getElem?_append_left hm, e1]
      rfl
    · trivial
  dis := fun i j s t h1 h2 m1 => by
    rcases rhoN_get h1 with ⟨d, e, q⟩ | ⟨m, d, e0, e, q⟩ | q <;> (subst q; cases m1)
section
variable {P : Program} {w : World} {K : Fg} {mg : Str → Option Value} {base : Heap}
omit [Exn] in
theorem nok_pure {N ps fr : List Str} {F : NF} {f : Addr} {k n : Nat} {S : List (Option D) → List D → (D → Prop) → Prop} (sc : NScope N ps fr F.scope) (hbA : ∀ (doc pm ctv : Value) (us : List Value), us.length = ps.length → bindArgs (F.fd doc pm ctv) ⟨us, []⟩ = pure (ps.zip us)) (hn : n = ps.length) (hN : n + fr.length ≤ N.length)
    (hb : ∀ (A : Around) (outer : List Env) (s : Shared) (H : Hp) (E : XK), Room k (A.deeper (envF F f s.heap.objs.size)) →
      ∃ t, PSs (ncx L2.CX0 P w K mg base N F f A outer s H E) F.body t ∧ ∀ cs ds G, cs.length = fr.length → ds.length = n → S cs ds G → ∀ [Exn], WS K t (rhoN N ds cs) (outP G)) :
    NOk P w K mg base L2.CX0 (k + 1) f F ps fr (pureNSp K n S) := by
  refine nok_of sc hbA (fun ws vs H Q E h => ?_) (fun A outer s H vs ws Q E hr hf hc hw h => ?_)
  · obtain ⟨B, ds, cs, G, h1, _, h2, h3, _⟩ := h
    rw [h2.length, h3, hn]
  · obtain ⟨t, hp, hwS⟩ := hb A outer s H E hr
    refine ⟨t, hp, ?_⟩
    obtain ⟨B, ds, cs, G, h1, tk, h2, h3, h4, h5, h6⟩ := h
    letI := exn0
    refine hwS cs ds G (by rw [← h4.1]; exact hw) h3 h5 Non B H B H (startF N vs ws) (st_startN exOk0 h1 tk h2 h4 (by rw [h3, ← h4.1, hw]; exact hN)) _ (fun ρ' B' H' σ' f S' s' => ?_) (fun v d ρ' B' H' σ' f S' s' r => ?_) (fun _ _ _ _ z => z.elim) (fun _ _ _ _ z => z.elim)
    · exact h6 _ _ B' H' f S'.gr .non
    · exact h6 v d B' H' f S'.gr r
end
section
variable {K : Fg} {ρ : List SD}
/-- def name(..): .. -/
theorem ws_ndef {P0 : Addr} {i : Nat} {mk : Addr → NF} {q : Str} {E : Out} (hq : ∀ c, (mk c).qual = q) (hP : Tb P0) (h : E.nx (ρ.set i (.fn (fun f c => FnO f (mk c)) q))) : WS K (tNdefP Tabl.T P0 i mk) ρ E :=
  fun P B0 H0 B H σ S D k1 k2 k3 k4 => by
    refine ⟨S.ok.1, fun f c' H1 kp t1 f0 f1 c1 => ?_⟩
    have g := gr_keepP S.le S.ok hP kp t1
    have S1 := S.step g
    rw [hq] at c1
    refine k1 _ B H1 _ h ⟨by rw [List.length_set, List.length_set, S1.len], S1.gr, fun j s e => ?_, fun j l s t h1 h2 m1 m2 h3 => ?_, S1.ok, S1.ex⟩ (Same.refl _)
    · by_cases n : i = j
      · subst n
        obtain ⟨e2, hi⟩ := set_same_of e
        subst e2
        rw [List.getElem?_set_self (by rw [S1.len]; exact hi)]
        exact ⟨f, c', _, rfl, rfl, f1, c1⟩
      · rw [get_set_ne n] at e
        rw [get_set_ne n]
        exact S1.sl j s e
    · have n1 : i ≠ j := fun e => by
        subst e
        obtain ⟨e2, _⟩ := set_same_of h1
        rw [e2] at m1; cases m1
      have n2 : i ≠ l := fun e => by
        subst e
        obtain ⟨e2, _⟩ := set_same_of h2
        rw [e2] at m2; cases m2
      rw [get_set_ne n1] at h1 h3
      rw [get_set_ne n2] at h2 h3
      exact S1.dis j l s t h1 h2 m1 m2 h3
/-- the keys of things w of a list ws, by a def -/
theorem keys_def {α : Type} {P : Addr → Prop} {B0 H0 : Hp} {σ : L2.St} {js : List Nat} {cs : List (Option D)} {C : Hp → Addr → Prop} {f : Addr} {S0 : List (Option D) → List D → (D → Prop) → Prop} {enc kw : α → D} {R' : List V → Hp → Prop}
    (hC : ∀ {B H B' H' : Hp}, Gr (Mus ρ σ) B H B' H' → ST K P B0 H0 ρ B H σ → C H f → C H' f) (hl : js.length = cs.length) (hcs : ∀ (m : Nat) d, cs[m]? = some (some d) → ∃ j, js[m]? = some j ∧ ρ[j]? = some (.d d)) :
    ∀ (ws : List α) (vs : List V) (accs : List V) (accd : List D) (B H : Hp), ST K P B0 H0 ρ B H σ → C H f → RA K B vs (ws.map enc) → RA K B accs accd →
      (∀ w ∈ ws, S0 cs [enc w] fun y => y = kw w) →
      (∀ kvs B' H', ST K P B0 H0 ρ B' H' σ → Gr (Mus ρ σ) B H B' H' → RA K B' kvs (accd ++ ws.map kw) → R' kvs H') → keysR C f (fun v H Q => pureNSp K 1 S0 (js.map (slotAt σ)) [v] H Q E0) vs accs H R'
  | [], vs, accs, accd, B, H, S, c, r, ra, hb, k => by
    cases r
    exact k accs B H S (Gr.refl S.le (fun _ z => .inr z)) (by rw [List.map_nil, List.append_nil]; exact ra)
  | w :: ws, vs, accs, accd, B, H, S, c, r, ra, hb, k => by
    cases r with
    | cons r1 r2 =>
      rename_i v vs
      have cap : Capt K B (js.map (slotAt σ)) cs := ⟨by rw [List.length_map]; exact hl, fun m d e => by
        obtain ⟨j, e1, e2⟩ := hcs m d e
        obtain ⟨u, e3, r3⟩ := S.var e2
        exact ⟨u, by rw [List.getElem?_map, e1]; exact congrArg some (slotAt_of e3), r3⟩⟩
      refine ⟨c, B, [enc w], cs, _, S.le, S.ok, .cons r1 .nil, rfl, cap, hb w List.mem_cons_self, fun y d B' H' e g r' => ?_⟩
      subst e
      have g' : Gr (Mus ρ σ) B H B' H' := g.weak0 (fun _ z => .inr z)
      refine keys_def hC hl hcs ws vs (accs ++ [y]) (accd ++ [kw w]) B' H' (S.step g) (hC g' S c) (r2.mono g.bb) ((ra.mono g.bb).append (.cons r' .nil)) (fun w' hw' => hb w' (List.mem_cons_of_mem _ hw')) fun kvs B2 H2 S3 g2 ra3 => ?_
      exact k kvs B2 H2 S3 (g'.trans g2) (by rw [List.append_assoc] at ra3; exact ra3)
/-- sorted(xs, key=name), the name a def's -/
theorem we_sortDef {α : Type} {i : Nat} {js : List Nat} {φ : Addr → Addr → HO} {q : Str} {te : TE} {S0 : List (Option D) → List D → (D → Prop) → Prop} {F : D → List SD → Prop}
    (h : WE K te ρ fun x ρ1 => ρ1[i]? = some (.fn φ q) ∧ ∃ (ws : List α) (enc kw : α → D) (cs : List (Option D)), x.items = some (ws.map enc) ∧ js.length = cs.length ∧ (∀ (m : Nat) d, cs[m]? = some (some d) → ∃ j, js[m]? = some j ∧ ρ1[j]? = some (.d d)) ∧
      (∀ w ∈ ws, S0 cs [enc w] fun y => y = kw w) ∧ (∀ w ∈ ws, (kw w).pl = true) ∧
      PySem.W.AllAlike (ws.map fun w => (kw w).py) ∧ PySem.W.Sortable (ws.map fun w => (kw w).py) ∧ (∀ w ∈ ws, (kw w).py.depth ≤ 60) ∧ F (.lst ((sortK false (ws.map fun w => (kw w).py) ws).map enc)) ρ1) :
    WE K (tSortK K (fun H f => ∃ c', H f = some (φ f c') ∧ H c' = some (CodeO c' q)) false (fun σ v H Q => pureNSp K 1 S0 (js.map (slotAt σ)) [v] H Q E0) (tCons te tNil) (tCons (tVar i) tNil)) ρ F :=
  fun P B0 H0 B H σ S Q k => h P B0 H0 B H σ S _ fun v x ρ1 B1 H1 ⟨hi, ws, enc, kw, cs, e, hl, hcs, hb, hpl, ha, hs, hd, f⟩ S1 s1 r1 => by
    obtain ⟨o, e0, fn, c', ψ, rfl, eψ, f1, c1⟩ := S1.slot hi
    refine ⟨.ref fn, e0, ?_⟩
    obtain ⟨p, vs, rfl, hseq, ra⟩ := r1.seq e
    refine ⟨p, vs, fn, rfl, rfl, hseq.imp (same_l S1.le) (same_t S1.le), ?_⟩
    have hC : ∀ {B H B' H' : Hp}, Gr (Mus ρ1 σ) B H B' H' → ST K P B0 H0 ρ1 B H σ → (H fn = some (φ fn c') ∧ H c' = some (CodeO c' q)) → (H' fn = some (φ fn c') ∧ H' c' = some (CodeO c' q)) := fun {B H B' H'} g S ⟨e1, e2⟩ =>
      ⟨g.hh _ _ (S.ext_free (by rw [e1, eψ])) e1, g.hh _ _ (S.ext_free e2) e2⟩
    have wk : ∀ {xs acc : List V} {H : Hp} {R : List V → Hp → Prop}, keysR (fun H f => H f = some (φ f c') ∧ H c' = some (CodeO c' q)) fn (fun v H Q => pureNSp K 1 S0 (js.map (slotAt σ)) [v] H Q E0) xs acc H R → keysR (fun H f => ∃ c', H f = some (φ f c') ∧ H c' = some (CodeO c' q)) fn (fun v H Q => pureNSp K 1 S0 (js.map (slotAt σ)) [v] H Q E0) xs acc H R := by
      intro xs
      induction xs with
      | nil => exact fun h => h
      | cons x xs ih =>
        intro acc H R h
        obtain ⟨h1, B, ds, cs, F, a1, a2, a3, a4, a5, a6, a7⟩ := h
        exact ⟨⟨c', h1⟩, B, ds, cs, F, a1, a2, a3, a4, a5, a6, fun v d B' H' f g r => ih (a7 v d B' H' f g r)⟩
    refine wk (keys_def (ρ := ρ1) (σ := σ) (enc := enc) (kw := kw) hC hl hcs ws vs [] [] B1 H1 S1 ⟨f1, c1⟩ ra .nil hb fun kvs B3 H3 S3 g3 ra3 => ?_)
    have pyl : ws.map (fun w => (kw w).py) = (ws.map kw).map D.py := by rw [List.map_map]; rfl
    have lv : vs.length = ws.length := by rw [ra.length, List.length_map]
    refine ⟨ws.map fun w => (kw w).py, ?_, by rw [List.length_map, lv], ha, hs, fun d hd' => ?_, fun r hr => ?_⟩
    · rw [pyl]
      rw [List.nil_append] at ra3
      exact ra_py (ra3.mono S3.le) (fun x hx => by obtain ⟨w, hw, rfl⟩ := List.mem_map.mp hx; exact hpl w hw)
    · obtain ⟨w, hw, rfl⟩ := List.mem_map.mp hd'
      exact hd w hw
    · have bb : Same B1 B3 := g3.bb
      have hb3 := S3.bfree hr
      have ra4 : RA K B3 (sortK false (ws.map fun w => (kw w).py) vs) ((sortK false (ws.map fun w => (kw w).py) ws).map enc) := by
        rw [← sortK_map]
        exact ra_sortK (ra.mono bb)
      exact k (.ref r) _ ρ1 (upd B3 r _) _ f (S3.new _ hr) (s1.trans ⟨g3.trans ((Gr.refl S3.le (fun _ z => .inr z)).new hr hr), Sh.refl _⟩) (.lst upd_same (ra4.mono (same_new hb3)))
end
end Lw

set_option Elab.async false
set_option linter.all false
set_option maxRecDepth 100000
set_option maxHeartbeats 4000000
namespace Lx
open PySem PySem.Spec PyProof.Rows L2 PySem.W
/-! ### an own exception class whose __init__ says super().__init__(value); self.value = value -/
/-- what the written part says of a class C of errors, D the class that has the __init__ -/
structure SupC (K : Frag) (C D : Addr) : Prop where
  ox : OexC K C
  no : findIn K (.ref C) "value" = some none
  mro : mroIn K C (.ref D) = some true
  sup : ks_superIn K C D "__init__" = some (some (.builtin "ValueError.__init__"))
  sub : subIn K (.ref C) (.type "ValueError") = some true
  tp : nsIn K cStatics "thirdparty.any" = some none
def excInitSp (K : Frag) (D : Addr) : Sp := fun vs H Q _ => ∃ (a C : Addr) (y : V), vs = [.ref a, y] ∧ H a = some (exo a C none) ∧ SupC K C D ∧
  ∀ dx, H dx = none → dx ≠ a → Q .non (upd (upd H dx (exd dx [("value", y)])) a (exo a C (some dx)))
def cxS (P : Program) (w : World) (K : Frag) (mg : Str → Option Value) (base : Heap) (qual : Str) (scope : Scope) (f cda cc : Addr) (A : Around) (outer : List Env) (s : Shared) (H : Hp) : Cx where
  prog := P
  w := w
  K := K
  mg := mg
  base := base
  A := A.deeper (ksEnv qual scope s.heap.objs.size f (.ref cda) cc)
  N := ["self", "value"]
  s_0 := s
  H_0 := H
  env := ksEnv qual scope s.heap.objs.size f (.ref cda) cc
  outer := outer
  stack := ksEnv qual scope s.heap.objs.size f (.ref cda) cc :: outer
  ex := []
  fn := fun _ => false
  calm := true
  pn := []
  xe := fun _ _ => False
structure SupS (scope : Scope) : Prop where
  kind : scope.kind = .function
  co : scope.isCoroutine = false
  gen : scope.isGenerator = false
  nocell : ∀ x ∈ scope.names, x.2 ≠ .cell
  free : ∀ x ∈ scope.names, x.2 = .free → x.1 = "__class__"
  self : scope.names.lookup ("self" : Str) = some .local
  value : scope.names.lookup ("value" : Str) = some .local
  sup : scope.names.lookup ("super" : Str) = some .globalImplicit
  cls : scope.names.lookup ("__class__" : Str) = some .free
section
variable {P : Program} {w : World} {K : Frag} {mg : Str → Option Value} {base : Heap} {A : Around} {outer : List Env} {s : Shared} {H : Hp} {qual : Str} {scope : Scope} {f cda cc a C D : Addr} {y : V} {u : Value}
theorem inv_startS {h3 : Heap} {t1 : Addr} {g : Array GenState} {dr : Drawn} {tk : Nat} {cl : Value} {cld : Option Addr} {csl : Array (Option Value)} (S : SupS scope) (e0 : Env0 P w K mg base A outer s H) (hd : A.handled = none) (ha : H a = some (exo a C none)) (rv : RelV y u)
    (hcell : K.lookup cc = some ⟨cl, cld, .cell (some (.ref D)), csl⟩)
    (hns : h3.Ns s.heap.objs.size fun x => ([("self", Value.ref a), ("value", u)] : List (Str × Value)).reverse.lookup x) (kp : ∀ b o, b ≠ a → s.heap.get? b = some o → h3.get? b = some o)
    (hx : h3.get? a = some ({ cls := .ref C, dict := none, data := .fields #[.ref t1, .none, .none, .none, .bool false, .none] } : Obj)) (hb : AllBare g) :
    Inv (cxS P w K mg base qual scope f cda cc A outer s H) [] [some (.ref a), some y] H ⟨h3, g, dr, tk, s.os⟩ := by
  have mu : Mut (H a) := by rw [ha]; exact True.intro
  have eu : upd H a (exo a C none) = H := by
    funext b
    by_cases hb : b = a
    · rw [hb, upd_same, ha]
    · rw [upd_ne hb]
  have un : Un (frs outer) [] H H s.heap h3 := by
    have z := Un.write (fs := frs outer) (ex := []) (o := exo a C none) mu (.inl rfl) kp ⟨_, hx⟩
    rwa [eu] at z
  have ok3 : HOk P w H h3 := by
    have z := e0.hok.write (o' := exo a C none) mu (.inl rfl) kp ⟨_, hx⟩ (by rw [eu]; exact exo_ok hx)
    rwa [eu] at z
  have ccb := e0.mod.kin _ _ hcell
  obtain ⟨ccs, ccn⟩ := e0.bs _ _ ccb
  have cca : cc ≠ a := fun z => by rw [z, ha] at ccn; cases ccn
  have cc3 : h3.IsCell cc (some (.ref D)) := ⟨_, kp _ _ cca ccs, rfl⟩
  have lk : ∀ {x : Str} {c : Addr}, ([("__class__", cc)] : List (Str × Addr)).lookup x = some c → x = "__class__" ∧ c = cc := fun {x c} h => by
    simp only [List.lookup] at h
    split at h
    · rename_i e
      cases h
      exact ⟨by simpa using e, rfl⟩
    · cases h
  have noA : ∀ b : Addr, b ∉ (cxS P w K mg base qual scope f cda cc A outer s H).ex := fun b z => absurd (show b ∈ ([] : List Addr) from z) (by simp)
  refine ⟨⟨e0.mod, S.kind, rfl, rfl, Nat.le_refl _, fun x z c h1 h2 => ?_, fun x hx => ?_, fun x c z _ => ?_, fun _ => hd, Around.frames_deeper e0.frames, .inr ⟨rfl, rfl⟩, fun b z => absurd z (noA b), e0.bs, e0.bsz, fun b _ _ => noA b,
      fun b z => absurd z (noA b), e0.funs, e0.frf⟩,
    rfl, hb, un, ⟨_, hns, fun i x v e1 e2 e3 => ?_⟩, fun x c e => ?_, e0.hok.fresh (Nat.le_refl _), fun x c e => ?_, fun q hq => absurd (show q ∈ ([] : List (Addr × Obj)) ++ [] from hq) (by simp), ok3, rfl⟩
  · exact (lk h1).1.trans (lk h2).1.symm
  · have hx : scope.names.lookup x = some .cell ∨ scope.names.lookup x = some .free := hx
    rcases hx with hx | hx
    · exact absurd rfl (S.nocell _ (PySem.mem_of_lookup hx))
    · have e := S.free _ (PySem.mem_of_lookup hx) rfl
      have e : x = "__class__" := e
      subst e
      exact ⟨cc, rfl⟩
  · have z : false = true := z
    cases z
  · have e1 : (["self", "value"] : List Str)[i]? = some x := e1
    have e2 : ([some (.ref a), some y] : List (Option V))[i]? = some (some v) := e2
    match i, e1, e2 with
    | 0, e1, e2 =>
      cases e1
      cases e2
      exact ⟨.ref a, rfl, .inl ⟨S.self, by first | rfl | kernel_rfl | simp [List.lookup]⟩⟩
    | 1, e1, e2 =>
      cases e1
      cases e2
      exact ⟨u, rv, .inl ⟨S.value, by first | rfl | kernel_rfl | simp [List.lookup]⟩⟩
    | i + 2, e1, e2 => simp at e1
  · obtain ⟨_, e⟩ := lk e
    subst e
    exact ⟨_, cc3⟩
  · obtain ⟨_, e⟩ := lk e
    subst e
    exact ccn
/-- what the written part says of the def: its closure's cell holds D, its file is the program's -/
structure SupF (P : Program) (K : Frag) (D fI : Addr) (params : Arguments) (body : List Stmt) (scope : Scope) (fd : FuncData) : Prop where
  ex : ∃ (name qual : Str) (kV doc pm ct oc : Value) (cda cc : Addr) (an od : Option Addr) (osl : Array (Option Value)) (cl ccl : Value) (cld cdd : Option Addr) (csl ccs : Array (Option Value)) (vs : Array Value) (file : Str) (tf : Tok) (cdD : ClassData),
    K.lookup fI = some ⟨oc, od, .func (ksFn name qual params body scope .none kV doc pm an (.ref cda) ct cc), osl⟩ ∧ fd = ksFn name qual params body scope .none kV doc pm an (.ref cda) ct cc ∧ codeIn K (.ref cda) qual = true ∧ K.lookup cc = some ⟨cl, cld, .cell (some (.ref D)), csl⟩ ∧
    K.lookup cda = some ⟨ccl, cdd, .fields vs, ccs⟩ ∧ vs[2]? = some (.str file tf) ∧ ((P.main.file : Str) == file) = true ∧ clsIn K D = some cdD
  par : ∃ ar, (params.posonlyargs ++ params.args).head? = some ar ∧ ar.arg = "self"
  top : (P.main.scope.names.lookup ("super" : Str)).isSome = false
theorem fn_super {k : Nat} {fI : Addr} {fd : FuncData} {params : Arguments} {p0 p1 p2 p3 p4 p5 p6 p7 p8 p9 : Pos} {pl : Sem Bool} (S : SupS scope) (hsup : mg "super" = none)
    (FF : SupF P K D fI params [.Expr (.Call (.Attribute (.Call (.Name "super" p0) [] [] p1) "__init__" p2) [.Name "value" p3] [] p4) p5, .Assign [.Attribute (.Name "self" p6) "value" p7] (.Name "value" p8) p9] scope fd)
    (he : ∀ env : Env, eval (.Call (.Attribute (.Call (.Name "super" p0) [] [] p1) "__init__" p2) [.Name "value" p3] [] p4) env = (do
        let ov ← attributeBase (.Call (.Name "super" p0) [] [] p1) "__init__" env (eval (.Call (.Name "super" p0) [] [] p1) env)
        standAt p2.atName
        let (f, first) ← holding [ov] (getMethod ov "__init__" pl)
        callWith p4 f first (backTo p4 (starEach [.Name "value" p3] env)) []))
    (hi : ∀ (q : Str) (L f : Addr) (cd : Value) (cc : Addr), interactive (ksEnv q scope L f cd cc) = false) (hs1 : ∀ env : Env, swapsWith (.Call (.Attribute (.Call (.Name "super" p0) [] [] p1) "__init__" p2) [.Name "value" p3] [] p4) none p5.line env = pure false)
    (hs2 : ∀ env : Env, swapsWith (.Name "value" p8) (some (.Attribute (.Name "self" p6) "value" p7)) p9.line env = pure false)
    (hst : ∀ env : Env, starEach [.Name "value" p3] env = (false, eval (.Name "value" p3) env) :: starEach [] env) (hpl : ∀ env : Env, (backTo p4 (starEach [] env)).any (·.1) = false) :
    FnOk P w K mg base CX0 (k + 1) fI fd ["self", "value"] (excInitSp K D) := by
  obtain ⟨name, qual, kV, doc, pm, ct, oc, cda, cc, an, od, osl, cl, ccl, cld, cdd, csl, ccs, vs, file, tf, cdD, lk, rfl, hcd, hcell, hcode, hvs, hfile, hD⟩ := FF.ex
  obtain ⟨ar, hp, har⟩ := FF.par
  refine ⟨fun ws H Q E h => ?_, fun A outer s H args us ws Q E hr e0 hb r hsp => ?_⟩
  · obtain ⟨a, C, y, rfl, _⟩ := h
    rfl
  obtain ⟨a, C, y, rfl, ha, T, hq⟩ := hsp
  obtain ⟨u1, u2, rfl, r1, rv⟩ := vals2 r
  cases (show u1 = Value.ref a from r1)
  have KX : K.In s.heap := e0.mod.kin.keeps fun b o e => (e0.bs b o e).1
  have lim : s.heap.NoLimit := e0.mod.nolimit.keeps fun b o e => (e0.bs b o e).1
  obtain ⟨t1, hoa⟩ := exo_at e0.hok ha
  obtain ⟨hp0, g, dr, tk, os⟩ := s
  have la : a < hp0.objs.size := Heap.lt_size hoa
  refine ks_codeAny_call_defAt (fd := ksFn name qual params _ scope .none kV doc pm an (.ref cda) ct cc) (binds := [("self", .ref a), ("value", u2)]) hr.depth (KX _ _ lk) rfl lim (codeRec_of KX hcd) rfl hb S.nocell (fun x hx => ?_) (fun h₁ hns kp => ?_) S.co S.gen S.kind
  · rcases List.mem_cons.mp hx with e | hx
    · rw [e]; exact S.self
    · rw [List.mem_singleton.mp hx]; exact S.value
  have hx1 : h₁.get? a = some (excObj C t1 none .none) := kp _ _ hoa
  -- the heap without the exception
  have hbase : ∀ b o, base.get? b = some o → b ≠ a := fun b o e z => by
    have q := (e0.bs b o e).2
    rw [z, ha] at q
    cases q
  have kb : ∀ b o, base.get? b = some o → (hideAll hp0 [a]).get? b = some o := fun b o e => hideAll_get _ (e0.bs b o e).1 (by simpa using hbase b o e)
  have X₀ : K.In (hideAll hp0 [a]) := e0.mod.kin.keeps kb
  have hid : ∀ {b o}, (hideAll hp0 [a]).get? b = some o → hp0.get? b = some o := fun {b o} e => of_hideAll _ e
  have F0 : Fr (hideAll hp0 [a]) hp0.objs.size h₁ (fun x => ([("self", Value.ref a), ("value", u2)] : List (Str × Value)).reverse.lookup x) := ⟨hns, fun b o e => kp b o (hid e), Nat.le_of_eq (hideAll_size _ _)⟩
  have N0 : News (hideAll hp0 [a]) hp0.objs.size h₁ [(a, excObj C t1 none .none)] := fun p hp => by
    rw [List.mem_singleton.mp hp]
    exact ⟨hx1, Nat.ne_of_lt la, hideAll_none _ (by simp)⟩
  have X1 : K.In h₁ := X₀.keeps F0.keep
  obtain ⟨oD, hD1, hD2⟩ : ∃ oD, h₁.get? D = some oD ∧ oD.data = .cls cdD := by
    unfold clsIn at hD
    split at hD
    · rename_i c d cd' sl ho
      cases hD
      exact ⟨_, X1 _ _ ho, rfl⟩
    · cases hD
  obtain ⟨mb, hb1, hb2⟩ := e0.mod.blt
  have kb1 : ∀ b o, base.get? b = some o → h₁.get? b = some o := fun b o e => kp b o (e0.bs b o e).1
  refine ks_wpAt_execs_cons (ks_wpAt_Expr_any (ks_wpAt_MethodCall (pl := pl) ?_ (he _)) (hi _ _ _ _ _) (hs1 _))
  refine ks_wpAt_super_base (env := ksEnv qual scope hp0.objs.size fI (.ref cda) cc) S.sup S.cls rfl rfl (X1 _ _ lk) rfl hp rfl (X1 _ _ hcode) rfl hvs hfile FF.top ?_
  refine ks_loadName_global S.kind S.sup (Calls.loadGlobal_builtin (env := ksEnv qual scope hp0.objs.size fI (.ref cda) cc) (e0.mod.glob.keeps kb1) hsup (hb1.keeps kb1) ((hb2 "super" (by decide)).trans (show bootBuiltins "super" = some (.type "super") by decide +kernel)) ⟨rfl, ?_⟩)
  refine wpAny_loadName_free S.kind S.cls rfl ⟨_, X1 _ _ hcell, rfl⟩ ?_
  rw [har]
  refine wpAny_loadName_local S.kind S.self hns (v := .ref a) (by first | rfl | kernel_rfl | simp [List.lookup]) ?_
  refine ks_wpAny_isType_cls hD1 hD2 ⟨rfl, ?_⟩
  refine ks_wpAny_call_super hD1 hD2 hx1 rfl (fun c z => by cases z) (looks_mroIn X1 T.mro) (fun h2 e2 k2 => ?_)
  obtain ⟨F2, N2, _⟩ := ks_newsPush (s := ⟨h₁, g, dr, tk + 2, os⟩) F0 N0 rfl e2 k2
  refine kxs_method (s := ⟨h2, g, dr, tk + 2, os⟩) kxs_ValueError F2 X₀ N2 List.mem_cons_self (InstAt.of_exc0 N2 (List.mem_cons_of_mem _ List.mem_cons_self)) T.tp T.sup T.sub rfl (fun q h3 F3 N3 _ => ?_)
  refine kxs_callWith1 N3 List.mem_cons_self ?_ (hst _) (hpl _)
  rw [hst]
  refine Calls.spliced_cons (wpAny_Name (wpAny_loadName_local S.kind S.value F3.ns (v := u2) (by first | rfl | kernel_rfl | simp [List.lookup]) ?_) (by decide))
  refine Calls.spliced_nil ⟨kxs_at N3 List.mem_cons_self, ?_⟩
  obtain ⟨nm, qn, Nn, bs, bm, sn, sub, ab, col, dd, j0, j1, j2, j3, j5, hC, hbm⟩ := T.ox.cls
  have hC3 := X₀.keeps F3.keep _ _ hC
  have hu := (N3 _ List.mem_cons_self).1
  have ha3 := (N3 (a, excObj C t1 none .none) (List.mem_cons_of_mem _ (List.mem_cons_of_mem _ List.mem_cons_self))).1
  have fin : ∀ (tk' : Nat) h', (∀ b o, b ≠ a → h3.get? b = some o → h'.get? b = some o) → h'.get? a = some (excObj C h3.objs.size none .none) →
      _root_.PySem.wpAt (model P w) (A.deeper (ksEnv qual scope hp0.objs.size fI (.ref cda) cc)) (.func [.Expr (.Call (.Attribute (.Call (.Name "super" p0) [] [] p1) "__init__" p2) [.Name "value" p3] [] p4) p5, .Assign [.Attribute (.Name "self" p6) "value" p7] (.Name "value" p8) p9] (ksEnv qual scope hp0.objs.size fI (.ref cda) cc)) (execs [.Assign [.Attribute (.Name "self" p6) "value" p7] (.Name "value" p8) p9] (ksEnv qual scope hp0.objs.size fI (.ref cda) cc))
        (fun f s' => CR CX0 outer P w H ⟨hp0, g, dr, tk, os⟩ Q E (.ok (.ret (match f with | .ret v => v | _ => .none))) s')
        (fun e s' => wpAny (model P w) (A.deeper (ksEnv qual scope hp0.objs.size fI (.ref cda) cc)) (leaving (ksEnv qual scope hp0.objs.size fI (.ref cda) cc) e) (fun _ s'' => CR CX0 outer P w H ⟨hp0, g, dr, tk, os⟩ Q E (.error e) s'') (fun e' s'' => CR CX0 outer P w H ⟨hp0, g, dr, tk, os⟩ Q E (.error e') s'') s')
        ⟨h', g, dr, tk', os⟩ := fun tk' h' k' e' => by
    obtain ⟨oL, es, ep, hL, rr⟩ := F3.ns
    have xL : hp0.objs.size ≠ a := Nat.ne_of_gt la
    have J : Inv (cxS P w K mg base qual scope fI cda cc A outer ⟨hp0, g, dr, tk, os⟩ H) [] [some (.ref a), some y] H ⟨h', g, dr, tk', os⟩ :=
      inv_startS S e0 hr.hd ha rv hcell ⟨oL, es, ep, k' _ _ xL hL, rr⟩ (fun b o n e => k' b o n (F3.keep b o (hideAll_get _ e (by simpa using n)))) e' e0.bare
    refine PySem.wpAt_of_wpAny (wpAny_mono ((pss_one (ps_ost (pe_var (i := 0) rfl (.inl S.self)) (pe_var (i := 1) rfl (.inl S.value)) (hs2 _))).run [] _ _ H { nx := fun _ H' => Q .non H', rt := Q } J ?_) (fun f s' hf => ?_) fun e s' z => (show False from z).elim)
    · exact ⟨y, rfl, .ref a, rfl, a, C, rfl, T.ox, T.no, .inl ⟨ha, fun dx n ne => hq dx n ne⟩⟩
    · have fin2 : ∀ {σ' : L2.St} {H' : Hp} {v : V} {u : Value}, Inv (cxS P w K mg base qual scope fI cda cc A outer ⟨hp0, g, dr, tk, os⟩ H) [] σ' H' s' → RelV v u → Q v H' → CE outer P w H ⟨hp0, g, dr, tk, os⟩ Q u s' :=
        fun {σ' H' v u} J rv q => ⟨v, H', J.os, J.bare, J.base, J.hok, rv, q⟩
      cases f with
      | ret u =>
        obtain ⟨v, σ', H', J, rv, q⟩ := hf
        exact fin2 J rv q
      | next =>
        obtain ⟨σ', H', J, q⟩ := hf
        exact fin2 (v := V.non) (u := Value.none) J rfl q
      | brk =>
        obtain ⟨_, _, _, q⟩ := hf
        exact False.elim q
      | cont =>
        obtain ⟨_, _, _, q⟩ := hf
        exact False.elim q
  refine wpAny_call (codeAny_of_tree ?_)
  show wpAny _ _ (callAny (.ref q) ⟨[u2], []⟩) _ _ _
  simp only [callAny]
  refine wpAny_bind (wpAny_load hu ?_)
  simp only [kxs_mw, show (Value.type "method-wrapper" == Value.type "method" || Value.type "method-wrapper" == Value.type "builtin_function_or_method" || Value.type "method-wrapper" == Value.type "method-wrapper") = true by decide, if_true]
  refine KFB.if_so (by decide) ?_
  refine wpAny_bind (check_bound_init F.excBase_ValueError.toExcCallFacts hC3 ha3 rfl ?_)
  refine wpAny_bind (wpAny_pure (wpAny_pure ?_))
  refine ⟨plainId_quiet F.excBase_ValueError.init.plain _, codeAny_builtin F.excBase_ValueError.initEntry ?_⟩
  exact exc_init_tree (cls := .ref C) (t0 := t1) (dv := none) (c2 := .none) (c3 := .none) (b4 := .bool false) ha3 (by rw [sizeLine_eq]; show 1 ≤ _; decide) fun h' k' e' _ => fin _ h' k' e'
end
end Lx

set_option Elab.async false
set_option linter.all false
set_option maxRecDepth 100000
set_option maxHeartbeats 4000000
namespace Lw
open PySem PySem.Spec PyProof.Rows L2
variable [Tabl]
/-! ### raise -/
/-- the name x stands for a class of errors that is made by the __init__ of D -/
def Exm (P : Program) (w : World) (K : Fg) (mg : Str → Option Value) (base : Heap) (x : Str) (C D : Addr) (k : Nat) : Prop :=
  ∃ fI fd, mg x = some (.ref C) ∧ Lx.SupC K C D ∧ PySem.W.findIn K (.ref C) "__init__" = some (some (.ref fI)) ∧ PySem.W.typeIn K (.ref fI) = some (.type "function") ∧ Binds K fd ["self", "value"] [] ∧ FnOk P w K mg base L2.CX0 k fI fd ["self", "value"] (Lx.excInitSp K D)
def tRse (K : Fg) (C D : Addr) (W : WX) (ta : TA) : TS := fun _ σ H => tMkO C (Lx.excInitSp K D) [] ta σ H fun cls d H' => W cls d σ H'
omit [Tabl] in
theorem ps_raiseF {X : Cx} {x : Str} {C D : Addr} {k : Nat} {W : WX} {e : Expr} {es : List Expr} {ta : TA} {p pos pos' : Pos} (G : Exm X.prog X.w X.K X.mg X.base x C D k) (hr : Room (k + 1) X.A) (hc : X.calm = true) (tk : Takes X W) (ha : PA X (e :: es) ta) (hg : Gl X x := by rfl)
    (hdb : (x == ("__debug__" : Str)) = false := by decide) (he : starEach (e :: es) X.env = (false, eval e X.env) :: starEach es X.env := by rfl) (hpl : (backTo pos (starEach es X.env)).any (·.1) = false := by rfl) :
    PS X (.Raise (some (.Call (.Name x p) (e :: es) [] pos)) none pos') (tRse X.K C D W ta) := by
  obtain ⟨fI, fd, hm, T, iC, tI, hb, F⟩ := G
  exact ps_raise hc tk (pmk_oex T.ox iC tI F hr hb .nil pass0 hg hm ha hdb he hpl)
section
variable [Exn] {K : Fg} {ρ : List SD}
theorem ws_raise {C D : Addr} {W : WX} {te : TE} {E : Out} (hW : ∀ cls d σ H, Exn.W cls d σ H → W cls d σ H) (T : Lx.SupC K C D) (h : WE K te ρ fun x ρ1 => Exn.X ρ1 C x) : WS K (tRse K C D W (tCons te tNil)) ρ E :=
  fun P B0 H0 B H σ S D' k1 k2 k3 k4 => h P B0 H0 B H σ S _ fun v x ρ1 B1 H1 hX S1 s1 r1 => by
    refine ⟨by show 1 ≤ 1000; decide, fun a na => ⟨a, C, v, by rfl, upd_same, T, fun dx nd ne => ⟨rfl, dx, [("value", v)], upd_same, ?_, ?_, ?_⟩⟩⟩
    · rw [upd_ne ne, upd_same]
    · rw [upd_ne ne] at nd; exact nd
    · rw [upd_ne ne] at nd
      have e : upd (del (upd (upd (upd H1 a (exo a C none)) dx (exd dx [("value", v)])) a (exo a C (some dx))) a) dx (.xd [("value", v)]) = upd H1 dx (.xd [("value", v)]) := by
        funext b
        by_cases hb : b = dx
        · rw [hb, upd_same, upd_same]
        · rw [upd_ne hb, upd_ne hb]
          by_cases ha : b = a
          · rw [ha, del_same, na]
          · rw [del_ne ha, upd_ne ha, upd_ne hb, upd_ne ha]
      rw [e]
      have S2 := S1.new (.xd [("value", v)]) nd
      exact hW _ _ _ _ (S2.ex ρ1 _ _ σ C (some dx) x S2.core ⟨dx, v, rfl, upd_same, r1.mono (same_new (S1.bfree nd))⟩ hX)
end
/-! ### defs that may raise -/
def pureXSp (K : Fg) (n : Nat) (S : List D → (D → Prop) → (Addr → D → Prop) → Prop) : Sp := fun vs H Q E =>
  ∃ B ds F G, Same B H ∧ TbOk B H ∧ RA K B vs ds ∧ ds.length = n ∧ S ds F G ∧ (∀ v d B' H', F d → Gr Non B H B' H' → R K B' v d → Q v H') ∧
    ∀ C x dd B' H', G C x → Gr Non B H B' H' → XAt K B' C x dd → E (.ref C) dd H'
def initXSp (K : Fg) (C : Addr) (n : Nat) (S : List D → (List (Str × D) → Prop) → (Addr → D → Prop) → Prop) : Sp := fun vs H Q E =>
  ∃ a dx ws B ds F G, vs = .ref a :: ws ∧ Same B H ∧ TbOk B H ∧ B a = none ∧ H a = some (.ins C dx []) ∧ RA K B ws ds ∧ ds.length = n ∧ S ds F G ∧
    (∀ fs vf B' H', F fs → Gr (One a) B H B' H' → B' a = none → H' a = some (.ins C dx vf) → RF K B' vf fs → Q .non H') ∧
    ∀ C' x dd B' H', G C' x → Gr (One a) B H B' H' → B' a = none → XAt K B' C' x dd → E (.ref C') dd H'
/-- the wish of a def's body -/
@[reducible] def exnOf (E : XK) (G : Addr → D → Prop) : Exn := ⟨fun cls d _ H => E cls d H, fun _ C x => G C x⟩
def CalX (P : Program) (w : World) (K : Fg) (mg : Str → Option Value) (base : Heap) (x : Str) (k : Nat) (ps : List Str) (sp : Sp) : Prop :=
  ∃ f fd, mg x = some (.ref f) ∧ PySem.W.keepIn K (.ref f) = true ∧ Binds K fd ps [] ∧ (∀ (j : Nat) (ks : List Str), j ≤ ps.length → ps.drop j = ks → KBn K fd ps (ps.take j).length ks (fun us ws => us ++ ws) (fun vs zs => vs ++ zs)) ∧ FnOk P w K mg base (L2.CX P w) k f fd ps sp
def MetX (P : Program) (w : World) (K : Fg) (mg : Str → Option Value) (base : Heap) (C : Addr) (m : Str) (k : Nat) (ps : List Str) (sp : Sp) : Prop :=
  ∃ f fd, Cls K C ∧ Meth K C m f ∧ Binds K fd ps [] ∧ (∀ (j : Nat) (ks : List Str), j ≤ ps.length → ps.drop j = ks → KBn K fd ps (ps.take j).length ks (fun us ws => us ++ ws) (fun vs zs => vs ++ zs)) ∧ FnOk P w K mg base (L2.CX P w) k f fd ps sp
def MakX (P : Program) (w : World) (K : Fg) (mg : Str → Option Value) (base : Heap) (x : Str) (C : Addr) (k : Nat) (ps : List Str) (sp : Sp) : Prop :=
  ∃ f fd, mg x = some (.ref C) ∧ Mk K C f ∧ Binds K fd ps [] ∧ (∀ (j : Nat) (ks : List Str), j ≤ ps.length → ps.drop j = ks → KBn K fd ps (ps.take j).length ks (fun us ws => us ++ ws) (fun vs zs => vs ++ zs)) ∧ FnOk P w K mg base (L2.CX P w) k f fd ps sp
section
variable {X : Cx} {x m : Str} {C : Addr} {k : Nat} {ps : List Str} {sp : Sp} {e o : Expr} {es : List Expr} {t tk : TA} {ta : TE} {p pos apos : Pos} {E : XK} {kws : List Keyword}
omit [Tabl]
theorem passX (tk : Takes X fun cls d _ H => E cls d H) : Passes (L2.CX X.prog X.w) X E := passes_call tk fun _ _ _ _ h => h
theorem pe_callX (G : CalX X.prog X.w X.K X.mg X.base x k ps sp) (hr : Room k X.A) (tk : Takes X fun cls d _ H => E cls d H) (ha : PA X (e :: es) t) (hg : Gl X x := by rfl) (hdb : (x == ("__debug__" : Str)) = false := by decide)
    (he : starEach (e :: es) X.env = (false, eval e X.env) :: starEach es X.env := by rfl) (hpl : (backTo pos (starEach es X.env)).any (·.1) = false := by rfl) : PE X (.Call (.Name x p) (e :: es) [] pos) (tCall sp [] E t) := by
  obtain ⟨f, fd, hm, hk, hb, _, F⟩ := G
  exact pe_call F hr hg hm hk hb .nil (passX tk) ha hdb he hpl
theorem pe_callXk0 (G : CalX X.prog X.w X.K X.mg X.base x k ps sp) (hr : Room k X.A) (tE : Takes X fun cls d _ H => E cls d H) (hkw : PK X kws tk) (hg : Gl X x := by rfl)
    (hall : (backToKw pos (keywordEach kws X.env)).all (·.1.isSome) = true := by rfl) (hks : (backToKw pos (keywordEach kws X.env)).filterMap (·.1) = ps := by rfl)
    (hdb : (x == ("__debug__" : Str)) = false := by decide)
    (hpl : ((backTo pos (starEach [] X.env)).any (·.1) || (backToKw pos (keywordEach kws X.env)).any (·.1.isNone)) = false := by rfl) :
    PE X (.Call (.Name x p) [] kws pos) (tCallN 0 ps.length sp (fun vs zs => vs ++ zs) E tNil tk) := by
  obtain ⟨f, fd, hm, hk, _, hb, F⟩ := G
  refine ⟨fun pins s σ H Q I h => wpAny_Call_Name_kw (ld_glob I hg hm ?_ hdb)⟩
  refine PySem.W.callWith_KW0 (h₀ := X.base) I.ok.mod.kin hk hall (thn (hkw.run pos pins s σ H _ I h) fun ws s2 q2 => ?_) hpl
  obtain ⟨zs, H2, I2, rz, l1, l2, q3⟩ := q2
  refine ⟨I2.kIn, ?_⟩
  rw [hks]
  exact run_fnN (us := []) (vs := []) F hr (hb 0 ps (Nat.zero_le _) rfl) (passX tE) I2 .nil rz rfl l2 q3
theorem pe_methX {pl : Sem Bool} (G : MetX X.prog X.w X.K X.mg X.base C m k ps sp) (hr : Room k X.A) (tE : Takes X fun cls d _ H => E cls d H) (he : PE X o ta) (ha : PA X (e :: es) t)
    (hst : starEach (e :: es) X.env = (false, eval e X.env) :: starEach es X.env := by rfl) (hpl : (backTo pos (starEach es X.env)).any (·.1) = false := by rfl)
    (ht : eval (.Call (.Attribute o m apos) (e :: es) [] pos) X.env = (do
      let ov ← eval o X.env
      standAt apos.atName
      let (f, first) ← holding [ov] (getMethod ov m pl)
      callWith pos f first (backTo pos (starEach (e :: es) X.env)) (backToKw pos (keywordEach [] X.env))) := by rfl) :
    PE X (.Call (.Attribute o m apos) (e :: es) [] pos) (tMeth C m sp [] E ta t) := by
  obtain ⟨f, fd, c, hm, hb, _, F⟩ := G
  exact pe_meth (pl := pl) he c hm F hr hb .nil (passX tE) ha hst hpl ht
theorem pe_makeX (G : MakX X.prog X.w X.K X.mg X.base x C k ps sp) (hr : Room (k + 1) X.A) (tE : Takes X fun cls d _ H => E cls d H) (ha : PA X (e :: es) t) (hg : Gl X x := by rfl) (hdb : (x == ("__debug__" : Str)) = false := by decide)
    (he : starEach (e :: es) X.env = (false, eval e X.env) :: starEach es X.env := by rfl) (hpl : (backTo pos (starEach es X.env)).any (·.1) = false := by rfl) : PE X (.Call (.Name x p) (e :: es) [] pos) (tMake C sp [] E t) := by
  obtain ⟨f, fd, hm, M, hb, _, F⟩ := G
  exact pe_make M F hr hg hm hb .nil (passX tE) ha hdb he hpl
end
section
variable {P : Program} {w : World} {K : Fg} {mg : Str → Option Value} {base : Heap}
theorem fn_pureX {name qual : Str} {params : Arguments} {body : List Stmt} {scope : Scope} {f : Addr} {fd : FuncData} {N ps : List Str} {k n : Nat} {S : List D → (D → Prop) → (Addr → D → Prop) → Prop}
    (F : FunD K name qual params body scope [] [] f fd) (sc : FnScope N ps scope) (hn : n = ps.length) (hN : n ≤ N.length)
    (hb : ∀ (cdv : Value) (A : Around) (outer : List Env) (s : Shared) (H : Hp) (E : XK), Room k (A.deeper (envOfC qual scope s.heap.objs.size f cdv)) →
      ∃ t, PSs (cxOf (L2.CX P w) P w K mg base N qual scope f cdv A outer s H E) body t ∧ ∀ ds F G, ds.length = n → S ds F G → @WS _ (exnOf E G) K t (rho N ds) (outP F)) :
    FnOk P w K mg base (L2.CX P w) (k + 1) f fd ps (pureXSp K n S) := by
  refine F.ok sc (fun vs H Q E h => ?_) (fun cdv A outer s H vs Q E hr h => ?_)
  · obtain ⟨B, ds, F, G, h1, _, h2, h3, _⟩ := h
    rw [h2.length, h3, hn]
  · obtain ⟨t, hp, hw⟩ := hb cdv A outer s H E hr
    refine ⟨t, hp, ?_⟩
    obtain ⟨B, ds, F, G, h1, tk, h2, h3, h4, h5, h6⟩ := h
    letI := exnOf E G
    refine hw ds F G h3 h4 Non B H B H (start N vs) (st_start (fun ρ' B' H' σ' C dd x c xa g => h6 C x dd B' H' g c.gr xa) h1 tk h2 (by rw [h3]; exact hN)) _ (fun ρ' B' H' σ' f S' s' => ?_) (fun v d ρ' B' H' σ' f S' s' r => ?_) (fun _ _ _ _ z => z.elim) (fun _ _ _ _ z => z.elim)
    · exact h5 _ _ B' H' f S'.gr .non
    · exact h5 v d B' H' f S'.gr r
theorem fn_initX {name qual : Str} {params : Arguments} {body : List Stmt} {scope : Scope} {f : Addr} {fd : FuncData} {N ps : List Str} {k n : Nat} {C : Addr} {S : List D → (List (Str × D) → Prop) → (Addr → D → Prop) → Prop}
    (F : FunD K name qual params body scope [] [] f fd) (sc : FnScope N ps scope) (hn : n + 1 = ps.length) (hN : n + 1 ≤ N.length)
    (hb : ∀ (cdv : Value) (A : Around) (outer : List Env) (s : Shared) (H : Hp) (E : XK), Room k (A.deeper (envOfC qual scope s.heap.objs.size f cdv)) →
      ∃ t, PSs (cxOf (L2.CX P w) P w K mg base N qual scope f cdv A outer s H E) body t ∧ ∀ dx ds F G, ds.length = n → S ds F G →
        @WS _ ⟨fun cls d _ H => E cls d H, fun ρ C' x => G C' x ∧ ∃ fs, ρ[0]? = some (.ins C dx fs)⟩ K t (rhoM N (.ins C dx []) ds) { nx := fun ρ => ∃ fs, ρ[0]? = some (.ins C dx fs) ∧ F fs, rt := fun _ _ => False }) :
    FnOk P w K mg base (L2.CX P w) (k + 1) f fd ps (initXSp K C n S) := by
  refine F.ok sc (fun vs H Q E h => ?_) (fun cdv A outer s H vs Q E hr h => ?_)
  · obtain ⟨a, dx, ws, B, ds, F, G, rfl, h1, _, h2, h3, h5, h6, _⟩ := h
    rw [List.length_cons, h5.length, h6, hn]
  · obtain ⟨t, hp, hw⟩ := hb cdv A outer s H E hr
    refine ⟨t, hp, ?_⟩
    obtain ⟨a, dx, ws, B, ds, F, G, rfl, h1, tk, h2, h3, h5, h6, h7, h8, h9⟩ := h
    letI : Exn := ⟨fun cls d _ H => E cls d H, fun ρ C' x => G C' x ∧ ∃ fs, ρ[0]? = some (.ins C dx fs)⟩
    refine hw dx ds F G h6 h7 (One a) B H B H (start N (.ref a :: ws)) (st_startM (fun ρ' B' H' σ' C' dd x c xa g => ?_) h1 tk ⟨a, [], rfl, .inl rfl, h2, h3, .nil⟩ h5 (by rw [h6]; exact hN)) _ (fun ρ' B' H' σ' f S' s' => ?_) (fun _ _ _ _ _ _ z => z.elim) (fun _ _ _ _ z => z.elim) (fun _ _ _ _ z => z.elim)
    · obtain ⟨g1, fs, e0⟩ := g
      obtain ⟨a', vf, e3, e4, e5, e6, e7⟩ := c.sl 0 _ e0
      have ea : a' = a := e4.resolve_right (c.ok.not e6 (fun ps y => by cases y))
      subst ea
      exact h9 C' x dd B' H' g1 c.gr e5 xa
    · obtain ⟨fs, e0, g⟩ := f
      obtain ⟨o, e1, a', vf, e3, e4, e5, e6, e7⟩ := S'.slot e0
      have ea : a' = a := e4.resolve_right (S'.ok.not e6 (fun ps y => by cases y))
      subst ea
      exact h8 fs vf B' H' g S'.gr e5 e6 e7
end
section
variable [Exn] {K : Fg} {ρ : List SD}
theorem we_callXG {G : List SD → Addr → D → Prop} {n : Nat} {S : List D → (D → Prop) → (Addr → D → Prop) → Prop} {E : XK} {t : TA} {F : D → List SD → Prop} (hE : ∀ ρ1 C x cls d σ H, G ρ1 C x → Exn.X ρ1 C x ∧ (Exn.W cls d σ H → E cls d H)) (h : WA K t ρ fun ds ρ1 => ds.length = n ∧ S ds (fun d => F d ρ1) (fun C x => G ρ1 C x)) : WE K (tCall (pureXSp K n S) [] E t) ρ F :=
  fun P B0 H0 B H σ Z Q k => h P B0 H0 B H σ Z _ fun vs ds ρ1 B1 H1 ⟨l, f⟩ S1 s1 r1 => by
    refine ⟨B1, ds, _, _, S1.le, S1.ok, by rw [List.append_nil]; exact r1, l, f, fun v d B2 H2 g q r => k v d ρ1 B2 H2 g (S1.step q) (s1.trans (Ev.pure q)) r, fun C x dd B2 H2 g q xa => ?_⟩
    exact (hE ρ1 C x (.ref C) dd σ H2 g).2 (S1.ex ρ1 B2 H2 σ C dd x (S1.step q).core xa (hE ρ1 C x (.ref C) dd σ H2 g).1)
theorem we_callXNG {G : List SD → Addr → D → Prop} {n a b : Nat} {S : List D → (D → Prop) → (Addr → D → Prop) → Prop} {E : XK} {t tk : TA} {F : D → List SD → Prop} (hE : ∀ ρ1 C x cls d σ H, G ρ1 C x → Exn.X ρ1 C x ∧ (Exn.W cls d σ H → E cls d H)) (h : WA K t ρ fun ds ρ1 => WA K tk ρ1 fun es ρ2 => ds.length = a ∧ es.length = b ∧ (ds ++ es).length = n ∧ S (ds ++ es) (fun d => F d ρ2) (fun C x => G ρ2 C x)) :
    WE K (tCallN a b (pureXSp K n S) (fun vs zs => vs ++ zs) E t tk) ρ F :=
  fun P B0 H0 B H σ Z Q k => h P B0 H0 B H σ Z _ fun vs ds ρ1 B1 H1 h1 S1 s1 r1 => h1 P B0 H0 B1 H1 σ S1 _ fun us es ρ2 B2 H2 ⟨l1, l2, l, f⟩ S2 s2 r2 => by
    refine ⟨by rw [r1.length]; exact l1, by rw [r2.length]; exact l2, B2, ds ++ es, _, _, S2.le, S2.ok, (r1.mono s2.bb).append r2, l, f, fun v d B3 H3 g q r => k v d ρ2 B3 H3 g (S2.step q) ((s1.trans s2).trans (Ev.pure q)) r, fun C x dd B3 H3 g q xa => ?_⟩
    exact (hE ρ2 C x (.ref C) dd σ H3 g).2 (S2.ex ρ2 B3 H3 σ C dd x (S2.step q).core xa (hE ρ2 C x (.ref C) dd σ H3 g).1)
theorem we_methXG {G : List SD → Addr → D → Prop} {to : TE} {C : Addr} {m : Str} {n : Nat} {S : List D → (D → Prop) → (Addr → D → Prop) → Prop} {E : XK} {t : TA} {F : D → List SD → Prop} (hE : ∀ ρ1 C x cls d σ H, G ρ1 C x → Exn.X ρ1 C x ∧ (Exn.W cls d σ H → E cls d H))
    (h : WE K to ρ fun x ρ1 => ∃ ds, x = .obj C ds ∧ ds.lookup m = none ∧ WA K t ρ1 fun es ρ2 => es.length + 1 = n ∧ S (x :: es) (fun d => F d ρ2) (fun C x => G ρ2 C x)) :
    WE K (tMeth C m (pureXSp K n S) [] E to t) ρ F :=
  fun P B0 H0 B H σ Z Q k => h P B0 H0 B H σ Z _ fun v x ρ1 B1 H1 ⟨ds, e, l, q⟩ S1 s1 r1 => by
    subst e
    cases r1 with
    | obj h1 rf =>
      refine ⟨_, _, _, rfl, S1.le _ _ h1, rf.miss l, q P B0 H0 B1 H1 σ S1 _ fun vs es ρ2 B2 H2 ⟨l2, q2⟩ S2 s2 r2 => ?_⟩
      refine ⟨B2, _, _, _, S2.le, S2.ok, .cons ((R.obj h1 rf).mono s2.bb) (by rw [List.append_nil]; exact r2), by rw [List.length_cons]; exact l2, q2, fun w d B3 H3 g gr r => k w d ρ2 B3 H3 g (S2.step gr) ((s1.trans s2).trans (Ev.pure gr)) r, fun C x dd B3 H3 g q xa => ?_⟩
      exact (hE ρ2 C x (.ref C) dd σ H3 g).2 (S2.ex ρ2 B3 H3 σ C dd x (S2.step q).core xa (hE ρ2 C x (.ref C) dd σ H3 g).1)
theorem make_coreX {G : List SD → Addr → D → Prop} {C : Addr} {n : Nat} {S : List D → (List (Str × D) → Prop) → (Addr → D → Prop) → Prop} {E : XK} {F : D → List SD → Prop} (hE : ∀ ρ1 C x cls d σ H, G ρ1 C x → Exn.X ρ1 C x ∧ (Exn.W cls d σ H → E cls d H))
    {P : Addr → Prop} {B0 H0 B H B1 H1 : Hp} {σ : L2.St} {Q : VK} {ρ1 : List SD} {vs : List V} {ds : List D} (S1 : ST K P B0 H0 ρ1 B1 H1 σ) (s1 : Ev ρ σ B H ρ1 B1 H1) (r1 : RA K B1 vs ds) (l : ds.length = n) (f : S ds (fun fs => F (.obj C fs) ρ1) (fun C x => G ρ1 C x))
    (k : ∀ v d ρ' B' H', F d ρ' → ST K P B0 H0 ρ' B' H' σ → Ev ρ σ B H ρ' B' H' → R K B' v d → Q v H') :
    ∀ x dx, H1 x = none → H1 dx = none → dx ≠ x → initXSp K C n S (.ref x :: (vs ++ [])) (upd (upd H1 dx (.own x)) x (.ins C dx [])) (fun v H2 => v = .non ∧ Q (.ref x) H2) E := by
  intro x dx hx hdx hne
  have b1 : B1 x = none := S1.bfree hx
  have b2 : B1 dx = none := S1.bfree hdx
  have S2 := S1.new (.own x) hdx
  have bx : upd B1 dx (.own x) x = none := by rw [upd_ne (Ne.symm hne)]; exact b1
  have hx2 : upd H1 dx (.own x) x = none := by rw [upd_ne (Ne.symm hne)]; exact hx
  have le2 : Same (upd B1 dx (.own x)) (upd (upd H1 dx (.own x)) x (.ins C dx [])) := fun c u e => by
    rw [upd_ne (ne_of_none e bx)]; exact S2.le c u e
  have tk2 := S2.ok.upd (p := x) (o := .ins C dx []) (fun u e => by rw [hx2] at e; cases e)
  refine ⟨x, dx, vs, upd B1 dx (.own x), ds, _, _, by rw [List.append_nil], le2, tk2, bx, upd_same, r1.mono (same_new b2), l, f, fun fs vf B' H' g gr hb' hh rf => ⟨rfl, ?_⟩, fun C' y dd B' H' g gr hb' xa => ?_⟩
  · have sb : Same B' (upd B' x (.ins C dx vf)) := same_new hb'
    have G3 : Gr Non (upd B1 dx (.own x)) (upd H1 dx (.own x)) (upd B' x (.ins C dx vf)) H' := {
      hh := fun c o n e => by
        have ne : c ≠ x := fun z => by subst z; rw [hx2] at e; cases e
        exact gr.hh c o (fun q => q.elim ne n) (by rw [upd_ne ne]; exact e)
      bb := gr.bb.trans sb
      le := fun c u e => by
        by_cases z : c = x
        · subst z; rw [upd_same] at e; rw [hh]; exact e
        · rw [upd_ne z] at e; exact gr.le c u e
      fr := fun c o e => by
        by_cases z : c = x
        · subst z; exact .inr (.inl (.inl hx2))
        · rw [upd_ne z] at e
          rcases gr.fr c o e with q | q | q
          · exact .inl q
          · rw [upd_ne z] at q; exact .inr (.inl q)
          · exact .inr (.inr (q.resolve_left z))
      pt := fun c z e => gr.pt c (.inr z) (by
        by_cases y : c = x
        · subst y; rw [upd_same]; exact fun z => nomatch z
        · rw [upd_ne y]; exact e)
      tp := fun _ z => z
      kp := fun y => by
        have y2 := gr.kp (y.upd (fun u e => by rw [hx2] at e; cases e))
        refine ⟨y2.1, fun b t => ?_⟩
        rw [upd_ne (fun q => by rw [q] at t; exact y2.not hh (fun ps y => by cases y) t)]
        exact y2.2 b t }
    exact k (.ref x) (.obj C fs) ρ1 _ H' g (S2.step G3) ((s1.trans (Ev.new S1.le hdx)).trans (Ev.pure G3)) (.obj upd_same (rf.mono sb))
  · have G3 : Gr Non (upd B1 dx (.own x)) (upd H1 dx (.own x)) B' H' := {
      hh := fun c o n e => by
        have ne : c ≠ x := fun z => by subst z; rw [hx2] at e; cases e
        exact gr.hh c o (fun q => q.elim ne n) (by rw [upd_ne ne]; exact e)
      bb := gr.bb
      le := gr.le
      fr := fun c o e => by
        by_cases z : c = x
        · subst z; exact .inr (.inl (.inl hx2))
        · rcases gr.fr c o e with q | q | q
          · exact .inl q
          · rw [upd_ne z] at q; exact .inr (.inl q)
          · exact .inr (.inr (q.resolve_left z))
      pt := fun c z e => gr.pt c (.inr z) (by
        by_cases y : c = x
        · subst y; rw [upd_same]; exact fun z => nomatch z
        · rw [upd_ne y]; exact e)
      tp := fun _ z => z
      kp := fun y => gr.kp (y.upd (fun u e => by rw [hx2] at e; cases e)) }
    exact (hE ρ1 C' y (.ref C') dd σ H' g).2 (S2.ex ρ1 B' H' σ C' dd y (S2.step G3).core xa (hE ρ1 C' y (.ref C') dd σ H' g).1)
theorem we_makeXG {G : List SD → Addr → D → Prop} {C : Addr} {n : Nat} {S : List D → (List (Str × D) → Prop) → (Addr → D → Prop) → Prop} {E : XK} {t : TA} {F : D → List SD → Prop} (hE : ∀ ρ1 C x cls d σ H, G ρ1 C x → Exn.X ρ1 C x ∧ (Exn.W cls d σ H → E cls d H))
    (h : WA K t ρ fun ds ρ1 => ds.length = n ∧ S ds (fun fs => F (.obj C fs) ρ1) (fun C x => G ρ1 C x)) : WE K (tMake C (initXSp K C n S) [] E t) ρ F :=
  fun P B0 H0 B H σ Z Q k => h P B0 H0 B H σ Z _ fun vs ds ρ1 B1 H1 ⟨l, f⟩ S1 s1 r1 =>
    make_coreX hE S1 s1 r1 l f k
theorem we_callX {n : Nat} {S : List D → (D → Prop) → (Addr → D → Prop) → Prop} {E : XK} {t : TA} {F : D → List SD → Prop} (hE : ∀ cls d σ H, Exn.W cls d σ H → E cls d H) (h : WA K t ρ fun ds ρ1 => ds.length = n ∧ S ds (fun d => F d ρ1) (fun C x => Exn.X ρ1 C x)) : WE K (tCall (pureXSp K n S) [] E t) ρ F :=
  we_callXG (G := Exn.X) (fun _ _ _ _ _ _ _ g => ⟨g, hE _ _ _ _⟩) h
theorem we_callX0 {n : Nat} {S : List D → (D → Prop) → (Addr → D → Prop) → Prop} {E : XK} {t : TA} {F : D → List SD → Prop} (h : WA K t ρ fun ds ρ1 => ds.length = n ∧ S ds (fun d => F d ρ1) (fun _ _ => False)) : WE K (tCall (pureXSp K n S) [] E t) ρ F :=
  we_callXG (G := fun _ _ _ => False) (fun _ _ _ _ _ _ _ g => g.elim) h
theorem we_callXN {n a b : Nat} {S : List D → (D → Prop) → (Addr → D → Prop) → Prop} {E : XK} {t tk : TA} {F : D → List SD → Prop} (hE : ∀ cls d σ H, Exn.W cls d σ H → E cls d H) (h : WA K t ρ fun ds ρ1 => WA K tk ρ1 fun es ρ2 => ds.length = a ∧ es.length = b ∧ (ds ++ es).length = n ∧ S (ds ++ es) (fun d => F d ρ2) (fun C x => Exn.X ρ2 C x)) :
    WE K (tCallN a b (pureXSp K n S) (fun vs zs => vs ++ zs) E t tk) ρ F :=
  we_callXNG (G := Exn.X) (fun _ _ _ _ _ _ _ g => ⟨g, hE _ _ _ _⟩) h
theorem we_callXN0 {n a b : Nat} {S : List D → (D → Prop) → (Addr → D → Prop) → Prop} {E : XK} {t tk : TA} {F : D → List SD → Prop} (h : WA K t ρ fun ds ρ1 => WA K tk ρ1 fun es ρ2 => ds.length = a ∧ es.length = b ∧ (ds ++ es).length = n ∧ S (ds ++ es) (fun d => F d ρ2) (fun _ _ => False)) :
    WE K (tCallN a b (pureXSp K n S) (fun vs zs => vs ++ zs) E t tk) ρ F :=
  we_callXNG (G := fun _ _ _ => False) (fun _ _ _ _ _ _ _ g => g.elim) h
theorem we_methX {to : TE} {C : Addr} {m : Str} {n : Nat} {S : List D → (D → Prop) → (Addr → D → Prop) → Prop} {E : XK} {t : TA} {F : D → List SD → Prop} (hE : ∀ cls d σ H, Exn.W cls d σ H → E cls d H)
    (h : WE K to ρ fun x ρ1 => ∃ ds, x = .obj C ds ∧ ds.lookup m = none ∧ WA K t ρ1 fun es ρ2 => es.length + 1 = n ∧ S (x :: es) (fun d => F d ρ2) (fun C x => Exn.X ρ2 C x)) :
    WE K (tMeth C m (pureXSp K n S) [] E to t) ρ F :=
  we_methXG (G := Exn.X) (fun _ _ _ _ _ _ _ g => ⟨g, hE _ _ _ _⟩) h
theorem we_methX0 {to : TE} {C : Addr} {m : Str} {n : Nat} {S : List D → (D → Prop) → (Addr → D → Prop) → Prop} {E : XK} {t : TA} {F : D → List SD → Prop} 
    (h : WE K to ρ fun x ρ1 => ∃ ds, x = .obj C ds ∧ ds.lookup m = none ∧ WA K t ρ1 fun es ρ2 => es.length + 1 = n ∧ S (x :: es) (fun d => F d ρ2) (fun _ _ => False)) :
    WE K (tMeth C m (pureXSp K n S) [] E to t) ρ F :=
  we_methXG (G := fun _ _ _ => False) (fun _ _ _ _ _ _ _ g => g.elim) h
theorem we_makeX {C : Addr} {n : Nat} {S : List D → (List (Str × D) → Prop) → (Addr → D → Prop) → Prop} {E : XK} {t : TA} {F : D → List SD → Prop} (hE : ∀ cls d σ H, Exn.W cls d σ H → E cls d H)
    (h : WA K t ρ fun ds ρ1 => ds.length = n ∧ S ds (fun fs => F (.obj C fs) ρ1) (fun C x => Exn.X ρ1 C x)) : WE K (tMake C (initXSp K C n S) [] E t) ρ F :=
  we_makeXG (G := Exn.X) (fun _ _ _ _ _ _ _ g => ⟨g, hE _ _ _ _⟩) h
theorem we_makeX0 {C : Addr} {n : Nat} {S : List D → (List (Str × D) → Prop) → (Addr → D → Prop) → Prop} {E : XK} {t : TA} {F : D → List SD → Prop} 
    (h : WA K t ρ fun ds ρ1 => ds.length = n ∧ S ds (fun fs => F (.obj C fs) ρ1) (fun _ _ => False)) : WE K (tMake C (initXSp K C n S) [] E t) ρ F :=
  we_makeXG (G := fun _ _ _ => False) (fun _ _ _ _ _ _ _ g => g.elim) h
end
end Lw

set_option Elab.async false
set_option linter.all false
set_option maxRecDepth 100000
set_option maxHeartbeats 4000000
namespace Lx
open PySem PySem.Spec PyProof.Rows L2 PySem.W Lw
section
variable {X : Cx} {pins : List (Addr × Obj)} {σ : L2.St} {H : Hp} {s : Shared}
/-- an object that stands is tracked from here on -/
theorem inv_track {a : Addr} {o : HO} {oe : Obj} {vs : Array Value} (I : Inv X pins σ H s) (ha : s.heap.get? a = some oe) (hd : oe.data = .fields vs) (na : H a = none) (h0 : X.s_0.heap.get? a = none) (nL : a ≠ X.env.locals) (npin : ∀ p ∈ X.pn ++ pins, p.1 ≠ a)
    (new : ObjOk X.prog X.w (upd H a o) s.heap a o) : Inv X pins σ (upd H a o) s := by
  have ncell : ∀ x c, X.env.cells.lookup x = some c → c ≠ a := fun x c e z => by
    obtain ⟨v, o', ho, hv⟩ := I.cell x c e
    rw [z, ha] at ho
    cases ho
    rw [hd] at hv
    cases hv
  have ns : ∀ {b : Addr} {u : HO}, H b = some u → b ≠ a := fun {b u} e z => by rw [z, na] at e; cases e
  refine ⟨I.ok, I.os, I.bare, ⟨I.base.keep, I.base.slot, fun b u e n hx => ?_, I.base.there, fun b xs e => ?_, fun b u v e => ?_, fun b ps e => ?_⟩, I.loc, I.cell, ?_, fun x c e => ?_, fun p hp => ?_, fun b u e => ?_, I.len⟩
  · rw [upd_ne (fun z => by rw [z, h0] at e; cases e)]
    exact I.base.free b u e n hx
  · have q := I.base.tups b xs e
    rw [upd_ne (ns q)]; exact q
  · have q := I.base.frzs b u v e
    rw [upd_ne (ns q)]; exact q
  · obtain ⟨m, q⟩ := I.base.tbls b ps e
    exact ⟨m, by rw [upd_ne (ns q)]; exact q⟩
  · rw [upd_ne (Ne.symm nL)]; exact I.free
  · rw [upd_ne (ncell x c e)]; exact I.freeC x c e
  · obtain ⟨p1, p2, p3⟩ := I.pin p hp
    exact ⟨p1, by rw [upd_ne (npin p hp)]; exact p2, p3⟩
  · by_cases hb : b = a
    · subst hb
      rw [upd_same] at e
      cases e
      exact new
    · rw [upd_ne hb] at e
      exact (I.hok b u e).stay (fun c v _ q => q) (fun c q => by rw [upd_ne (ns q)]; exact q) fun c xs q => by rw [upd_ne (ns q)]; exact q
end
theorem xo_ok {P : Program} {w : World} {H : Hp} {h : Heap} {a C dx : Addr} {oe : Obj} {vs : Array Value} (e : h.get? a = some oe) (z : Zc (.ref C) (some dx) oe) (d : oe.data = .fields vs) : ObjOk P w H h a (xoH a C dx) :=
  ⟨⟨oe, vs, e, z, d⟩, ⟨oe, e⟩, fun _ _ ⟨o, v, q, r⟩ k => ⟨o, v, k o q, r⟩⟩
/-- what the clause 'except x as n: m = n' wishes of an exception of the body: slot i is n's, j is m's -/
def wKeep (K : Frag) (c : Value) (i j : Nat) (D : Ends) : WX := fun cls d σ H => exmOne K cls c = some true ∧ ∃ C dd, cls = .ref C ∧ d = some dd ∧ ∀ a, H a = none → D.nx (((σ.set i (some (.ref a))).set j (some (.ref a))).set i none) (upd H a (xoH a C dd))
section
variable {X : Cx} {x n m : Str} {c : Value} {i j : Nat} {body : List Stmt} {np p1 p2 p3 pos pos' : Pos} {tb : WX → TS}
theorem ps_try_keep (hs : X.stack = X.env :: X.outer) (hf : X.env.frame = some X.env.locals) (hex : X.ex = []) (hN : X.N.Nodup) (hi : X.N[i]? = some n) (hln : X.env.kindOf n = some .local) (hj : X.N[j]? = some m) (hlm : X.env.kindOf m = some .local) (hc : Names X x c)
    (hb : ∀ (W : WX) (pn : List (Addr × Obj)) (xe : Value → Shared → Prop), Takes (X.tr pn xe) W → PassesOwn (model X.prog X.w) X.A X.env xe → PSs (X.tr pn xe) body (tb W))
    (hd1 : (n == ("__debug__" : Str)) = false := by decide) (hd2 : (n == ("__classdict__" : Str)) = false := by decide) (hsw : swapsWith (.Name n p2) (some (.Name m p1)) p3.line X.env = pure false := by rfl) :
    PS X (.Try body [.ExceptHandler (some (.Name x np)) (some n) [.Assign [.Name m p1] (.Name n p2) p3] pos'] [] [] pos) (fun D σ H => tb (wKeep X.K c i j D) D σ H) := by
  refine ⟨fun pins s σ H D I h => ?_⟩
  have ok := I.ok
  have hfr : X.A.frames = some (X.env :: X.outer) := by rw [ok.frames, hs]
  have hloc : Loc X.env.scope n := .inl hln
  refine wpAny_Try_except ?_
  refine wpAny_mono ((hb (wKeep X.K c i j D) (X.pn ++ pins) (fun e s₁ => wpAny (model X.prog X.w) X.A (noteFrame e X.env) (fun _ s₂ => wpAny (model X.prog X.w) X.A (setFlight e none) (fun _ s₃ =>
    wpAny (model X.prog X.w) X.A (handleBy e X.env [.ExceptHandler (some (.Name x np)) (some n) [.Assign [.Name m p1] (.Name n p2) p3] pos']) (SP X pins D) X.xe s₃) X.xe s₂) X.xe s₁) (fun u s' xx => ?_) PassesOwn.looking).run [] s σ H D (I.toTry _) h) (fun f s1 hsp => ?_) (fun e s1 he => he)
  · obtain ⟨a, B, sI, pins', σ', H', cls, d, rfl, J', nb, up, sky, na, os, ag, hb1, C, dd, ec, ed, hyes⟩ := xx
    subst ec
    subst ed
    have J : Inv X pins σ' H' sI := J'.ofTry ok
    have sky' : Sky B (X.env :: X.outer) a (Zc (.ref C) (some dd)) X.env.locals s'.heap := by rw [← hs]; exact sky
    show wpAny (model X.prog X.w) X.A (noteFrame (.ref a) X.env) _ _ _
    refine Sky.land Zc.steady hfr hf sky' fun h3 fl3 up3 => ?_
    have J3 : Inv X pins σ' H' { s' with heap := h3 } := J.landed nb fl3.1 (up.trans up3) os ag
    obtain ⟨oe3, vs3, he3, hz3, hd3⟩ := fl3.there
    have notFr : ∀ {h : Heap} {o : Obj} {vs : Array Value}, h.FunFrames B (X.env :: X.outer) → h.get? a = some o → o.data = .fields vs → a ∉ frs (X.env :: X.outer) := fun {h o vs} ff e dd hm => by
      obtain ⟨_, o', e', hnf⟩ := ff.mem hm
      rw [e] at e'; cases e'
      exact hnf _ dd
    have nfr := notFr fl3.2.2.1 he3 hd3
    have nL : a ≠ X.env.locals := fun z => nfr (List.mem_filterMap.mpr ⟨X.env, List.mem_cons_self, by rw [hf, z]⟩)
    have nF : a ∉ X.fs := fun hm => by
      obtain ⟨e, he, q⟩ := List.mem_filterMap.mp hm
      exact nfr (List.mem_filterMap.mpr ⟨e, List.mem_cons_of_mem _ he, q⟩)
    -- the exception stood nowhere ahead
    have ba : B.get? a = none := fl3.2.1
    have sIa : sI.heap.get? a = none := by
      cases q : sI.heap.get? a with
      | none => rfl
      | some o =>
        have z := nb a o q (by rw [hs]; exact nfr)
        rw [ba] at z; cases z
    have s0a : X.s_0.heap.get? a = none := by
      cases q : X.s_0.heap.get? a with
      | none => rfl
      | some o =>
        obtain ⟨o', z⟩ := J.base.there a o q (by rw [hex]; exact fun z => nomatch z)
        rw [sIa] at z; cases z
    have npin : ∀ p ∈ X.pn ++ pins, p.1 ≠ a := fun p hp z => by
      have q := (J.pin p hp).1
      rw [z, sIa] at q; cases q
    have S3 := J3.suite he3 hd3 na nL nF
    refine wpAny_handleBy_cons (codeAny_handlers_test ?_) (by intro q; cases q)
    have LT : PySem.W.Looks (model X.prog X.w) h3 (typeOf (.ref a)) (.ref C) := fun A Q E s k q => wpAny_typeOf_ref (k _ _ he3) (by rw [hz3.1]; exact q)
    have LM := PySem.W.exm_one (M := model X.prog X.w) (J3.kIn) LT hb1
    have test : ∀ {Q : Value → Shared → Prop} {E : Value → Shared → Prop}, Q c { s' with heap := h3 } → wpAny (model X.prog X.w) (X.A.mark (some (.ref a))) (eval (.Name x np) X.env) Q E { s' with heap := h3 } := fun {Q E} q => by
      obtain ⟨hg, hdbg, hm | ⟨hm, hv, hnn⟩⟩ := hc
      · exact ld_glob (X := X.suite a ((a, oe3) :: (X.pn ++ pins))) S3 hg hm q hdbg
      · exact ld_blt (X := X.suite a ((a, oe3) :: (X.pn ++ pins))) S3 hg hm hv q hnn hdbg
    refine test (LM.here ?_)
    refine codeAny_handlers_suite_as ?_
    refine HandSPX.lands_againZ fl3 fun h4 fl4 up4 => ?_
    have J4 : Inv X pins σ' H' { s' with heap := h4 } := J.landed nb fl4.1 ((up.trans up3).trans up4) os ag
    obtain ⟨oe4, vs4, he4, hz4, hd4⟩ := fl4.there
    have S4 := J4.suite he4 hd4 na nL nF
    refine store_ok (X := X.suite a ((a, oe4) :: (X.pn ++ pins))) (v := .ref a) S4 hN hi hloc rfl (fun s5 S5 => ?_) (.inr hln)
    have li : i < σ'.length := by
      rw [J.len]
      exact (List.getElem?_eq_some_iff.mp hi).1
    refine wpAny_mono ((pss_one (ps_set (X := X.suite a ((a, oe4) :: (X.pn ++ pins))) (i := j) (pos' := p1) (pos := p3) hN hj (.inl hlm) (pe_var (i := i) hi (.inl hln) hd1 hd2) hsw (.inr hlm))).run [] s5 _ H' { nx := fun σ6 H6 => σ6 = (σ'.set i (some (.ref a))).set j (some (.ref a)) ∧ H6 = H', rt := fun _ _ => False } S5 ?_) (fun f s6 hsp => ?_) (fun _ _ z => False.elim z)
    · exact ⟨.ref a, List.getElem?_set_self li, rfl, rfl⟩
    · cases f with
      | next =>
        obtain ⟨σ6, H6, S6, e1, e2⟩ := hsp
        subst e1 e2
        refine gone_ok (X := X.suite a ((a, oe4) :: (X.pn ++ pins))) S6 hN hi hln fun s7 S7 => ?_
        have J7 : Inv X pins _ H6 s7 := S7.unsuite ok
        have ha7 := (S7.pin (a, oe4) (List.mem_append_left _ List.mem_cons_self)).1
        exact ⟨_, _, inv_track J7 ha7 hd4 na s0a nL npin (xo_ok ha7 hz4 hd4), hyes a na⟩
      | brk =>
        obtain ⟨_, _, _, q6⟩ := hsp
        exact q6.elim
      | cont =>
        obtain ⟨_, _, _, q6⟩ := hsp
        exact q6.elim
      | ret u =>
        obtain ⟨_, _, _, _, _, q6⟩ := hsp
        exact q6.elim
  · cases f with
    | next =>
      obtain ⟨σ', H', J', q⟩ := hsp
      exact wpAny_execs_nil ⟨σ', H', J'.ofTry ok, q⟩
    | brk =>
      obtain ⟨σ', H', J', q⟩ := hsp
      exact ⟨σ', H', J'.ofTry ok, q⟩
    | cont =>
      obtain ⟨σ', H', J', q⟩ := hsp
      exact ⟨σ', H', J'.ofTry ok, q⟩
    | ret u =>
      obtain ⟨v, σ', H', J', r, q⟩ := hsp
      exact ⟨v, σ', H', J'.ofTry ok, r, q⟩
end
end Lx

set_option Elab.async false
set_option linter.all false
set_option maxRecDepth 100000
set_option maxHeartbeats 4000000
namespace Lx
open PySem PySem.Spec PyProof.Rows L2 LamX NdefX Lk
/-! ### a def that calls the lambda that it got -/
section
variable {X : Cx} {pins : List (Addr × Obj)} {σ : L2.St} {H HZ : Hp} {s s1 : Shared}
abbrev lamL (X : Cx) (params : Arguments) (body : Expr) (scope : Scope) : LW := ⟨X.env.qual ++ "<lambda>", params, body, scope, cloFrom X.env.cells scope.names []⟩
theorem pe_actN {CXg : CXT} {Eg : XK} {Ng : List Str} {qg : Str} {sg : Scope} {g f c' : Addr} {cdg : Value} {params : Arguments} {body : Expr} {scope : Scope} {k i : Nat} {a : Str} {pn : List (Addr × Obj)} {xe : Value → Shared → Prop} {W : WX} {tb : XK → TE} {p1 p2 : Pos}
    (I : Inv X pins σ H s) (L : LamS X.env.scope scope)
    (hbind : ∀ (pm cv ctv : Value), bindArgs (PySem.W.kla_fn "<lambda>" (X.env.qual ++ "<lambda>") params body scope (cloFrom X.env.cells scope.names []) pm cv ctv) ⟨[], []⟩ = pure [])
    (tk : Takes ((cxOf CXg X.prog X.w X.K X.mg X.base Ng qg sg g cdg X.A X.stack s H Eg).tr pn xe) W) (hr : Room (k + 1) (X.A.deeper (envOfC qg sg s.heap.objs.size g cdg)))
    (hbody : ∀ (E : XK) (A : Around) (outer : List Env) (s : Shared) (H : Hp), Room k (A.deeper (lamEnv X scope s.heap.objs.size f c')) → PE (lamCx X A outer s H E scope f c') body (tb E))
    (hN : Ng[i]? = some a) (hv : Vis sg a) (hd : (a == ("__debug__" : Str)) = false := by decide) (hcd : (a == ("__classdict__" : Str)) = false := by decide) :
    PE ((cxOf CXg X.prog X.w X.K X.mg X.base Ng qg sg g cdg X.A X.stack s H Eg).tr pn xe) (.Call (.Name a p1) [] [] p2)
      (fun σZ HZ Q => ∃ E : XK, (∀ cls d H', E cls d H' → W cls d σZ H') ∧ σZ[i]? = some (some (.ref f)) ∧ HZ f = some (LamO f (lamL X params body scope) c') ∧ HZ c' = some (CodeO c' (X.env.qual ++ "<lambda>")) ∧ tb E σ HZ Q) := by
  refine ⟨fun pinsZ sZ σZ HZ Q IZ h => ?_⟩
  obtain ⟨E, hW, hs, hF, hc, ht⟩ := h
  refine wpAny_Call_Name_kw (thn ((pe_var (pos := p1) (i := i) hN hv hd hcd).run pinsZ sZ σZ HZ (fun v H1 => v = .ref f ∧ H1 = HZ) IZ ⟨.ref f, hs, rfl, rfl⟩) fun u s1 ⟨v, H1, I1, r1, q1⟩ => ?_)
  obtain ⟨ev, eH⟩ := q1
  subst ev
  rw [eH] at I1
  obtain rfl : u = Value.ref f := r1
  obtain ⟨pm, ctv, of1⟩ := lamO_at I1.hok hF
  refine PySem.W.callWith_F0 ⟨_, _, _, _, of1⟩ ?_
  have un : Un (frs X.stack) [] H HZ s.heap s1.heap := I1.base
  obtain ⟨⟨oc, vs, t, hoc, hdc, hvc⟩, _, _⟩ := I1.hok c' _ hc
  have rc : codeAny (model X.prog X.w) (X.A.deeper (envOfC qg sg s.heap.objs.size g cdg)) (.call (.ref f) ⟨[], []⟩) (CR (L2.CX X.prog X.w) (envOfC qg sg s.heap.objs.size g cdg :: X.stack) X.prog X.w HZ s1 Q E) s1 := by
    refine PySem.W.kla_callFunE hr.depth of1 rfl L.co L.gen rfl ⟨c', oc, vs, t, rfl, hoc, hdc, hvc⟩ ?_
    rw [hbind]
    refine wpAny_pure (wpAny_newFunctionEnv (fun y hy => (L.own y hy).2) (fun y hy => absurd hy (by simp)) (fun h₁ hns hsb => ⟨I1.nolimit.fresh _ hsb, ?_⟩) L.kind)
    show codeAny _ _ (.expr body (lamEnv X scope s1.heap.objs.size f c')) _ _
    have kp : ∀ b o, s1.heap.get? b = some o → h₁.get? b = some o := fun b o e => hsb.extBut b o (Nat.ne_of_lt (Heap.lt_size e)) (Heap.get?_push_of_some _ e)
    have J : Inv (lamCx X (X.A.deeper (envOfC qg sg s.heap.objs.size g cdg)) (envOfC qg sg s.heap.objs.size g cdg :: X.stack) s1 HZ E scope f c') [] σ HZ { s1 with heap := h₁, toks := s1.toks + ([] : List (Str × Value)).length } :=
      lam_start2 I L I1.env0 hr.hd un hns kp
    refine PySem.W.kla_codeExpr (wpAny_mono ((hbody E _ _ s1 HZ (hr.deeper _)).run [] _ _ HZ Q J ht) (fun v s' hq => ?_) fun e s' hq => hq)
    obtain ⟨w', H', J', rv, q⟩ := hq
    exact ⟨w', H', J'.os, J'.bare, J'.base, J'.hok, rv, q⟩
  refine wpAny_call (codeAny_mono rc fun r s' hq => ?_)
  cases r with
  | error e => exact tk e s' (XE.of_call I1 (fun cls d H' h => hW cls d H' h) hq)
  | ok fl =>
    cases fl with
    | ret u => exact I1.after hq
    | next => exact False.elim hq
    | brk => exact False.elim hq
    | cont => exact False.elim hq
/-- the def that calls what it got: a calls it; TT: what it makes of the lambda's reading -/
def GivesToN (X : Cx) (Ng : List Str) (x : Str) (sg : Scope) (g : Addr) (cdg : Value) (bg : List Stmt) (a : Str) (L : LW) (TT : (XK → Hp → VK → Prop) → Hp → VK → Prop) : Prop :=
  ∀ (f c' : Addr) (s : Shared) (H : Hp) (Q : VK) (tl : XK → Hp → VK → Prop),
    (∀ (W : WX) (pn : List (Addr × Obj)) (xe : Value → Shared → Prop) (p1 p2 : Pos), Takes ((cxOf L2.CX0 X.prog X.w X.K X.mg X.base Ng x sg g cdg X.A X.stack s H L2.E0).tr pn xe) W →
      PE ((cxOf L2.CX0 X.prog X.w X.K X.mg X.base Ng x sg g cdg X.A X.stack s H L2.E0).tr pn xe) (.Call (.Name a p1) [] [] p2) (fun σZ HZ Q => ∃ E : XK, (∀ cls d H', E cls d H' → W cls d σZ H') ∧ σZ[0]? = some (some (.ref f)) ∧ HZ f = some (LamO f L c') ∧ HZ c' = some (CodeO c' L.qual) ∧ tl E HZ Q)) →
    H f = some (LamO f L c') → H c' = some (CodeO c' L.qual) → TT tl H Q →
    ∃ t, PSs (cxOf L2.CX0 X.prog X.w X.K X.mg X.base Ng x sg g cdg X.A X.stack s H L2.E0).nox bg t ∧ t { nx := fun _ H' => Q .non H', rt := Q } (L2.start Ng [.ref f]) H
def tLamN (T : List NTab) (P : Addr) (mk : Addr → Addr → HO) (q : Str) (TT : (XK → Hp → VK → Prop) → Hp → VK → Prop) (t : XK → TE) : TE := fun σ H Q => TabsN T H ∧ ∀ (f c' : Addr) (H1 : Hp), KeepP P H H1 → TabsN T H1 → H f = none → H1 f = some (mk f c') → H1 c' = some (CodeO c' q) →
  TT (fun E H' Q' => t E σ H' Q') H1 Q
/-- x(lambda: body) -/
theorem pe_lamcallN {T : List NTab} {nm : Nat → Nat → Str} {TT : (XK → Hp → VK → Prop) → Hp → VK → Prop} {x a : Str} {g c P : Addr} {k : Nat} {pg : Arguments} {bg : List Stmt} {sg : Scope} {dV kV doc pm cdv ct oc : Value} {an od : Option Addr} {osl : Array (Option Value)} {Ng : List Str}
    {params : Arguments} {body : Expr} {scope : Scope} {t : XK → TE} {p lpos pos : Pos} (hg : Gl X x) (hm : X.mg x = some (.ref g)) (hk : PySem.W.keepIn X.K (.ref g) = true)
    (lk : X.K.lookup g = some ⟨oc, od, .func (PySem.W.fnOf x x pg bg sg dV kV doc pm an cdv ct), osl⟩) (hcg : PySem.W.codeIn X.K cdv x = true) (hb : L2.Binds X.K (PySem.W.fnOf x x pg bg sg dV kV doc pm an cdv ct) [a] []) (Sg : FnScope Ng [a] sg) (hNg : Ng[0]? = some a) (hva : Vis sg a)
    (hG : GivesToN X Ng x sg g cdv bg a (lamL X params body scope) TT)
    (TB : TabB X.base X.mg c P) (hcode : X.env.code = .ref c) (hmT : (P, nm) ∈ T) (hn : nm lpos.line lpos.col = X.env.qual ++ "<lambda>") (hu : ∀ p ∈ T, p.1 = P → p.2 = nm) (hr : Room (k + 2) X.A) (L : LamS X.env.scope scope) (hdef : defaultsOf params X.env = ([], []))
    (hbind : ∀ (q : Str) (cl : List (Str × Addr)) (pm cv ctv : Value), bindArgs (PySem.W.kla_fn "<lambda>" q params body scope cl pm cv ctv) ⟨[], []⟩ = pure [])
    (hbody : ∀ (A : Around) (outer : List Env) (s : Shared) (H : Hp) (E : XK) (f c' : Addr), Room k (A.deeper (lamEnv X scope s.heap.objs.size f c')) → PE (lamCx X A outer s H E scope f c') body (t E))
    (hdb : (x == ("__debug__" : Str)) = false := by decide) (hd : (a == ("__debug__" : Str)) = false := by decide) (hcd : (a == ("__classdict__" : Str)) = false := by decide) :
    PE X (.Call (.Name x p) [.Lambda params body scope lpos] [] pos) (tLamN T P (fun f c' => LamO f (lamL X params body scope) c') (X.env.qual ++ "<lambda>") TT t) := by
  refine ⟨fun pins s σ H Q I h => ?_⟩
  obtain ⟨hT, h⟩ := h
  refine wpAny_Call_Name_kw (ld_glob I hg hm ?_ hdb)
  refine PySem.W.callWith_K (h₀ := X.base) I.ok.mod.kin hk ?_ (by rfl) (by rfl)
  show wpAny _ _ (spliced ((false, eval (.Lambda params body scope lpos) X.env) :: backTo pos (starEach [] X.env))) _ _ s
  refine Calls.spliced_cons (lam_makeN I TB hcode hmT hn hu hT hdef (L.has I.ok) fun f c' H1 s' I1 kp T1 f0 f1 c1 => ?_)
  refine Calls.spliced_nil ⟨I1.kIn, ?_⟩
  have rc : codeAny (model X.prog X.w) X.A (.call (.ref g) ⟨[.ref f], []⟩) (CR L2.CX0 X.stack X.prog X.w H1 s' Q L2.E0) s' := by
    refine run_ofS (N := Ng) (ps := [a]) (us := [.ref f]) (vs := [.ref f]) lk hcg Sg hr I1.env0 (hb s' [.ref f] I1.kIn rfl) (.cons rfl .nil) rfl fun hr' => ?_
    obtain ⟨t', ht', hq'⟩ := hG f c' s' H1 Q (fun E H' Q' => t E σ H' Q') (fun W pn xe p1 p2 tk => pe_actN (i := 0) (tb := t) I1 L (fun _ _ _ => hbind _ _ _ _ _) tk hr' (fun E A outer s H hr2 => hbody A outer s H E f c' hr2) hNg hva hd hcd) f1 c1 (h f c' H1 kp T1 f0 f1 c1)
    exact ⟨t', ht'.nox, hq'⟩
  refine wpAny_call (codeAny_mono rc fun r s2 hq => ?_)
  cases r with
  | error e => exact (show False from hq).elim
  | ok fl =>
    cases fl with
    | ret u => exact I1.after hq
    | next => exact False.elim hq
    | brk => exact False.elim hq
    | cont => exact False.elim hq
/-- heard: (the error, what is returned) -/
def TTheard (K : PySem.W.Frag) (CW : Addr) : (XK → Hp → VK → Prop) → Hp → VK → Prop := fun tl H Q => ∀ p0, H p0 = none → ∀ (E' : XK) (Q' : VK),
  (∀ cls d H', (PySem.W.exmOne K cls (.ref CW) = some true ∧ ∃ C dd, cls = .ref C ∧ d = some dd ∧ ∀ a, H' a = none → ∀ t, upd H' a (Lw.xoH a C dd) t = none → Q (.ref t) (upd (upd H' a (Lw.xoH a C dd)) t (.tup [.ref a, .non]))) → E' cls d H') →
  (∀ v H', (∀ t, H' t = none → Q (.ref t) (upd H' t (.tup [.non, v]))) → Q' v H') → tl E' (upd H p0 (.tup [.non, .non])) Q'
/-- def x(a): c, b = None, None; try: b = a() except W as e: c = e; return (c, b) -/
theorem heard_gives {x a nc nb ne nW : Str} {sg : Scope} {g CW : Addr} {cdg : Value} {L : LW} {k1 k2 k3 : Nat} {q1 q2 q3 q4 q5 q6 q7 q8 q9 q10 q11 q12 q13 q14 q15 q16 q17 q18 q19 q20 q21 : Pos}
    (hN : ([a, nc, nb, ne] : List Str).Nodup) (hk : sg.kind = .function) (hc : sg.names.lookup nc = some .local) (hb : sg.names.lookup nb = some .local) (he : sg.names.lookup ne = some .local) (hge : sg.names.lookup nW = some .globalImplicit) (hme : X.mg nW = some (.ref CW)) (hde : (nW == ("__debug__" : Str)) = false)
    (hd : ∀ y ∈ ([nc, nb, ne] : List Str), (y == ("__debug__" : Str)) = false ∧ (y == ("__classdict__" : Str)) = false)
    (hw : ∀ L0 : Addr, swappedStores [.Tuple [.Name nc q1, .Name nb q2] k1 q3] (.Tuple [.Constant .none k2 q4, .Constant .none k3 q5] k2 q6) (envOfC x sg L0 g cdg) = pure none)
    (hs : ∀ L0 : Addr, swapsWithSole [.Tuple [.Name nc q1, .Name nb q2] k1 q3] (.Tuple [.Constant .none k2 q4, .Constant .none k3 q5] k2 q6) q7.line (envOfC x sg L0 g cdg) = pure false)
    (hs2 : ∀ L0 : Addr, swapsWith (.Call (.Name a q8) [] [] q9) (some (.Name nb q10)) q11.line (envOfC x sg L0 g cdg) = pure false) (hs3 : ∀ L0 : Addr, swapsWith (.Name ne q13) (some (.Name nc q14)) q15.line (envOfC x sg L0 g cdg) = pure false) :
    GivesToN X [a, nc, nb, ne] x sg g cdg [.Assign [.Tuple [.Name nc q1, .Name nb q2] k1 q3] (.Tuple [.Constant .none k2 q4, .Constant .none k3 q5] k2 q6) q7,
      .Try [.Assign [.Name nb q10] (.Call (.Name a q8) [] [] q9) q11] [.ExceptHandler (some (.Name nW q12)) (some ne) [.Assign [.Name nc q14] (.Name ne q13) q15] q16] [] [] q17,
      .Return (some (.Tuple [.Name nc q18, .Name nb q19] k3 q20)) q21] a L (TTheard X.K CW) := by
  intro f c' s H Q tl act hf hco h
  have hgl : Gl (cxOf L2.CX0 X.prog X.w X.K X.mg X.base [a, nc, nb, ne] x sg g cdg X.A X.stack s H L2.E0).nox nW := hge
  refine ⟨_, pss_cons (ps_asg (pe_tup (pa_cons pe_non (pa_cons pe_non pa_nil))) (pg_tup (n := 2) rfl (pgs_cons (pg_name (i := 1) hN rfl (.inl hc)) (pgs_cons (pg_name (i := 2) hN rfl (.inl hb)) pgs_nil)) rfl rfl) (hs _) (hw _) (by rfl)) (pss_cons (ps_try_keep (X := (cxOf L2.CX0 X.prog X.w X.K X.mg X.base [a, nc, nb, ne] x sg g cdg X.A X.stack s H L2.E0).nox) (c := .ref CW) (i := 3) (j := 1)
      (tb := fun W => tAsg (fun σZ HZ Q => ∃ E : XK, (∀ cls d H', E cls d H' → W cls d σZ H') ∧ σZ[0]? = some (some (.ref f)) ∧ HZ f = some (LamO f L c') ∧ HZ c' = some (CodeO c' L.qual) ∧ tl E HZ Q) (gName 2))
      rfl rfl rfl hN rfl he rfl hc ⟨hgl, hde, .inl hme⟩ (fun W pn xe tk _ => pss_one (ps_set (i := 2) hN rfl (.inl hb) (act W pn xe q8 q9 tk) (hs2 _) (.inr hb))) (hd ne (by simp)).1 (hd ne (by simp)).2 (hs3 _))
      (pss_one (ps_ret (pe_tup (pa_cons (pe_var (i := 1) rfl (.inl hc) (hd nc (by simp)).1 (hd nc (by simp)).2) (pa_cons (pe_var (i := 2) rfl (.inl hb) (hd nb (by simp)).1 (hd nb (by simp)).2) pa_nil)))))), ?_⟩
  refine ⟨by show 2 ≤ sizeLine; rw [sizeLine_eq]; decide, fun p hp => ⟨p, [.non, .non], rfl, SqT.of upd_same, rfl, .non, [.non], rfl, .non, [], rfl, rfl, ?_⟩⟩
  refine ⟨fun cls d H' => wKeep X.K (.ref CW) 3 1 _ cls d [some (.ref f), some .non, some .non, none] H', fun _ _ _ z => z, rfl, by rw [upd_ne (ne_of_none hf hp)]; exact hf, by rw [upd_ne (ne_of_none hco hp)]; exact hco, h p hp _ _ (fun cls d H' z => ?_) fun v H' z => ?_⟩
  · obtain ⟨z1, C, dd, z2, z3, z4⟩ := z
    refine ⟨z1, C, dd, z2, z3, fun b hb => ?_⟩
    exact ⟨.ref b, rfl, .non, rfl, by show 2 ≤ sizeLine; rw [sizeLine_eq]; decide, fun t ht => z4 b hb t ht⟩
  · exact ⟨.non, rfl, v, rfl, by show 2 ≤ sizeLine; rw [sizeLine_eq]; decide, fun t ht => z t ht⟩
end
end Lx

set_option Elab.async false
set_option linter.all false
set_option maxRecDepth 100000
set_option maxHeartbeats 4000000
namespace Lw
open PySem PySem.Spec PyProof.Rows L2 LamX NdefX Lk
variable [Tabl]
/-! ### heard(lambda: ..) over data -/
/-- the slots as a function that is handed on sees them: what may change is not told -/
def imm (ρ : List SD) : List SD := ρ.map fun s => if s.mu then .un else s
theorem imm_get {ρ : List SD} {i : Nat} {s : SD} (h : (imm ρ)[i]? = some s) : s = .un ∨ (ρ[i]? = some s ∧ s.mu = false) := by
  unfold imm at h
  rw [List.getElem?_map] at h
  cases q : ρ[i]? with
  | none => rw [q] at h; cases h
  | some z =>
    rw [q] at h
    have h : (if z.mu then SD.un else z) = s := Option.some.inj h
    by_cases m : z.mu = true
    · rw [if_pos m] at h; exact .inl h.symm
    · rw [if_neg m] at h; subst h; exact .inr ⟨rfl, by simpa using m⟩
theorem Sl.still {K : Fg} {P P' : Addr → Prop} {H0 H0' B H : Hp} {o : Option V} {s : SD} (h : Sl K P H0 B H o s) (m : s.mu = false) : Sl K P' H0' B H o s := by
  cases s with
  | un => trivial
  | d x => exact h
  | fn φ q => exact h
  | ow xs => cases m
  | pl xs => cases m
  | pot n => cases m
  | ins C dx fs => cases m
  | odT xs => cases m
  | odK xs => cases m
section
variable [Exn] {K : Fg} {ρ : List SD}
theorem we_heard {P0 CW : Addr} {mk : Addr → Addr → HO} {q : Str} {tE : XK → TE} {Fd : D → Prop} {Xc : Addr → D → Prop} {F : D → List SD → Prop} (hP : Tb P0)
    (hb : ∀ E : XK, @WE _ (exnOf E Xc) K (tE E) (imm ρ) (fun d _ => Fd d)) (hF : ∀ d, Fd d → F (.tup [.non, d]) ρ) (hX : ∀ C x, Xc C x → PySem.W.exmOne K (.ref C) (.ref CW) = some true ∧ F (.tup [.exc C x, .non]) ρ) :
    WE K (Lx.tLamN Tabl.T P0 mk q (Lx.TTheard K CW) tE) ρ F := fun P B0 H0 B H σ S Q k => by
  refine ⟨S.ok.1, fun f c' H1' kp t1 f0 f1 c1 p0 hp0 E' Q' hE hQ => ?_⟩
  have g0 := gr_keepP S.le S.ok hP kp t1
  have S0 := S.step g0
  have g : Gr Non B H (upd B p0 (.tup [.non, .non])) (upd H1' p0 (.tup [.non, .non])) := g0.trans ((Gr.refl S0.le).new hp0 hp0)
  have S1' := S.step g
  revert hE hQ S1' g
  generalize hB : upd B p0 (.tup [.non, .non]) = B1
  generalize upd H1' p0 (.tup [.non, .non]) = H1
  intro hE hQ g S1
  have sB : Same B B1 := g.bb
  have core : Stc K Non B1 H1 (imm ρ) B1 H1 σ := {
    len := by rw [S1.len]; unfold imm; rw [List.length_map]
    gr := Gr.refl S1.le
    sl := fun i s h => by
      rcases imm_get h with rfl | ⟨h, m⟩
      · trivial
      · exact (S1.sl i s h).still m
    dis := fun i j s t h1 h2 m1 => by
      rcases imm_get h1 with rfl | ⟨_, m⟩
      · cases m1
      · rw [m] at m1; cases m1
    ok := S1.ok }
  have exok : ∀ (ρ' : List SD) (B' H' : Hp) (σ' : L2.St) (C : Addr) (dd : Option Addr) (x : D), Stc K Non B1 H1 ρ' B' H' σ' → XAt K B' C x dd → Xc C x → E' (.ref C) dd H' := fun ρ' B' H' σ' C dd x c xa hx => by
    obtain ⟨z1, z2⟩ := hX C x hx
    obtain ⟨dx, v, rfl, hd, r⟩ := xa
    refine hE (.ref C) (some dx) H' ⟨z1, C, dx, rfl, rfl, fun a ha t ht => ?_⟩
    have S2 := S1.step c.gr
    have hb1 := S2.bfree ha
    have S3 := S2.new (xoH a C dx) ha
    have hb2 := S3.bfree ht
    have S4 := S3.new (.tup [.ref a, .non]) ht
    have s34 : Same B' (upd (upd B' a (xoH a C dx)) t (.tup [.ref a, .non])) := (same_new hb1).trans (same_new hb2)
    refine k (.ref t) (.tup [.exc C x, .non]) ρ _ _ z2 S4 ((Ev.pure (g.trans c.gr)).trans ((Ev.new S2.le ha).trans (Ev.new S3.le ht))) (.tup (SqT.of upd_same) (.cons (.exc (dx := dx) (same_new hb2 _ _ upd_same) (s34 _ _ hd) (r.mono s34)) (.cons .non .nil)))
  have start : @ST _ (exnOf E' Xc) K Non B1 H1 (imm ρ) B1 H1 σ := @ST.mk _ (exnOf E' Xc) _ _ _ _ _ _ _ _ core.len core.gr core.sl core.dis core.ok exok
  refine @hb E' Non B1 H1 B1 H1 σ start Q' fun v d ρ' B' H' hd S' ev r => hQ v H' fun t ht => ?_
  have gr : Gr Non B1 H1 B' H' := @ST.gr _ (exnOf E' Xc) _ _ _ _ _ _ _ _ S'
  have S2 := S1.step gr
  have hb2 := S2.bfree ht
  exact k (.ref t) (.tup [.non, d]) ρ _ _ (hF d hd) (S2.new _ ht) ((Ev.pure (g.trans gr)).trans (Ev.new S2.le ht)) (.tup (SqT.of upd_same) (.cons .non (.cons (r.mono (same_new hb2)) .nil)))
end
end Lw

set_option Elab.async false
set_option linter.all false
set_option maxRecDepth 100000
set_option maxHeartbeats 4000000
namespace Lh
open PySem PySem.Spec PyProof.Rows L2
/-! ### the head, with the tables of defs that make functions -/
/-- the code object of the function at a -/
def cdA (K : Fg) (a : Addr) : Addr := match K.lookup a with
  | some ⟨_, _, .func fd, _⟩ => (match fd.code with
    | .ref c => c
    | _ => 0)
  | _ => 0
/-- a def that makes functions: where it stands, the names of what it makes, by place -/
structure TP where
  ad : Fg → Addr
  nm : Nat → Nat → Str
def TP.c (K : Fg) (t : TP) : Addr := cdA K (t.ad K)
def TP.p (K : Fg) (t : TP) : Addr := He.tabOf K (t.c K)
def csOf (tl : List TP) (K : Fg) : List (Addr × Addr) := tl.map fun t => (t.c K, t.p K)
def tabT (tl : List TP) (K : Fg) : List NdefX.NTab := tl.map fun t => (t.p K, t.nm)
def tabsG (g : Addr → Option Obj) (tl : List TP) (K : Fg) : Bool := decide ((tl.map fun t => t.p K).Nodup) && tl.all fun t => PySem.W.codeHdIn K (t.c K) (t.p K) && (match g (t.p K) with
  | some o => He.emptyTab o
  | none => false)
def obsPT (n : Nat) (ex : Fg → Bool) (fn : List DP) (tl : List TP) (g : Addr → Option Obj) : Sees := obsP (fun K => ex K && tabsG g tl K) fn (He.frT g (PySem.cStatics :: He.asD g n))
structure SaysT (ex : Fg → Bool) (fn : List DP) (tl : List TP) (h : Heap) (K : Fg) : Prop where
  d : obsP ex fn K = dueP fn
  nd : (tl.map fun t => t.p K).Nodup
  hd : ∀ t ∈ tl, PySem.W.codeHdIn K (t.c K) (t.p K) = true
  out : ∀ t ∈ tl, K.lookup (t.p K) = none
  empty : ∀ t ∈ tl, h.get? (t.p K) = some { cls := .none, data := .fields #[] }
theorem saysT_of {n : Nat} {ex : Fg → Bool} {fn : List DP} {tl : List TP} {h : Heap} (e : obsPT n ex fn tl h.get? = dueP fn) : SaysT ex fn tl h (He.frT h.get? (PySem.cStatics :: He.asD h.get? n)) := by
  have e2 : fn.map (fun d => d.see (He.frT h.get? (PySem.cStatics :: He.asD h.get? n))) = fn.map DP.due := congrArg Prod.snd e
  have e1 := congrArg Prod.fst e
  obtain ⟨h1, h2⟩ := Bool.and_eq_true_iff.mp e1
  obtain ⟨h3, h4⟩ := Bool.and_eq_true_iff.mp h1
  obtain ⟨h5, h6⟩ := Bool.and_eq_true_iff.mp h4
  have key : ∀ t ∈ tl, PySem.W.codeHdIn (He.frT h.get? (PySem.cStatics :: He.asD h.get? n)) (t.c _) (t.p _) = true ∧ ∃ o, h.get? (t.p (He.frT h.get? (PySem.cStatics :: He.asD h.get? n))) = some o ∧ He.emptyTab o = true := fun t ht => by
    obtain ⟨a, b⟩ := Bool.and_eq_true_iff.mp (List.all_eq_true.mp h6 t ht)
    refine ⟨a, ?_⟩
    cases q : h.get? (t.p (He.frT h.get? (PySem.cStatics :: He.asD h.get? n))) with
    | none =>
      rw [q] at b
      cases b
    | some o =>
      rw [q] at b
      exact ⟨o, rfl, b⟩
  refine ⟨?_, of_decide_eq_true h5, fun t ht => (key t ht).1, fun t ht => ?_, fun t ht => ?_⟩
  · unfold obsP dueP
    rw [e2, h3, h2]
    rfl
  · obtain ⟨_, o, q, z⟩ := key t ht
    exact He.frT_none q z
  · obtain ⟨_, o, q, z⟩ := key t ht
    rw [q, He.emptyTab_eq z]
def hookPT (n : Nat) (ex : Fg → Bool) (fn : List DP) (tl : List TP) : PySem.W.Hook :=
  { α := Sees
    obs := fun s => obsPT n ex fn tl s.heap.get?
    val := fun _ => dueP fn
    says := fun _ h => ∃ K : Fg, K.In h ∧ SaysT ex fn tl h K
    of := fun _ s e => ⟨He.frT s.heap.get? (PySem.cStatics :: He.asD s.heap.get? n), He.frT_in, saysT_of e⟩
    keeps := fun _ _ _ ⟨K, hK, c⟩ k => ⟨K, PySem.W.Frag.In.keeps hK k, ⟨c.d, c.nd, c.hd, c.out, fun t ht => k _ _ (c.empty t ht)⟩⟩ }
theorem obsPT_eq {n : Nat} {ex : Fg → Bool} {fn : List DP} {tl : List TP} {g : Addr → Option Obj} {s : Shared} (h : ∀ a, g a = s.heap.get? a) : obsPT n ex fn tl g = (hookPT n ex fn tl).obs s := by
  obtain rfl : g = s.heap.get? := funext h
  rfl
/-- the def's code object, known -/
theorem cd_of {K : Fg} {a : Addr} {oc cdv : Value} {od : Option Addr} {osl : Array (Option Value)} {fd : FuncData} {q : Str} (lk : K.lookup a = some ⟨oc, od, .func fd, osl⟩) (e : fd.code = cdv) (h : PySem.W.codeIn K cdv q = true) : cdv = .ref (cdA K a) := by
  obtain ⟨c, rfl⟩ := He.codeIn_ref h
  unfold cdA
  rw [lk]
  show Value.ref c = .ref (match fd.code with | .ref c => c | _ => 0)
  rw [e]
theorem fd_okC {P : Program} {w : World} {K : Fg} {mg : Str → Option Value} {base : Heap} {x qual : Str} {params : Arguments} {body : List Stmt} {scope : Scope} {f : Addr} {fd : FuncData} {N ps : List Str} {k : Nat} {sp : Sp} (F : FunD K x qual params body scope [] [] f fd) (S : FnScope N ps scope) (len : ∀ vs H Q E, sp vs H Q E → vs.length = ps.length)
    (hbody : ∀ (A : Around) (outer : List Env) (s : Shared) (H : Hp) (vs : List V) (Q : VK) (E : XK), Room k (A.deeper (envOfC qual scope s.heap.objs.size f (.ref (cdA K f)))) → sp vs H Q E →
      ∃ t, PSs (cxOf L2.CX0 P w K mg base N qual scope f (.ref (cdA K f)) A outer s H E) body t ∧ t { nx := fun _ H' => Q .non H', rt := Q } (start N vs) H) : FnOk P w K mg base L2.CX0 (k + 1) f fd ps sp := by
  obtain ⟨oc, od, dV, kV, doc, pm, an, cdv, ct, osl, rfl, lk, hcd, _, _⟩ := F.ex
  have e : cdv = .ref (cdA K f) := cd_of lk rfl hcd
  exact fn_of lk hcd S len fun A outer s H vs Q E hr hsp => by
    rw [e] at hr ⊢
    exact hbody A outer s H vs Q E hr hsp
end Lh
namespace Lw
open PySem PySem.Spec PyProof.Rows L2
variable [Tabl] [Exn]
omit [Exn] in
/-- a def that changes nothing and makes functions -/
theorem fn_pureC {P : Program} {w : World} {K : Fg} {mg : Str → Option Value} {base : Heap} {name qual : Str} {params : Arguments} {body : List Stmt} {scope : Scope} {f : Addr} {fd : FuncData} {N ps : List Str} {k n : Nat} {S : List D → (D → Prop) → Prop}
    (F : FunD K name qual params body scope [] [] f fd) (sc : FnScope N ps scope) (hn : n = ps.length) (hN : n ≤ N.length)
    (hb : ∀ (A : Around) (outer : List Env) (s : Shared) (H : Hp) (E : XK), Room k (A.deeper (envOfC qual scope s.heap.objs.size f (.ref (Lh.cdA K f)))) →
      ∃ t, PSs (cxOf L2.CX0 P w K mg base N qual scope f (.ref (Lh.cdA K f)) A outer s H E).nox body t ∧ ∀ ds G, ds.length = n → S ds G → ∀ [Exn], WS K t (rho N ds) (outP G)) :
    FnOk P w K mg base L2.CX0 (k + 1) f fd ps (pureSp K n S) := by
  refine Lh.fd_okC F sc (fun vs H Q E h => ?_) (fun A outer s H vs Q E hr h => ?_)
  · obtain ⟨B, ds, G, h1, _, h2, h3, _⟩ := h
    rw [h2.length, h3, hn]
  · obtain ⟨t, hp, hw⟩ := hb A outer s H E hr
    refine ⟨t, hp.nox, ?_⟩
    obtain ⟨B, ds, G, h1, tk, h2, h3, h4, h5⟩ := h
    letI := exn0
    refine hw ds G h3 h4 Non B H B H (start N vs) (st_start exOk0 h1 tk h2 (by rw [h3]; exact hN)) _ (fun ρ' B' H' σ' f S' s' => ?_) (fun v d ρ' B' H' σ' f S' s' r => ?_) (fun _ _ _ _ z => z.elim) (fun _ _ _ _ z => z.elim)
    · exact h5 _ _ B' H' f S'.gr .non
    · exact h5 v d B' H' f S'.gr r
end Lw

set_option Elab.async false
set_option linter.all false
set_option maxRecDepth 100000
set_option maxHeartbeats 4000000
namespace Lh
open PySem PySem.Spec PyProof.Rows L2 PySem.W
/-! ### what is looked for of a class of errors -/
def excObB (K : Fg) (C : Addr) : Bool := match K.lookup C with
  | some ⟨.type "type", _, .cls cd, sl⟩ => (match cd.mro, sl.toList with
    | .ref C' :: bm, [_, _, _, _, some (.builtin n), _] => C' == C && n == "ValueError.__new__" && !cd.hasDel && cd.hasDict && PySem.HandSPX.refsVE bm
    | _, _ => false)
  | _ => false
theorem excOb_of {K : Fg} {C : Addr} (q : excObB K C = true) : ∃ nm q N bs bm sn sub ab col dd k0 k1 k2 k3 k5, K.lookup C = some (excClassObj nm q C N bs bm true sn sub ab col dd k0 k1 k2 k3 k5 "ValueError.__new__") ∧ PySem.HandSPX.refsVE bm = true := by
  unfold excObB at q
  split at q
  · rename_i dd cd sl ho
    split at q
    · rename_i C' bm k0 k1 k2 k3 n k5 hm hs
      simp only [Bool.and_eq_true, beq_iff_eq, Bool.not_eq_true'] at q
      obtain ⟨⟨⟨⟨rfl, rfl⟩, hdel⟩, hd2⟩, ht⟩ := q
      obtain ⟨nm, bs, mro, ns, qn, hd, sn, sub, ab, col, del⟩ := cd
      dsimp only at hm hdel hd2
      subst hm hdel hd2
      have hsl : sl = #[k0, k1, k2, k3, some (.builtin "ValueError.__new__"), k5] := by
        obtain ⟨l⟩ := sl
        simp only at hs
        rw [hs]
      subst hsl
      exact ⟨nm, qn, ns, bs, bm, sn, sub, ab, col, dd, k0, k1, k2, k3, k5, ho, ht⟩
    · cases q
  · cases q
/-- the class at C, its __init__ that of the class at D -/
def supB (K : Fg) (C D : Addr) : Bool := excObB K C && (He.eqO (findIn K (.ref C) "__setattr__") (some (some (.builtin "object.__setattr__"))) && (decide (subIn K (.ref C) (.type "BaseException") = some true) && (decide (typeIn K (.ref C) = some (.type "type")) && (keepIn K (.ref C) &&
  (He.eqO (findIn K (.ref C) "value") (some none) && (decide (mroIn K C (.ref D) = some true) && (He.eqO (ks_superIn K C D "__init__") (some (some (.builtin "ValueError.__init__"))) && (decide (subIn K (.ref C) (.type "ValueError") = some true) && He.eqO (nsIn K cStatics "thirdparty.any") (some none)))))))))
theorem sup_of {K : Fg} {C D : Addr} (h : supB K C D = true) : Lx.SupC K C D := by
  unfold supB at h
  simp only [Bool.and_eq_true] at h
  obtain ⟨h1, h2, h3, h4, h5, h6, h7, h8, h9, h10⟩ := h
  exact ⟨⟨excOb_of h1, He.eqO_ok h2, of_decide_eq_true h3, of_decide_eq_true h4, h5⟩, He.eqO_ok h6, of_decide_eq_true h7, He.eqO_ok h8, of_decide_eq_true h9, He.eqO_ok h10⟩
/-- .. as what is caught: isinstance, its value, the clause of the class at W -/
def cauB (K : Fg) (C W : Addr) : Bool := He.eqO (findIn K (.ref C) "__getattribute__") (some (some (.builtin "BaseException.__getattribute__"))) && (He.eqO (findIn K (.ref C) "__getattr__") (some none) && (decide (subIn K (.ref C) (.type "BaseException") = some true) && (hasDictIn K C &&
  (He.eqO (findIn K (.ref C) "__class__") (some (some (.builtin "object.__class__"))) && (He.eqO (specialIn K (.builtin "object.__class__") "__get__") (some (some (.builtin "getset_descriptor.__get__"))) && (decide (takesIn K (.builtin "object.__class__") = some true) && (decide (mroIn K C (.type "object") = some true) &&
  (He.eqO (findIn K (.ref C) "value") (some none) && decide (exmOne K (.ref C) (.ref W) = some true)))))))))
structure Cau (K : Fg) (C W : Addr) : Prop where
  is : ExcC K C
  fld : XfC K C
  no : findIn K (.ref C) "value" = some none
  exm : exmOne K (.ref C) (.ref W) = some true
theorem cau_of {K : Fg} {C W : Addr} (h : cauB K C W = true) : Cau K C W := by
  unfold cauB at h
  simp only [Bool.and_eq_true] at h
  obtain ⟨h1, h2, h3, h4, h5, h6, h7, h8, h9, h10⟩ := h
  exact ⟨⟨He.eqO_ok h1, He.eqO_ok h2, of_decide_eq_true h3, h4, He.eqO_ok h5, He.eqO_ok h6, of_decide_eq_true h7, of_decide_eq_true h8⟩, ⟨He.eqO_ok h1, He.eqO_ok h2, of_decide_eq_true h3, h4⟩, He.eqO_ok h9, of_decide_eq_true h10⟩
/-- the __init__ at fI of the class at D: its cell, its file -/
def supFB (K : Fg) (D fI : Addr) (file : Str) : Bool := (clsIn K D).isSome && (decide (typeIn K (.ref fI) = some (.type "function")) && match K.lookup fI with
  | some ⟨_, _, .func fd, _⟩ => (match fd.closure, fd.code with
    | [(_, cc)], .ref cda => (match K.lookup cc, K.lookup cda with
      | some ⟨_, _, .cell (some (.ref D')), _⟩, some ⟨_, _, .fields vs, _⟩ => D' == D && (match (vs[2]? : Option Value) with
        | some (Value.str f _) => f == file
        | _ => false)
      | _, _ => false)
    | _, _ => false)
  | _ => false)
theorem supF_of {P : Program} {K : Fg} {D : Addr} {d : DP} {file : Str} (h : supFB K D (d.ad K) file = true) (hsp : d.sp = true) (e : d.see K = d.due) (c : d.okB K = true) (hf : P.main.file = file) (htop : (P.main.scope.names.lookup ("super" : Str)).isSome = false)
    (hpar : ∃ ar, (d.params.posonlyargs ++ d.params.args).head? = some ar ∧ ar.arg = "self") :
    ∃ fd, Lx.SupF P K D (d.ad K) d.params d.body d.scope fd ∧ typeIn K (.ref (d.ad K)) = some (.type "function") ∧ K.lookup (d.ad K) ≠ none := by
  unfold supFB at h
  simp only [Bool.and_eq_true, decide_eq_true_eq] at h
  obtain ⟨h1, h2, h3⟩ := h
  have c1 := (Bool.and_eq_true_iff.mp c).2
  have e : seenS K (d.ad K) = d.due := by
    unfold DP.see at e
    rw [hsp] at e
    exact e
  unfold seenS at e
  split at h3
  · rename_i oc od fd osl hl
    rw [hl] at e c1
    split at h3
    · rename_i n cc cda hcl hcd
      split at h3
      · rename_i cl cld D' csl ccl cdd vs ccs k1 k2
        simp only [Bool.and_eq_true, beq_iff_eq] at h3
        obtain ⟨rfl, h4⟩ := h3
        split at h4
        · rename_i f tf hv
          have h4 := beq_iff_eq.mp h4
          subst h4
          obtain ⟨cdD, hD⟩ := Option.isSome_iff_exists.mp h1
          obtain ⟨n1, n2, n3, n4, n5, n6, n7, n8, n9, n10, n11, n12, n13, n14, n15⟩ := fd
          dsimp only at hcl hcd e c1
          subst hcl hcd
          dsimp only at e
          have c2 := (Bool.and_eq_true_iff.mp c1).1
          have c3 : He.dflB K n8 [] = true := (Bool.and_eq_true_iff.mp c1).2
          have c4 : n8 = .none := by
            unfold He.dflB at c3
            cases n8 <;> first | rfl | (cases c3; done)
          subst c4
          by_cases hn : n = "__class__"
          · subst hn
            rw [if_pos rfl] at e
            unfold DP.due at e
            simp only [Option.some.injEq, Prod.mk.injEq] at e
            obtain ⟨g1, g2, g3, g4, g5, g6, g7, g8⟩ := e
            subst g1 g2 g3 g4 g5 g6 g8
            refine ⟨_, ⟨⟨_, _, _, _, _, _, _, _, _, _, _, _, _, _, _, _, _, _, _, _, _, _, hl, rfl, c2, k1, k2, hv, by rw [hf]; exact beq_self_eq_true _, hD⟩, hpar, htop⟩, h2, by rw [hl]; exact fun z => nomatch z⟩
          · rw [if_neg hn] at e
            cases e
        · cases h4
      · cases h3
    · cases h3
  · cases h3
/-! ### isinstance: what the head says of classes -/
inductive TyN where
  | ty (n : String)
  | cl (x : Str)
def TyN.v (K : Fg) : TyN → Value
  | .ty n => .type n
  | .cl x => .ref (He.ga K x)
def kitB (K : Fg) (p : TyN × TyN × Bool) : Bool := decide (kitOne K (p.1.v K) (p.2.1.v K) = some p.2.2) && (p.2.2 || match p.2.1 with
  | .cl x => notFirst K (He.ga K x) (p.1.v K)
  | .ty _ => true)
theorem kit_of {K : Fg} {a b : TyN} {r : Bool} (h : kitB K (a, b, r) = true) : kitOne K (a.v K) (b.v K) = some r := of_decide_eq_true (Bool.and_eq_true_iff.mp h).1
theorem nf_of {K : Fg} {a : TyN} {x : Str} (h : kitB K (a, .cl x, false) = true) : notFirst K (He.ga K x) (a.v K) = true := by
  have z := (Bool.and_eq_true_iff.mp h).2
  simpa using z
end Lh
namespace Lw
/-- where no wish is told -/
instance (priority := 10) instExn0 : Exn := exn0
end Lw

set_option Elab.async false
set_option linter.all false
set_option maxRecDepth 100000
set_option maxHeartbeats 4000000
namespace Lw
open PySem PySem.Spec PyProof.Rows L2 LamX NdefX Lk
variable [Tabl]
/-- a def that draws, and makes functions -/
theorem fn_potC {P : Program} {w : World} {K : Fg} {mg : Str → Option Value} {base : Heap} {name qual : Str} {params : Arguments} {body : List Stmt} {scope : Scope} {f : Addr} {fd : FuncData} {N ps : List Str} {k n c : Nat} {S : List D → (D → Prop) → Prop}
    (F : FunD K name qual params body scope [] [] f fd) (sc : FnScope N ps scope) (hn : n + 1 = ps.length) (hN : n + 1 ≤ N.length)
    (hb : ∀ (A : Around) (outer : List Env) (s : Shared) (H : Hp) (E : XK), Room k (A.deeper (envOfC qual scope s.heap.objs.size f (.ref (Lh.cdA K f)))) →
      ∃ t, PSs (cxOf L2.CX0 P w K mg base N qual scope f (.ref (Lh.cdA K f)) A outer s H E).nox body t ∧ ∀ m ds G, m + c ≤ LIM → ds.length = n → S ds G → ∀ [Exn], WS K t (rhoP N m ds) (outQ G 0 (m + c))) :
    FnOk P w K mg base L2.CX0 (k + 1) f fd ps (potSp K n c S) := by
  refine Lh.fd_okC F sc (fun vs H Q E h => ?_) (fun A outer s H vs Q E hr h => ?_)
  · obtain ⟨a, ws, B, ds, G, m, rfl, h1, _, h2, h3, h4, h5, h6, _⟩ := h
    rw [List.length_cons, h5.length, h6, hn]
  · obtain ⟨t, hp, hw⟩ := hb A outer s H E hr
    refine ⟨t, hp.nox, ?_⟩
    obtain ⟨a, ws, B, ds, G, m, rfl, h1, tk, h2, h3, h4, h5, h6, h7, h8⟩ := h
    letI := exn0
    have key : ∀ {v : V} {d : D} {ρ' : List SD} {B' H' : Hp} {σ' : L2.St}, G d → (∃ m', ρ'[0]? = some (SD.pot m') ∧ m' ≤ m + c) → ST K (One a) B H ρ' B' H' σ' → R K B' v d → Q v H' := fun g z S' r => by
      obtain ⟨m', e, hm⟩ := z
      obtain ⟨o, _, a', _, e3, e4, e5⟩ := S'.slot e
      have ea : a' = a := e3.resolve_right (by
        obtain ⟨x, y, u, q, _⟩ := id e5
        exact S'.ok.not q (fun ps y => by cases y))
      subst ea
      exact h8 _ _ _ _ g S'.gr e4 (e5.mono hm) r
    refine hw m ds G h4 h6 h7 (One a) B H B H (start N (.ref a :: ws)) (st_startP exOk0 h1 tk h2 h3 h5 (by rw [h6]; exact hN)) _ (fun ρ' B' H' σ' f S' s' => ?_) (fun v d ρ' B' H' σ' f S' s' r => ?_) (fun _ _ _ _ z => z.elim) (fun _ _ _ _ z => z.elim)
    · exact key f.1 f.2 S' .non
    · exact key f.1 f.2 S' r
/-! ### the def that hears -/
def Heard (P : Program) (w : World) (K : Fg) (mg : Str → Option Value) (base : Heap) (x a : Str) (Ng : List Str) (CW : Addr) : Prop :=
  ∃ (g : Addr) (pg : Arguments) (bg : List Stmt) (sg : Scope) (dV kV doc pm cdv ct oc : Value) (an od : Option Addr) (osl : Array (Option Value)), mg x = some (.ref g) ∧ PySem.W.keepIn K (.ref g) = true ∧
    K.lookup g = some ⟨oc, od, .func (PySem.W.fnOf x x pg bg sg dV kV doc pm an cdv ct), osl⟩ ∧ PySem.W.codeIn K cdv x = true ∧ L2.Binds K (PySem.W.fnOf x x pg bg sg dV kV doc pm an cdv ct) [a] [] ∧ FnScope Ng [a] sg ∧ Ng[0]? = some a ∧ Vis sg a ∧
    ∀ (X : Cx) (L : LW), X.prog = P → X.w = w → X.K = K → X.mg = mg → X.base = base → Lx.GivesToN X Ng x sg g cdv bg a L (Lx.TTheard K CW)
omit [Tabl] in
theorem pe_heard {X : Cx} {T : List NTab} {nm : Nat → Nat → Str} {x a : Str} {Ng : List Str} {CW c P : Addr} {k : Nat} {params : Arguments} {body : Expr} {scope : Scope} {t : XK → TE} {p lpos pos : Pos} (G : Heard X.prog X.w X.K X.mg X.base x a Ng CW)
    (TB : TabB X.base X.mg c P) (hmT : (P, nm) ∈ T) (hu : ∀ p ∈ T, p.1 = P → p.2 = nm) (hcode : X.env.code = .ref c) (hn : nm lpos.line lpos.col = X.env.qual ++ "<lambda>") (hr : Room (k + 2) X.A) (L : LamS X.env.scope scope) (hdef : defaultsOf params X.env = ([], []))
    (hbind : ∀ (q : Str) (cl : List (Str × Addr)) (pm cv ctv : Value), bindArgs (PySem.W.kla_fn "<lambda>" q params body scope cl pm cv ctv) ⟨[], []⟩ = pure [])
    (hbody : ∀ (A : Around) (outer : List Env) (s : Shared) (H : Hp) (E : XK) (f c' : Addr), Room k (A.deeper (lamEnv X scope s.heap.objs.size f c')) → PE (lamCx X A outer s H E scope f c') body (t E))
    (hg : Gl X x := by rfl) (hdb : (x == ("__debug__" : Str)) = false := by decide) (hd : (a == ("__debug__" : Str)) = false := by decide) (hcd : (a == ("__classdict__" : Str)) = false := by decide) :
    PE X (.Call (.Name x p) [.Lambda params body scope lpos] [] pos) (Lx.tLamN T P (fun f c' => LamO f (Lx.lamL X params body scope) c') (X.env.qual ++ "<lambda>") (Lx.TTheard X.K CW) t) := by
  obtain ⟨g, pg, bg, sg, dV, kV, doc, pm, cdv, ct, oc, an, od, osl, hm, hk, lk, hcg, hb, Sg, hNg, hva, hG⟩ := G
  exact Lx.pe_lamcallN hg hm hk lk hcg hb Sg hNg hva (hG X _ rfl rfl rfl rfl rfl) TB hcode hmT hn hu hr L hdef hbind hbody hdb hd hcd
end Lw
namespace Lh
open PySem PySem.Spec PyProof.Rows L2
/-- a def's table, as the layer asks for it -/
theorem tab_of [Lw.Tabl] {tl : List TP} {K : Fg} {mg : Str → Option Value} {base : Heap} (tt : Lw.Tabl.T = tabT tl K) (nd : (tl.map fun t => t.p K).Nodup) (tab : ∀ t ∈ tl, LamX.TabB base mg (t.c K) (t.p K)) (i : Nat) {t : TP} (h : tl[i]? = some t) :
    LamX.TabB base mg (t.c K) (t.p K) ∧ (t.p K, t.nm) ∈ Lw.Tabl.T ∧ (∀ p ∈ Lw.Tabl.T, p.1 = t.p K → p.2 = t.nm) ∧ Lw.Tb (t.p K) := by
  have hm := List.mem_of_getElem? h
  have hin : (t.p K, t.nm) ∈ Lw.Tabl.T := by rw [tt]; exact List.mem_map_of_mem hm
  refine ⟨tab t hm, hin, fun p hp e => ?_, ⟨_, hin, rfl⟩⟩
  rw [tt] at hp
  obtain ⟨u, hu, rfl⟩ := List.mem_map.mp hp
  have e : u.p K = t.p K := e
  obtain ⟨j, hj⟩ := List.mem_iff_getElem?.mp hu
  have hi' : (tl.map fun t => t.p K)[i]? = some (t.p K) := by rw [List.getElem?_map, h]; rfl
  have hj' : (tl.map fun t => t.p K)[j]? = some (t.p K) := by rw [List.getElem?_map, hj]; exact congrArg some e
  have ij : i = j := (List.getElem?_inj (List.getElem?_eq_some_iff.mp hi').1 nd).mp (hi'.trans hj'.symm)
  subst ij
  rw [h] at hj
  cases hj
  rfl
end Lh
namespace Lw
open PySem PySem.Spec PyProof.Rows L2
theorem pe_fldEK (K : Fg) {X : Cx} {e : Expr} {te : TE} {f : Str} {pos : Pos} (he : PE X e te) (hK : X.K = K := by rfl) (hb : attributeBase e f X.env (eval e X.env) = eval e X.env := by rfl) : PE X (.Attribute e f pos) (tFldE K te f) := by subst hK; exact pe_fldE he hb
end Lw

set_option Elab.async false
set_option linter.all false
set_option maxRecDepth 100000
set_option maxHeartbeats 4000000
namespace Lw
open PySem PySem.Spec PyProof.Rows L2
/-! ### raising defs called with keywords -/
def tMethK (C : Addr) (m : Str) (n : Nat) (sp : Sp) (E : XK) (ta : TE) (tk : TA) : TE := fun σ H Q => ta σ H fun x H1 => ∃ a dx fs, x = .ref a ∧ H1 a = some (.ins C dx fs) ∧ fs.lookup m = none ∧ tk σ H1 fun zs H2 => zs.length = n ∧ sp (x :: zs) H2 Q E
section
variable {X : Cx} {x m : Str} {C : Addr} {k : Nat} {ps : List Str} {sp : Sp} {o : Expr} {tk : TA} {ta : TE} {p pos apos : Pos} {E : XK} {kws : List Keyword}
theorem pe_makeXkk (G : MakX X.prog X.w X.K X.mg X.base x C k ps sp) (hr : Room (k + 1) X.A) (tE : Takes X fun cls d _ H => E cls d H) (hkw : PK X kws tk) (hg : Gl X x := by rfl) (h1 : (ps.take 1).length = 1 := by rfl) (hj : 1 ≤ ps.length := by decide)
    (hall : (backToKw pos (keywordEach kws X.env)).all (·.1.isSome) = true := by rfl) (hks : (backToKw pos (keywordEach kws X.env)).filterMap (·.1) = ps.drop 1 := by rfl) (hdb : (x == ("__debug__" : Str)) = false := by decide)
    (hpl : ((backTo pos (starEach [] X.env)).any (·.1) || (backToKw pos (keywordEach kws X.env)).any (·.1.isNone)) = false := by rfl) :
    PE X (.Call (.Name x p) [] kws pos) (tMakeK C 0 (ps.drop 1).length sp (fun vs zs => vs ++ zs) E tNil tk) := by
  obtain ⟨f, fd, hm, M, _, hb, F⟩ := G
  have hb1 := hb 1 _ hj rfl
  rw [h1] at hb1
  exact pe_makeK0 M F hr hg hm hb1 (passX tE) hkw hall hks hdb hpl
theorem pe_methXkk {pl : Sem Bool} (G : MetX X.prog X.w X.K X.mg X.base C m k ps sp) (hr : Room k X.A) (tE : Takes X fun cls d _ H => E cls d H) (he : PE X o ta) (hkw : PK X kws tk) (h1 : (ps.take 1).length = 1 := by rfl) (hj : 1 ≤ ps.length := by decide)
    (hall : (backToKw pos (keywordEach kws X.env)).all (·.1.isSome) = true := by rfl) (hks : (backToKw pos (keywordEach kws X.env)).filterMap (·.1) = ps.drop 1 := by rfl)
    (hpl : ((backTo pos (starEach [] X.env)).any (·.1) || (backToKw pos (keywordEach kws X.env)).any (·.1.isNone)) = false := by rfl)
    (ht : eval (.Call (.Attribute o m apos) [] kws pos) X.env = (do
      let ov ← eval o X.env
      standAt apos.atName
      let (f, first) ← holding [ov] (getMethod ov m pl)
      callWith pos f first (backTo pos (starEach [] X.env)) (backToKw pos (keywordEach kws X.env))) := by rfl) :
    PE X (.Call (.Attribute o m apos) [] kws pos) (tMethK C m (ps.drop 1).length sp E ta tk) := by
  obtain ⟨f, fd, c, hm, _, hb, F⟩ := G
  have hb1 := hb 1 _ hj rfl
  rw [h1] at hb1
  refine ⟨fun pins s σ H Q I h => ?_⟩
  refine PySem.W.methodCall_KW (pl := pl) (thn (he.run pins s σ H _ I h) fun u s1 ⟨x, H1, I1, rx, a, dx, fs, ex, ea, l, q⟩ => ?_) ht
  subst ex
  obtain rfl : u = Value.ref a := rx
  refine getmeth_ok I1 ea c hm l ?_
  refine PySem.W.callWith_KW0 (first := [.ref a]) (h₀ := X.base) I.ok.mod.kin hm.kp hall (thn (hkw.run pos pins s1 σ H1 _ I1 q) fun ws s2 q2 => ?_) hpl
  obtain ⟨zs, H2, I2, rz, lz, q3⟩ := q2
  refine ⟨I2.kIn, ?_⟩
  rw [hks]
  exact run_fnN (us := [.ref a]) (vs := [.ref a]) F hr hb1 (passX tE) I2 (.cons rfl .nil) rz rfl lz q3
end
variable [Tabl]
section
variable [Exn] {K : Fg} {ρ : List SD}
theorem we_makeXkG {G : List SD → Addr → D → Prop} {C : Addr} {n m : Nat} {S : List D → (List (Str × D) → Prop) → (Addr → D → Prop) → Prop} {E : XK} {tk : TA} {F : D → List SD → Prop} (hE : ∀ ρ1 C x cls d σ H, G ρ1 C x → Exn.X ρ1 C x ∧ (Exn.W cls d σ H → E cls d H))
    (h : WA K tk ρ fun ds ρ1 => ds.length = m ∧ ds.length = n ∧ S ds (fun fs => F (.obj C fs) ρ1) (fun C x => G ρ1 C x)) : WE K (tMakeK C 0 m (initXSp K C n S) (fun vs zs => vs ++ zs) E tNil tk) ρ F :=
  fun P B0 H0 B H σ Z Q k => h P B0 H0 B H σ Z _ fun zs ds ρ1 B1 H1 ⟨lm, l, f⟩ S1 s1 r1 => ⟨rfl, by rw [r1.length]; exact lm, fun x dx hx hdx hne => by
    have z := make_coreX hE S1 s1 r1 l f k x dx hx hdx hne
    rw [List.append_nil] at z
    exact z⟩
theorem we_methXkG {G : List SD → Addr → D → Prop} {to : TE} {C : Addr} {m : Str} {n b : Nat} {S : List D → (D → Prop) → (Addr → D → Prop) → Prop} {E : XK} {tk : TA} {F : D → List SD → Prop} (hE : ∀ ρ1 C x cls d σ H, G ρ1 C x → Exn.X ρ1 C x ∧ (Exn.W cls d σ H → E cls d H))
    (h : WE K to ρ fun x ρ1 => ∃ ds, x = .obj C ds ∧ ds.lookup m = none ∧ WA K tk ρ1 fun es ρ2 => es.length = b ∧ es.length + 1 = n ∧ S (x :: es) (fun d => F d ρ2) (fun C x => G ρ2 C x)) :
    WE K (tMethK C m b (pureXSp K n S) E to tk) ρ F :=
  fun P B0 H0 B H σ Z Q k => h P B0 H0 B H σ Z _ fun v x ρ1 B1 H1 ⟨ds, e, l, q⟩ S1 s1 r1 => by
    subst e
    cases r1 with
    | obj h1 rf =>
      refine ⟨_, _, _, rfl, S1.le _ _ h1, rf.miss l, q P B0 H0 B1 H1 σ S1 _ fun vs es ρ2 B2 H2 ⟨lb, l2, q2⟩ S2 s2 r2 => ?_⟩
      refine ⟨by rw [r2.length]; exact lb, B2, _, _, _, S2.le, S2.ok, .cons ((R.obj h1 rf).mono s2.bb) r2, by rw [List.length_cons]; exact l2, q2, fun w d B3 H3 g gr r => k w d ρ2 B3 H3 g (S2.step gr) ((s1.trans s2).trans (Ev.pure gr)) r, fun C x dd B3 H3 g q xa => ?_⟩
      exact (hE ρ2 C x (.ref C) dd σ H3 g).2 (S2.ex ρ2 B3 H3 σ C dd x (S2.step q).core xa (hE ρ2 C x (.ref C) dd σ H3 g).1)
end
/-! ### {}, upper -/
section
variable [Exn] {K : Fg} {ρ : List SD}
theorem we_dnew {F : D → List SD → Prop} (q : F (.dct []) ρ) : WE K tDNewK ρ F := fun P B0 H0 B H σ S Q k => fun p hp => by
  have hb := S.bfree hp
  exact k (.ref p) (.dct []) ρ _ _ q (S.new (.dK []) hp) (Ev.new S.le hp) (.dct upd_same .nil)
theorem we_upper {to : TE} {F : D → List SD → Prop} (h : WE K to ρ fun x ρ1 => ∃ a, x = .str a ∧ a.length ≤ 5592405 ∧ F (.str (Txt.upper a)) ρ1) :
    WE K (tM0 (fun x xs H Q => ∃ a, x = .str a ∧ xs = [] ∧ a.length ≤ 5592405 ∧ Q (.str (Txt.upper a)) H) to) ρ F :=
  fun P B0 H0 B H σ S Q k => h P B0 H0 B H σ S _ fun v x ρ1 B1 H1 ⟨a, e, hl, f⟩ S1 s1 r1 => by
    subst e
    rw [rstr r1]
    exact ⟨⟨a, rfl⟩, a, rfl, rfl, hl, k _ _ ρ1 B1 H1 f S1 s1 (.str _)⟩
end
end Lw

set_option Elab.async false
set_option linter.all false
set_option maxRecDepth 100000
set_option maxHeartbeats 4000000
namespace HT
open PySem PySem.Spec PyProof.Rows
section
variable {prog : Program} {w : World} {A : Around} {E : Value → Shared → Prop} {s : Shared}
theorem adjust_rev (n : Nat) : Builtin.Slice.sliceAdjust none none (-1) (n : Int) = ((n : Int) - 1, -1) := by
  unfold Builtin.Slice.sliceAdjust
  simp
theorem places_rev (n : Nat) : Builtin.Slice.slicePlaces ((n : Int) - 1) (-1) (-1) = n := by
  unfold Builtin.Slice.slicePlaces
  have h1 : ¬ ((-1 : Int) > 0) := by omega
  simp only [h1, if_false]
  split
  · have e : ((n : Int) - 1 - -1 - -1 - 1) = n := by omega
    first
      | omega
      | (simp; done)
      | (simp; omega)
  · omega
theorem sliceApplied_rev {sl : Addr} {vs : Value} {n : Nat} {Q : Int × Int × Nat → Shared → Prop} (hs : s.heap.IsSliceOf sl .none .none vs) (ps : IsPart vs (some (-1)))
    (h : Q ((n : Int) - 1, -1, n) s) : wpAny (model prog w) A (Builtin.Slice.sliceApplied (.ref sl) (pure (n : Int))) Q E s := by
  obtain ⟨os, hos, hcs, hds⟩ := id hs
  unfold Builtin.Slice.sliceApplied Builtin.Slice.sliceFields
  refine wpAny_bind (wpAny_bind (wpAny_field hos hds (x := .none) rfl (wpAny_bind (wpAny_field hos hds (x := .none) rfl (wpAny_bind (wpAny_field hos hds (x := vs) rfl (wpAny_pure ?_)))))))
  refine wpAny_bind (slicePart_ ps ?_)
  show wpAny _ _ (if ((-1 : Int) == 0) = true then _ else _) _ _ s
  rw [if_neg (by decide)]
  refine wpAny_bind (slicePart_ .none (wpAny_bind (slicePart_ .none (wpAny_bind (wpAny_pure ?_)))))
  show wpAny _ _ (match Builtin.Slice.sliceAdjust none none (-1) (n : Int) with | (lo, hi) => pure (lo, (-1 : Int), Builtin.Slice.slicePlaces lo hi (-1))) _ _ s
  rw [adjust_rev n]
  show wpAny _ _ (pure ((n : Int) - 1, (-1 : Int), Builtin.Slice.slicePlaces ((n : Int) - 1) (-1) (-1))) _ _ s
  rw [places_rev]
  exact wpAny_pure h
theorem filterMap_some {f : Nat → Option Value} {g : Nat → Value} : ∀ l : List Nat, (∀ m ∈ l, f m = some (g m)) → l.filterMap f = l.map g
  | [], _ => rfl
  | a :: l, h => by
    rw [List.filterMap_cons, h a List.mem_cons_self, List.map_cons, filterMap_some l fun m hm => h m (List.mem_cons_of_mem _ hm)]
theorem pick_rev (xs : Array Value) : ((List.range xs.size).filterMap fun (m : Nat) => xs[(((xs.size : Nat) : Int) - 1 + (m : Int) * -1).toNat]?).toArray = xs.toList.reverse.toArray := by
  congr 1
  have e : ∀ m ∈ List.range xs.size, xs[(((xs.size : Nat) : Int) - 1 + (m : Int) * -1).toNat]? = some (xs.toList.reverse.getD m .none) := fun m hm => by
    have hm := List.mem_range.mp hm
    have e1 : (((xs.size : Nat) : Int) - 1 + (m : Int) * -1).toNat = xs.size - 1 - m := by omega
    rw [e1]
    have h2 : m < xs.toList.reverse.length := by simpa using hm
    rw [List.getD_eq_getElem?_getD, List.getElem?_eq_getElem h2, Option.getD_some, List.getElem_reverse]
    have h3 : xs.size - 1 - m < xs.size := by omega
    rw [Array.getElem?_eq_getElem h3]
    simp
  apply List.ext_getElem?
  intro i
  rw [show (List.range xs.size).filterMap (fun (m : Nat) => xs[(((xs.size : Nat) : Int) - 1 + (m : Int) * -1).toNat]?) = (List.range xs.size).map (fun m => xs.toList.reverse.getD m .none) from filterMap_some _ e]
  rw [List.getElem?_map]
  by_cases hi : i < xs.size
  · rw [List.getElem?_range hi]
    have h2 : i < xs.toList.reverse.length := by simpa using hi
    rw [Option.map_some, List.getD_eq_getElem?_getD, List.getElem?_eq_getElem h2, Option.getD_some]
  · rw [List.getElem?_eq_none (by simpa using hi), List.getElem?_eq_none (by simpa using hi)]
    rfl
theorem getItem_tuple_rev {t sl : Addr} {items : Array Value} {vs : Value} {Q : Value → Shared → Prop} (ht : IsTup s.heap t items) (hs : s.heap.IsSliceOf sl .none .none vs) (ps : IsPart vs (some (-1)))
    (h : Q (.ref s.heap.objs.size) { s with heap := s.heap.push { cls := .type "tuple", data := .seq items.toList.reverse.toArray } })
    (hsz : items.size ≤ sizeLine) : wpAny (model prog w) A (getItem (.ref t) (.ref sl)) Q E s := by
  have htake : sizeOk (.seq items.toList.reverse.toArray) := by
    show items.toList.reverse.toArray.size ≤ sizeLine
    rw [List.size_toArray, List.length_reverse, Array.length_toList]
    exact hsz
  obtain ⟨os, hos, hcs, hds⟩ := id hs
  have hTs : s.TypeIs (.ref sl) "slice" := ⟨os, hos, hcs⟩
  unfold getItem
  try with_reducible refine wpAny_holding ?_
  first | refine wpAny_bind (wpAny_pure ?_) | skip
  refine wpAny_bind (wpAny_sequenceKey ht.typeIs (by decide) ?_)
  refine wpAny_bind (wpAny_callSpecial?_slot (name := Str.ofString "__getitem__") ht.typeIs PyProof.Rows.slot_tuple_getitem
    (wpAny_call_entry PyProof.Rows.slot_tuple_getitem ht.typeIs entry_tuple_getitem ?_ (args_tuple_getitem _ _)))
  show wpAny _ _ (Builtin.Tuple.tupleItemsOf (.ref t) >>= _) _ _ s
  refine wpAny_bind (tupleItemsOf_ ht ?_)
  refine wpAny_bind (wpAny_typeOf hTs ?_)
  rw [if_pos (by decide)]
  refine wpAny_bind (sliceApplied_rev hs ps ?_)
  have hno : ¬ ((((items.size : Int) - 1) == 0 && (-1 : Int) == 1 && items.size == items.size) = true) := by
    simp
  show wpAny _ _ (if (((items.size : Int) - 1) == 0 && (-1 : Int) == 1 && items.size == items.size) = true then _ else _) _ _ s
  rw [if_neg hno, pick_rev]
  first
    | exact wpAny_bind (m := Builtin.Tuple.tupleExact _) (wpAny_newObj_type (wpAny_pure ⟨_, rfl, wpAny_pure h⟩) htake)
    | exact wpAny_bind (m := Builtin.Tuple.tupleExact _) (wpAny_newObj_type (wpAny_bind (wpAny_pure (wpAny_pure ⟨_, rfl, wpAny_pure h⟩))) htake)
    | exact wpAny_bind (wpAny_bind (m := Builtin.Tuple.tupleExact _) (wpAny_newObj_type (wpAny_pure (wpAny_pure ⟨_, rfl, wpAny_pure h⟩)) htake))
    | exact wpAny_bind (wpAny_bind (m := Builtin.Tuple.tupleExact _) (wpAny_newObj_type (wpAny_pure ⟨_, rfl, wpAny_pure h⟩) htake))
end
end HT
namespace Lw
open PySem PySem.Spec PyProof.Rows L2
/-! ### x[::-1] of a list, of a tuple -/
def tRevA (K : Fg) (te : TE) : TE := fun σ H Q => te σ H fun x H1 => ∃ a xs, x = .ref a ∧ ((SqL K H1 a xs ∧ ∀ p, H1 p = none → Q (.ref p) (upd H1 p (.lst xs.reverse))) ∨ (SqT K H1 a xs ∧ ∀ p, H1 p = none → Q (.ref p) (upd H1 p (.tup xs.reverse))))
theorem pe_revTK (K : Fg) {X : Cx} {e : Expr} {te : TE} {k : Nat} {p1 p2 p3 pos : Pos} (he : PE X e te) (hK : X.K = K := by rfl) : PE X (.Subscript e (.Slice none none (some (.UnaryOp .USub (.Constant (.int 1) k p1) p2)) p3) pos) (tRevA K te) := by
  subst hK
  refine ⟨fun pins s σ H Q I h => ?_⟩
  refine Subscript_ (thn (he.run pins s σ H _ I h) fun v s1 ⟨x, H1, I1, r1, q1⟩ => ?_)
  obtain ⟨a, xs, ex, q⟩ := q1
  subst ex
  cases r1
  have hst : PO X (some (.UnaryOp .USub (.Constant (.int 1) k p1) p2)) (tPart (tUn (rU fun i => .int (-i)) (tC (.int 1)))) := po_some (pe_un un_neg pe_int)
  refine wpAny_Slice (thn (po_none.run pins s1 σ H1 (fun o H2 => o = none ∧ H2 = H1) I1 ⟨rfl, rfl⟩) fun vl s2 ⟨l, H2, I2, pl, el, e2⟩ => ?_)
  subst el e2
  refine thn (po_none.run pins s2 σ H2 (fun o H3 => o = none ∧ H3 = H2) I2 ⟨rfl, rfl⟩) fun vu s3 ⟨u, H3, I3, pu, eu, e3⟩ => ?_
  subst eu e3
  refine thn (hst.run pins s3 σ H3 (fun o H4 => o = some (-1) ∧ H4 = H3) I3 ⟨1, rfl, -1, rfl, rfl, rfl⟩) fun vs s4 ⟨o, H4, I4, ps, eo, e4⟩ => ?_
  subst eo e4
  have I5 : Inv X pins σ H4 { s4 with heap := s4.heap.push { cls := .type "slice", data := .fields #[vl, vu, vs] } } := I4.kept (t' := s4.toks) fun b ob q => Heap.get?_push_of_some _ q
  show wpAny (model X.prog X.w) X.A (subscriptTail e (.Slice none none (some (.UnaryOp .USub (.Constant (.int 1) k p1) p2)) p3) (.ref a) (.ref s4.heap.objs.size)) (EP X pins σ Q) X.xe { s4 with heap := s4.heap.push { cls := .type "slice", data := .fields #[vl, vu, vs] } }
  rcases q with ⟨hx, q⟩ | ⟨hx, q⟩
  · obtain ⟨its, r, ht, hz⟩ := I5.list hx
    have hlen := r.length
    refine tail_any (ops := [.ref a, .ref s4.heap.objs.size]) ht.isList.typeIs (PySem.slot_list_getitem.lookup) ?_ (by with_unfolding_all rfl)
    refine wpAny_getItem_list_slice ht.isList (Heap.IsSliceOf.new _ vl vu vs) pl pu ps (by decide) ?_ (by rw [List.size_toArray]; omega)
    rw [PySem.W.krv_pick]
    refine ⟨.ref _, _, I5.laid (t' := s4.toks) (o := .lst xs.reverse) (fun b ob q => Heap.get?_push_of_some _ q) (Nat.le_refl _) ?_, rfl, q _ (I5.hok.fresh (Nat.le_refl _))⟩
    exact ⟨by rw [List.length_reverse]; exact hz, _, 0, r.reverse, Heap.get?_push_size _ rfl⟩
  · obtain ⟨its, r, ht, hz⟩ := I5.tuple hx
    have hlen := r.length
    cases pl
    cases pu
    refine tail_any (ops := [.ref a, .ref s4.heap.objs.size]) ht.typeIs (PyProof.Rows.slot_tuple_getitem.lookup) ?_ (by with_unfolding_all rfl)
    refine HT.getItem_tuple_rev ht (Heap.IsSliceOf.new _ .none .none vs) ps ?_ (by rw [List.size_toArray]; omega)
    refine ⟨.ref _, _, I5.laid (t' := s4.toks) (o := .tup xs.reverse) (fun b ob q => Heap.get?_push_of_some _ q) (Nat.le_refl _) ?_, rfl, q _ (I5.hok.fresh (Nat.le_refl _))⟩
    exact ⟨by rw [List.length_reverse]; exact hz, _, r.reverse, _, Heap.get?_push_size _ rfl, rfl, 0, rfl⟩
variable [Tabl] [Exn]
theorem we_revA {K : Fg} {ρ : List SD} {te : TE} {F : D → List SD → Prop} (h : WE K te ρ fun x ρ1 => (∃ xs, x = .lst xs ∧ F (.lst xs.reverse) ρ1) ∨ ∃ xs, x = .tup xs ∧ F (.tup xs.reverse) ρ1) : WE K (tRevA K te) ρ F :=
  fun P B0 H0 B H σ S Q k => h P B0 H0 B H σ S _ fun v x ρ1 B1 H1 f S1 s1 r1 => by
    rcases f with ⟨xs, rfl, f⟩ | ⟨xs, rfl, f⟩
    · cases r1 with
      | lst h1 a1 => exact ⟨_, _, rfl, .inl ⟨SqL.of (S1.le _ _ h1), fun p hp => k (.ref p) _ ρ1 _ _ f (S1.new _ hp) (s1.trans (Ev.new S1.le hp)) (.lst upd_same (a1.reverse.mono (same_new (S1.bfree hp))))⟩⟩
    · cases r1 with
      | tup h1 a1 => exact ⟨_, _, rfl, .inr ⟨same_t S1.le h1, fun p hp => k (.ref p) _ ρ1 _ _ f (S1.new _ hp) (s1.trans (Ev.new S1.le hp)) (.tup (SqT.of upd_same) (a1.reverse.mono (same_new (S1.bfree hp))))⟩⟩
end Lw

set_option Elab.async false
set_option linter.all false
set_option maxRecDepth 100000
set_option maxHeartbeats 4000000
namespace Lw
open PySem PySem.Spec PyProof.Rows L2
/-! ### an own ==, any answer, beside any datum -/
def rOwn (K : Fg) (C : Addr) (sp : Sp) : R2 := fun x y H Q => ∃ (a dx : Addr) (fs : List (Str × V)) (t : Value), x = .ref a ∧ H a = some (.ins C dx fs) ∧ TyX K H y t ∧ PySem.W.notFirst K C t = true ∧ sp [x, y] H (fun v H' => ∃ b, v = .bl b ∧ Q (.bl b) H') E0
theorem op_own {X : Cx} {C : Addr} {n : Nat} {ps : List Str} {sp : Sp} (M : Met X.prog X.w X.K X.mg X.base C "__eq__" n ps sp) (hr : Room n X.A) : OpR X (compareOp .Eq) (rOwn X.K C sp) := by
  obtain ⟨f, fd, c, hm, hb, F⟩ := M
  intro pins s σ H x y v u Q I rx ry h
  obtain ⟨a, dx, fs, t, rfl, ha, ty, nf, hsp⟩ := h
  cases (show v = Value.ref a from rx)
  obtain ⟨P, Z, p, _⟩ := kit_of I ry ty
  obtain ⟨mA, J, _⟩ := ins_get I.hok ha
  obtain ⟨od, J, _⟩ := J.look
  obtain ⟨m, hF⟩ := I.fr
  show wpAny (model X.prog X.w) X.A (richCompare .Eq (.ref a) u) (EP X pins σ Q) X.xe s
  refine PySem.W.cmp_K (op := .Eq) (tb := t) hr.units0 hF I.ok.mod.kin J (Z.ty _ _ I.kIn p) nf hm.at_ (beq_iff_eq.mp (by simpa using hm.fn)) ?_
  have r2 : Vals [V.ref a, y] [Value.ref a, u] := .cons rfl (.cons ry .nil)
  have hl := F.len _ _ _ _ hsp
  refine wpAny_call (codeAny_mono (F.run X.A X.stack s H ⟨[.ref a, u], []⟩ [.ref a, u] [.ref a, y] _ _ hr I.env0 (by
    have := hb s [.ref a, u] I.kIn (by simpa using hl)
    simpa using this) r2 hsp) fun r s' hq => ?_)
  cases r with
  | error e => exact (show False from hq).elim
  | ok fl =>
    cases fl with
    | ret w =>
      obtain ⟨z, H', I', rz, b, ez, q⟩ := I.after hq
      subst ez
      cases rz
      exact ⟨.bl b, H', I', rfl, q⟩
    | next => exact False.elim hq
    | brk => exact False.elim hq
    | cont => exact False.elim hq
variable [Tabl] [Exn]
/-- .. over data: S is the promise of the class's own == -/
theorem we_own {K : Fg} {ρ : List SD} {C : Addr} {S : List D → (D → Prop) → Prop} {ta tb : TE} {F : D → List SD → Prop}
    (h : WE K ta ρ fun x ρ1 => ∃ fs, x = .obj C fs ∧ WE K tb ρ1 fun y ρ2 => IsiOk K y ∧ (∀ C' d, y ≠ .exc C' d) ∧ PySem.W.notFirst K C (tyD y) = true ∧ S [x, y] fun d => ∃ b, d = .bl b ∧ F (.bl b) ρ2) : WE K (tOp (rOwn K C (pureSp K 2 S)) ta tb) ρ F :=
  fun P B0 H0 B H σ Z Q k => h P B0 H0 B H σ Z _ fun v x ρ1 B1 H1 ⟨fs, e, h1⟩ S1 s1 r1 => h1 P B0 H0 B1 H1 σ S1 _ fun u y ρ2 B2 H2 ⟨hy, hne, nf, f⟩ S2 s2 r2 => by
    subst e
    have r1' := r1.mono s2.bb
    cases r1' with
    | obj h5 rf =>
      have ty : TyX K H2 u (tyD y) := by
        rcases rtyx S2.le r2 hy with ty | ⟨a, C', dx, gs, rfl, ex, h2, h3, h4⟩
        · exact ty
        · cases r2 with
          | exc _ _ _ => exact absurd rfl (hne _ _)
          | obj h6 _ =>
            have z := (S2.le _ _ h6).symm.trans h2
            unfold xoH at z
            cases z
          | _ => cases ex
      refine ⟨_, _, _, _, rfl, S2.le _ _ h5, ty, nf, B2, [_, y], _, S2.le, S2.ok, .cons (.obj h5 rf) (.cons r2 .nil), rfl, f, fun w d B' H' g gr r => ?_⟩
      obtain ⟨b, rfl, q⟩ := g
      cases r
      exact ⟨b, rfl, k (.bl b) (.bl b) ρ2 B' H' q (S2.step gr) ((s1.trans s2).trans (Ev.pure gr)) (.bl b)⟩
end Lw

set_option Elab.async false
set_option linter.all false
set_option maxRecDepth 100000
set_option maxHeartbeats 4000000
namespace Lw
open PySem PySem.Spec PyProof.Rows L2
/-! ### defs that are called while no repr runs -/
/-- as FnOk, for calls with no guard around -/
structure FnG (P : Program) (w : World) (K : Fg) (mg : Str → Option Value) (base : Heap) (k : Nat) (f : Addr) (fd : FuncData) (ps : List Str) (sp : Sp) : Prop where
  len : ∀ vs H Q E, sp vs H Q E → vs.length = ps.length
  run : ∀ (A : Around) (outer : List Env) (s : Shared) (H : Hp) (args : Args) (us : List Value) (vs : List V) (Q : VK) (E : XK), A.guards = some [] → Room k A →
    Env0 P w K mg base A outer s H → BindsTo s fd args (ps.zip us) → Vals vs us → sp vs H Q E → codeAny (model P w) A (.call (.ref f) args) (CR L2.CX0 outer P w H s Q E) s
section
variable {P : Program} {w : World} {K : Fg} {mg : Str → Option Value} {base : Heap}
def CalG (P : Program) (w : World) (K : Fg) (mg : Str → Option Value) (base : Heap) (x : Str) (k : Nat) (ps : List Str) (sp : Sp) : Prop :=
  ∃ f fd, mg x = some (.ref f) ∧ PySem.W.keepIn K (.ref f) = true ∧ Binds K fd ps [] ∧ FnG P w K mg base k f fd ps sp
variable {X : Cx} {x : Str} {k : Nat} {ps : List Str} {sp : Sp} {e : Expr} {es : List Expr} {t tk : TA} {p pos : Pos}
theorem goG {f : Addr} {fd : FuncData} {pins : List (Addr × Obj)} {σ : L2.St} {H : Hp} {s : Shared} {Q : VK} {us : List Value} {vs : List V} (F : FnG X.prog X.w X.K X.mg X.base k f fd ps sp) (hg : X.A.guards = some []) (hr : Room k X.A) (hb : Binds X.K fd ps [])
    (I : Inv X pins σ H s) (r : Vals vs us) (h : sp vs H Q E0) : wpAny (model X.prog X.w) X.A (PySem.call (.ref f) us) (EP X pins σ Q) X.xe s := by
  have hl : (us ++ []).length = ps.length := by rw [List.append_nil, ← r.length]; exact F.len _ _ _ _ h
  have bd := hb s us I.kIn hl
  rw [List.append_nil] at bd
  refine wpAny_call (codeAny_mono (F.run X.A X.stack s H _ us vs Q E0 hg hr I.env0 bd r h) ?_)
  intro res s2 hq
  match res, hq with
  | .error _, hq => exact hq.elim
  | .ok (.ret _), hq => exact I.after hq
theorem pe_callG (G : CalG X.prog X.w X.K X.mg X.base x k ps sp) (hg : X.A.guards = some []) (hr : Room k X.A) (ha : PA X (e :: es) t) (hgl : Gl X x := by rfl) (hdb : (x == ("__debug__" : Str)) = false := by decide)
    (he : starEach (e :: es) X.env = (false, eval e X.env) :: starEach es X.env := by rfl) (hpl : (backTo pos (starEach es X.env)).any (·.1) = false := by rfl) : PE X (.Call (.Name x p) (e :: es) [] pos) (tCall sp [] E0 t) := by
  obtain ⟨f, fd, hm, hk, hb, F⟩ := G
  constructor
  intro pins s σ H Q I h
  refine wpAny_Call_Name_kw (ld_glob I hgl hm ?_ hdb)
  refine PySem.W.callWith_K (h₀ := X.base) I.ok.mod.kin hk ?_ he hpl
  refine thn (ha.run pos pins s σ H _ I h) ?_
  rintro us s1 ⟨vs, H1, I1, r, q⟩
  rw [List.append_nil] at q
  exact ⟨I1.kIn, goG F hg hr hb I1 r q⟩
end
/-! ### a def's body, with no guard around -/
section
variable [Tabl] {P : Program} {w : World} {K : Fg} {mg : Str → Option Value} {base : Heap} {name qual : Str} {params : Arguments} {body : List Stmt} {scope : Scope} {f : Addr} {fd : FuncData} {N ps : List Str} {k n c : Nat}
omit [Tabl] in
theorem fnG {sp : Sp} (F : FunD K name qual params body scope [] [] f fd) (S : FnScope N ps scope) (len : ∀ vs H Q E, sp vs H Q E → vs.length = ps.length)
    (hbody : ∀ (A : Around) (outer : List Env) (s : Shared) (H : Hp) (vs : List V) (Q : VK) (E : XK), (A.deeper (envOfC qual scope s.heap.objs.size f (.ref (Lh.cdA K f)))).guards = some [] → Room k (A.deeper (envOfC qual scope s.heap.objs.size f (.ref (Lh.cdA K f)))) → sp vs H Q E →
      ∃ t, PSs (cxOf L2.CX0 P w K mg base N qual scope f (.ref (Lh.cdA K f)) A outer s H E) body t ∧ t { nx := fun _ H' => Q .non H', rt := Q } (start N vs) H) : FnG P w K mg base (k + 1) f fd ps sp := by
  obtain ⟨oc, od, dV, kV, doc, pm, an, cdv, ct, osl, rfl, lk, hcd, _, _⟩ := F.ex
  have e : cdv = .ref (Lh.cdA K f) := Lh.cd_of lk rfl hcd
  constructor
  · exact len
  intro A outer s H args us vs Q E hg hr e0 hb r hsp
  have up : ∀ {b o}, base.get? b = some o → s.heap.get? b = some o := fun {b o} q => (e0.bs b o q).1
  have hl := len _ _ _ _ hsp
  refine codeAny_call_function hr.depth ((e0.mod.kin.keeps fun b o => up) _ _ lk) rfl S.co S.gen rfl (PySem.W.codeRec_of (e0.mod.kin.keeps fun b o => up) hcd) (hb _ _ _ _ ?_)
  refine wpAny_newFunctionEnv_cells S.kind ?_ ?_
  · rintro ⟨z, v⟩ hy
    rcases S.par z (List.of_mem_zip hy).1 with q | q
    · exact .inl q
    · exact .inr ⟨q, PySem.W.cellsFrom_some _ _ _ (.inl q)⟩
  rintro _ rfl s1 x
  refine ⟨(e0.mod.nolimit.keeps fun b o => up).keeps x.toInCall.keep, codeAny_func ?_⟩
  subst e
  obtain ⟨t, ht, hq⟩ := hbody A outer s H vs Q E hg (hr.deeper _) hsp
  refine wpAny_mono (ht.run [] s1 (start N vs) H _ (inv_start S hr.hd e0 hl r x) hq) ?_ (fun _ _ z => z)
  intro fl s' hs
  match fl, hs with
  | .ret u, ⟨v, σ', H', J, rv, q⟩ => exact ⟨v, H', J.os, J.bare, J.base, J.hok, rv, q⟩
  | .next, ⟨σ', H', J, q⟩ => exact ⟨V.non, H', J.os, J.bare, J.base, J.hok, rfl, q⟩
  | .brk, ⟨_, _, _, q⟩ => exact False.elim q
  | .cont, ⟨_, _, _, q⟩ => exact False.elim q
theorem fn_pureG {S : List D → (D → Prop) → Prop}
    (F : FunD K name qual params body scope [] [] f fd) (sc : FnScope N ps scope) (hn : n = ps.length) (hN : n ≤ N.length)
    (hb : ∀ (A : Around) (outer : List Env) (s : Shared) (H : Hp) (E : XK), (A.deeper (envOfC qual scope s.heap.objs.size f (.ref (Lh.cdA K f)))).guards = some [] → Room k (A.deeper (envOfC qual scope s.heap.objs.size f (.ref (Lh.cdA K f)))) →
      ∃ t, PSs (cxOf L2.CX0 P w K mg base N qual scope f (.ref (Lh.cdA K f)) A outer s H E).nox body t ∧ ∀ ds G, ds.length = n → S ds G → ∀ [Exn], WS K t (rho N ds) (outP G)) :
    FnG P w K mg base (k + 1) f fd ps (pureSp K n S) := by
  refine fnG F sc (fun vs H Q E ⟨B, ds, G, h1, _, h2, h3, _⟩ => by rw [h2.length, h3, hn]) (fun A outer s H vs Q E hg hr h => ?_)
  obtain ⟨t, hp, hw⟩ := hb A outer s H E hg hr
  obtain ⟨B, ds, G, h1, tk, h2, h3, h4, h5⟩ := h
  letI := exn0
  exact ⟨t, hp.nox, hw ds G h3 h4 Non B H B H (start N vs) (st_start exOk0 h1 tk h2 (by rw [h3]; exact hN)) _ (fun ρ' B' H' σ' f S' _ => h5 _ _ B' H' f S'.gr .non) (fun v d ρ' B' H' σ' f S' _ r => h5 v d B' H' f S'.gr r) (fun _ _ _ _ z => z.elim) (fun _ _ _ _ z => z.elim)⟩
theorem fn_potG {S : List D → (D → Prop) → Prop}
    (F : FunD K name qual params body scope [] [] f fd) (sc : FnScope N ps scope) (hn : n + 1 = ps.length) (hN : n + 1 ≤ N.length)
    (hb : ∀ (A : Around) (outer : List Env) (s : Shared) (H : Hp) (E : XK), (A.deeper (envOfC qual scope s.heap.objs.size f (.ref (Lh.cdA K f)))).guards = some [] → Room k (A.deeper (envOfC qual scope s.heap.objs.size f (.ref (Lh.cdA K f)))) →
      ∃ t, PSs (cxOf L2.CX0 P w K mg base N qual scope f (.ref (Lh.cdA K f)) A outer s H E).nox body t ∧ ∀ m ds G, m + c ≤ LIM → ds.length = n → S ds G → ∀ [Exn], WS K t (rhoP N m ds) (outQ G 0 (m + c))) :
    FnG P w K mg base (k + 1) f fd ps (potSp K n c S) := by
  refine fnG F sc ?_ (fun A outer s H vs Q E hg hr h => ?_)
  · rintro vs H Q E ⟨a, ws, B, ds, G, m, rfl, h1, _, h2, h3, h4, h5, h6, _⟩
    rw [List.length_cons, h5.length, h6, hn]
  obtain ⟨t, hp, hw⟩ := hb A outer s H E hg hr
  obtain ⟨a, ws, B, ds, G, m, rfl, h1, tk, h2, h3, h4, h5, h6, h7, h8⟩ := h
  letI := exn0
  have key : ∀ {v : V} {d : D} {ρ' : List SD} {B' H' : Hp} {σ' : L2.St}, (G d ∧ ∃ m', ρ'[0]? = some (SD.pot m') ∧ m' ≤ m + c) → ST K (One a) B H ρ' B' H' σ' → R K B' v d → Q v H' := by
    rintro v d ρ' B' H' σ' ⟨g, m', e, hm⟩ S' r
    obtain ⟨o, _, a', _, e3, e4, e5⟩ := S'.slot e
    obtain rfl : a' = a := e3.resolve_right (by
      obtain ⟨x, y, u, q, _⟩ := id e5
      exact S'.ok.not q (fun ps y => by cases y))
    exact h8 _ _ _ _ g S'.gr e4 (e5.mono hm) r
  exact ⟨t, hp.nox, hw m ds G h4 h6 h7 (One a) B H B H (start N (.ref a :: ws)) (st_startP exOk0 h1 tk h2 h3 h5 (by rw [h6]; exact hN)) _ (fun _ _ _ _ f S' _ => key f S' .non) (fun _ _ _ _ _ _ f S' _ r => key f S' r) (fun _ _ _ _ z => z.elim) (fun _ _ _ _ z => z.elim)⟩
end
/-! ### repr of data of any depth -/
mutual
def D.pr : D → PyData
  | .non => .none
  | .bl b => .bool b
  | .int i => .int i
  | .str s => .str s
  | .tup xs => .tuple (D.prs xs)
  | .ntp _ => .none
  | .ptp _ => .none
  | .lst xs => .list (D.prs xs)
  | .frl xs => .list (D.prs xs)
  | .dct _ => .dict []
  | .obj _ _ => .none
  | .ty _ => .none
  | .cls _ => .none
  | .exc _ _ => .none
def D.prs : List D → List PyData
  | [] => []
  | x :: xs => D.pr x :: D.prs xs
end
mutual
/-- data that repr shows; l: lists may be in them; else empty dicts may -/
def D.sh (l : Bool) : D → Bool
  | .non => true
  | .bl _ => true
  | .int i => decide (i.natAbs.log2 < 1920)
  | .str _ => true
  | .tup xs => D.shs l xs
  | .ntp _ => false
  | .ptp _ => false
  | .lst xs => l && D.shs l xs
  | .frl xs => l && D.shs l xs
  | .dct kvs => !l && kvs.isEmpty
  | .obj _ _ => false
  | .ty _ => false
  | .cls _ => false
  | .exc _ _ => false
def D.shs (l : Bool) : List D → Bool
  | [] => true
  | x :: xs => D.sh l x && D.shs l xs
end
theorem prs_map (xs : List D) : D.prs xs = xs.map D.pr := by
  induction xs with
  | nil => rfl
  | cons x xs ih => simp [D.prs, ih]
theorem shs_all {l : Bool} (xs : List D) : D.shs l xs = xs.all (D.sh l) := by
  induction xs with
  | nil => rfl
  | cons x xs ih => simp [D.shs, ih]
mutual
theorem sh_show {l : Bool} : ∀ x : D, x.sh l = true → x.pr.showable = true
  | .non, _ => rfl
  | .bl _, _ => rfl
  | .int i, h => by simpa [D.sh, D.pr, PyData.showable] using h
  | .str _, _ => rfl
  | .tup xs, h => by
    simp only [D.sh] at h
    simp only [D.pr, PyData.showable]
    exact shs_show xs h
  | .lst xs, h => by
    simp only [D.sh, Bool.and_eq_true] at h
    simp only [D.pr, PyData.showable]
    exact shs_show xs h.2
  | .frl xs, h => by
    simp only [D.sh, Bool.and_eq_true] at h
    simp only [D.pr, PyData.showable]
    exact shs_show xs h.2
  | .dct _, _ => rfl
  | .obj _ _, h => by simp [D.sh] at h
  | .ntp _, h => by simp [D.sh] at h
  | .ptp _, h => by simp [D.sh] at h
  | .ty _, h => by simp [D.sh] at h
  | .cls _, h => by simp [D.sh] at h
  | .exc _ _, h => by simp [D.sh] at h
theorem shs_show {l : Bool} : ∀ xs : List D, D.shs l xs = true → PyData.showableAll (D.prs xs) = true
  | [], _ => rfl
  | x :: xs, h => by
    simp only [D.shs, Bool.and_eq_true] at h
    simp only [D.prs, PyData.showableAll, Bool.and_eq_true]
    exact ⟨sh_show x h.1, shs_show xs h.2⟩
end
mutual
theorem sh_nod : ∀ x : D, x.sh true = true → x.pr.hasDict = false
  | .non, _ => rfl
  | .bl _, _ => rfl
  | .int i, h => rfl
  | .str _, _ => rfl
  | .tup xs, h => by
    simp only [D.sh] at h
    simp only [D.pr, PyData.hasDict]
    exact shs_nod xs h
  | .lst xs, h => by
    simp only [D.sh, Bool.and_eq_true] at h
    simp only [D.pr, PyData.hasDict]
    exact shs_nod xs h.2
  | .frl xs, h => by
    simp only [D.sh, Bool.and_eq_true] at h
    simp only [D.pr, PyData.hasDict]
    exact shs_nod xs h.2
  | .dct _, h => by simp [D.sh] at h
  | .obj _ _, h => by simp [D.sh] at h
  | .ntp _, h => by simp [D.sh] at h
  | .ptp _, h => by simp [D.sh] at h
  | .ty _, h => by simp [D.sh] at h
  | .cls _, h => by simp [D.sh] at h
  | .exc _ _, h => by simp [D.sh] at h
theorem shs_nod : ∀ xs : List D, D.shs true xs = true → PyData.hasDictAll (D.prs xs) = false
  | [], _ => rfl
  | x :: xs, h => by
    simp only [D.shs, Bool.and_eq_true] at h
    simp only [D.prs, PyData.hasDictAll, Bool.or_eq_false_iff]
    exact ⟨sh_nod x h.1, shs_nod xs h.2⟩
end
section
variable {X : Cx} {pins : List (Addr × Obj)} {σ : L2.St} {H B : Hp} {s : Shared} {l : Bool}
mutual
theorem reads_sh (I : Inv X pins σ H s) (sb : Same B H) : ∀ {v : V} {x : D} {u : Value}, R X.K B v x → x.sh l = true → RelV v u → ∃ as, Reads s.heap u x.pr as ∧ (l = false → sysModules ∉ as)
  | _, _, u, .non, _, r => by
    obtain rfl : u = .none := r
    exact ⟨_, .none, fun _ => by simp⟩
  | _, _, u, .bl b, _, r => by
    obtain rfl : u = .bool b := r
    exact ⟨_, .bool _, fun _ => by simp⟩
  | _, _, u, .int i, _, r => by
    obtain ⟨t, rfl⟩ := r
    exact ⟨_, .int _ _, fun _ => by simp⟩
  | _, _, u, .str i, _, r => by
    obtain ⟨t, rfl⟩ := r
    exact ⟨_, .str _ _, fun _ => by simp⟩
  | _, _, u, .tup h q, e, r => by
    obtain rfl := r
    obtain ⟨its, rv, ⟨o, h1, h2, m, h3⟩, _⟩ := I.tuple (same_t sb h)
    obtain ⟨as, h4, h5⟩ := readsAll_sh I sb q (by simpa [D.sh] using e) rv
    exact ⟨as, .tuple h1 h2 h3 (by simpa using h4), h5⟩
  | _, _, u, .lst h q, e, r => by
    obtain rfl := r
    simp only [D.sh, Bool.and_eq_true] at e
    obtain ⟨its, rv, ⟨o, m, h1, h2, _, h3⟩, _⟩ := I.list (SqL.of (sb _ _ h))
    obtain ⟨as, h4, h5⟩ := readsAll_sh I sb q e.2 rv
    exact ⟨_, .list h1 h2 h3 (by simpa using h4), fun z => by rw [z] at e; exact absurd e.1 (by decide)⟩
  | _, _, u, .frl h q, e, r => by
    obtain rfl := r
    simp only [D.sh, Bool.and_eq_true] at e
    obtain ⟨its, rv, ⟨o, m, h1, h2, _, h3⟩, _⟩ := I.list (same_l sb h)
    obtain ⟨as, h4, h5⟩ := readsAll_sh I sb q e.2 rv
    exact ⟨_, .list h1 h2 h3 (by simpa using h4), fun z => by rw [z] at e; exact absurd e.1 (by decide)⟩
  | _, _, u, .dct (kvs := kvs) (ds := ds) h q, e, r => by
    obtain rfl := r
    simp only [D.sh, Bool.and_eq_true, List.isEmpty_iff] at e
    obtain ⟨_, rfl⟩ := e
    cases q
    obtain ⟨z, y, vs, kv, ob, es, ep, e1, ed, e2, _, pr, _⟩ := I.hok _ _ (sb _ _ h)
    cases kv
    have en : es.toList = [] := by
      cases q2 : es.toList with
      | nil => rfl
      | cons b bs => rw [q2] at pr; cases pr
    refine ⟨_, .dict e1 ed.1 e2 (as := []) (bs := []) (by rw [en]; exact .nil) (by rw [en]; exact .nil), fun _ m => ?_⟩
    simp only [List.append_nil, List.mem_cons, List.not_mem_nil, or_false] at m
    rw [m] at y
    simp at y
  | _, _, _, .obj _ _, e, _ => by simp [D.sh] at e
  | _, _, _, .ntp _ _ _ _, e, _ => by simp [D.sh] at e
  | _, _, _, .ptp _ _, e, _ => by simp [D.sh] at e
  | _, _, _, .ty _, e, _ => by simp [D.sh] at e
  | _, _, _, .cls _, e, _ => by simp [D.sh] at e
  | _, _, _, .exc _ _ _, e, _ => by simp [D.sh] at e
theorem readsAll_sh (I : Inv X pins σ H s) (sb : Same B H) : ∀ {vs : List V} {xs : List D} {us : List Value}, RA X.K B vs xs → D.shs l xs = true → Vals vs us → ∃ as, ReadsAll s.heap us (D.prs xs) as ∧ (l = false → sysModules ∉ as)
  | _, _, us, .nil, _, r => by
    cases r
    exact ⟨_, .nil, fun _ => by simp⟩
  | _, _, us, .cons h q, e, r => by
    simp only [D.shs, Bool.and_eq_true] at e
    cases r with
    | cons r1 r2 =>
      obtain ⟨as, a1, a2⟩ := reads_sh I sb h e.1 r1
      obtain ⟨bs, b1, b2⟩ := readsAll_sh I sb q e.2 r2
      exact ⟨as ++ bs, .cons a1 b1, fun z => by rw [List.mem_append, not_or]; exact ⟨a2 z, b2 z⟩⟩
end
end
/-- repr(e): the text of a datum -/
def rReprG (K : Fg) : List V → Hp → VK → Prop := fun vs H Q => ∃ (B : Hp) (v : V) (x : D), vs = [v] ∧ Same B H ∧ R K B v x ∧ (x.sh true = true ∨ x.sh false = true) ∧ x.pr.depth ≤ 64 ∧ x.pr.shown.length ≤ sizeLine ∧ Q (.str x.pr.shown) H
theorem call_reprG {X : Cx} (hg : X.A.guards = some []) (hu : X.A.units + 70 < cLine) {K : Fg} (hK : X.K = K := by rfl) : CallR X (.builtin "repr") (rReprG K) := by
  subst hK
  intro pins s σ H vs us Q I r h
  obtain ⟨B, v, x, rfl, sb, rx, hs, hd, hz, q⟩ := h
  cases r with
  | cons r1 r2 =>
    cases r2
    rename_i u
    have rd : ∃ as, Reads s.heap u x.pr as ∧ (x.pr.hasDict = true → sysModules ∉ as) ∧ x.pr.showable = true := by
      rcases hs with hs | hs
      · obtain ⟨as, a1, a2⟩ := reads_sh I sb rx hs r1
        exact ⟨as, a1, (fun z => by rw [sh_nod x hs] at z; cases z), sh_show x hs⟩
      · obtain ⟨as, a1, a2⟩ := reads_sh I sb rx hs r1
        exact ⟨as, a1, fun _ => a2 rfl, sh_show x hs⟩
    obtain ⟨as, rr, hsm, hsw⟩ := rd
    generalize x.pr = y at rr hsm hsw hd hz q
    cases u with
    | ref a =>
      refine repr_of_reads' rr hsw hsm hg (by omega) (fun _ _ e => e) (fun h' u tk hk => ?_) hz
      exact ⟨.str _, H, I.kept (t' := tk) hk, ⟨_, rfl⟩, q⟩
    | none => cases rr; exact PySem.P.repr_of_none ⟨.str _, H, I.tok _, ⟨_, rfl⟩, q⟩
    | bool b => cases rr; exact PySem.P.repr_of_bool ⟨.str _, H, I.tok _, ⟨_, rfl⟩, q⟩
    | int i t =>
      cases rr
      exact PySem.P.repr_of_int (by simpa [PyData.showable] using hsw) ⟨.str _, H, I.tok _, ⟨_, rfl⟩, q⟩
    | str z t =>
      cases rr
      exact PySem.P.repr_of_str ⟨.str _, H, I.tok _, ⟨_, rfl⟩, q⟩ hz
    | _ => cases rr
end Lw
namespace Lw
open PySem PySem.Spec PyProof.Rows L2
variable [Tabl] [Exn] {K : Fg} {ρ : List SD}
def dReprG (x : D) (F : D → Prop) : Prop := (x.sh true = true ∨ x.sh false = true) ∧ x.pr.depth ≤ 64 ∧ x.pr.shown.length ≤ sizeLine ∧ F (.str x.pr.shown)
theorem we_reprG {te : TE} {F : D → List SD → Prop} (h : WE K te ρ fun x ρ1 => dReprG x fun d => F d ρ1) : WE K (tCB (rReprG K) (tCons te tNil)) ρ F :=
  we_cb1 (h.mono fun x _ q => fun B H vs s r Q k => by
    obtain ⟨v, rfl, r1⟩ := ra1 r
    exact ⟨B, v, x, rfl, s, r1, q.1, q.2.1, q.2.2.1, k _ _ B H q.2.2.2 (Gr.refl s) (.str _)⟩)
end Lw
namespace Lw
open PySem PySem.Spec PyProof.Rows L2
theorem room70 {k : Nat} {A : Around} (r : Room k A) : A.units + 70 < cLine := by have := r.un; omega
end Lw

set_option Elab.async false
set_option linter.all false
set_option maxRecDepth 100000
set_option maxHeartbeats 4000000
namespace Lw
open PySem PySem.Spec PyProof.Rows L2 LamX
/-- what the head's end tells of the heap at the law's call -/
structure EndS (P : Program) (w : World) (K : Fg) (mg mb : Str → Option Value) (cs : List (Addr × Addr)) (s₁ : Shared) : Prop where
  kx : K.In s₁.heap
  ns : s₁.heap.Ns mainGlobals mg
  b : s₁.heap.Ns builtinsNs mb
  bb : ∀ x : Str, x ≠ "__name__" → mb x = bootBuiltins x
  lim : s₁.heap.NoLimit
  gens : s₁.gens = #[]
  t : ∀ p ∈ cs, s₁.heap.get? p.2 = some { cls := .none, data := .fields #[] }
  nt : ∀ p ∈ cs, K.lookup p.2 = none
  hd : ∀ p ∈ cs, PySem.W.CodeHd s₁.heap p.1 p.2
  bm : ∃ (bm : Addr) (ob : Obj), mg "__builtins__" = some (.ref bm) ∧ bm ≠ builtinsNs ∧ s₁.heap.get? bm = some ob ∧ ob.cls = .type "module" ∧ ob.dict = some builtinsNs ∧ ob.data = .plain
section
variable {P : Program} {w : World} {K : Fg} {mg mb : Str → Option Value} {k : Nat} {fa a : Addr} {cs : List (Addr × Addr)} {fd : FuncData} {x : Str} {sp : Sp} {s₁ : Shared} {vs : List Value} {ns : List Int}
open Classical in
/-- the script (if the fragment does not know it) and the tables are tracked -/
noncomputable def trk (K : Fg) (cs : List (Addr × Addr)) (a : Addr) (vs : List Value) (ns : List Int) : Hp := fun c =>
  if c = a ∧ K.lookup a = none then some (.frz { cls := .type "list", data := .seq vs.toArray } (.lst (ns.map V.int))) else if c ∈ cs.map (·.2) then some (.tbl #[]) else none
theorem trk_cases {b : Addr} {u : HO} (h : trk K cs a vs ns b = some u) : (b = a ∧ K.lookup a = none ∧ u = .frz { cls := .type "list", data := .seq vs.toArray } (.lst (ns.map V.int))) ∨ (b ∈ cs.map (·.2) ∧ u = .tbl #[]) := by
  unfold trk at h
  split at h
  · rename_i q
    exact .inl ⟨q.1, q.2, (Option.some.inj h).symm⟩
  · split at h
    · exact .inr ⟨‹_›, (Option.some.inj h).symm⟩
    · cases h
theorem EndS.tab (S : EndS P w K mg mb cs s₁) {b : Addr} (h : b ∈ cs.map (·.2)) : s₁.heap.get? b = some { cls := .none, data := .fields #[] } := by
  obtain ⟨p, hp, rfl⟩ := List.mem_map.mp h
  exact S.t p hp
/-- what is no list and no table is not tracked -/
theorem EndS.free (S : EndS P w K mg mb cs s₁) (ha : s₁.heap.get? a = some { cls := .type "list", data := .seq vs.toArray }) {b : Addr} {o : Obj} (e : s₁.heap.get? b = some o) (h1 : ∀ vs n, o.data ≠ .seq vs n) (h2 : o.data ≠ .fields #[]) : trk K cs a vs ns b = none := by
  cases q : trk K cs a vs ns b with
  | none => rfl
  | some u =>
    rcases trk_cases q with ⟨rfl, _, _⟩ | ⟨m, _⟩
    · rw [ha] at e
      exact (h1 _ _ (by cases e; rfl)).elim
    · rw [S.tab m] at e
      exact (h2 (by cases e; rfl)).elim
theorem EndS.law (S : EndS P w K mg mb cs s₁) (ha : s₁.heap.get? a = some { cls := .type "list", data := .seq vs.toArray }) (hi : IntsAre vs ns) (hl : ns.length ≤ sizeLine) (hr : Room k callerA)
    (F : ∀ base : Heap, K.In base → base.Ns mainGlobals mg → (∀ p ∈ cs, TabB base mg p.1 p.2) → FnG P w K mg base k fa fd [x] sp) (hbind : ∀ (s : Shared) (u : Value), BindsTo s fd ⟨[u], []⟩ [(x, u)])
    (hsp : ∀ H : Hp, (∀ p ∈ cs, H p.2 = some (.tbl #[])) → SqL K H a (ns.map V.int) → sp [.ref a] H (fun v _ => v = .bl true) fun _ _ _ => False) :
    codeAny (model P w) callerA (.call (.ref fa) ⟨[.ref a], []⟩) (fun r s' => r = .ok (.ret (.bool true)) ∧ OldK s₁.heap s'.heap ∧ s'.os = s₁.os ∧ AllBare s'.gens) s₁ := by
  let H : Hp := trk K cs a vs ns
  have aT : a ∉ cs.map (·.2) := fun z => by
    have q := S.tab z; rw [ha] at q
    have z' := congrArg Obj.data (Option.some.inj q)
    exact Data.noConfusion z'
  have hT : ∀ {b : Addr}, b ∈ cs.map (·.2) → H b = some (.tbl #[]) := fun {b} m => by
    show trk K cs a vs ns b = _
    unfold trk
    rw [if_neg (show ¬ (b = a ∧ K.lookup a = none) from fun z => aT (by rw [← z.1]; exact m)), if_pos m]
  have hS : SqL K H a (ns.map V.int) := by
    cases hk : K.lookup a with
    | none =>
      refine .inl (.inr ⟨{ cls := .type "list", data := .seq vs.toArray }, ?_⟩)
      show trk K cs a vs ns a = _
      unfold trk; rw [if_pos ⟨rfl, hk⟩]
    | some o =>
      have e := S.kx a o hk; rw [ha] at e; cases e
      exact .inr ⟨_, vs.toArray, _, hk, rfl, rfl, rfl, by rw [List.size_toArray, hi.length]; exact hl, by simpa using vals_ints hi⟩
  have hok : HOk P w H s₁.heap := fun b u z => by
    rcases trk_cases z with ⟨rfl, _, rfl⟩ | ⟨m, rfl⟩
    · exact ⟨ha, by rw [List.length_map]; exact hl, vs, _, vals_ints hi, ha⟩
    · exact S.tab m
  have old : ∀ {b : Addr} {o : Obj}, s₁.heap.get? b = some o → (∀ vs n, o.data ≠ .seq vs n) → o.data ≠ .fields #[] → (hidT s₁.heap H).get? b = some o := fun e h1 h2 => hidT_get e (S.free ha e h1 h2)
  have nsK : ∀ {b : Addr} {m : Str → Option Value}, s₁.heap.Ns b m → (hidT s₁.heap H).Ns b m := by
    rintro b m ⟨o, es, ep, e, d, r⟩
    exact ⟨o, es, ep, old e (fun _ _ z => by rw [d] at z; exact Data.noConfusion z) (fun z => by rw [d] at z; exact Data.noConfusion z), d, r⟩
  have hKb : K.In (hidT s₁.heap H) := fun b o e => by
    refine hidT_get (S.kx b o e) ?_
    cases q : H b with
    | none => rfl
    | some u =>
      rcases trk_cases q with ⟨rfl, hk, _⟩ | ⟨m, _⟩
      · rw [hk] at e; cases e
      · obtain ⟨p, hp, rfl⟩ := List.mem_map.mp m
        rw [S.nt p hp] at e; cases e
  have TB : ∀ p ∈ cs, TabB (hidT s₁.heap H) mg p.1 p.2 := by
    intro p hp
    have hTp := S.t p hp
    refine ⟨?_, ?_, fun z => ?_⟩
    · obtain ⟨o, us, file, tf, flags, tg, inF, text, tt, e1, r1, r2, r3, r4⟩ := S.hd p hp
      refine ⟨o, us, file, tf, flags, tg, inF, text, tt, old e1 (fun _ _ z => by rw [r2] at z; exact Data.noConfusion z) (fun z => ?_), r1, r2, r3, r4⟩
      rw [r2] at z; cases z; simp at r3
    · obtain ⟨bm, ob, b1, b2, b3, b4, b5, b6⟩ := S.bm
      refine ⟨bm, ob, b1, b2, ?_, ?_, old b3 (fun _ _ z => by rw [b6] at z; exact Data.noConfusion z) (fun z => by rw [b6] at z; exact Data.noConfusion z), b4, b5, b6⟩
      · rintro rfl
        obtain ⟨o, es, ep, e, d, _⟩ := S.ns
        rw [e] at b3; cases b3; rw [d] at b6; cases b6
      · rintro rfl
        rw [hTp] at b3; cases b3; cases b6
    · obtain ⟨o, es, ep, e, d, _⟩ := S.ns
      rw [z, hTp] at e; cases e; cases d
  have e0 : Env0 P w K mg (hidT s₁.heap H) callerA [] s₁ H := by
    obtain ⟨mc, l1, l2⟩ := S.lim
    exact ⟨rfl, ⟨hKb, nsK S.ns, ⟨mb, nsK S.b, S.bb⟩, ⟨mc, nsK l1, l2⟩⟩, fun b o e => of_hidT e, Nat.le_of_eq (hidT_size _ _), trivial, fun b z => (nomatch z), hok, .of_eq S.gens⟩
  refine codeAny_mono ((F _ hKb (nsK S.ns) TB).run callerA [] s₁ H ⟨[.ref a], []⟩ [.ref a] [.ref a] _ _ rfl hr e0 (hbind s₁ (.ref a)) (.cons rfl .nil) (hsp H (fun p hp => hT (List.mem_map.mpr ⟨p, hp, rfl⟩)) hS)) ?_
  intro r s' h
  match r, h with
  | .error e, h => exact h.elim
  | .ok (.ret u), ⟨v, H', os, bare, un, hok', r', q⟩ =>
    have q' : v = .bl true := q
    subst q'
    obtain rfl : u = Value.bool true := r'
    have key : ∀ b o, b ∉ cs.map (·.2) → s₁.heap.get? b = some o → s'.heap.get? b = some o := by
      intro b o nb e
      cases q : H b with
      | none => exact un.keep b o e q (fun z => nomatch z) (by simp)
      | some u =>
        rcases trk_cases q with ⟨rfl, _, rfl⟩ | ⟨m, _⟩
        · obtain ⟨e2, _⟩ := hok' b _ (un.frzs b _ _ q)
          rw [ha] at e; cases e
          exact e2
        · exact (nb m).elim
    have grown : ∀ p ∈ cs, ∃ more : Array Value, s'.heap.get? p.2 = some { cls := .none, data := .fields more } := fun p hp => by
      obtain ⟨more, z⟩ := un.tbls p.2 #[] (hT (List.mem_map.mpr ⟨p, hp, rfl⟩))
      exact ⟨_, hok' p.2 _ z⟩
    have both : ∀ b o, s₁.heap.get? b = some o → s'.heap.get? b = some o ∨ ∃ p ∈ cs, p.2 = b := fun b o e => by
      by_cases hb : b ∈ cs.map (·.2)
      · obtain ⟨p, hp, ep⟩ := List.mem_map.mp hb
        exact .inr ⟨p, hp, ep⟩
      · exact .inl (key b o hb e)
    refine ⟨rfl, ⟨fun b o e => ?_, fun b o e => ?_⟩, os, bare⟩
    · rcases both b o e with z | ⟨p, hp, rfl⟩
      · exact .inl z
      · obtain ⟨more, hm⟩ := grown p hp
        rw [S.t p hp] at e; cases e
        exact .inr (.inl ⟨((S.hd p hp).tab (S.t p hp)).isCodeTable, rfl, #[], more, rfl, by rw [Array.empty_append]; exact hm⟩)
    · rcases both b o e with z | ⟨p, hp, rfl⟩
      · exact ⟨o, z⟩
      · obtain ⟨more, hm⟩ := grown p hp
        exact ⟨_, hm⟩
end
/-- the end: as the kit's, for a law that is called with no guard around -/
theorem endG {l : PySem.W.OpenLaw} {n k : Nat} {q : Program} {loose : List Str} {XP : (Str → Option Value) → Heap → Prop} {YP : World → Heap → Prop} {d : PySem.DefRec} {x : Str}
    (hn : l.most = some n) (hn2 : n ≤ sizeLine) (hdf : d.params.defaults = []) (hr : Room k callerA)
    (F : ∀ (w : World) (mg : Str → Option Value) (fa : Addr) (h : Heap), YP w h → h.Ns mainGlobals mg → mg d.name = some (.ref fa) → ∃ (K : Fg) (fd : FuncData) (cs : List (Addr × Addr)) (sp : Sp), K.In h ∧
      (∀ p ∈ cs, h.get? p.2 = some { cls := .none, data := .fields #[] }) ∧ (∀ p ∈ cs, K.lookup p.2 = none) ∧ (∀ p ∈ cs, PySem.W.CodeHd h p.1 p.2) ∧ (∀ (s : Shared) (u : Value), BindsTo s fd ⟨[u], []⟩ [(x, u)]) ∧
      (∀ (H : Hp) (a : Addr) (ns : List Int), ns.length ≤ n → (∀ p ∈ cs, H p.2 = some (.tbl #[])) → SqL K H a (ns.map V.int) → sp [.ref a] H (fun v _ => v = .bl true) fun _ _ _ => False) ∧
      ∀ base : Heap, K.In base → base.Ns mainGlobals mg → (∀ p ∈ cs, TabB base mg p.1 p.2) → FnG l.prog w K mg base k fa fd [x] sp) :
    PySem.W.WalkO q loose XP YP l.row.toRowW d [] (fun f vs => PySem.call f vs) := by
  refine Att.attach_callB hn hdf ?_
  intro w s₀ s₁ mg mb fa o pm cd doc a vs ns G Y ho hd hcd hmg hobj hints hlen hbits hg
  obtain ⟨K, fd, cs, sp, KX, hT, nT, C, hb, hsp, hF⟩ := F w mg fa _ Y G.T.g hmg
  exact EndS.law ⟨KX, G.T.g, G.T.b, G.T.builtins, G.T.nolimit, hg, hT, nT, C, G.T.bmain⟩ hobj hints (Nat.le_trans hlen hn2) hr hF hb (fun H hH hS => hsp H a ns hlen hH hS)
end Lw

set_option Elab.async false
set_option linter.all false
set_option maxRecDepth 100000
set_option maxHeartbeats 4000000
/-! len(set(t)), t a tuple of texts -/
namespace Lw
open PySem PySem.Spec PyProof.Rows SS
theorem Dist.zero {α : Type} : Dist ([] : List α) 0 := ⟨[], List.nodup_nil, rfl, fun x => Iff.rfl⟩
theorem Dist.old {α : Type} {xs : List α} {n : Nat} {x : α} (h : Dist xs n) (m : x ∈ xs) : Dist (xs ++ [x]) n := by
  obtain ⟨M, a, b, c⟩ := h
  refine ⟨M, a, b, fun y => ?_⟩
  rw [c, List.mem_append, List.mem_singleton]
  exact ⟨.inl, fun z => z.elim id fun e => by rw [e]; exact m⟩
theorem Dist.new {α : Type} {xs : List α} {n : Nat} {x : α} (h : Dist xs n) (m : x ∉ xs) : Dist (xs ++ [x]) (n + 1) := by
  obtain ⟨M, a, b, c⟩ := h
  refine ⟨x :: M, List.nodup_cons.mpr ⟨fun z => m ((c x).mp z), a⟩, by rw [List.length_cons, b], fun y => ?_⟩
  rw [List.mem_cons, c, List.mem_append, List.mem_singleton]
  exact Or.comm
section
variable {prog : Program} {w : World} {A : Around} {R : Result → Shared → Prop} {I : Addr} {fp wr : List Addr} {G : Array GenState → Array GenState → Prop} {P : Nat → Value → Prop} {St : Nat → Shared → Prop}
def SetS (prog : Program) (w : World) (h : Heap) (S : Addr) (xs : List Str) : Prop := ∃ c, Dist xs c ∧ c ≤ xs.length ∧ h.SetOf (PySem.strKind prog w) S (fun k' => xs.any (· == k')) c
theorem SetS.keep {h h' : Heap} {S : Addr} {xs : List Str} (q : SetS prog w h S xs) (e : ∀ o, h.get? S = some o → h'.get? S = some o) : SetS prog w h' S xs := by
  obtain ⟨c, d, l, o, es, ep, t, ho, rest⟩ := q
  exact ⟨c, d, l, o, es, ep, t, e _ ho, rest⟩
theorem set_texts (xs : List Str) (W : WalksS prog w A.in1 I fp wr G xs.length P St) (S : Addr) (hSf : S ∉ fp) (hb : xs.length + 1 < scanBound) (hval : ∀ i v, P i v → ∃ t, v = .str (xs.getD i Str.empty) t) :
    ∀ (k i : Nat) (s : Shared), i + k = xs.length → St i s → SetS prog w s.heap S (xs.take i) →
      (∀ s', Moved (S :: wr) G s s' → SetS prog w s'.heap S xs → R (.ok (.ret .none)) s') → codeAny (model prog w) A (.builtin "set.update.loop" ⟨[.ref S, .ref I], []⟩) R s := by
  have hSw : S ∉ wr := fun h => hSf (W.sub _ h)
  have hsub : ∀ b, b ∈ wr → b ∈ S :: wr := fun b hb => .tail _ hb
  intro k
  induction k with
  | zero =>
    intro i s hk hst hS hR
    obtain rfl : i = xs.length := hk
    rw [List.take_length] at hS
    refine codeAny_builtin PyProof.Rows.F.entry_set_update_loop ?_
    rw [Around.under_plainId PyProof.Rows.F.plain_set_update_loop _]
    refine wpAny_bind (W.done s _ _ hst ?_)
    exact fun s' hm => wpAny_pure (hR s' (hm.mono hsub) (hS.keep fun o e => hm.heap S o hSw e))
  | succ k ih =>
    intro i s hk hst hS hR
    have hlt : i < xs.length := by omega
    refine codeAny_builtin PyProof.Rows.F.entry_set_update_loop ?_
    rw [Around.under_plainId PyProof.Rows.F.plain_set_update_loop _]
    refine wpAny_bind (W.item i s _ _ hlt hst ?_)
    intro v s' hP hst' hm
    obtain ⟨t, rfl⟩ := hval i v hP
    have ex : xs.getD i Str.empty = xs[i] := by rw [List.getD_eq_getElem?_getD, List.getElem?_eq_getElem hlt]; rfl
    rw [ex]
    obtain ⟨c, hd, hl, hS'⟩ := hS.keep (h' := s'.heap) fun o e => hm.heap S o hSw e
    rw [List.length_take] at hl
    refine wpAny_bind (wpAny_holding ?_)
    unfold setAdd
    refine wpAny_holding (wpAny_bind ((PySem.strKind prog w).pyHash (k := xs[i]) (strKind_is _ _ _ _) ?_))
    refine wpAny_setAddHashed_of (knd := PySem.strKind prog w) (s := { s' with toks := s'.toks + 1 }) (strKind_is _ _ _ _) rfl hS' (by omega) ?_
    intro h' hsb hS2
    have tk : xs.take (i + 1) = xs.take i ++ [xs[i]] := by rw [List.take_add_one, List.getElem?_eq_getElem hlt]; rfl
    have hS3 : SetS prog w h' S (xs.take (i + 1)) := by
      rw [tk]
      by_cases m : xs[i] ∈ xs.take i
      · have em : (xs.take i).any (· == xs[i]) = true := List.any_eq_true.mpr ⟨_, m, beq_self_eq_true _⟩
        refine ⟨c, hd.old m, by rw [List.length_append, List.length_take]; simp; omega, SetOf_congr hS2 (fun k' => ?_) (by rw [em]; rfl)⟩
        rw [List.any_append]
        congr 1
        rw [List.any_cons, List.any_nil, Bool.or_false, Bool.eq_iff_iff, beq_iff_eq, decide_eq_true_iff]; exact eq_comm
      · have em : (xs.take i).any (· == xs[i]) = false := List.any_eq_false.mpr fun y hy e => m (by rw [← eq_of_beq e]; exact hy)
        refine ⟨c + 1, hd.new m, by rw [List.length_append, List.length_take]; simp; omega, SetOf_congr hS2 (fun k' => ?_) (by rw [em]; rfl)⟩
        rw [List.any_append]
        congr 1
        rw [List.any_cons, List.any_nil, Bool.or_false, Bool.eq_iff_iff, beq_iff_eq, decide_eq_true_iff]; exact eq_comm
    refine wpAny_pure ⟨plainId_quiet PyProof.Rows.F.plain_set_update_loop _, ih (i + 1) _ (by omega) (W.frame _ s' _ _ hst' (Nat.le_succ _) ?_) hS3 ?_⟩
    · intro b hb o e
      rw [hsb.2 b (by rintro rfl; exact hSf hb)]; exact e
    · intro s'' hm'' hS''
      refine hR s'' (Moved.trans W.gtrans ((hm.mono hsub).then_heap (Nat.le_succ _) ?_) hm'') hS''
      intro b o hb e
      rw [hsb.2 b (by rintro rfl; exact hb (.head _))]; exact e
end
section
variable {prog : Program} {w : World} {A : Around} {E : Value → Shared → Prop} {s : Shared}
set_option maxHeartbeats 8000000 in
theorem set_of_texts {l : Addr} {items : Array Value} {xs : List Str} {Q : Value → Shared → Prop} (hh : A.handled = none) (hl : s.heap.IsTuple l items) (hi : StrsAre items.toList xs) (hb : xs.length + 1 < scanBound)
    (h : ∀ (h' : Heap) (tk : Nat), SetS prog w h' s.heap.objs.size xs → (∀ b o, b < s.heap.objs.size → s.heap.get? b = some o → h'.get? b = some o) → Q (.ref s.heap.objs.size) { s with heap := h', toks := tk }) :
    wpAny (model prog w) A (PySem.call (.type "set") [.ref l]) Q E s := by
  have hmade := PySem.F.called_set.made; have hsub := PySem.F.called_set.sub
  obtain ⟨c, tl, hmro⟩ := PySem.F.called_set.mro
  refine wpAny_call (codeAny_of_tree ?_)
  show wpAny _ _ (callAny (.type "set") _) _ _ _
  refine wpAny_pure ⟨Code.quiet_builtin _ (by decide +kernel), codeAny_builtin PySem.F.entry_type_call ?_⟩
  rw [Around.under_plain (weight_type_call_type "set" [.ref l] []) rfl]
  have h1 := PySem.F.called_set.notType; have h2 := PySem.F.called_set.canCreate
  have hct := PySem.F.typeCall_set_1 (.ref l)
  repeat (any_goals (first | assumption | wp_step))
  let so : Bool → Obj := fun led => { cls := .type "set", dict := none, data := .set #[] 0 (.fresh 0 0 led) }
  refine codeAny_mono (code_set_new_1 (.ref l) (E := E) (Q₁ := fun obj s₁ => ∃ led : Bool, obj = .ref s.heap.objs.size ∧ s₁ = { s with heap := s.heap.push (so led) }) fun led => ⟨led, rfl, rfl⟩) ?_
  intro r s₁ hr
  match r, hr with
  | .error e, hr => exact hr
  | .ok .next, hr => exact hr.elim
  | .ok .brk, hr => exact hr.elim
  | .ok .cont, hr => exact hr.elim
  | .ok (.ret obj), ⟨led, e1, e2⟩ =>
    subst e1 e2
    have hS : (s.heap.push (so led)).get? s.heap.objs.size = some (so led) := Heap.get?_push_size _ rfl
    have hT : Shared.TypeIs { s with heap := s.heap.push (so led) } (.ref s.heap.objs.size) "set" := ⟨_, hS, rfl⟩
    have hli := PySem.F.called_set.init.lookup; have hbi := PySem.F.called_set.init.bind (.ref s.heap.objs.size)
    repeat (any_goals (first | assumption | wp_step))
    refine codeAny_mono (codeAny_call_builtin (R := wants (fun r s₂ => r = .none ∧ ∃ h' tk, s₂ = { s with heap := h', toks := tk } ∧ SetS prog w h' s.heap.objs.size xs ∧
      (∀ b o, b < s.heap.objs.size → s.heap.get? b = some o → h'.get? b = some o)) E) PySem.F.called_set.init.plain PySem.F.entry_set_init (check_set_init_1 hT ?_)) ?_
    · obtain ⟨⟨ocls, odict, odata, oslots⟩, hol, hcl, nl, hdl⟩ := hl
      simp only at hcl hdl
      subst hcl hdl
      have hl1 : (s.heap.push (so led)).IsTuple l items := ⟨_, Heap.get?_push_of_some _ hol, rfl, nl, rfl⟩
      have hol' := Heap.get?_push_of_some (so led) hol
      have hsls := PySem.F.sub_tuple_set; have hslf := PySem.F.sub_tuple_frozenset
      have hne : (Value.type "tuple" == Value.type "dict") = false := by decide
      unfold Builtin.«set.__init__» noKeywords Builtin.Frozenset.updateFrom
      generalize hPI : pyIter = PI
      wp_walk
      subst hPI
      refine wpAny_pyIter_tuple hl1 (wpAny_bind (wpAny_runValue ?_))
      have hlS : l < s.heap.objs.size := Heap.lt_size hol
      have hh3 : A.in1.in1.in1.handled = none := by simp [hh]
      have hneI : l ≠ (s.heap.push (so led)).objs.size := by rw [Heap.size_push]; exact Nat.ne_of_lt (Nat.lt_succ_of_lt hlS)
      have hSf : s.heap.objs.size ∉ [(s.heap.push (so led)).objs.size, l] := by
        rw [Heap.size_push]; simp only [List.mem_cons, List.not_mem_nil, or_false, not_or]; exact ⟨Nat.ne_of_lt (Nat.lt_succ_self _), Nat.ne_of_gt hlS⟩
      have hsz : items.size = xs.length := by rw [← StrsAre.len_eq hi, Array.length_toList]
      have Wk := Walks.toS (prog := prog) (w := w) (Walks.tuple hh3 _ l hneI items)
      rw [hsz] at Wk
      refine set_texts (prog := prog) (w := w) xs Wk s.heap.objs.size hSf hb (fun i v hv => strs_at hi i v (by rw [Array.getElem?_toList]; exact hv)) xs.length 0 _ (Nat.zero_add _) ⟨⟨_, Heap.get?_push_size _ rfl, rfl, rfl⟩, (hl1.push _)⟩ ?_ ?_
      · refine ⟨0, Dist.zero, Nat.zero_le _, SetOf_congr ((PyProof.Rows.setObjOf_fresh (knd := PySem.strKind prog w) led).setOf (Heap.get?_push_of_some _ hS) (by unfold scanBound; omega)) (fun _ => rfl) rfl⟩
      · rintro ⟨h', g', d', tk', os'⟩ hm hS'
        obtain rfl : g' = s.gens := hm.gens
        obtain rfl : d' = s.drawn := hm.drawn
        obtain rfl : os' = s.os := hm.os
        refine wpAny_pure (wpAny_pure ⟨rfl, h', tk', rfl, hS', ?_⟩)
        intro b o hb e
        exact hm.heap b o (by rw [Heap.size_push]; simp only [List.mem_cons, List.not_mem_nil, or_false, not_or]; exact ⟨Nat.ne_of_lt hb, Nat.ne_of_lt (Nat.lt_succ_of_lt hb)⟩) (Heap.get?_push_of_some _ (Heap.get?_push_of_some _ e))
    · intro r₂ s₂ hr₂
      match r₂, hr₂ with
      | .error e, hr₂ => exact hr₂
      | .ok .next, hr₂ => exact hr₂.elim
      | .ok .brk, hr₂ => exact hr₂.elim
      | .ok .cont, hr₂ => exact hr₂.elim
      | .ok (.ret r), ⟨e1, h', tk, e2, hS', hk'⟩ =>
        subst e1 e2
        repeat (any_goals (first | assumption | wp_step))
        exact h _ _ hS' hk'
end
end Lw
namespace Lw
open PySem PySem.Spec PyProof.Rows L2
def tLenSetA (K : Fg) (ta : TE) : TE := fun σ H Q => ta σ H fun x H1 => ∃ (l : Addr) (xs : List Str), x = V.ref l ∧ SqT K H1 l (xs.map V.str) ∧ xs.length < 64 ∧ ∀ n, Dist xs n → Q (.int (n : Nat)) H1
theorem pe_lenSetA (K : Fg) {X : Cx} {a : Expr} {ta : TE} {p p2 q pos : Pos} (hc : X.calm = true) (hm : X.mg "len" = none) (hm2 : X.mg "set" = none) (ha : PE X a ta) (hK : X.K = K := by rfl) (hg : Gl X "len" := by rfl) (hg2 : Gl X "set" := by rfl)
    (na : starEach [a] X.env = (false, eval a X.env) :: starEach [] X.env := by rfl) : PE X (.Call (.Name "len" p) [.Call (.Name "set" p2) [a] [] q] [] pos) (tLenSetA K ta) := by
  subst hK
  constructor
  intro pins s σ H Q I h
  refine Call_ (ld_blt I hg hm PySem.boot_len (callWith_builtin1 (args_cons ?_ rfl) rfl rfl))
  refine Call_ (ld_blt I hg2 hm2 boot_set (callWith_type1 (args_cons (thn (ha.run pins s σ H _ I h) ?_) na) na rfl))
  rintro v s1 ⟨x, H1, I1, r1, l, xs, rfl, hl, hf, q1⟩
  refine args_nil ?_
  cases r1
  obtain ⟨its, rv, pl, hz⟩ := I1.tuple hl
  refine set_of_texts (prog := X.prog) (w := X.w) (xs := xs) (I1.ok.hd hc) pl (by simpa using strsAre_of rv) (by unfold scanBound; omega) ?_
  intro h' tk ⟨c, hd, hle, o, es, ep, t, ho, hex, hdt, _, _, _, hfit, hn⟩ hk
  have I2 : Inv X pins σ H1 { s1 with heap := h', toks := tk } := I1.kept fun b o e => hk b o (Heap.lt_size e) e
  refine args_nil (call_len_set ho hex hdt hfit ?_ ⟨.int (c : Nat), H1, I2.tok _, ⟨_, by rw [hn]⟩, q1 c hd⟩)
  rw [hn]
  omega
end Lw
namespace Lw
open PySem PySem.Spec PyProof.Rows L2
variable [Tabl] [Exn]
theorem we_lenSetA {K : Fg} {ρ : List SD} {ta : TE} {F : D → List SD → Prop} (h : WE K ta ρ fun x ρ1 => ∃ xs : List Str, x = .tup (xs.map D.str) ∧ xs.length < 64 ∧ ∀ n, Dist xs n → F (.int (n : Nat)) ρ1) : WE K (tLenSetA K ta) ρ F :=
  fun P B0 H0 B H σ S Q k => h P B0 H0 B H σ S _ fun v x ρ1 B1 H1 ⟨xs, e, hl, f⟩ S1 s1 r1 => by
    subst e
    cases r1 with
    | tup h1 a1 =>
      rw [RA.strs a1] at h1
      exact ⟨_, xs, rfl, same_t S1.le h1, hl, fun n hn => k _ _ ρ1 B1 H1 (f n hn) S1 s1 (.int _)⟩
end Lw

set_option Elab.async false
set_option linter.all false
set_option maxRecDepth 100000
set_option maxHeartbeats 4000000
/-! a comprehension's new list; a look into a list that grows -/
namespace Lw
open PySem PySem.Spec PyProof.Rows L2
variable [Tabl] [Exn]
section
variable {K : Fg} {ρ : List SD}
theorem del_tabs {H : Hp} {p : Addr} {va : List V} (t : NdefX.TabsN Tabl.T H) (h : H p = some (.lst va)) : NdefX.TabsN Tabl.T (del H p) := fun q hq => by
  obtain ⟨ps, h1, h2, h3⟩ := t q hq
  refine ⟨ps, by rw [del_ne (fun z => by rw [z, h] at h1; cases h1)]; exact h1, h2, fun pos cv hc => ?_⟩
  obtain ⟨c, e1, e2⟩ := h3 pos cv hc
  exact ⟨c, e1, by rw [del_ne (fun z => by rw [z, h] at e2; cases e2)]; exact e2⟩
theorem del_gr {P : Addr → Prop} {B0 H0 B H : Hp} {p : Addr} {va : List V} (g : Gr P B0 H0 B H) (h0 : H0 p = none) (hb : B p = none) (hh : H p = some (.lst va)) : Gr P B0 H0 B (del H p) where
  hh := fun b o n e => by rw [del_ne (ne_of_none e h0)]; exact g.hh b o n e
  bb := g.bb
  le := fun b o e => by rw [del_ne (ne_of_none e hb)]; exact g.le b o e
  fr := g.fr
  pt := fun b n e => by
    rw [del_ne (fun z => e (by rw [z]; exact h0))]
    exact g.pt b n e
  tp := g.tp
  kp := fun z => ⟨del_tabs (g.kp z).1 hh, (g.kp z).2⟩
theorem ST.del {P : Addr → Prop} {B0 H0 B H : Hp} {σ : L2.St} {p : Addr} {va : List V} (S : ST K P B0 H0 ρ B H σ) (h0 : H0 p = none) (hb : B p = none) (hh : H p = some (.lst va)) (hn : ¬ Mus ρ σ p) : ST K P B0 H0 ρ B (L2.del H p) σ where
  len := S.len
  gr := del_gr S.gr h0 hb hh
  sl := fun j s h => (S.sl j s h).step (Same.refl _) (fun a ψ q => by rw [del_ne (fun z => by rw [z, hh] at q; cases q)]; exact q) fun a u m e hb1 hh1 _ => ⟨by
    have ne : a ≠ p := fun q => by
      subst q
      refine hn (.inl ⟨j, s, h, m, ?_⟩)
      obtain ⟨w, e1, _⟩ := S.slot h
      rw [e1] at e ⊢
      have e' : w = some (V.ref a) := e
      rw [e']
    rw [del_ne ne]
    exact hh1, hb1⟩
  dis := S.dis
  ok := ⟨del_tabs S.ok.1 hh, S.ok.2⟩
  ex := S.ex
theorem wn_lc {wi : TI} {g : TG} {tt : TT} {te : TE} {vs : List Nat} {F : List D → List SD → Prop} (hg : GIn g vs) (hm : GMono g)
    (h : WI K wi ρ fun items ρ1 => items.length < sizeLine ∧ ∃ I, LcI K g tt te vs items ρ1 (fun d ρ2 => ∀ xs, d = .lst xs → F xs ρ2) I) : WN K (tLc wi g tt te vs) ρ F :=
  fun P B0 H0 B H σ S Q k => h P B0 H0 B H σ S _ fun J items ρ1 B1 H1 ⟨hsz, I, L⟩ S1 s1 w => by
    intro p hp
    have hp0 : H0 p = none := S1.h0 hp
    have hb1 := S1.bfree hp
    have W1 := S1.wipe vs
    -- which slots may change stays as it is
    have mus1 : ∀ {ρi : List SD} {b : Addr}, ρi.map SD.mu = (wipeD ρ1 vs).map SD.mu → MusS ρi (wipe σ vs) b → MusS ρ1 σ b := fun {ρi b} em ⟨j, s, e, m, q⟩ => by
      have e2 : (ρi.map SD.mu)[j]? = some true := by rw [List.getElem?_map, e]; exact congrArg some m
      rw [em, List.getElem?_map] at e2
      cases q2 : (wipeD ρ1 vs)[j]? with
      | none => rw [q2] at e2; cases e2
      | some s' =>
        rw [q2] at e2
        have m' : s'.mu = true := Option.some.inj e2
        rcases wipeD_get q2 with z | ⟨z1, z2⟩
        · rw [z] at m'; cases m'
        · exact ⟨j, s', z2, m', by rw [← wipe_out z1]; exact q⟩
    have nopS : ¬ MusS ρ1 σ p := fun ⟨j, s, e, m, q⟩ => S1.mu_at e m hp q
    have nop : ¬ Mus ρ1 σ p := fun q => q.elim nopS (S1.ok.new hp)
    refine ⟨fun i m H' => m = items.length - i ∧ i ≤ items.length ∧ ∃ acc va ρi Bi, I i acc ρi ∧ acc.length ≤ i ∧ ST K P B0 H0 ρi Bi H' (wipe σ vs) ∧ Bi p = none ∧ H' p = some (.lst va) ∧ RA K Bi va acc ∧ Gr (Mus ρ1 σ) B1 H1 Bi H',
      ⟨items.length, by simp, Nat.zero_le _, [], [], wipeD ρ1 vs, B1, L.start, Nat.le_refl _, W1.side hb1 hp0 (fun j s e m => W1.mu_at e m hp) (fun u e => by rw [hp] at e; cases e), hb1, upd_same, .nil, (Gr.refl S1.le (fun _ z => Or.inr z)).mut hb1 (.inr hp) (fun u e => by rw [hp] at e; cases e)⟩, ?_⟩
    rintro i m H' ⟨rfl, hi, acc, va, ρi, Bi, Ii, hacc, Si, hbp, hHp, ra, gi⟩
    obtain ⟨hmask, hw⟩ := L.mu _ _ _ Ii
    by_cases hlt : i < items.length
    · refine .inr ⟨w.go i H' hlt (gi.bb.trans Si.le), fun H2 => ∃ acc va ρj Bj, I (i + 1) acc ρj ∧ acc.length ≤ i + 1 ∧ ST K P B0 H0 ρj Bj H2 (wipe σ vs) ∧ Bj p = none ∧ H2 p = some (.lst va) ∧ RA K Bj va acc ∧ Gr (Mus ρ1 σ) B1 H1 Bj H2,
        fun H2 ⟨a, b, c, d, e⟩ => ⟨items.length - (i + 1), by omega, rfl, hlt, a, b, c, d, e⟩, fun x H2 y => ?_⟩
      have ei : items[i]? = some items[i] := List.getElem?_eq_getElem hlt
      obtain ⟨Bc, gr, r⟩ := w.yld i H' x H2 _ ei y Bi gi.bb Si.le
      obtain ⟨hHc, hbc⟩ := gr.keepP (fun z => S1.ok.new hp z) hHp hbp
      have gc : Gr (Mus ρ1 σ) B1 H1 Bc H2 := gi.trans (gr.weak0 gi.tp)
      refine hm _ _ _ (fun σ2 H2' => wipe σ2 vs = wipe (wipe σ vs) vs ∧ (wipe σ2 vs = wipe (wipe σ vs) vs → tt σ2 H2' _)) _ (fun σ2 H2' z => ⟨z.1.trans wipe_wipe, z.2 z.1⟩) (hg _ _ _ _ (L.turn i acc ρi _ ei hacc Ii P B0 H0 Bc H2 (wipe σ vs) x (Si.step gr) r _ fun ρ2 σ2 h2 S2 g2 ew => ?_))
      have m2 : ∀ b, Mus ρ2 σ2 b → Mus ρ1 σ b := fun b q => (g2.mus q).elim (fun q => .inl (mus1 hmask q)) .inr
      refine h2 P B0 H0 Bc H2 σ2 S2 _ fun b ρ3 B3 H3 ⟨f1, f2⟩ S3 e3 => ?_
      obtain ⟨hH3, hb3⟩ := e3.gr.keepP (fun q => nop (m2 p q)) hHc hbc
      have g3 : Gr (Mus ρ1 σ) B1 H1 B3 H3 := gc.trans (e3.gr.weak m2)
      have m3 : ∀ b, Mus ρ3 σ2 b → Mus ρ1 σ b := fun b q => m2 b (e3.sh.mus q)
      have ew' : wipe σ2 vs = wipe σ vs := ew.trans wipe_wipe
      cases b with
      | false =>
        refine iteF ⟨acc, va, wipeD ρ3 vs, B3, f2 rfl, Nat.le_succ_of_le hacc, ?_, hb3, hH3, ra.mono (gr.bb.trans e3.bb), g3⟩
        rw [← ew']; exact S3.wipe vs
      | true =>
        refine iteT (f1 rfl P B0 H0 B3 H3 σ2 S3 _ fun v d ρ4 B4 H4 f4 S4 e4 r4 => ?_)
        obtain ⟨hH4, hb4⟩ := e4.gr.keepP (fun q => nop (m3 p q)) hH3 hb3
        have g4 : Gr (Mus ρ1 σ) B1 H1 B4 H4 := g3.trans (e4.gr.weak m3)
        have m4 : ¬ Mus ρ4 σ2 p := fun q => nop (m3 p (e4.sh.mus q))
        have ra4 := ra.mono ((gr.bb.trans e3.bb).trans e4.bb)
        refine ⟨va, hH4, ?_, acc ++ [d], va ++ [v], wipeD ρ4 vs, B4, f4, by rw [List.length_append, List.length_singleton]; omega, ?_, hb4, upd_same, ra4.append (.cons r4 .nil), g4.mut hb4 (.inr hp) (fun u e => by rw [hH4] at e; cases e; trivial)⟩
        · rw [ra.length]; omega
        · rw [← ew']
          exact (S4.side hb4 hp0 (fun j s e m q => m4 (.inl ⟨j, s, e, m, q⟩)) (fun u e => by rw [hH4] at e; cases e; trivial)).wipe vs
    · have e : i = items.length := by omega
      subst e
      have S3 : ST K P B0 H0 ρi Bi H' σ := by
        have z : ST K P B0 H0 (wipeD ρi vs) Bi H' σ := ST.unwipe (by rw [hw]; exact Si)
        rw [hw] at z; exact z
      have nmS : ¬ MusS ρi σ p := fun ⟨j, s, e, m, q⟩ => by
        refine nopS (mus1 hmask ⟨j, s, e, m, ?_⟩)
        rw [← hw] at e
        rcases wipeD_get e with z | ⟨z1, _⟩
        · rw [z] at m; cases m
        · rw [wipe_out z1]; exact q
      have nm : ¬ Mus ρi σ p := fun q => q.elim nmS (S1.ok.new hp)
      have gd := del_gr gi hp hbp hHp
      have fin := k p va acc ρi Bi (L2.del H' p) (L.fin acc ρi Ii acc rfl) (S3.del hp0 hbp hHp nm) (s1.trans ⟨gd, fun j s e m => ?_⟩) del_same ra
      · have eH : upd (L2.del H' p) p (.lst va) = H' := by
          funext b
          by_cases z : b = p
          · subst z; rw [upd_same, hHp]
          · rw [upd_ne z, del_ne z]
        rw [eH] at fin
        exact .inl ⟨w.stop H' (gi.bb.trans Si.le), fin⟩
      · have e2 : (ρi.map SD.mu)[j]? = some true := by rw [List.getElem?_map, e]; exact congrArg some m
        rw [hmask, List.getElem?_map] at e2
        cases q2 : (wipeD ρ1 vs)[j]? with
        | none => rw [q2] at e2; cases e2
        | some s' =>
          rw [q2] at e2
          have m' : s'.mu = true := Option.some.inj e2
          rcases wipeD_get q2 with z | ⟨z1, z2⟩
          · rw [z] at m'; cases m'
          · exact ⟨s', z2, m'⟩
/-- a method that hands out a new list -/
theorem wn_meth {to : TE} {C : Addr} {m : Str} {n : Nat} {S : List D → (List D → Prop) → Prop} {t : TA} {F : List D → List SD → Prop} (h : WE K to ρ fun x ρ1 => ∃ ds, x = .obj C ds ∧ ds.lookup m = none ∧ WA K t ρ1 fun es ρ2 => es.length + 1 = n ∧ S (x :: es) fun xs => F xs ρ2) :
    WN K (tMeth C m (newSp K n S) [] E0 to t) ρ F :=
  fun P B0 H0 B H σ Z Q k => h P B0 H0 B H σ Z _ fun v x ρ1 B1 H1 ⟨ds, e, l, q⟩ S1 s1 r1 => by
    subst e
    cases r1 with
    | obj h1 rf =>
      refine ⟨_, _, _, rfl, S1.le _ _ h1, rf.miss l, q P B0 H0 B1 H1 σ S1 _ fun vs es ρ2 B2 H2 ⟨l2, q2⟩ S2 s2 r2 => ?_⟩
      exact ⟨B2, _, _, S2.le, S2.ok, .cons ((R.obj h1 rf).mono s2.bb) (by rw [List.append_nil]; exact r2), by rw [List.length_cons]; exact l2, q2, fun p us xs B3 H3 g gr hp r => k p us xs ρ2 B3 H3 g (S2.step gr) ((s1.trans s2).trans (Ev.pure gr)) hp r⟩
/-- a new list, as a datum from now on -/
theorem we_ofN {te : TE} {F : D → List SD → Prop} (h : WN K te ρ fun xs ρ1 => F (.lst xs) ρ1) : WE K te ρ F :=
  fun P B0 H0 B H σ S Q k => h P B0 H0 B H σ S _ fun p vs xs ρ1 B1 H1 f S1 s1 hp r => by
    have hb := S1.bfree hp
    exact k _ _ ρ1 (upd B1 p _) _ f (S1.new _ hp) (s1.trans (Ev.new S1.le hp)) (.lst upd_same (r.mono (same_new hb)))
/-- what looks into the one list that grows, and hands out a flat datum -/
theorem we_peek {te : TE} {i : Nat} {xs : List D} {F : D → List SD → Prop} (h1 : ρ[i]? = some (.ow xs)) (hm : ∀ j t, ρ[j]? = some t → t.mu = true → j = i) (h : WE K te (ρ.set i (.d (.lst xs))) fun d _ => d.flat = true ∧ F d ρ) : WE K te ρ F :=
  fun P B0 H0 B H σ S Q k => by
    obtain ⟨p, vs, e, hb, hh, ra⟩ := S.peek h1 (.inl rfl)
    obtain ⟨B', S', sB, fB⟩ := S.still h1
    have hi : i < ρ.length := (List.getElem?_eq_some_iff.mp h1).1
    have hp : B' p = some (.lst vs) := by
      obtain ⟨o, e1, v, rfl, r⟩ := S'.slot (i := i) (s := .d (.lst xs)) (List.getElem?_set_self hi)
      rw [e] at e1
      cases e1
      cases r with
      | lst h5 _ =>
        have := S'.le _ _ h5
        rw [hh] at this
        cases this
        exact h5
    have eB : B' = upd B p (.lst vs) := by
      funext c
      by_cases z : c = p
      · subst z; rw [upd_same]; exact hp
      · rw [upd_ne z]
        cases q : B' c with
        | none => exact (same_none sB q).symm
        | some u =>
          rcases fB c u q with y | y
          · exact y.symm
          · rw [e] at y; cases y; exact absurd rfl z
    subst eB
    refine h P B0 H0 _ H σ S' Q fun v d ρ' B2 H2 ⟨f1, f2⟩ S2 s2 r => ?_
    have g : Gr Non (upd B p (.lst vs)) H B2 H2 := s2.gr.weak fun b q => q.elim (fun ⟨j, t, e1, m, _⟩ => by
      by_cases z : i = j
      · subst z
        obtain ⟨y, _⟩ := set_same_of e1
        rw [y] at m; cases m
      · rw [get_set_ne z] at e1
        exact absurd (hm j t e1 m).symm z) id
    have g' := peekG hb hh S.le g
    exact k v d ρ B H2 f2 (S.step g') (Ev.pure g') (rflat' r f1)
end
end Lw

set_option Elab.async false
set_option linter.all false
set_option maxRecDepth 100000
set_option maxHeartbeats 4000000
/-! lists that are cut, and whose items are set -/
namespace Lw
open PySem PySem.Spec PyProof.Rows L2
variable [Tabl] [Exn]
section
variable {K : Fg} {ρ : List SD}
theorem wn_split {to te : TE} {F : List D → List SD → Prop} (h : WE K to ρ fun x ρ1 => ∃ a, x = .str a ∧ WE K te ρ1 fun y ρ2 => ∃ b, y = .str b ∧ (b.length == 0) = false ∧ a.length + 2 ≤ sizeLine ∧ F ((Txt.split a b).map D.str) ρ2) :
    WN K (tM1 (fun x xs H Q => ∃ a b, x = .str a ∧ xs = [.str b] ∧ (b.length == 0) = false ∧ a.length + 2 ≤ sizeLine ∧ rNewStrs (Txt.split a b) H Q) to te) ρ F :=
  fun P B0 H0 B H σ S Q k => h P B0 H0 B H σ S _ fun v x ρ1 B1 H1 ⟨a, e1, h1⟩ S1 s1 r1 => by
    subst e1
    rw [rstr r1]
    refine ⟨⟨a, rfl⟩, h1 P B0 H0 B1 H1 σ S1 _ fun u y ρ2 B2 H2 ⟨b, e2, c1, c2, f⟩ S2 s2 r2 => ?_⟩
    subst e2
    rw [rstr r2]
    exact ⟨a, b, rfl, rfl, c1, c2, fun p hp => k p _ _ ρ2 B2 H2 f S2 (s1.trans s2) hp (strs_ra _)⟩
/-- a, b = a new list, a datum -/
theorem ws_parNd {i j : Nat} {te tf : TE} {E : Out} (hij : i ≠ j) (h : WN K te ρ fun xs ρ1 => WE K tf ρ1 fun y ρ2 => E.nx ((ρ2.set i (.ow xs)).set j (.d y))) : WS K (tPar i j (tCons te (tCons tf tNil))) ρ E :=
  fun P B0 H0 B H σ S D k1 k2 k3 k4 => h P B0 H0 B H σ S _ fun p us xs ρ1 B1 H1 hf S1 s1 hp ra => by
    have hp0 := S1.h0 hp
    have hb1 := S1.bfree hp
    have nopS : ¬ MusS ρ1 σ p := fun ⟨j, s, e, m, q⟩ => S1.mu_at e m hp q
    have nop : ¬ Mus ρ1 σ p := fun q => q.elim nopS (S1.ok.new hp)
    have S2 : ST K P B0 H0 ρ1 B1 (upd H1 p (.lst us)) σ := S1.side hb1 hp0 (fun j s e m => S1.mu_at e m hp) (fun u e => by rw [hp] at e; cases e)
    refine hf P B0 H0 B1 _ σ S2 _ fun v y ρ2 B2 H2 f S3 s3 r3 => ?_
    obtain ⟨q1, q2⟩ := s3.gr.keepP nop upd_same hb1
    have nop3 : ¬ Mus ρ2 σ p := fun q => nop (s3.sh.mus q)
    have S4 := S3.del hp0 q2 q1 nop3
    have S5 := S4.own (i := i) (vs := us) (xs := xs) L2.del_same hp0 (ra.mono s3.bb)
    have eH : upd (L2.del H2 p) p (.lst us) = H2 := by
      funext b
      by_cases z : b = p
      · subst z; rw [upd_same, q1]
      · rw [upd_ne z, del_ne z]
    rw [eH] at S5
    exact ⟨_, _, rfl, k1 _ B2 H2 _ f (S5.put r3) (s1.bb.trans s3.bb)⟩
/-- (the list at i)[lo:hi] -/
theorem we_sliceO {i : Nat} {tl th : TO} {s0 : SD} {xs0 : List D} {F : D → List SD → Prop} (h0 : ρ[i]? = some s0) (o0 : Own s0 xs0)
    (h : WO K tl ρ fun lo ρ2 => WO K th ρ2 fun hi ρ3 => ∃ s xs, ρ3[i]? = some s ∧ Own s xs ∧ F (.lst (cutD xs lo hi)) ρ3) : WE K (tSl (rSlAny K) (tVar i) tl th) ρ F :=
  fun P B0 H0 B H σ S Q k => by
    obtain ⟨p0, vs0, e0, _⟩ := S.peek h0 o0
    refine ⟨.ref p0, e0, h P B0 H0 B H σ S _ fun lo ρ2 B2 H2 h2 S2 s2 => h2 P B0 H0 B2 H2 σ S2 _ fun hi ρ3 B3 H3 ⟨s, xs, h1, o, f⟩ S3 s3 => ?_⟩
    obtain ⟨p, vs, e, hb, hh, ra⟩ := S3.peek h1 o
    rw [e0] at e; cases e
    refine .inl ⟨_, vs, rfl, SqL.of hh, fun q hq => ?_⟩
    have hbq := S3.bfree hq
    exact k _ _ ρ3 (upd B3 q _) _ f (S3.new _ hq) ((s2.trans s3).trans (Ev.new S3.le hq)) (.lst upd_same (ra.cut.mono (same_new hbq)))
/-- (the list at i)[y] = x, the list one's own -/
theorem wg_setW {i : Nat} {ti te : TE} {s0 : SD} {xs0 : List D} {E : Out} (h0 : ρ[i]? = some s0) (o0 : Own s0 xs0)
    (h : WE K te ρ fun x ρ1 => WE K ti ρ1 fun y ρ2 => ∃ xs j n, ρ2[i]? = some (.ow xs) ∧ y = .int j ∧ ixN xs.length j = some n ∧ E.nx (ρ2.set i (.ow (xs.set n x)))) : WS K (tAsg te (gSub (tVar i) ti rSetL)) ρ E :=
  fun P B0 H0 B H σ S D k1 k2 k3 k4 => h P B0 H0 B H σ S _ fun v x ρ1 B1 H1 h1 S1 s1 r1 => by
    obtain ⟨p0, vs0, e0, _⟩ := S.peek h0 o0
    refine ⟨.ref p0, e0, h1 P B0 H0 B1 H1 σ S1 _ fun u y ρ2 B2 H2 ⟨xs, j, n, h2, e2, hn, q⟩ S2 s2 r2 => ?_⟩
    subst e2
    obtain ⟨o, e3, a, vs, q1, q2, q3, q4, q5⟩ := S2.slot h2
    rw [e0] at e3; cases e3; cases q1
    rw [rint r2]
    refine ⟨p0, vs, j, n, rfl, rfl, q4, by rw [q5.length]; exact hn, ?_⟩
    have S3 := S2.chg (o := .lst (vs.set n v)) (s' := .ow (xs.set n x)) h2 rfl rfl e0 ⟨p0, _, rfl, q2, q3, upd_same, RA.set (r1.mono s2.bb) n q5⟩
    exact k1 _ B2 _ _ q S3 (s1.bb.trans s2.bb)
end
end Lw
namespace Lw
open PySem PySem.Spec PyProof.Rows L2
theorem op_ownK (K : Fg) {X : Cx} {C : Addr} {n : Nat} {ps : List Str} {sp : Sp} (M : Met X.prog X.w X.K X.mg X.base C "__eq__" n ps sp) (hr : Room n X.A) (hK : X.K = K := by rfl) : OpR X (compareOp .Eq) (rOwn K C sp) := by subst hK; exact op_own M hr
end Lw

set_option Elab.async false
set_option linter.all false
set_option maxRecDepth 100000
set_option maxHeartbeats 4000000
namespace Lw
open PySem PySem.Spec PyProof.Rows L2
/-! ### tuples of which it is known that no dict hangs on them -/
def kTupN (K : Fg) (x : V) (H : Hp) (Q : VK) : Prop := ∃ p xs, x = .ref p ∧ SqL K H p xs ∧ ∀ (q : Addr) (o : Obj), H q = none → o.cls = .type "tuple" → o.dict = none → Q (.ref q) (upd H q (.frz o (.tup xs)))
theorem rl_tupN {X : Cx} (pins : List (Addr × Obj)) (s : Shared) (σ : L2.St) (H : Hp) (x : V) (v : Value) (Q : VK) (I : Inv X pins σ H s) (r : RelV x v) (h : kTupN X.K x H Q) :
    wpAny (model X.prog X.w) X.A (call (.type "tuple") [v]) (EP X pins σ Q) X.xe s := by
  obtain ⟨p, xs, rfl, hs, q⟩ := h
  obtain rfl : v = .ref p := r
  obtain ⟨its, rv, pl, hz⟩ := I.list hs
  refine call_tuple_list pl.isList (fun h' hk => ?_) (by rw [List.size_toArray, ← rv.length]; exact hz)
  have J : Inv X pins σ H { s with heap := h' } := I.kept (t' := s.toks) hk
  have e : (h'.push ({ cls := .type "tuple", data := .seq its.toArray } : Obj)).get? h'.objs.size = some { cls := .type "tuple", data := .seq its.toArray } := Heap.get?_push_size _ rfl
  exact ⟨.ref h'.objs.size, _, J.laid (t' := s.toks) (o := .frz { cls := .type "tuple", data := .seq its.toArray } (.tup xs)) (fun b o e => Heap.get?_push_of_some _ e) (Nat.le_refl _) ⟨e, hz, its, rv, _, e, rfl, _, rfl⟩, rfl, q _ _ (J.hok.fresh (Nat.le_refl _)) rfl rfl⟩
theorem pe_tupN (K : Fg) {X : Cx} {a : Expr} {ta : TE} {p pos : Pos} (hg : Gl X "tuple") (hm : X.mg "tuple" = none) (ha : PE X a ta) (na : starEach [a] X.env = (false, eval a X.env) :: starEach [] X.env := by rfl) (hK : X.K = K := by rfl) :
    PE X (.Call (.Name "tuple" p) [a] [] pos) (tThen ta (kTupN K)) := by
  subst hK
  exact ⟨fun pins s σ H Q I h => Call_ (ld_blt I hg hm boot_tuple (PyProof.Rows.callWith_type1 (one_arg ha I h (fun v s2 x H2 I2 r q => rl_tupN pins s2 σ H2 x v Q I2 r q) na) na))⟩
def tyTupN (x : V) (H : Hp) : Prop := ∃ p o xs, x = .ref p ∧ H p = some (.frz o (.tup xs)) ∧ o.cls = .type "tuple" ∧ o.dict = none
theorem ty_tupN {X : Cx} : TyOk X "tuple" tyTupN := by
  intro pins σ H s x v I r ty
  obtain ⟨p, o, xs, rfl, h1, h2, h3⟩ := ty
  obtain rfl : v = .ref p := r
  obtain ⟨e, _⟩ := (show ObjOk X.prog X.w H s.heap p (.frz o (.tup xs)) from I.hok p _ h1)
  exact ⟨⟨_, e, h2⟩, fun b z => by cases z; exact ⟨_, e, h3⟩⟩
/-- t.index(x): the first place -/
def rTIdx (K : Fg) : V → List V → Hp → VK → Prop := fun x xs H Q => ∃ p, ∃ ys : List Str, ∃ z j, x = .ref p ∧ xs = [.str z] ∧ SqT K H p (ys.map V.str) ∧ ys[j]? = some z ∧ (∀ m, m < j → ys[m]? ≠ some z) ∧ Q (.int (j : Nat)) H
theorem mt_tIdx (K : Fg) {X : Cx} (hK : X.K = K := by rfl) : MtR X "tuple.index" (rTIdx K) := by
  subst hK
  exact mt_tup_index
def rLCnt (K : Fg) : V → List V → Hp → VK → Prop := rCntI K
theorem mt_lCnt (K : Fg) {X : Cx} (hK : X.K = K := by rfl) : MtR X "list.count" (rLCnt K) := by
  subst hK
  exact mt_lcount
/-! ### sorted(xs) -/
def rSortD (K : Fg) : List V → Hp → VK → Prop := fun vs H Q => ∃ (p : Addr) (xs : List V) (ds : List PyData), vs = [.ref p] ∧ SqL K H p xs ∧ DpAll K H xs ds ∧ PySem.W.AllAlike ds ∧ PySem.W.Sortable ds ∧ (∀ d ∈ ds, d.depth ≤ 60) ∧
  ∀ l, H l = none → Q (.ref l) (upd H l (.lst (Lk.sortK false ds xs)))
theorem each_zip {β : Type} {R : Value → PyData → Prop} : ∀ {vs : List Value} {ds : List PyData} {xs : List β}, PySem.W.EachIs R vs ds → ds.length = xs.length → PySem.W.EachIs (fun v (p : PyData × β) => R v p.1) vs (ds.zip xs)
  | _, _, [], .nil, _ => .nil
  | _, _, _ :: _, .nil, h => by simp at h
  | _, _, [], .cons _ _, h => by simp at h
  | _, _, _ :: _, .cons h1 h2, h => .cons h1 (each_zip h2 (by simpa using h))
theorem cr_sortD (K : Fg) {X : Cx} (hu : X.A.units + 65 < cLine) (hK : X.K = K := by rfl) : CallR X (.builtin "sorted") (rSortD K) := by
  subst hK
  intro pins s σ H vs us Q I r h
  obtain ⟨p, xs, ds, rfl, hs, hdp, ha, hk, hd, q⟩ := h
  obtain ⟨its, rv, hl, hz⟩ := I.list hs
  rw [Vals.ref1 r]
  obtain ⟨as, ra⟩ := Dp.readsAll I ds xs its hdp rv
  have e0 := Lk.readsAll_each ra
  have ld : ds.length = xs.length := by rw [rv.length, e0.length]
  refine PySem.W.sorted_data (R := fun (v : Value) (p : PyData × V) => RelV p.2 v) (enc := Prod.fst) (bs := ds.zip xs) hl.isList (Lk.vals_each rv ld) (each_zip e0 ld) (by rw [List.map_fst_zip (by omega)]; exact ha) (by rw [List.map_fst_zip (by omega)]; exact hk)
    (by rw [List.length_zip]; omega) (fun b hb => ?_) fun out ho ev => ?_
  · have := hd _ (List.of_mem_zip (show (b.1, b.2) ∈ ds.zip xs from hb)).1
    omega
  · obtain ⟨ep, he⟩ := PyProof.Rows.sortedAll_at s.heap its out.toArray
    have vo : Vals (Lk.sortK false ds xs) out := Lk.each_vals (xs := xs) (ds := ds) ev
    exact ⟨.ref _, upd H (s.heap.objs.size + 1) (.lst (Lk.sortK false ds xs)), I.laid (t' := s.toks) (fun _ _ => PyProof.Rows.sortedAll_old) (Nat.le_succ _) ⟨by rw [Lk.sortK_len ld]; exact hz, out, ep, vo, he⟩, rfl, q _ (I.hok.fresh (Nat.le_succ _))⟩
section
variable [Tabl] [Exn] {K : Fg} {ρ : List SD}
theorem we_tupN {te : TE} {F : D → List SD → Prop} (h : WE K te ρ fun x ρ1 => ∃ xs, x = .lst xs ∧ F (.ntp xs) ρ1) : WE K (tThen te (kTupN K)) ρ F :=
  fun P B0 H0 B H σ S Q k => h P B0 H0 B H σ S _ fun v x ρ1 B1 H1 ⟨xs, e, f⟩ S1 s1 r1 => by
    subst e
    cases r1 with
    | lst h1 ra =>
      refine ⟨_, _, rfl, SqL.of (S1.le _ _ h1), fun q o hq h2 h3 => ?_⟩
      exact k (.ref q) (.ntp xs) ρ1 _ _ f (S1.new _ hq) (s1.trans (Ev.new S1.le hq)) (.ntp upd_same h2 h3 (ra.mono (same_new (S1.bfree hq))))
/-- such a tuple is a tuple -/
theorem we_thaw {te : TE} {F : D → List SD → Prop} (h : WE K te ρ fun x ρ1 => ∃ xs, x = .ntp xs ∧ F (.tup xs) ρ1) : WE K te ρ F :=
  fun P B0 H0 B H σ S Q k => h P B0 H0 B H σ S _ fun v x ρ1 B1 H1 ⟨xs, e, f⟩ S1 s1 r1 => by
    subst e
    cases r1 with
    | ntp h1 h2 h3 ra => exact k _ (.tup xs) ρ1 B1 H1 f S1 s1 (.tup (.inl (.inr ⟨_, h1⟩)) ra)
theorem we_tIdx {to te : TE} {F : D → List SD → Prop} (h : WE K to ρ fun x ρ1 => ∃ ys : List Str, x = .ntp (ys.map D.str) ∧ WE K te ρ1 fun y ρ2 => ∃ z j, y = .str z ∧ ys[j]? = some z ∧ (∀ m, m < j → ys[m]? ≠ some z) ∧ F (.int (j : Nat)) ρ2) :
    WE K (tMG tyTupN (rTIdx K) to (tCons te tNil)) ρ F :=
  fun P B0 H0 B H σ S Q k => h P B0 H0 B H σ S _ fun v x ρ1 B1 H1 ⟨ys, e, h2⟩ S1 s1 r1 => by
    subst e
    cases r1 with
    | ntp a1 a2 a3 ra =>
      refine ⟨⟨_, _, _, rfl, S1.le _ _ a1, a2, a3⟩, h2 P B0 H0 B1 H1 σ S1 _ fun u y ρ2 B2 H2 ⟨z, j, e2, e3, e4, f⟩ S2 s2 r2 => ?_⟩
      subst e2
      have ev := ra.strs
      subst ev
      cases r2
      exact ⟨_, ys, z, j, rfl, rfl, .inl (.inr ⟨_, S2.le _ _ (s2.bb _ _ a1)⟩), e3, e4, k _ _ ρ2 B2 H2 f S2 (s1.trans s2) (.int _)⟩
theorem we_lCnt {to te : TE} {F : D → List SD → Prop} (h : WE K to ρ fun x ρ1 => ∃ ns : List Int, x = .lst (ns.map D.int) ∧ WE K te ρ1 fun y ρ2 => ∃ j : Int, y = .int j ∧ F (.int (ns.count j : Nat)) ρ2) :
    WE K (tBM K "list" (rLCnt K) to (tCons te tNil)) ρ F :=
  fun P B0 H0 B H σ S Q k => h P B0 H0 B H σ S _ fun v x ρ1 B1 H1 ⟨ns, e, h2⟩ S1 s1 r1 => by
    subst e
    cases r1 with
    | lst a1 ra =>
      refine ⟨.inl ⟨rfl, _, SqL.of (S1.le _ _ a1)⟩, h2 P B0 H0 B1 H1 σ S1 _ fun u y ρ2 B2 H2 ⟨j, e2, f⟩ S2 s2 r2 => ?_⟩
      subst e2
      have ev := ra.ints
      subst ev
      cases r2
      exact ⟨_, ns, j, rfl, rfl, SqL.of (S2.le _ _ (s2.bb _ _ a1)), k _ _ ρ2 B2 H2 f S2 (s1.trans s2) (.int _)⟩
/-- sorted(xs), of things w of a list ws -/
theorem we_sortD {te : TE} {F : D → List SD → Prop} (h : WE K te ρ fun x ρ1 => ∃ xs, x = .lst xs ∧ (∀ y ∈ xs, y.pl = true) ∧ PySem.W.AllAlike (xs.map D.py) ∧ PySem.W.Sortable (xs.map D.py) ∧ (∀ y ∈ xs, y.py.depth ≤ 60) ∧
      F (.lst (Lk.sortK false (xs.map D.py) xs)) ρ1) : WE K (tCB (rSortD K) (tCons te tNil)) ρ F :=
  fun P B0 H0 B H σ S Q k => h P B0 H0 B H σ S _ fun v x ρ1 B1 H1 ⟨xs, e, hp, ha, hs, hd, f⟩ S1 s1 r1 => by
    subst e
    cases r1 with
    | lst a1 ra =>
      rename_i a vs
      refine ⟨a, vs, xs.map D.py, rfl, SqL.of (S1.le _ _ a1), ra_py (ra.mono S1.le) hp, ha, hs, fun d hd' => ?_, fun l hl => ?_⟩
      · obtain ⟨w, hw, rfl⟩ := List.mem_map.mp hd'
        exact hd w hw
      · exact k (.ref l) _ ρ1 _ _ f (S1.new _ hl) (s1.trans (Ev.new S1.le hl)) (.lst upd_same ((ra_sortK ra).mono (same_new (S1.bfree hl))))
end
end Lw

set_option Elab.async false
set_option linter.all false
set_option maxRecDepth 100000
set_option maxHeartbeats 4000000
namespace Lw
open PySem PySem.Spec PyProof.Rows L2
/-! ### enumerate(a tuple) -/
theorem meets_enum_one {v : Value} {o : Obj} {H : Heap → Prop} (B : Begins v o H) :
    Meets (Builtin.«enumerate.__new__» ⟨[.type "enumerate", v], []⟩) (fun _ R s => H s.heap ∧
      R (.ok (.ret (.ref (s.heap.push o).objs.size))) { s with heap := (s.heap.push o).push { cls := .type "enumerate", data := .fields #[.none, .bool false, .ref s.heap.objs.size, rawInt 0, .none, .none] } }) :=
  .of_wp fun prog w A R s h => by
    obtain ⟨hp, g, d, tk, os⟩ := s; obtain ⟨h1, h⟩ := h
    have hsub := sub_enumerate
    have q1 : ∀ {A' : Around} {E : Value → Shared → Prop} {Q : Value → Shared → Prop}, Q (.ref hp.objs.size) ⟨hp.push o, g, d, tk, os⟩ → wpAny (model prog w) A' (pyIter v) Q E ⟨hp, g, d, tk, os⟩ :=
      fun q => B.iter prog w _ _ ⟨hp, g, d, tk, os⟩ _ h1 q
    wp_walk using q1
    refine wpAny_stack_any fun st => wpAny_pure ?_
    split
    · rename_i c _ _ _ _ _
      cases (c == Value.type "enumerate")
      · wp_walk using q1
        exact ⟨_, rfl, h⟩
      · wp_walk using q1
        exact ⟨_, rfl, h⟩
    · wp_walk using q1
      exact ⟨_, rfl, h⟩
theorem call_enum_one {prog : Program} {w : World} {A : Around} {E : Value → Shared → Prop} {s : Shared} {v : Value} {o : Obj} {H : Heap → Prop} {Q : Value → Shared → Prop} (B : Begins v o H) (h1 : H s.heap)
    (h : ∀ h', IsEnum h' (s.heap.objs.size + 1) s.heap.objs.size 0 .none → h'.get? s.heap.objs.size = some o → h'.objs.size = s.heap.objs.size + 2 →
      (∀ b o, s.heap.get? b = some o → h'.get? b = some o) → Q (.ref (s.heap.objs.size + 1)) { s with heap := h' }) :
    wpAny (model prog w) A (call (.type "enumerate") [v]) Q E s := by
  refine callType_new F.called_enumerate (by decide) (F.typeCall_enumerate_1 _) (F.newCall_enumerate_1 _) (fun obj => F.args_object_init_2 obj _) F.entry_enumerate_new (meets_enum_one B) ⟨h1, ?_⟩
  have hz : (s.heap.push o).objs.size = s.heap.objs.size + 1 := Heap.size_push ..
  show _ ∧ _
  rw [hz]
  have he : IsEnum ((s.heap.push o).push { cls := .type "enumerate", data := .fields #[.none, .bool false, .ref s.heap.objs.size, rawInt 0, .none, .none] }) (s.heap.objs.size + 1) s.heap.objs.size 0 .none := by
    have := Heap.get?_push_size (s.heap.push o) (o := { cls := .type "enumerate", data := .fields #[.none, .bool false, .ref s.heap.objs.size, rawInt 0, .none, .none] }) rfl
    rw [hz] at this; exact this
  refine ⟨⟨_, he, rfl⟩, h _ he (Heap.get?_push_of_some _ (Heap.get?_push_size _ B.free)) (by rw [Heap.size_push, hz]) fun b o x => Heap.get?_push_of_some _ (Heap.get?_push_of_some _ x)⟩
/-- the tuple at a, each item in a new pair -/
def IteT (K : Fg) (a : Addr) : It :=
  ⟨fun i H => ∃ (xs : List V) (x : V), SqT K H a xs ∧ xs[i]? = some x, fun i H v H' => ∃ T x, v = .ref T ∧ H T = none ∧ H' = upd H T (.tup [.int (i : Nat), x]) ∧ ∀ xs, SqT K H a xs → xs[i]? = some x, fun i H => ∃ xs : List V, SqT K H a xs ∧ xs.length = i⟩
theorem turn_enumT {P : Program} {w : World} {K : Fg} {elts : List Expr} {kk : Nat} {tpos : Pos} {a e it : Addr} (nae : a ≠ e) (nai : a ≠ it) (hne : e ≠ it) :
    Turn P w K (.Tuple elts kk tpos) (IteT K a) [e, it] e (fun i h => (∃ old, IsEnum h e it ((i : Nat) : Int) old) ∧ h.IsTupleIter it a i) where
  mem := by simp
  obj := fun i h st b hb => by
    obtain ⟨⟨old, he⟩, ⟨o, ho, hc, hd⟩⟩ := st
    have e' : b = e ∨ b = it := by simpa using hb
    rcases e' with z | z
    · rw [z]; exact ⟨_, he, fun v q => nomatch q⟩
    · rw [z]; exact ⟨o, ho, fun v q => by rw [hd] at q; cases q⟩
  keep := fun i h h' st k => let ⟨⟨old, he⟩, hi⟩ := st; ⟨⟨old, k e (by simp) _ he⟩, hi.at fun o q => k it (by simp) o q⟩
  item := by
    intro X hP hw hK hc i pins s σ H E I hf st hg
    subst hP hw hK
    obtain ⟨⟨old, he⟩, hit⟩ := st
    obtain ⟨xs, x, hq, hx⟩ := hg
    obtain ⟨its, rv, p, hz⟩ := I.tuple hq
    obtain ⟨u, hu, ru⟩ := rv.get hx
    have hh : X.A.in1.handled = none := I.ok.hd hc
    have hel : e < s.heap.objs.size := Heap.lt_size he
    have hil : it < s.heap.objs.size := by obtain ⟨_, q, _⟩ := hit; exact Heap.lt_size q
    refine wpAny_pyNext_enum_itemD (Draws.tuple hh it a nai its.toArray) he ⟨hit, p⟩ (by simpa using (List.getElem?_eq_some_iff.mp hu).1) hne (by simp [hne, nae.symm]) fun w1 h' tk g1 ho k1 hT hsz hk => ?_
    have g1' : its[i]? = some w1 := by simpa using g1
    rw [hu] at g1'; cases g1'
    refine ⟨_, rfl, wpAny_letOwnedTupleGo_enum (s := { s with heap := h', toks := tk + 1 }) ho fun h'' he' sb => ?_⟩
    have hT2 : h''.get? s.heap.objs.size = some { cls := .type "tuple", data := .seq #[.int i tk, u] } := (sb.2 _ (Nat.ne_of_gt hel)).trans hT
    have new : ObjOk X.prog X.w (upd H s.heap.objs.size (.tup [.int (i : Nat), x])) h'' s.heap.objs.size (.tup [.int (i : Nat), x]) :=
      ⟨by show 2 ≤ sizeLine; decide, [.int i tk, u], .cons ⟨_, rfl⟩ (.cons ru .nil), ⟨_, hT2, rfl, _, rfl⟩⟩
    have I1 : Inv X pins σ (upd H s.heap.objs.size (.tup [.int (i : Nat), x])) { s with heap := h'', toks := tk + 1 } :=
      I.turnedNew (ch := [e, it]) (fun b ob hb q => (sb.2 b (fun z => hb (by simp [z]))).trans (hk b ob (fun z => hb (by simp [z])) (fun z => hb (by simp [z])) q)) hf (Nat.le_refl _) new
    refine ⟨.ref s.heap.objs.size, _, I1, rfl, ⟨_, x, rfl, I.hok.fresh (Nat.le_refl _), rfl, fun ys hy => by rw [I.tuple_inj hy hq]; exact hx⟩, ⟨⟨u, ?_⟩, k1.1.at fun o q => (sb.2 it (Ne.symm hne)).trans q⟩, fun b hb => ?_⟩
    · have e1 : ((i + 1 : Nat) : Int) = (i : Int) + 1 := by omega
      rw [e1]; exact he'
    · have hb' : b < s.heap.objs.size := by
        have e' : b = e ∨ b = it := by simpa using hb
        rcases e' with z | z
        · rw [z]; exact hel
        · rw [z]; exact hil
      rw [upd_ne (Nat.ne_of_lt hb')]
      exact (hf b hb).1
  done := by
    intro X hP hw hK hc i pins s σ H E I hf st hg
    subst hP hw hK
    obtain ⟨⟨old, he⟩, hit⟩ := st
    obtain ⟨xs, hq, hx⟩ := hg
    obtain ⟨its, rv, p, hz⟩ := I.tuple hq
    have hh : X.A.in1.handled = none := I.ok.hd hc
    obtain ⟨f0, f1, f2, f3, f4, f5⟩ := hf it (by simp)
    have hl := rv.length
    have m1 : i = its.toArray.size := by simp; omega
    subst m1
    exact wpAny_pyNext_enum_endD (Draws.tuple hh it a nai its.toArray) he ⟨hit, p⟩ fun h' eb => ⟨rfl, I.turned (t' := s.toks) (fun b o hb q => eb b o hb q) f0 f1 f3 f4 f5⟩
  self := fun A i s Q E st h => let ⟨⟨_, he⟩, _⟩ := st; wpAny_pyIter_enum he h
def iEnumA (K : Fg) (ta : TA) : TI := fun σ H RR => ta σ H fun vs H1 => ∃ a xs, vs = [.ref a] ∧ ((SqL K H1 a xs ∧ RR (Ite K a) H1) ∨ (SqT K H1 a xs ∧ RR (IteT K a) H1))
theorem pi_enumA (K : Fg) {X : Cx} {e : Expr} {ta : TA} {p pos tpos : Pos} {elts : List Expr} {kk : Nat} (hg : Gl X "enumerate") (hm : X.mg "enumerate" = none) (ha : PA X [e] ta) (hK : X.K = K := by rfl) (hs : starEach [e] X.env = [(false, eval e X.env)] := by rfl) :
    PI X (.Tuple elts kk tpos) (.Call (.Name "enumerate" p) [e] [] pos) (iEnumA K ta) := by
  subst hK
  refine ⟨fun pins s σ H R I h => ?_⟩
  refine Call_ (ld_blt I hg hm boot_enumerate (PyProof.Rows.callWith_type1 (thn (ha.run pos pins s σ H _ I h) fun us s1 ⟨vs, H1, I1, r1, q1⟩ => ?_) hs rfl))
  obtain ⟨a, xs, ex, q⟩ := q1
  subst ex
  cases r1 with
  | cons r rr =>
    cases rr
    cases r
    have fp : ∀ b ∈ [s1.heap.objs.size + 1, s1.heap.objs.size], s1.heap.objs.size ≤ b := fun b hb => by
      have e' : b = s1.heap.objs.size + 1 ∨ b = s1.heap.objs.size := by simpa using hb
      rcases e' with z | z
      · rw [z]; exact Nat.le_add_right _ _
      · rw [z]; exact Nat.le_refl _
    rcases q with ⟨hq, q⟩ | ⟨hq, q⟩
    · obtain ⟨its, rv, p', hz⟩ := I1.list hq
      refine call_enumerate_list p'.isList fun h' he hit hsz hk => wpAny_pyIter_enum he ?_
      have I2 : Inv X pins σ H1 { s1 with heap := h' } := I1.kept (t' := s1.toks) hk
      refine ⟨s1.heap.objs.size + 1, [s1.heap.objs.size + 1, s1.heap.objs.size], _, _, H1, rfl, I2, turn_enum a (s1.heap.objs.size + 1) s1.heap.objs.size, ⟨⟨.none, he⟩, hit, Nat.succ_ne_self _⟩, fun b hb => I1.fpOk (fp b hb) (I1.hok.fresh (fp b hb)), q⟩
    · obtain ⟨its, rv, p', hz⟩ := I1.tuple hq
      have la : a < s1.heap.objs.size := by obtain ⟨o1, ho1, _⟩ := id p'; exact Heap.lt_size ho1
      refine call_enum_one (begins_tuple a its.toArray) p' fun h' he hit hsz hk => wpAny_pyIter_enum he ?_
      have I2 : Inv X pins σ H1 { s1 with heap := h' } := I1.kept (t' := s1.toks) hk
      refine ⟨s1.heap.objs.size + 1, [s1.heap.objs.size + 1, s1.heap.objs.size], _, _, H1, rfl, I2, turn_enumT (Nat.ne_of_lt (Nat.lt_succ_of_lt la)) (Nat.ne_of_lt la) (Nat.succ_ne_self _), ⟨⟨.none, he⟩, ⟨_, hit, rfl, rfl⟩⟩, fun b hb => I1.fpOk (fp b hb) (I1.hok.fresh (fp b hb)), q⟩
end Lw

set_option Elab.async false
set_option linter.all false
set_option maxRecDepth 100000
set_option maxHeartbeats 4000000
namespace Lw
open PySem PySem.Spec PyProof.Rows L2
variable [Tabl] [Exn]
section
variable {K : Fg} {ρ : List SD}
/-! ### enumerate -/
omit [Exn] in
theorem dw_enumT {B : Hp} {a : Addr} {vs : List V} {ds : List D} (h : SqT K B a vs) (r : RA K B vs ds) : DW K B (IteT K a) (enumD ds) where
  go := fun i H hi s => by
    rw [enumD, zipD_len] at hi
    have hv : i < vs.length := by rw [r.length]; omega
    exact ⟨vs, vs[i], same_t s h, List.getElem?_eq_getElem hv⟩
  stop := fun H s => ⟨vs, same_t s h, by
    rw [enumD, zipD_len, r.length]
    unfold rangeD
    rw [List.length_map, List.length_range]
    omega⟩
  yld := fun i H x H' d e y Bc s1 s2 => by
    obtain ⟨T, z, rfl, hT, rfl, hz⟩ := y
    obtain ⟨q1, q2, e1, e2, rfl⟩ := zipD_get e
    obtain ⟨v', f1, r1⟩ := r.get e2
    have f2 := hz vs (same_t (s1.trans s2) h)
    rw [f1] at f2
    cases f2
    have e3 : q1 = .int (i : Nat) := by
      unfold rangeD at e1
      rw [List.getElem?_map] at e1
      cases q : (List.range ((ds.length : Int) - 0).toNat)[i]? with
      | none => rw [q] at e1; cases e1
      | some n =>
        rw [q] at e1
        obtain ⟨hn, en⟩ := List.getElem?_eq_some_iff.mp q
        rw [List.getElem_range] at en
        subst en
        have : q1 = D.int (0 + ((i : Nat) : Int)) := (Option.some.inj e1).symm
        rw [this, Int.zero_add]
    subst e3
    exact new_pair s2 hT (.int _) (r1.mono s1)
theorem wi_enumA {te : TE} {F : List D → List SD → Prop} (h : WE K te ρ fun x ρ1 => ∃ xs, x.items = some xs ∧ F (enumD xs) ρ1) : WI K (iEnumA K (tCons te tNil)) ρ F :=
  fun P B0 H0 B H σ S RR k => h P B0 H0 B H σ S _ fun v x ρ1 B1 H1 ⟨xs, e, f⟩ S1 s1 r1 => by
    obtain ⟨p, vs, rfl, hs, ra⟩ := r1.seq e
    refine ⟨p, vs, rfl, ?_⟩
    rcases hs with hs | hs
    · exact .inl ⟨same_l S1.le hs, k _ _ ρ1 B1 H1 f S1 s1 (dw_enum hs ra)⟩
    · exact .inr ⟨same_t S1.le hs, k _ _ ρ1 B1 H1 f S1 s1 (dw_enumT hs ra)⟩
/-! ### sum, max of ints -/
omit [Exn] in
theorem cr_sumK {X : Cx} (hc : X.calm = true) (hK : X.K = K := by rfl) : CallR X (.builtin "sum") (rSum K) := by subst hK; exact cr_sum hc
omit [Exn] in
theorem cr_maxK {X : Cx} (hc : X.calm = true) (hK : X.K = K := by rfl) : CallR X (.builtin "max") (rMax K) := by subst hK; exact cr_max hc
theorem we_sum {te : TE} {F : D → List SD → Prop} (h : WE K te ρ fun x ρ1 => ∃ ns : List Int, x = .lst (ns.map D.int) ∧ F (.int ns.sum) ρ1) : WE K (tCB (rSum K) (tCons te tNil)) ρ F :=
  fun P B0 H0 B H σ S Q k => h P B0 H0 B H σ S _ fun v x ρ1 B1 H1 ⟨ns, e, f⟩ S1 s1 r1 => by
    subst e
    cases r1 with
    | lst a1 ra =>
      have ev := ra.ints
      subst ev
      exact ⟨_, ns, rfl, SqL.of (S1.le _ _ a1), k _ _ ρ1 B1 H1 f S1 s1 (.int _)⟩
theorem we_max {te : TE} {F : D → List SD → Prop} (h : WE K te ρ fun x ρ1 => ∃ ns : List Int, x = .lst (ns.map D.int) ∧ 0 < ns.length ∧ ∀ m, m ∈ ns → (∀ n ∈ ns, n ≤ m) → F (.int m) ρ1) : WE K (tCB (rMax K) (tCons te tNil)) ρ F :=
  fun P B0 H0 B H σ S Q k => h P B0 H0 B H σ S _ fun v x ρ1 B1 H1 ⟨ns, e, hl, f⟩ S1 s1 r1 => by
    subst e
    cases r1 with
    | lst a1 ra =>
      have ev := ra.ints
      subst ev
      exact ⟨_, ns, rfl, SqL.of (S1.le _ _ a1), hl, fun m hm hx => k _ _ ρ1 B1 H1 (f m hm hx) S1 s1 (.int _)⟩
/-! ### what looks into the list that grows while the pot is drawn from, and hands out a flat datum -/
theorem we_peekP {te : TE} {i : Nat} {xs : List D} {F : D → List SD → Prop} (h1 : ρ[i]? = some (.ow xs))
    (h : WE K te (ρ.set i (.d (.lst xs))) fun d ρ' => d.flat = true ∧ ρ'.length = ρ.length ∧ (∀ j s, ρ'[j]? = some s → j = i ∨ (∃ m, s = .pot m) ∨ (s.mu = false ∧ ρ[j]? = some s)) ∧ F d (ρ'.set i (.ow xs))) : WE K te ρ F :=
  fun P B0 H0 B H σ S Q k => by
    obtain ⟨o, e0, p, vs, rfl, h0, hb, hh, ra⟩ := S.slot h1
    obtain ⟨B', S', sB, fB⟩ := S.still h1
    have hi : i < ρ.length := (List.getElem?_eq_some_iff.mp h1).1
    have hp : B' p = some (.lst vs) := by
      obtain ⟨o, e1, v, rfl, r⟩ := S'.slot (i := i) (s := .d (.lst xs)) (List.getElem?_set_self hi)
      rw [e0] at e1
      cases e1
      cases r with
      | lst h5 _ =>
        have := S'.le _ _ h5
        rw [hh] at this
        cases this
        exact h5
    have eB : B' = upd B p (.lst vs) := by
      funext c
      by_cases z : c = p
      · subst z; rw [upd_same]; exact hp
      · rw [upd_ne z]
        cases q : B' c with
        | none => exact (same_none sB q).symm
        | some u =>
          rcases fB c u q with y | y
          · exact y.symm
          · rw [e0] at y; cases y; exact absurd rfl z
    subst eB
    refine h P B0 H0 _ H σ S' Q fun v d ρ' B2 H2 ⟨f1, fl, f2, f3⟩ S2 s2 r => ?_
    have hB2 : B2 p = some (.lst vs) := s2.gr.bb _ _ upd_same
    have hH2 : H2 p = some (.lst vs) := S2.le _ _ hB2
    have b3 : ∀ b, b ≠ p → L2.del B2 p b = B2 b := fun b n => del_ne n
    have bp : L2.del B2 p p = none := del_same
    have sB3 : Same B (L2.del B2 p) := fun b o e => by
      have n : b ≠ p := ne_of_none e hb
      rw [b3 b n]
      exact s2.gr.bb b o (by rw [upd_ne n]; exact e)
    have le3 : Same (L2.del B2 p) H2 := fun b o e => by
      by_cases z : b = p
      · subst z; rw [bp] at e; cases e
      · rw [b3 b z] at e; exact S2.le b o e
    have sub3 : ∀ b o, L2.del B2 p b = some o → B2 b = some o := fun b o e => by
      by_cases z : b = p
      · subst z; rw [bp] at e; cases e
      · rw [b3 b z] at e; exact e
    have pt : ¬ Tb p := S.ok.not hh (fun ps y => by cases y)
    have ok3 : TbOk (L2.del B2 p) H2 := ⟨S2.ok.1, fun b t => by
      rw [b3 b (fun z => pt (z ▸ t))]
      exact S2.ok.2 b t⟩
    have hi' : i < ρ'.length := by rw [fl]; exact hi
    have S3 : ST K P B0 H0 (ρ'.set i (.ow xs)) (L2.del B2 p) H2 σ := by
      refine ⟨by rw [List.length_set, S2.len], ⟨S2.gr.hh, S.gr.bb.trans sB3, le3, fun b o e => S2.gr.fr b o (sub3 b o e), S2.gr.pt, S2.gr.tp, fun _ => ok3⟩, fun j s e => ?_, fun j l s t e1 e2 m1 m2 e3 => ?_, ok3, S.ex⟩
      · by_cases n : i = j
        · subst n
          obtain ⟨e2, _⟩ := set_same_of e
          subst e2
          rw [e0]
          exact ⟨p, vs, rfl, h0, bp, hH2, ra.mono sB3⟩
        · rw [get_set_ne n] at e
          rcases f2 j s e with z | ⟨m, rfl⟩ | ⟨z1, z2⟩
          · exact absurd z.symm n
          · obtain ⟨a, q1, q2, q3, q4⟩ := S2.sl j _ e
            refine ⟨a, q1, q2, ?_, q4⟩
            by_cases z : a = p
            · rw [z]; exact bp
            · rw [b3 a z]; exact q3
          · have y := S.sl j s z2
            cases s with
            | un => trivial
            | d x => obtain ⟨u, q1, q2⟩ := y; exact ⟨u, q1, q2.mono sB3⟩
            | fn φ q => exact (S2.sl j _ e)
            | ow xs => cases z1
            | pl xs => cases z1
            | pot n => cases z1
            | ins C dx fs => cases z1
            | odT xs => cases z1
            | odK xs => cases z1
      · have old : ∀ {j : Nat} {s : SD}, i ≠ j → (ρ'.set i (.ow xs))[j]? = some s → s.mu = true → σ[j]? ≠ σ[i]? := fun {j s} n e m z => by
          rw [get_set_ne n] at e
          obtain ⟨o, e4, y⟩ := S2.slot e
          obtain ⟨b, e5, _, e7, _⟩ := y.at_ m
          rw [e4, e0] at z
          cases z
          cases e5
          rw [hB2] at e7; cases e7
        by_cases n1 : i = j
        · by_cases n2 : i = l
          · rw [← n1, ← n2]
          · exact absurd (n1 ▸ e3.symm) (old n2 e2 m2)
        · by_cases n2 : i = l
          · exact absurd (n2 ▸ e3) (old n1 e1 m1)
          · rw [get_set_ne n1] at e1
            rw [get_set_ne n2] at e2
            exact S2.dis j l s t e1 e2 m1 m2 e3
    have mus : ∀ b, Mus (ρ.set i (.d (.lst xs))) σ b → Mus ρ σ b := fun b q => q.imp (fun ⟨j, s, e1, m, e2⟩ => by
      have n : i ≠ j := fun z => by
        subst z
        obtain ⟨y, _⟩ := set_same_of e1
        rw [y] at m; cases m
      rw [get_set_ne n] at e1
      exact ⟨j, s, e1, m, e2⟩) id
    have g0 := s2.gr.weak mus
    refine k v d _ _ H2 f3 S3 ⟨⟨g0.hh, sB3, le3, fun b o e => ?_, g0.pt, g0.tp, fun _ => ok3⟩, fun j s e m => ?_⟩ (rflat' r f1)
    · rcases g0.fr b o (sub3 b o e) with z | z | z
      · by_cases n : b = p
        · subst n; rw [bp] at e; cases e
        · rw [upd_ne n] at z; exact .inl z
      · exact .inr (.inl z)
      · exact .inr (.inr z)
    · by_cases n : i = j
      · subst n
        exact ⟨_, h1, rfl⟩
      · rw [get_set_ne n] at e
        obtain ⟨s', q1, q2⟩ := s2.sh j s e m
        rw [get_set_ne n] at q1
        exact ⟨s', q1, q2⟩
/-! ### defs that draw, and hand out a new list -/
def potNSp (K : Fg) (n c : Nat) (S : List D → (List D → Prop) → Prop) : Sp := fun vs H Q _ =>
  ∃ a ws B ds F m, vs = .ref a :: ws ∧ Same B H ∧ TbOk B H ∧ B a = none ∧ PotAt H a m ∧ m + c ≤ LIM ∧ RA K B ws ds ∧ ds.length = n ∧ S ds F ∧
    ∀ p us xs B' H', F xs → Gr (One a) B H B' H' → B' a = none → PotAt H' a (m + c) → H' p = none → RA K B' us xs → Q (.ref p) (upd H' p (.lst us))
theorem wn_callP {n c i : Nat} {S : List D → (List D → Prop) → Prop} {t : TA} {F : List D → List SD → Prop} {m0 : Nat} (h0 : ρ[i]? = some (.pot m0))
    (h : WA K t ρ fun ds ρ1 => ∃ m, ρ1[i]? = some (.pot m) ∧ m + c ≤ LIM ∧ ds.length = n ∧ S ds fun xs => F xs (ρ1.set i (.pot (m + c)))) : WN K (tCall (potNSp K n c S) [] E0 (tCons (tVar i) t)) ρ F :=
  fun P B0 H0 B H σ Z Q k => by
    obtain ⟨o, e0, a, rfl, pa, ea, ep⟩ := Z.slot h0
    refine ⟨.ref a, e0, ?_⟩
    refine h _ B0 H0 B H σ Z _ fun vs ds ρ1 B1 H1 ⟨m, h1, hm, l, f⟩ S1 s1 r1 => ?_
    obtain ⟨o1, e1, a1, q1, q2, q3, q4⟩ := S1.slot h1
    rw [e0] at e1
    cases e1
    cases q1
    refine ⟨a, vs, B1, ds, _, m, by rw [List.append_nil], S1.le, S1.ok, q3, q4, hm, r1, l, f, fun p us xs B2 H2 g q hb hp hn r => ?_⟩
    exact k p us xs _ B2 H2 g (S1.called h1 rfl rfl e0 q hb ⟨a, rfl, q2, hb, hp⟩) (s1.trans (Ev.called h1 rfl e0 q)) hn r
/-- the end of a def that draws, and hands out a new list -/
def WSq (K : Fg) (a : Addr) (t : TS) (ρ : List SD) (F : List D → List SD → Prop) : Prop :=
  ∀ B0 H0 B H σ, ST K (One a) B0 H0 ρ B H σ → ∀ D : Ends, (∀ p us xs ρ' B' H' σ', F xs ρ' → ST K (One a) B0 H0 ρ' B' H' σ' → H' p = none → RA K B' us xs → D.rt (.ref p) (upd H' p (.lst us))) → t D σ H
theorem wsq_seq {a : Addr} {t u : TS} {F : List D → List SD → Prop} (h : WS K t ρ { nx := fun ρ1 => WSq K a u ρ1 F, rt := fun _ _ => False }) : WSq K a (tSeq t u) ρ F :=
  fun B0 H0 B H σ S D k => h _ B0 H0 B H σ S { D with nx := u D } (fun ρ1 B1 H1 σ1 h1 S1 _ => h1 B0 H0 B1 H1 σ1 S1 D k) (fun _ _ _ _ _ _ z => z.elim) (fun _ _ _ _ z => z.elim) (fun _ _ _ _ z => z.elim)
theorem wsq_ret {a : Addr} {te : TE} {F : List D → List SD → Prop} (h : WN K te ρ F) : WSq K a (tRet te) ρ F :=
  fun B0 H0 B H σ S D k => h _ B0 H0 B H σ S _ fun p us xs ρ' B' H' f S' _ hp r => k p us xs ρ' B' H' σ f S' hp r
theorem wsq_own {a : Addr} {i m : Nat} {xs : List D} {F : List D → List SD → Prop} (hp : ρ[0]? = some (.pot m)) (hi0 : i ≠ 0) (h1 : ρ[i]? = some (.ow xs)) (q : F xs (ρ.set i .un)) : WSq K a (tRet (tVar i)) ρ F :=
  fun B0 H0 B H σ S D k => by
    obtain ⟨o, e0, p, vs, rfl, h0, hb, hh, ra⟩ := S.slot h1
    obtain ⟨o2, e2, a', rfl, g0, gb, gp⟩ := S.slot hp
    have ea : a' = a := g0.resolve_right (by
      obtain ⟨x, y, u, q, _⟩ := id gp
      exact S.ok.not q (fun ps y => by cases y))
    subst ea
    have npa : p ≠ a' := fun z => by
      subst z
      exact hi0 (S.dis i 0 _ _ h1 hp rfl rfl (by rw [e0, e2]))
    have np : H0 p = none := h0.resolve_right fun z => z.elim npa (S.ok.not hh (fun ps y => by cases y))
    have S1 : ST K (One a') B0 H0 (ρ.set i .un) B H σ := S.forget (by rw [List.length_set, S.len]) fun j s e => by
      by_cases n : i = j
      · subst n; exact .inl (set_same_of e).1
      · rw [get_set_ne n] at e; exact .inr ⟨e, rfl⟩
    have nm : ¬ Mus (ρ.set i .un) σ p := fun q => q.elim (fun ⟨j, s, e1, m, e2⟩ => by
      by_cases n : i = j
      · subst n
        obtain ⟨y, _⟩ := set_same_of e1
        rw [y] at m; cases m
      · rw [get_set_ne n] at e1
        exact n (S.dis i j _ s h1 e1 rfl m (by rw [e0, e2]))) (S.ok.not hh (fun ps y => by cases y))
    have S2 := S1.del np hb hh nm
    have eH : upd (L2.del H p) p (.lst vs) = H := by
      funext b
      by_cases z : b = p
      · subst z; rw [upd_same, hh]
      · rw [upd_ne z, del_ne z]
    have fin := k p vs xs _ B (L2.del H p) σ q S2 del_same ra
    rw [eH] at fin
    exact ⟨_, e0, fin⟩
end
section
variable {P : Program} {w : World} {K : Fg} {mg : Str → Option Value} {base : Heap}
omit [Exn] in
theorem fn_potN {name qual : Str} {params : Arguments} {body : List Stmt} {scope : Scope} {f : Addr} {fd : FuncData} {N ps : List Str} {k n c : Nat} {S : List D → (List D → Prop) → Prop}
    (F : FunD K name qual params body scope [] [] f fd) (sc : FnScope N ps scope) (hn : n + 1 = ps.length) (hN : n + 1 ≤ N.length)
    (hb : ∀ (cdv : Value) (A : Around) (outer : List Env) (s : Shared) (H : Hp) (E : XK), Room k (A.deeper (envOfC qual scope s.heap.objs.size f cdv)) →
      ∃ t, PSs (cxOf CX0 P w K mg base N qual scope f cdv A outer s H E).nox body t ∧ ∀ m ds G, m + c ≤ LIM → ds.length = n → S ds G → ∀ [Exn], ∀ a, WSq K a t (rhoP N m ds) fun xs ρ' => G xs ∧ ∃ m', ρ'[0]? = some (.pot m') ∧ m' ≤ m + c) :
    FnOk P w K mg base CX0 (k + 1) f fd ps (potNSp K n c S) := by
  refine F.ok sc (fun vs H Q E h => ?_) (fun cdv A outer s H vs Q E hr h => ?_)
  · obtain ⟨a, ws, B, ds, G, m, rfl, h1, _, h2, h3, h4, h5, h6, _⟩ := h
    rw [List.length_cons, h5.length, h6, hn]
  · obtain ⟨t, hp, hw⟩ := hb cdv A outer s H E hr
    refine ⟨t, hp.nox, ?_⟩
    obtain ⟨a, ws, B, ds, G, m, rfl, h1, tk, h2, h3, h4, h5, h6, h7, h8⟩ := h
    letI := exn0
    refine hw m ds G h4 h6 h7 a B H B H (start N (.ref a :: ws)) (st_startP exOk0 h1 tk h2 h3 h5 (by rw [h6]; exact hN)) _ fun p us xs ρ' B' H' σ' f S' hpn r => ?_
    obtain ⟨g, m', e, hm⟩ := f
    obtain ⟨o, _, a', _, e3, e4, e5⟩ := S'.slot e
    have ea : a' = a := e3.resolve_right (by
      obtain ⟨x, y, u, q, _⟩ := id e5
      exact S'.ok.not q (fun ps y => by cases y))
    subst ea
    exact h8 p us xs B' H' g S'.gr e4 (e5.mono hm) hpn r
end
end Lw

set_option Elab.async false
set_option linter.all false
set_option maxRecDepth 100000
set_option maxHeartbeats 4000000
set_option autoImplicit false
namespace Lw
open PySem PySem.Spec PyProof.Rows L2
/-! ### dicts of one's own -/
def putG {κ : Type} [DecidableEq κ] (kvs : List (κ × D)) (k : κ) (d : D) : List (κ × D) := if (kvs.any fun kv => decide (kv.1 = k)) = true then kvs.map (fun kv => if kv.1 = k then (kv.1, d) else kv) else kvs ++ [(k, d)]
theorem RV.any {κ : Type} [DecidableEq κ] {K : Fg} {B : Hp} {vs : List (κ × V)} {ds : List (κ × D)} (h : RV K B vs ds) (k : κ) : (vs.any fun kv => decide (kv.1 = k)) = (ds.any fun kv => decide (kv.1 = k)) := by
  have e1 : (vs.any fun kv => decide (kv.1 = k)) = ((vs.map Prod.fst).any fun x => decide (x = k)) := by rw [List.any_map]; rfl
  have e2 : (ds.any fun kv => decide (kv.1 = k)) = ((ds.map Prod.fst).any fun x => decide (x = k)) := by rw [List.any_map]; rfl
  rw [e1, e2, h.1]
theorem RV.repl {κ : Type} [DecidableEq κ] {K : Fg} {B : Hp} {k : κ} {v : V} {d : D} (r : R K B v d) : ∀ {vs : List (κ × V)} {ds : List (κ × D)}, RV K B vs ds → RV K B (vs.map fun kv => if kv.1 = k then (kv.1, v) else kv) (ds.map fun kv => if kv.1 = k then (kv.1, d) else kv)
  | [], [], _ => ⟨rfl, .nil⟩
  | [], d :: ds, h => by have := h.1; simp at this
  | v :: vs, [], h => by have := h.1; simp at this
  | (k1, v1) :: vs, (k2, d1) :: ds, h => by
    obtain ⟨h1, h2⟩ := h
    rw [List.map_cons, List.map_cons, List.cons.injEq] at h1
    obtain ⟨e, h1⟩ := h1
    dsimp only at e
    subst e
    cases h2 with
    | cons r1 h2 =>
      obtain ⟨q1, q2⟩ := RV.repl (k := k) r ⟨h1, h2⟩
      rw [List.map_cons, List.map_cons]
      by_cases z : k1 = k
      · rw [if_pos z, if_pos z]
        exact ⟨by rw [List.map_cons, List.map_cons, q1], by rw [List.map_cons, List.map_cons]; exact .cons r q2⟩
      · rw [if_neg z, if_neg z]
        exact ⟨by rw [List.map_cons, List.map_cons, q1], by rw [List.map_cons, List.map_cons]; exact .cons r1 q2⟩
theorem RV.put {κ : Type} [DecidableEq κ] {K : Fg} {B : Hp} {k : κ} {v : V} {d : D} (r : R K B v d) {vs : List (κ × V)} {ds : List (κ × D)} (h : RV K B vs ds) : RV K B (putK vs k v) (putG ds k d) := by
  unfold putK putG
  rw [h.any k]
  split
  · exact h.repl r
  · exact ⟨by rw [List.map_append, List.map_append, h.1]; rfl, by rw [List.map_append, List.map_append]; exact h.2.append (.cons r .nil)⟩
theorem RV.len {κ : Type} {K : Fg} {B : Hp} {vs : List (κ × V)} {ds : List (κ × D)} (h : RV K B vs ds) : vs.length = ds.length := by
  have := congrArg List.length h.1
  rwa [List.length_map, List.length_map] at this
variable [Tabl] [Exn]
section
variable {K : Fg} {ρ : List SD} {P : Addr → Prop} {B0 H0 B H : Hp} {σ : L2.St}
/-- a new thing that may change: the slot i is its only holder -/
theorem ST.ownG (S : ST K P B0 H0 ρ B H σ) {p : Addr} {i : Nat} {o : HO} {s' : SD} (h : H p = none) (h0 : H0 p = none) (hs : Sl K P H0 B (upd H p o) (some (.ref p)) s') : ST K P B0 H0 (ρ.set i s') B (upd H p o) (σ.set i (some (.ref p))) where
  len := by rw [List.length_set, List.length_set, S.len]
  gr := S.gr.mut (S.bfree h) (.inr h0) fun u e => by rw [h] at e; cases e
  sl := fun j s q => by
    by_cases e : i = j
    · subst e
      obtain ⟨e2, hi⟩ := set_same_of q
      subst e2
      rw [List.getElem?_set_self (by rw [S.len]; exact hi)]
      exact hs
    · rw [get_set_ne e] at q
      rw [get_set_ne e]
      refine (S.sl j s q).step (Same.refl _) (fun b ψ hb => by rw [upd_ne (ne_of_none hb h)]; exact hb) fun b u m eb hb hh _ => ⟨?_, hb⟩
      rw [upd_ne (ne_of_none hh h)]
      exact hh
  dis := fun j k s t h1 h2 m1 m2 h3 => by
    have old : ∀ {l : Nat} {u : SD}, i ≠ l → (ρ.set i s')[l]? = some u → u.mu = true → σ[l]? ≠ some (some (.ref p)) := fun {l u} n e m z => by
      rw [get_set_ne n] at e
      obtain ⟨w, e1, y⟩ := S.slot e
      obtain ⟨b, e2, _, _, e5⟩ := y.at_ m
      rw [e1] at z
      rw [e2] at z
      cases z
      exact e5 h
    have here : ∀ {l : Nat} {u : SD}, (ρ.set i s')[l]? = some u → i = l → (σ.set i (some (.ref p)))[l]? = some (some (.ref p)) := fun {l u} e q => by
      subst q
      obtain ⟨_, hi⟩ := set_same_of e
      exact List.getElem?_set_self (by rw [S.len]; exact hi)
    by_cases n1 : i = j
    · by_cases n2 : i = k
      · rw [← n1, ← n2]
      · rw [here h1 n1, get_set_ne n2] at h3
        exact absurd h3.symm (old n2 h2 m2)
    · by_cases n2 : i = k
      · rw [here h2 n2, get_set_ne n1] at h3
        exact absurd h3 (old n1 h1 m1)
      · rw [get_set_ne n1] at h1 h3
        rw [get_set_ne n2] at h2 h3
        exact S.dis j k s t h1 h2 m1 m2 h3
  ok := S.ok.upd fun u e => by rw [h] at e; cases e
  ex := S.ex
theorem ws_parDT {i j : Nat} {te : TE} {E : Out} (hij : i ≠ j) (h : WE K te ρ fun x ρ1 => E.nx ((ρ1.set i (.d x)).set j (.odT []))) : WS K (tPar i j (tCons te (tCons tDNewT tNil))) ρ E :=
  fun P B0 H0 B H σ S D k1 k2 k3 k4 => h P B0 H0 B H σ S _ fun v x ρ1 B1 H1 f S1 s1 r1 => by
    intro p hp
    refine ⟨_, _, rfl, k1 _ B1 _ _ f ?_ s1.bb⟩
    have S2 := S1.put (i := i) r1
    exact S2.ownG (s' := .odT []) hp (S1.h0 hp) ⟨p, [], rfl, .inl (S1.h0 hp), S1.bfree hp, upd_same, rfl, .nil⟩
/-- d[k] = x, d one's own, k a tuple of ints and texts -/
theorem ws_setDT {i : Nat} {te tk : TE} {kvs0 : List (List Key × D)} {E : Out} (h0 : ρ[i]? = some (.odT kvs0))
    (h : WE K te ρ fun x ρ1 => WE K tk ρ1 fun y ρ2 => ∃ kvs ks, ρ2[i]? = some (.odT kvs) ∧ y = .ptp (ks.map kD) ∧ kvs.length < sizeLine ∧ E.nx (ρ2.set i (.odT (putG kvs ks x)))) : WS K (tAsg te (gSub (tVar i) tk rSetD)) ρ E :=
  fun P B0 H0 B H σ S D k1 k2 k3 k4 => h P B0 H0 B H σ S _ fun v x ρ1 B1 H1 h1 S1 s1 r1 => by
    obtain ⟨o0, e0, p0, vs0, rfl, _⟩ := S.slot h0
    refine ⟨.ref p0, e0, h1 P B0 H0 B1 H1 σ S1 _ fun u y ρ2 B2 H2 ⟨kvs, ks, h2, e2, hl, q⟩ S2 s2 r2 => ?_⟩
    subst e2
    obtain ⟨o, e3, a, vs, q1, q2, q3, q4, q5⟩ := S2.slot h2
    rw [e0] at e3; cases e3; cases q1
    cases r2 with
    | @ptp ak _ _ a1 ra =>
      rw [ra.keys] at a1

      refine ⟨p0, _, rfl, DPut.t q4 (S2.le _ _ a1) (by rw [q5.len]; exact hl), ?_⟩
      have S3 := S2.chg (o := .dT (putK vs ks v)) (s' := .odT (putG kvs ks x)) h2 rfl rfl e0 ⟨p0, _, rfl, q2, q3, upd_same, q5.put (r1.mono s2.bb)⟩
      exact k1 _ B2 _ _ q S3 (s1.bb.trans s2.bb)
omit [Tabl] [Exn] in
theorem keys_ra {K : Fg} {B : Hp} : ∀ ks : List Key, RA K B (ks.map kV) (ks.map kD)
  | [] => .nil
  | .inl i :: ks => .cons (.int i) (keys_ra ks)
  | .inr s :: ks => .cons (.str s) (keys_ra ks)
omit [Tabl] [Exn] in
theorem isKeys_ra {K : Fg} {B H : Hp} {kvs : List (List Key × V)} {bs : List Addr} (h : IsKeys H kvs bs) (hb : ∀ b ∈ bs, ∀ o, H b = some o → B b = some o) : RA K B (bs.map V.ref) (kvs.map fun kv => .tup (kv.1.map kD)) := by
  unfold IsKeys at h
  induction h with
  | nil => exact .nil
  | cons h t ih =>
    exact .cons (.tup (.inl (.inl (hb _ List.mem_cons_self _ h))) (keys_ra _)) (ih fun b m => hb b (List.mem_cons_of_mem _ m))
omit [Tabl] [Exn] in
theorem isKeys_tup {H : Hp} {kvs : List (List Key × V)} {bs : List Addr} (h : IsKeys H kvs bs) : ∀ b ∈ bs, ∃ ys, H b = some (.tup ys) := by
  unfold IsKeys at h
  induction h with
  | nil => exact fun b m => nomatch m
  | cons h t ih =>
    intro b m
    rcases List.mem_cons.mp m with rfl | m
    · exact ⟨_, h⟩
    · exact ih b m
omit [Exn] in
open Classical in
theorem tell_keys (le : Same B H) (ok : TbOk B H) {kvs : List (List Key × V)} {bs : List Addr} (h : IsKeys H kvs bs) : ∃ B' : Hp, Gr Non B H B' H ∧ RA K B' (bs.map V.ref) (kvs.map fun kv => .tup (kv.1.map kD)) := by
  have t := isKeys_tup h
  have le' : Same (fun b => if b ∈ bs then H b else B b) H := fun b o e => by
    dsimp only at e
    split at e
    · exact e
    · exact le b o e
  refine ⟨fun b => if b ∈ bs then H b else B b, ⟨fun _ _ _ e => e, fun b o e => ?_, le', fun b o e => ?_, fun _ _ e => e, fun _ z => z, fun z => ⟨z.1, fun b tb => ?_⟩⟩, isKeys_ra h fun b m o e => ?_⟩
  · try dsimp only
    split
    · exact le b o e
    · exact e
  · try dsimp only at e
    split at e
    · rename_i m; exact .inr (.inl (.inr (t b m)))
    · exact .inl e
  · try dsimp only
    split
    · rename_i m
      obtain ⟨ys, e⟩ := t b m
      exact absurd tb (z.not e (fun ps y => by cases y))
    · exact z.2 b tb
  · try dsimp only
    rw [if_pos m]; exact e
/-- list(d), d one's own with tuples as keys -/
theorem we_listDT {i : Nat} {kvs : List (List Key × D)} {F : D → List SD → Prop} (h1 : ρ[i]? = some (.odT kvs)) (q : F (.lst (kvs.map fun kv => .tup (kv.1.map kD))) ρ) :
    WE K (tCB (fun xs H Q => ∃ d kvs, xs = [V.ref d] ∧ Rd H d (.dT kvs) ∧ ∀ p bs, H p = none → IsKeys H kvs bs → Q (.ref p) (upd H p (.lst (bs.map V.ref)))) (tCons (tVar i) tNil)) ρ F :=
  fun P B0 H0 B H σ S Q k => by
    obtain ⟨o, e0, a, vs, rfl, q2, q3, q4, q5⟩ := S.slot h1
    refine ⟨.ref a, e0, a, vs, rfl, .inl q4, fun p bs hp hk => ?_⟩
    obtain ⟨B', g, ra⟩ := tell_keys (K := K) S.le S.ok hk
    have S1 := S.step g
    have e : (vs.map fun kv => D.tup (kv.1.map kD)) = kvs.map fun kv => D.tup (kv.1.map kD) := by
      have z := congrArg (List.map fun ks : List Key => D.tup (ks.map kD)) q5.1
      rw [List.map_map, List.map_map] at z
      exact z
    rw [e] at ra
    exact k _ _ ρ _ _ q (S1.new _ hp) ((Ev.pure g).trans (Ev.new S1.le hp)) (.lst upd_same (ra.mono (same_new (S1.bfree hp))))
/-- tuple(a list), as a key may be -/
theorem we_tupleP {te : TE} {F : D → List SD → Prop} (h : WE K te ρ fun x ρ1 => ∃ xs, (x = .lst xs ∨ x = .frl xs) ∧ F (.ptp xs) ρ1) : WE K (tCB (fun xs H Q => ∃ p ys, xs = [V.ref p] ∧ ((SqL K H p ys ∧ ∀ l, H l = none → Q (.ref l) (upd H l (.tup ys))) ∨ (SqT K H p ys ∧ Q (.ref p) H))) (tCons te tNil)) ρ F :=
  fun P B0 H0 B H σ S Q k => h P B0 H0 B H σ S _ fun v x ρ1 B1 H1 ⟨xs, e, f⟩ S1 s1 r1 => by
    have z : ∃ p vs, v = .ref p ∧ SqL K B1 p vs ∧ RA K B1 vs xs := by
      rcases e with rfl | rfl
      · cases r1 with
        | lst a1 ra => exact ⟨_, _, rfl, SqL.of a1, ra⟩
      · cases r1 with
        | frl a1 ra => exact ⟨_, _, rfl, a1, ra⟩
    obtain ⟨p, vs, rfl, hs, ra⟩ := z
    refine ⟨p, vs, rfl, .inl ⟨same_l S1.le hs, fun l hl => ?_⟩⟩
    exact k _ (.ptp xs) ρ1 _ _ f (S1.new _ hl) (s1.trans (Ev.new S1.le hl)) (.ptp upd_same (ra.mono (same_new (S1.bfree hl))))
theorem we_thawP {te : TE} {F : D → List SD → Prop} (h : WE K te ρ fun x ρ1 => ∃ xs, x = .ptp xs ∧ F (.tup xs) ρ1) : WE K te ρ F :=
  fun P B0 H0 B H σ S Q k => h P B0 H0 B H σ S _ fun v x ρ1 B1 H1 ⟨xs, e, f⟩ S1 s1 r1 => by
    subst e
    cases r1 with
    | ptp a1 ra => exact k _ _ ρ1 B1 H1 f S1 s1 (.tup (.inl (.inl a1)) ra)
/-- a, b = x, {} as a tuple that is taken apart -/
theorem ws_tupDT {i j : Nat} {te : TE} {E : Out} (h : WE K te ρ fun x ρ1 => E.nx ((ρ1.set i (.d x)).set j (.odT []))) : WS K (tAsg (tTup (tCons te (tCons tDNewT tNil))) (gSeq K 2 (gCons (gName i) (gCons (gName j) gNil)))) ρ E :=
  fun P B0 H0 B H σ S D k1 k2 k3 k4 => h P B0 H0 B H σ S _ fun v x ρ1 B1 H1 f S1 s1 r1 => by
    intro p hp
    refine ⟨(by decide : 2 ≤ sizeLine), fun T hT => ?_⟩
    refine .inl ⟨T, [v, .ref p], rfl, .inl (.inl upd_same), rfl, v, [.ref p], rfl, .ref p, [], rfl, rfl, ?_⟩
    have S2 := S1.put (i := i) r1
    have S3 := S2.ownG (i := j) (o := .dT []) (s' := .odT []) hp (S1.h0 hp) ⟨p, [], rfl, .inl (S1.h0 hp), S1.bfree hp, upd_same, rfl, .nil⟩
    have hT1 : H1 T = none := by
      cases q : H1 T with
      | none => rfl
      | some u => rw [upd_ne (ne_of_none q hp)] at hT; rw [hT] at q; cases q
    have hT0 : H0 T = none := S1.h0 hT1
    refine k1 _ B1 _ _ f (S3.side (o := .tup [v, .ref p]) (S1.bfree hT1) hT0 (fun l s e m => S3.mu_at e m hT) (fun u e => by rw [hT] at e; cases e)) s1.bb
end
end Lw

set_option Elab.async false
set_option linter.all false
set_option maxRecDepth 100000
set_option maxHeartbeats 4000000
set_option autoImplicit false
namespace Lw
open PySem PySem.Spec PyProof.Rows L2
/-! ### lambdas, by a look -/
def lamS1B (x : Str) (sc scope : Scope) : Bool :=
  decide (scope.kind = .function) && (!scope.isCoroutine && (!scope.isGenerator && (decide (scope.names.lookup x = some .local) &&
  (scope.names.all (fun y => (!decide (y.2 = .local) || decide (y.1 = x)) && !decide (y.2 = .cell)) &&
   scope.names.all (fun y => !decide (y.2 = .free) || (decide (sc.names.lookup y.1 = some .cell) || decide (sc.names.lookup y.1 = some .free)))))))
theorem lamS1_by {x : Str} {sc scope : Scope} (h : lamS1B x sc scope = true) : Lk.LamS1 x sc scope := by
  unfold lamS1B at h
  simp only [Bool.and_eq_true, Bool.or_eq_true, Bool.not_eq_true', decide_eq_true_eq, decide_eq_false_iff_not, List.all_eq_true] at h
  obtain ⟨h1, h2, h3, h4, h5, h6⟩ := h
  refine ⟨h1, h2, h3, h4, fun y hy => ⟨fun e => ((h5 y hy).1).resolve_left (fun z => z e), (h5 y hy).2⟩, fun y hy e => (h6 y hy).resolve_left (fun z => z e)⟩
/-- sorted(e, key=lambda x: body) -/
theorem pe_sortLam {X : Cx} {T : List NdefX.NTab} {nm : Nat → Nat → Str} {c P0 : Addr} {k i : Nat} {x : Str} {params : Arguments} {body : Expr} {scope : Scope} {lpos kpos p pos : Pos} {e : Expr} {te : TA} {tb : TE}
    (L : Lk.LamS1 x X.env.scope scope) (hN : X.N.Nodup) (hi : X.N[i]? = some x)
    (hbind : ∀ (q : Str) (cl : List (Str × Addr)) (pm cv ctv u : Value), bindArgs (PySem.W.kla_fn "<lambda>" q params body scope cl pm cv ctv) ⟨[u], []⟩ = pure [(x, u)])
    (hbody : ∀ (A : Around) (s : Shared) (H : Hp) (f c' : Addr), Room k (A.deeper (Lk.lamE1 X scope s.heap.objs.size f c')) → PE (Lk.lamC1 X A X.stack s H scope f c') body tb)
    (hr : Room (k + 1 + 2) X.A) (hu : X.A.units + 65 < cLine) (hm : X.mg "sorted" = none) (ha : PA X [e] te)
    (TB : LamX.TabB X.base X.mg c P0) (hcode : X.env.code = .ref c) (hm2 : (P0, nm) ∈ T) (hn : nm lpos.line lpos.col = X.env.qual ++ "<lambda>") (hu2 : ∀ p ∈ T, p.1 = P0 → p.2 = nm) (hdef : defaultsOf params X.env = ([], []))
    (hg : Gl X "sorted" := by rfl)
    (he : backTo pos (starEach [e] X.env) = (false, eval e X.env) :: backTo pos (starEach [] X.env) := by rfl) (hpl : (backTo pos (starEach [e] X.env)).any (·.1) = false := by rfl)
    (hall : (backToKw pos (keywordEach [⟨some "key", .Lambda params body scope lpos, kpos⟩] X.env)).all (·.1.isSome) = true := by rfl) (hnone : (backToKw pos (keywordEach [⟨some "key", .Lambda params body scope lpos, kpos⟩] X.env)).any (·.1.isNone) = false := by rfl)
    (hks : (backToKw pos (keywordEach [⟨some "key", .Lambda params body scope lpos, kpos⟩] X.env)).filterMap (·.1) = [Str.ofString "key"] := by rfl) :
    PE X (.Call (.Name "sorted" p) [e] [⟨some "key", .Lambda params body scope lpos, kpos⟩] pos)
      (Lk.tSortK X.K (fun H f => ∃ c', H f = some (Lk.LamO f ⟨X.env.qual ++ "<lambda>", params, body, scope, cloFrom X.env.cells scope.names []⟩ c') ∧ H c' = some (LamX.CodeO c' (X.env.qual ++ "<lambda>"))) false (fun σ v H Q => tb (σ.set i (some v)) H Q) te
        (tCons (Lk.tLamE T P0 (fun f c' => Lk.LamO f ⟨X.env.qual ++ "<lambda>", params, body, scope, cloFrom X.env.cells scope.names []⟩ c') (X.env.qual ++ "<lambda>")) tNil)) :=
  Lk.pe_sortK (fun σ => Lk.kc_lam L hN hi hbind hbody) hr hu hm ha (pk_cons (Lk.pe_lam TB hcode hm2 hn hu2 hdef L.free) pk_nil) hg he hpl hall hnone hks
end Lw

set_option Elab.async false
set_option linter.all false
set_option maxRecDepth 100000
set_option maxHeartbeats 4000000
set_option autoImplicit false
namespace Lw
open PySem PySem.Spec PyProof.Rows L2
/-! ### zip(a tuple, a list) -/
def ItzM (K : Fg) (a b : Addr) : It :=
  ⟨fun i H => ∃ (xs ys : List V) (x y : V), SqT K H a xs ∧ SqL K H b ys ∧ xs[i]? = some x ∧ ys[i]? = some y,
    fun i H v H' => ∃ T x y, v = .ref T ∧ H T = none ∧ H' = upd H T (.tup [x, y]) ∧ (∀ xs, SqT K H a xs → xs[i]? = some x) ∧ ∀ ys, SqL K H b ys → ys[i]? = some y,
    fun i H => ∃ xs ys : List V, SqT K H a xs ∧ SqL K H b ys ∧ xs.length = i ∧ ys.length = i⟩
structure ApM (z TI TO i1 i2 a b : Addr) : Prop where
  nd : [z, TI, TO, i1, i2].Nodup
  na : a ∉ [z, TI, TO, i1, i2]
  nb : b ∉ [z, TI, TO, i1, i2]
theorem ApM.sep {z TI TO i1 i2 a b : Addr} (D : ApM z TI TO i1 i2 a b) : ZipSep2 z TI TO i1 i2 [i1, a] [i2, b] := by
  obtain ⟨nd, na, nb⟩ := D
  simp only [List.nodup_cons, List.mem_cons, List.not_mem_nil, or_false, not_or, List.nodup_nil, and_true, not_false_eq_true] at nd na nb
  obtain ⟨⟨a1, a2, a3, a4⟩, ⟨b1, b2, b3⟩, ⟨c1, c2⟩, d1⟩ := nd
  obtain ⟨p1, p2, p3, p4, p5⟩ := na
  obtain ⟨q1, q2, q3, q4, q5⟩ := nb
  constructor <;> first | exact Ne.symm ‹_› | assumption | (simp; done) | (simp only [List.mem_cons, List.not_mem_nil, or_false, not_or]; constructor <;> first | assumption | exact Ne.symm ‹_›)
theorem turn_zipM {P : Program} {w : World} {K : Fg} {elts : List Expr} {kk : Nat} {tpos : Pos} {a b z TI TO i1 i2 : Addr} (D : ApM z TI TO i1 i2 a b) :
    Turn P w K (.Tuple elts kk tpos) (ItzM K a b) [z, TI, TO, i1, i2] z (fun i h => IsZip h z TI TO .none ∧ IsTupOf2 h TI (.ref i1) (.ref i2) ∧ (∃ x y, IsTupOf2 h TO x y) ∧ h.IsTupleIter i1 a i ∧ h.IsListIter i2 b i) where
  mem := by simp
  obj := fun i h st d hd => by
    obtain ⟨hz, hTI, ⟨x, y, hTO⟩, ⟨o1, e1, _, d1⟩, ⟨o2, e2, _, d2⟩⟩ := st
    simp only [List.mem_cons, List.not_mem_nil, or_false] at hd
    rcases hd with rfl | rfl | rfl | rfl | rfl
    · exact ⟨_, hz, fun v q => nomatch q⟩
    · exact ⟨_, hTI, fun v q => nomatch q⟩
    · exact ⟨_, hTO, fun v q => nomatch q⟩
    · exact ⟨o1, e1, fun v q => by rw [d1] at q; cases q⟩
    · exact ⟨o2, e2, fun v q => by rw [d2] at q; cases q⟩
  keep := fun i h h' st k => by
    obtain ⟨hz, hTI, ⟨x, y, hTO⟩, h1, h2⟩ := st
    exact ⟨k z (by simp) _ hz, k TI (by simp) _ hTI, ⟨x, y, k TO (by simp) _ hTO⟩, h1.at fun o q => k i1 (by simp) o q, h2.at fun o q => k i2 (by simp) o q⟩
  item := by
    intro X hP hw hK hc i pins s σ H E I hf st hg
    subst hP hw hK
    obtain ⟨hz, hTI, ⟨x0, y0, hTO⟩, h1, h2⟩ := st
    obtain ⟨xs, ys, x, y, hqx, hqy, hx, hy⟩ := hg
    obtain ⟨its, rv, p, _⟩ := I.tuple hqx
    obtain ⟨its2, rv2, p2, _⟩ := I.list hqy
    have hh : X.A.in1.handled = none := I.ok.hd hc
    have S := D.sep
    have n1 : a ≠ i1 := fun e => D.na (by simp [e])
    have n2 : b ≠ i2 := fun e => D.nb (by simp [e])
    obtain ⟨v1, f1, r1⟩ := rv.get hx
    obtain ⟨v2, f2, r2⟩ := rv2.get hy
    have hzl : z < s.heap.objs.size := Heap.lt_size hz
    refine wpAny_pyNext_zipD2_item S (Draws.tuple hh i1 a n1 its.toArray) (Draws.list hh i2 b n2 its2.toArray) hz hTI hTO ⟨h1, p⟩ ⟨h2, p2.isList⟩
      (by simpa using (List.getElem?_eq_some_iff.mp f1).1) (by simpa using (List.getElem?_eq_some_iff.mp f2).1) fun w1 w2 h' tk g1 g2 z' TO' k1 k2 hT hsz hk => ?_
    have g1' : its[i]? = some w1 := by simpa using g1
    have g2' : its2[i]? = some w2 := by simpa using g2
    rw [f1] at g1'; cases g1'
    rw [f2] at g2'; cases g2'
    refine ⟨_, rfl, wpAny_letOwnedTupleGo_zip (s := { s with heap := h', toks := tk }) z' fun h'' z'' sb => ?_⟩
    have hT2 : h''.get? s.heap.objs.size = some { cls := .type "tuple", data := .seq #[v1, v2] } := (sb.2 _ (Nat.ne_of_gt hzl)).trans hT
    have new : ObjOk X.prog X.w (upd H s.heap.objs.size (.tup [x, y])) h'' s.heap.objs.size (.tup [x, y]) :=
      ⟨by show 2 ≤ sizeLine; decide, [v1, v2], .cons r1 (.cons r2 .nil), ⟨_, hT2, rfl, _, rfl⟩⟩
    have I1 : Inv X pins σ (upd H s.heap.objs.size (.tup [x, y])) { s with heap := h'', toks := tk } :=
      I.turnedNew (t' := tk) (ch := [z, TI, TO, i1, i2]) (fun d o hb q => (sb.2 d (fun q' => hb (by simp [q']))).trans (hk d o (fun q' => hb (by simp [q'])) (fun q' => hb (by simp [q'])) (fun q' => hb (by simp [q'])) (fun q' => hb (by simp [q'])) q)) hf (Nat.le_refl _) new
    refine ⟨.ref s.heap.objs.size, _, I1, rfl, ⟨_, x, y, rfl, I.hok.fresh (Nat.le_refl _), rfl, fun l hl => by rw [I.tuple_inj hl hqx]; exact hx, fun l hl => by rw [I.list_inj hl hqy]; exact hy⟩, ⟨z'', ?_, ⟨v1, v2, ?_⟩, ?_, ?_⟩, fun d hcm => ?_⟩
    · exact (sb.2 _ S.TIz).trans (hk _ _ S.TIz S.TITO S.TIi1 S.TIi2 hTI)
    · exact (sb.2 _ S.TOz).trans TO'
    · exact k1.1.at fun o q => (sb.2 _ (fun e => S.zf1 (by simp [e]))).trans q
    · exact k2.1.at fun o q => (sb.2 _ (fun e => S.zf2 (by simp [e]))).trans q
    · have hlt : d < s.heap.objs.size := by
        simp only [List.mem_cons, List.not_mem_nil, or_false] at hcm
        rcases hcm with rfl | rfl | rfl | rfl | rfl
        · exact hzl
        · exact Heap.lt_size hTI
        · exact Heap.lt_size hTO
        · obtain ⟨_, e1, _⟩ := h1; exact Heap.lt_size e1
        · obtain ⟨_, e2, _⟩ := h2; exact Heap.lt_size e2
      rw [upd_ne (Nat.ne_of_lt hlt)]
      exact (hf d hcm).1
  done := by
    intro X hP hw hK hc i pins s σ H E I hf st hg
    subst hP hw hK
    obtain ⟨hz, hTI, ⟨x0, y0, hTO⟩, h1, h2⟩ := st
    obtain ⟨xs, ys, hqx, hqy, lx, ly⟩ := hg
    obtain ⟨its, rv, p, _⟩ := I.tuple hqx
    obtain ⟨its2, rv2, p2, _⟩ := I.list hqy
    have l1 := rv.length
    have l2 := rv2.length
    have hh : X.A.in1.handled = none := I.ok.hd hc
    have n1 : a ≠ i1 := fun e => D.na (by simp [e])
    have n2 : b ≠ i2 := fun e => D.nb (by simp [e])
    have m1 : i = its.toArray.size := by simp; omega
    have m2 : i = its2.toArray.size := by simp; omega
    exact wpAny_pyNext_zipD2_end D.sep (Draws.tuple hh i1 a n1 its.toArray) (Draws.list hh i2 b n2 its2.toArray) hz hTI hTO ⟨h1, p⟩ ⟨h2, p2.isList⟩ (Nat.le_of_eq m1) (Nat.le_of_eq m2) (.inl m1) fun h' tk hk =>
      ⟨rfl, I.turnedL (t' := tk) (ch := [z, TI, TO, i1, i2]) (fun d o hb q => hk d o (fun q' => hb (by simp [q'])) (fun q' => hb (by simp [q'])) (fun q' => hb (by simp [q'])) (fun q' => hb (by simp [q'])) q) hf⟩
  self := fun A i s Q E st h => wpAny_pyIter_zip st.1 h
def iZipM (K : Fg) (ta : TA) : TI := fun σ H RR => ta σ H fun vs H1 => ∃ a b xs ys, vs = [.ref a, .ref b] ∧ SqT K H1 a xs ∧ SqL K H1 b ys ∧ RR (ItzM K a b) H1
theorem pi_zipM (K : Fg) {X : Cx} {e e2 : Expr} {ta : TA} {p pos tpos : Pos} {elts : List Expr} {kk : Nat} (hg : Gl X "zip") (hm : X.mg "zip" = none) (ha : PA X [e, e2] ta) (hK : X.K = K := by rfl)
    (hs : starEach [e, e2] X.env = (false, eval e X.env) :: starEach [e2] X.env := by rfl) (hpl : (backTo pos (starEach [e2] X.env)).any (·.1) = false := by rfl) :
    PI X (.Tuple elts kk tpos) (.Call (.Name "zip" p) [e, e2] [] pos) (iZipM K ta) := by
  subst hK
  refine ⟨fun pins s σ H RR I h => ?_⟩
  refine Call_ (ld_blt I hg hm boot_zip (PyProof.Rows.callWith_type1 (thn (ha.run pos pins s σ H _ I h) fun us s1 ⟨vs, H1, I1, r1, q1⟩ => ?_) hs hpl))
  obtain ⟨a, b, xs, ys, ex, qa, qb, q⟩ := q1
  subst ex
  cases r1 with
  | cons ra rr =>
    cases rr with
    | cons rb rr =>
      cases rr
      cases ra
      cases rb
      obtain ⟨its, rv, p1, _⟩ := I1.tuple qa
      obtain ⟨its2, rv2, p2, _⟩ := I1.list qb
      have la : a < s1.heap.objs.size := by obtain ⟨o1, ho1, _⟩ := id p1; exact Heap.lt_size ho1
      have lb : b < s1.heap.objs.size := by obtain ⟨o1, ho1, _⟩ := id p2.isList; exact Heap.lt_size ho1
      refine zip_begins2 (begins_tuple a its.toArray) (begins_list b its2.toArray) p1 p2.isList fun h' z1 z2 z3 k1 k2 z4 hk => wpAny_pyIter_zip z1 ?_
      have I2 : Inv X pins σ H1 { s1 with heap := h' } := I1.kept (t' := s1.toks) hk
      have D : ApM (s1.heap.objs.size + 4) (s1.heap.objs.size + 2) (s1.heap.objs.size + 3) s1.heap.objs.size (s1.heap.objs.size + 1) a b := by
        have aux : ∀ n a b : Nat, a < n → b < n → ApM (n + 4) (n + 2) (n + 3) n (n + 1) a b := fun n a b la lb => by
          have h1 : ([n + 4, n + 2, n + 3, n, n + 1] : List Nat).Nodup := by
            simp only [List.nodup_cons, List.mem_cons, List.not_mem_nil, or_false, not_or, List.nodup_nil, and_true, not_false_eq_true]
            omega
          have h2 : ∀ m : Nat, m < n → m ∉ ([n + 4, n + 2, n + 3, n, n + 1] : List Nat) := fun m hm => by
            simp only [List.mem_cons, List.not_mem_nil, or_false, not_or]
            omega
          exact ⟨h1, h2 a la, h2 b lb⟩
        exact aux _ _ _ la lb
      refine ⟨s1.heap.objs.size + 4, [s1.heap.objs.size + 4, s1.heap.objs.size + 2, s1.heap.objs.size + 3, s1.heap.objs.size, s1.heap.objs.size + 1], _, _, H1, rfl, I2, turn_zipM D, ⟨z1, z2, ⟨_, _, z3⟩, ⟨_, k1, rfl, rfl⟩, ⟨_, k2, rfl, rfl⟩⟩, fun d hcm => ?_, q⟩
      have hle : s1.heap.objs.size ≤ d := by
        have aux : ∀ n d : Nat, d ∈ [n + 4, n + 2, n + 3, n, n + 1] → n ≤ d := fun n d hd => by
          simp only [List.mem_cons, List.not_mem_nil, or_false] at hd
          omega
        exact aux _ _ hcm
      exact I1.fpOk hle (I1.hok.fresh hle)
variable [Tabl] [Exn]
theorem dw_zipM {K : Fg} {B : Hp} {a b : Addr} {vs us : List V} {ds es : List D} (h : SqT K B a vs) (r : RA K B vs ds) (h' : SqL K B b us) (r' : RA K B us es) (l1 : ds.length = es.length) : DW K B (ItzM K a b) (zipD ds es) where
  go := fun i H hi s => by
    rw [zipD_len] at hi
    have hv : i < vs.length := by rw [r.length]; omega
    have hu : i < us.length := by rw [r'.length]; omega
    exact ⟨vs, us, vs[i], us[i], same_t s h, same_l s h', List.getElem?_eq_getElem hv, List.getElem?_eq_getElem hu⟩
  stop := fun H s => ⟨vs, us, same_t s h, same_l s h', by rw [zipD_len, r.length]; omega, by rw [zipD_len, r'.length]; omega⟩
  yld := fun i H x H' d e y Bc s1 s2 => by
    obtain ⟨T, z, u, rfl, hT, rfl, hz, hu⟩ := y
    obtain ⟨q1, q2, e1, e2, rfl⟩ := zipD_get e
    obtain ⟨v1, f1, r1⟩ := r.get e1
    obtain ⟨v2, f2, r2⟩ := r'.get e2
    have g1 := hz vs (same_t (s1.trans s2) h)
    have g2 := hu us (same_l (s1.trans s2) h')
    rw [f1] at g1; cases g1
    rw [f2] at g2; cases g2
    exact new_pair s2 hT (r1.mono s1) (r2.mono s1)
theorem wi_zipM {K : Fg} {ρ : List SD} {te tf : TE} {F : List D → List SD → Prop} (h : WE K te ρ fun x ρ1 => WE K tf ρ1 fun y ρ2 => ∃ xs ys, x = .tup xs ∧ y = .lst ys ∧ xs.length = ys.length ∧ F (zipD xs ys) ρ2) : WI K (iZipM K (tCons te (tCons tf tNil))) ρ F :=
  fun P B0 H0 B H σ S RR k => h P B0 H0 B H σ S _ fun v x ρ1 B1 H1 h1 S1 s1 r1 => h1 P B0 H0 B1 H1 σ S1 _ fun u y ρ2 B2 H2 ⟨xs, ys, e1, e2, hl, f⟩ S2 s2 r2 => by
    subst e1 e2
    cases r1 with
    | tup a1 ra =>
      cases r2 with
      | lst a2 rb =>
        refine ⟨_, _, _, _, rfl, same_t (s2.bb.trans S2.le) a1, SqL.of (S2.le _ _ a2), k _ _ ρ2 B2 H2 f S2 (s1.trans s2) (dw_zipM (same_t s2.bb a1) (ra.mono s2.bb) (SqL.of a2) rb hl)⟩
end Lw

set_option Elab.async false
set_option linter.all false
set_option maxRecDepth 100000
set_option maxHeartbeats 4000000
set_option autoImplicit false
namespace Lw
open PySem PySem.Spec PyProof.Rows L2
variable [Tabl] [Exn]
omit [Exn] in
theorem ra_app {K : Fg} {B : Hp} : ∀ {vs : List V} {xs : List D} {us : List V} {ys : List D}, RA K B vs xs → RA K B us ys → RA K B (vs ++ us) (xs ++ ys)
  | _, _, _, _, .nil, h => h
  | _, _, _, _, .cons r t, h => .cons r (ra_app t h)
omit [Tabl] [Exn] in
theorem rep_flat {α : Type} : ∀ (n : Nat) (x : α), (List.replicate n [x]).flatten = List.replicate n x
  | 0, _ => rfl
  | n + 1, x => by rw [List.replicate_succ, List.flatten_cons, rep_flat n x]; rfl
omit [Exn] in
theorem ra_rep {K : Fg} {B : Hp} {v : V} {d : D} : ∀ n : Nat, R K B v d → RA K B (List.replicate n v) (List.replicate n d)
  | 0, _ => .nil
  | n + 1, r => .cons r (ra_rep n r)
/-- *e in a display: the items of a tuple or a list -/
theorem wa_star {K : Fg} {te : TE} {ta : TA} {ρ : List SD} {F : List D → List SD → Prop} (h : WE K te ρ fun x ρ1 => ∃ zs, (x = .tup zs ∨ x = .lst zs) ∧ WA K ta ρ1 fun xs ρ2 => F (zs ++ xs) ρ2) : WA K (StX.tStar K te ta) ρ F :=
  fun P B0 H0 B H σ S Q k => h P B0 H0 B H σ S _ fun v x ρ1 B1 H1 ⟨zs, ex, h1⟩ S1 s1 r1 => by
    have e : x.items = some zs := by rcases ex with rfl | rfl <;> rfl
    obtain ⟨p, ys, rfl, hs, ra⟩ := r1.seq e
    refine ⟨p, ys, rfl, hs.elim (fun q => .inr (same_l S1.le q)) (fun q => .inl (same_t S1.le q)), ?_⟩
    exact h1 P B0 H0 B1 H1 σ S1 _ fun vs xs ρ2 B2 H2 h2 S2 s2 r2 => k _ _ ρ2 B2 H2 h2 S2 (s1.trans s2) (ra_app (ra.mono s2.bb) r2)
omit [Tabl] [Exn] in
theorem pa_starK (K : Fg) {X : Cx} {e : Expr} {es : List Expr} {te : TE} {t : TA} {p : Pos} (he : PE X e te) (hr : PA X es t) (hs : starEach (.Starred e p :: es) X.env = (true, eval e X.env) :: starEach es X.env := by rfl) (hK : X.K = K := by rfl) : PA X (.Starred e p :: es) (StX.tStar K te t) := by
  subst hK
  exact StX.pa_star he hr hs
omit [Tabl] [Exn] in
theorem pe_bmK (K : Fg) {X : Cx} {T : String} {name : Str} {id : String} {r : V → List V → Hp → VK → Prop} {o e : Expr} {es : List Expr} {to : TE} {t : TA} {apos cpos : Pos} (pa : PlainAttrs T) (slot : Slot T name id) (hty : typeOf (.builtin id) = pure (.type "method_descriptor")) (hm : MtR X id r) (ho : PE X o to) (ha : PA X (e :: es) t)
    (hbase : attributeBase o name X.env (eval o X.env) = eval o X.env := by rfl)
    (hfew : ((backTo cpos (starEach (e :: es) X.env)).all (fun x => !x.1) && (backToKw cpos (keywordEach [] X.env)).all (fun x => x.1.isSome)
      && decide ((e :: es).length + ([] : List Keyword).length + (if ([] : List Keyword).isEmpty then 0 else 1) < 30)) = true := by rfl)
    (hline : (apos.endLine == cpos.line) = true := by rfl) (hs : starEach (e :: es) X.env = (false, eval e X.env) :: starEach es X.env := by rfl) (hplain : (backTo cpos (starEach es X.env)).any (·.1) = false := by rfl) (hK : X.K = K := by rfl) :
    PE X (.Call (.Attribute o name apos) (e :: es) [] cpos) (tBM K T r to t) := by
  subst hK
  exact pe_bm pa slot hty hm ho ha hbase hfew hline hs hplain
/-- [x] * n -/
theorem wn_rep {K : Fg} {ρ : List SD} {tl tn : TE} {F : List D → List SD → Prop} (h : WE K tl ρ fun x ρ1 => ∃ d, x = .lst [d] ∧ WE K tn ρ1 fun y ρ2 => ∃ n : Nat, y = .int n ∧ n ≤ 100000 ∧ F (List.replicate n d) ρ2) : WN K (tOp rRep tl tn) ρ F :=
  fun P B0 H0 B H σ S Q k => h P B0 H0 B H σ S _ fun v x ρ1 B1 H1 ⟨d, e, h1⟩ S1 s1 r1 => by
    subst e
    cases r1 with
    | lst a1 ra =>
      cases ra with
      | cons rd rn =>
        cases rn
        refine h1 P B0 H0 B1 H1 σ S1 _ fun u y ρ2 B2 H2 ⟨n, e2, hn, f⟩ S2 s2 r2 => ?_
        subst e2
        rw [rint r2]
        refine ⟨_, _, _, rfl, rfl, S2.le _ _ (s2.bb _ _ a1), by omega, by omega, ?_, fun p hp => ?_⟩
        · rw [Int.toNat_natCast]
          exact Nat.le_trans (Nat.le_trans (by simp) hn) (by decide)
        · rw [Int.toNat_natCast, rep_flat]
          exact k p _ _ ρ2 B2 H2 f S2 (s1.trans s2) hp (ra_rep n (rd.mono s2.bb))
/-! ### min of a tuple of ints -/
omit [Tabl] [Exn] in
theorem reads_ints {h : Heap} : ∀ {us : List Value} {ns : List Int}, IntsAre us ns → PySem.ReadsAll h us (ns.map PyData.int) []
  | _, _, .nil => .nil
  | _, _, .cons n t r => PySem.ReadsAll.cons (PySem.Reads.int n t) (reads_ints r)
def rMinT (K : Fg) : List V → Hp → VK → Prop := fun vs H Q => ∃ (a : Addr) (n : Int) (ns : List Int), vs = [V.ref a] ∧ SqT K H a ((n :: ns).map V.int) ∧ Q (.int (ns.foldl min n)) H
omit [Tabl] [Exn] in
theorem depth_is : ∀ ns : List Int, PyData.depthAll (ns.map PyData.int) = 0
  | [] => rfl
  | n :: ns => by rw [List.map_cons, PyData.depthAll, depth_is ns]; rfl
omit [Tabl] [Exn] in
theorem cr_minT {K : Fg} {X : Cx} (hu : X.A.units + 64 < cLine) (hc : X.calm = true) (hK : X.K = K := by rfl) : CallR X (.builtin "min") (rMinT K) := by
  subst hK
  intro pins s σ H vs us Q I r h
  obtain ⟨a, n, ns, rfl, hs, q⟩ := h
  obtain ⟨its, rv, hl, _⟩ := I.tuple hs
  rw [Vals.ref1 r]
  have ra : PySem.ReadsAll s.heap its.toArray.toList (PyData.int n :: ns.map PyData.int) [] := by
    have e : its.toArray.toList = its := by simp
    rw [e]
    exact reads_ints (h := s.heap) rv.ints
  have al : PySem.W.AlikeAll (PyData.int n :: ns.map PyData.int) := by
    have ei : ∀ x ∈ PyData.int n :: ns.map PyData.int, ∃ i, x = PyData.int i := fun x hx => by
      rcases List.mem_cons.mp hx with rfl | hx
      · exact ⟨_, rfl⟩
      · obtain ⟨i, _, rfl⟩ := List.mem_map.mp hx
        exact ⟨_, rfl⟩
    refine ⟨fun x hx y hy => ?_, fun x hx => ?_⟩
    · obtain ⟨i, rfl⟩ := ei x hx
      obtain ⟨j, rfl⟩ := ei y hy
      rfl
    · obtain ⟨i, rfl⟩ := ei x hx
      exact fun z => nomatch z
  refine PySem.W.min_tuple_data (I.ok.hd hc) hl ra al ?_ fun i v h' tk bs hv rd hk => ?_
  · have := depth_is (n :: ns)
    rw [List.map_cons] at this
    rw [this]
    omega
  · rw [PySem.W.minD_ints] at rd
    cases rd with
    | int i t => exact ⟨.int _, H, I.kept hk, ⟨_, rfl⟩, q⟩
theorem we_minT {K : Fg} {ρ : List SD} {te : TE} {F : D → List SD → Prop} (h : WE K te ρ fun x ρ1 => ∃ i j : Int, x = .tup [.int i, .int j] ∧ F (.int (min i j)) ρ1) : WE K (tCB (rMinT K) (tCons te tNil)) ρ F :=
  fun P B0 H0 B H σ S Q k => h P B0 H0 B H σ S _ fun v x ρ1 B1 H1 ⟨i, j, e, f⟩ S1 s1 r1 => by
    subst e
    cases r1 with
    | tup a1 ra =>
      have ev := RA.ints (ns := [i, j]) ra
      subst ev
      exact ⟨_, i, [j], rfl, same_t S1.le a1, k _ _ ρ1 B1 H1 f S1 s1 (.int _)⟩
end Lw

set_option Elab.async false
set_option linter.all false
set_option maxRecDepth 100000
/-! Melchior: of the lines through points that are not all on one, those of two points are more, by three at least, than what the longer ones have beyond three -/
namespace Mel
abbrev Pt := Int × Int
def cr (u v : Pt) : Int := u.1 * v.2 - u.2 * v.1
def df (p q : Pt) : Pt := (p.1 - q.1, p.2 - q.2)
def bd (a b c : Pt) : Int := cr (df b a) (df c a)
theorem cr_anti (u v : Pt) : cr v u = - cr u v := by unfold cr; grind
theorem cr_self (u : Pt) : cr u u = 0 := by unfold cr; grind
theorem pluck (u v w z : Pt) : cr u v * cr w z = cr u w * cr v z + cr u z * cr w v := by unfold cr; grind
theorem cr_df (u p q r : Pt) : cr u (df p q) = cr u (df p r) - cr u (df q r) := by unfold cr df; grind
theorem cr_dn (u p q : Pt) : cr u (df p q) = - cr u (df q p) := by unfold cr df; grind
theorem pos_of_mul {x y : Int} (hx : 0 < x) (h : 0 ≤ x * y) : 0 ≤ y := by
  rcases Int.lt_or_le y 0 with z | z
  · have := Int.mul_lt_mul_of_pos_left z hx
    omega
  · exact z
theorem pos_of_mul' {x y : Int} (hx : 0 < x) (h : 0 < x * y) : 0 < y := by
  rcases Int.lt_or_le 0 y with z | z
  · exact z
  · have := Int.mul_le_mul_of_nonneg_left z (Int.le_of_lt hx)
    omega
/-- of directions to one side there is a first one -/
theorem first_dir (u : Pt) : ∀ V : List Pt, V ≠ [] → (∀ v ∈ V, 0 < cr u v) → ∃ v0 ∈ V, ∀ v ∈ V, 0 ≤ cr v0 v
  | [], h, _ => absurd rfl h
  | [v], _, _ => ⟨v, .head _, fun z hz => by rw [List.mem_singleton.mp hz, cr_self]; exact Int.le_refl 0⟩
  | w :: v :: V, _, h => by
    obtain ⟨v0, m0, h0⟩ := first_dir u (v :: V) (by simp) fun z hz => h z (.tail _ hz)
    by_cases c : 0 ≤ cr v0 w
    · exact ⟨v0, .tail _ m0, fun z hz => by
        cases hz with
        | head => exact c
        | tail _ hz => exact h0 z hz⟩
    · refine ⟨w, .head _, fun z hz => ?_⟩
      cases hz with
      | head => rw [cr_self]; exact Int.le_refl 0
      | tail _ hz =>
        have p := pluck u v0 w z
        have a1 := h v0 (.tail _ m0)
        have a2 := h w (.head _)
        have a3 := h z (.tail _ hz)
        have a4 := h0 z hz
        have a5 : 0 < cr w v0 := by rw [cr_anti]; omega
        refine pos_of_mul a1 ?_
        rw [p]
        have b1 := Int.mul_nonneg (Int.le_of_lt a2) a4
        have b2 := Int.mul_nonneg (Int.le_of_lt a3) (Int.le_of_lt a5)
        omega
/-! ### points in a row -/
def lt (p q : Pt) : Prop := p.1 < q.1 ∨ (p.1 = q.1 ∧ p.2 < q.2)
instance (p q : Pt) : Decidable (lt p q) := inferInstanceAs (Decidable (_ ∨ _))
theorem lt_irr {p : Pt} (h : lt p p) : False := by unfold lt at h; omega
theorem lt_trans {p q r : Pt} (h : lt p q) (k : lt q r) : lt p r := by unfold lt at *; omega
theorem lt_tri {p q : Pt} (h : p ≠ q) (k : ¬ lt p q) : lt q p := by
  unfold lt at *
  rcases Int.lt_trichotomy p.1 q.1 with z | z | z
  · omega
  · rcases Int.lt_trichotomy p.2 q.2 with y | y | y
    · omega
    · exact absurd (Prod.ext z y) h
    · omega
  · omega
theorem min_of : ∀ l : List Pt, l ≠ [] → ∃ m ∈ l, ∀ p ∈ l, p = m ∨ lt m p
  | [], h => absurd rfl h
  | [p], _ => ⟨p, .head _, fun q hq => .inl (List.mem_singleton.mp hq)⟩
  | p :: q :: l, _ => by
    obtain ⟨m, h1, h2⟩ := min_of (q :: l) (by simp)
    by_cases c : lt p m
    · refine ⟨p, .head _, fun z hz => ?_⟩
      cases hz with
      | head => exact .inl rfl
      | tail _ hz => exact .inr ((h2 z hz).elim (fun e => e ▸ c) (lt_trans c))
    · refine ⟨m, .tail _ h1, fun z hz => ?_⟩
      cases hz with
      | head => exact if e : p = m then .inl e else .inr (lt_tri e c)
      | tail _ hz => exact h2 z hz
theorem sq_nn (x : Int) : 0 ≤ x * x := by
  rcases Int.lt_or_le x 0 with z | z
  · have := Int.mul_pos_of_neg_of_neg z z
    omega
  · exact Int.mul_nonneg z z
/-- dot product -/
def dt (u v : Pt) : Int := u.1 * v.1 + u.2 * v.2
/-- parallel: where it goes on -/
theorem par (u v w : Pt) (h : cr u v = 0) : dt u u * cr v w = dt u v * cr u w := by
  unfold cr at h
  unfold cr dt
  grind
theorem dt_pos {u : Pt} (h : u ≠ (0, 0)) : 0 < dt u u := by
  unfold dt
  have h1 := sq_nn u.1
  have h2 := sq_nn u.2
  rcases Int.lt_trichotomy u.1 0 with z | z | z
  · have := Int.mul_pos_of_neg_of_neg z z
    omega
  · rcases Int.lt_trichotomy u.2 0 with y | y | y
    · have := Int.mul_pos_of_neg_of_neg y y
      omega
    · exact absurd (Prod.ext z y) h
    · have := Int.mul_pos y y
      omega
  · have := Int.mul_pos z z
    omega
theorem df_ne {p q : Pt} (h : p ≠ q) : df p q ≠ (0, 0) := fun e => h (by
  unfold df at e
  have e1 := congrArg Prod.fst e
  have e2 := congrArg Prod.snd e
  simp only at e1 e2
  exact Prod.ext (by omega) (by omega))
theorem dt_comm (u v : Pt) : dt v u = dt u v := by unfold dt; grind
/-- of parallel directions: to which side they look -/
theorem par_dt {u v : Pt} (hu : u ≠ (0, 0)) (hv : v ≠ (0, 0)) (h : cr u v = 0) : dt u v ≠ 0 := fun e => by
  have a := par u v v h
  have b : dt u u * dt v v = dt u v * dt u v := by unfold cr at h; unfold dt; grind
  rw [e] at b
  have := Int.mul_pos (dt_pos hu) (dt_pos hv)
  omega
theorem par_zero {u v : Pt} (hu : u ≠ (0, 0)) (hv : v ≠ (0, 0)) (h : cr u v = 0) (w : Pt) : cr u w = 0 ↔ cr v w = 0 := by
  have a := par u v w h
  have p := dt_pos hu
  have q := par_dt hu hv h
  constructor
  · intro e
    rw [e, Int.mul_zero] at a
    rcases Int.mul_eq_zero.mp a with z | z
    · omega
    · exact z
  · intro e
    rw [e, Int.mul_zero] at a
    rcases Int.mul_eq_zero.mp a.symm with z | z
    · exact absurd z q
    · exact z
theorem par_pos {u v : Pt} (hu : u ≠ (0, 0)) (h : cr u v = 0) (d : 0 < dt u v) (w : Pt) : 0 < cr u w ↔ 0 < cr v w := by
  have a := par u v w h
  have p := dt_pos hu
  constructor
  · intro e
    have := Int.mul_pos d e
    rw [← a] at this
    exact pos_of_mul' p this
  · intro e
    have := Int.mul_pos p e
    rw [a] at this
    exact pos_of_mul' d this
/-! ### lots -/
def lot (ps : List Pt) (a b : Pt) : List Pt := ps.filter fun c => decide (bd a b c = 0)
theorem mem_lot {ps : List Pt} {a b c : Pt} : c ∈ lot ps a b ↔ c ∈ ps ∧ bd a b c = 0 := by
  unfold lot
  rw [List.mem_filter, decide_eq_true_iff]
theorem bd_fst (a b : Pt) : bd a b a = 0 := by unfold bd cr df; grind
theorem bd_snd (a b : Pt) : bd a b b = 0 := by unfold bd cr df; grind
theorem on_line {a b c d : Pt} (h1 : a ≠ b) (h2 : c ≠ d) (hc : bd a b c = 0) (hd : bd a b d = 0) : cr (df b a) (df d c) = 0 ∧ ∀ p, bd a b p = cr (df b a) (df p c) := by
  unfold bd at *
  refine ⟨?_, fun p => ?_⟩
  · rw [cr_df _ d c a]; omega
  · rw [cr_df _ p c a]; omega
theorem line_eq {a b c d : Pt} (h1 : a ≠ b) (h2 : c ≠ d) (hc : bd a b c = 0) (hd : bd a b d = 0) (p : Pt) : bd a b p = 0 ↔ bd c d p = 0 := by
  obtain ⟨e1, e2⟩ := on_line h1 h2 hc hd
  rw [e2]
  exact par_zero (df_ne (Ne.symm h1)) (df_ne (Ne.symm h2)) e1 _
theorem lot_eq {ps : List Pt} {a b c d : Pt} (h1 : a ≠ b) (h2 : c ≠ d) (hc : c ∈ lot ps a b) (hd : d ∈ lot ps a b) : lot ps a b = lot ps c d := by
  unfold lot
  refine List.filter_congr fun p _ => ?_
  rw [Bool.eq_iff_iff, decide_eq_true_iff, decide_eq_true_iff]
  exact line_eq h1 h2 (mem_lot.mp hc).2 (mem_lot.mp hd).2 p
/-- the side of a lot, told by its first two -/
def sd : List Pt → Bool → Pt → Prop
  | a :: b :: _, true, p => 0 < bd a b p
  | a :: b :: _, false, p => bd a b p < 0
  | _, _, _ => False
theorem two_of {l : List Pt} {a b : Pt} (ha : a ∈ l) (hb : b ∈ l) (h : a ≠ b) (nd : l.Nodup) : ∃ c d r, l = c :: d :: r ∧ c ≠ d := by
  match l, ha, hb, nd with
  | [x], ha, hb, _ => exact absurd ((List.mem_singleton.mp ha).trans (List.mem_singleton.mp hb).symm) h
  | c :: d :: r, _, _, nd =>
    refine ⟨c, d, r, rfl, fun e => ?_⟩
    rw [List.nodup_cons] at nd
    exact nd.1 (by rw [e]; exact .head _)
theorem side_of {ps : List Pt} (nd : ps.Nodup) {a x : Pt} (ha : a ∈ ps) (hx : x ∈ ps) (h : a ≠ x) : ∃ s : Bool, (∀ p, sd (lot ps a x) s p ↔ 0 < bd a x p) ∧ ∀ p, sd (lot ps a x) (!s) p ↔ bd a x p < 0 := by
  have ma : a ∈ lot ps a x := mem_lot.mpr ⟨ha, bd_fst _ _⟩
  have mx : x ∈ lot ps a x := mem_lot.mpr ⟨hx, bd_snd _ _⟩
  obtain ⟨c, d, r, e, ne⟩ := two_of ma mx h (nd.sublist List.filter_sublist)
  have mc : c ∈ lot ps a x := by rw [e]; exact .head _
  have md : d ∈ lot ps a x := by rw [e]; exact .tail _ (.head _)
  obtain ⟨e1, e2⟩ := on_line h ne (mem_lot.mp mc).2 (mem_lot.mp md).2
  have hu := df_ne (Ne.symm h)
  have hv := df_ne (Ne.symm ne)
  have key : ∀ p, bd c d p = cr (df d c) (df p c) := fun p => rfl
  have neg : ∀ u w : Pt, cr u (-w.1, -w.2) = - cr u w := fun u w => by unfold cr; grind
  rcases Int.lt_or_gt_of_ne (par_dt hu hv e1) with z | z
  · have q : ∀ w, 0 < cr (df x a) w ↔ cr (df d c) w < 0 := fun w => by
      have e3 : cr (df x a) (-(df d c).1, -(df d c).2) = 0 := by rw [neg, e1]; rfl
      have := par_pos hu e3 (by unfold dt at z ⊢; grind) w
      rw [this]
      have e4 : cr (-(df d c).1, -(df d c).2) w = - cr (df d c) w := by unfold cr; grind
      omega
    refine ⟨false, fun p => ?_, fun p => ?_⟩
    · rw [e, e2, q]; exact Iff.rfl
    · rw [e, e2]
      show 0 < bd c d p ↔ _
      rw [key]
      have := q (-(df p c).1, -(df p c).2)
      rw [neg, neg] at this
      omega
  · have q := par_pos hu e1 z
    refine ⟨true, fun p => ?_, fun p => ?_⟩
    · rw [e, e2, q]; exact Iff.rfl
    · rw [e, e2]
      show bd c d p < 0 ↔ _
      rw [key]
      have := q (-(df p c).1, -(df p c).2)
      rw [neg, neg] at this
      omega
/-! ### along a line -/
def lp (u : Pt) : Prop := 0 < u.1 ∨ (u.1 = 0 ∧ 0 < u.2)
theorem lp_of {p q : Pt} : lt p q ↔ lp (df q p) := by unfold lt lp df; simp only; omega
theorem lp_dt {u v : Pt} (hu : lp u) (h : cr u v = 0) (hv : lp v) : 0 < dt u v := by
  unfold cr at h
  unfold lp at hu hv
  unfold dt
  rcases hu with a | ⟨a, b⟩
  · have v1 : 0 < v.1 := by
      rcases hv with c | ⟨c, d⟩
      · exact c
      · rw [c, Int.mul_zero, Int.sub_zero] at h
        rcases Int.mul_eq_zero.mp h with z | z <;> omega
    have e : u.1 * (u.2 * v.2) = u.2 * u.2 * v.1 := by grind
    have nn : 0 ≤ u.2 * v.2 := pos_of_mul a (by rw [e]; exact Int.mul_nonneg (sq_nn _) (Int.le_of_lt v1))
    have := Int.mul_pos a v1
    omega
  · rw [a, Int.zero_mul, Int.zero_sub] at h
    have v1 : v.1 = 0 := by
      rcases Int.mul_eq_zero.mp (by omega : u.2 * v.1 = 0) with z | z
      · omega
      · exact z
    rw [a, v1]
    have : 0 < v.2 := by omega
    have := Int.mul_pos b this
    omega
theorem dt_neg {a b p : Pt} (h : lt a b) (l : bd a b p = 0) (k : lt p a) : dt (df b a) (df p a) < 0 := by
  have e : cr (df b a) (df a p) = 0 := by rw [cr_dn]; unfold bd at l; omega
  have := lp_dt (lp_of.mp h) e (lp_of.mp k)
  unfold dt df at *
  grind
end Mel

set_option Elab.async false
set_option linter.all false
set_option maxRecDepth 100000
namespace Mel
theorem pigeon {α β : Type} [DecidableEq β] (R : α → β → Prop) : ∀ (ds : List α) (es : List β), ds.Nodup → (∀ d ∈ ds, ∃ e ∈ es, R d e) → (∀ d1 ∈ ds, ∀ d2 ∈ ds, ∀ e, R d1 e → R d2 e → d1 = d2) → ds.length ≤ es.length
  | [], es, _, _, _ => Nat.zero_le _
  | d :: ds, es, nd, h, inj => by
    rw [List.nodup_cons] at nd
    obtain ⟨e, me, re⟩ := h d (.head _)
    have := pigeon R ds (es.erase e) nd.2 (fun d' m' => by
      obtain ⟨e', me', re'⟩ := h d' (.tail _ m')
      refine ⟨e', (List.mem_erase_of_ne fun z => ?_).mpr me', re'⟩
      subst z
      have := inj d (.head _) d' (.tail _ m') _ re re'
      exact nd.1 (this ▸ m')) fun d1 m1 d2 m2 => inj d1 (.tail _ m1) d2 (.tail _ m2)
    have l := List.length_erase_of_mem me
    have p : 0 < es.length := List.length_pos_of_mem me
    rw [List.length_cons]
    omega
theorem max_of : ∀ l : List Pt, l ≠ [] → ∃ m ∈ l, ∀ p ∈ l, p = m ∨ lt p m
  | [], h => absurd rfl h
  | [p], _ => ⟨p, .head _, fun q hq => .inl (List.mem_singleton.mp hq)⟩
  | p :: q :: l, _ => by
    obtain ⟨m, h1, h2⟩ := max_of (q :: l) (by simp)
    by_cases c : lt m p
    · refine ⟨p, .head _, fun z hz => ?_⟩
      cases hz with
      | head => exact .inl rfl
      | tail _ hz => exact .inr ((h2 z hz).elim (fun e => e ▸ c) (fun k => lt_trans k c))
    · refine ⟨m, .tail _ h1, fun z hz => ?_⟩
      cases hz with
      | head => exact if e : p = m then .inl e else .inr (lt_tri (Ne.symm e) c)
      | tail _ hz => exact h2 z hz
/-- a step along a lot: from a to the next one, b -/
structure Step (l : List Pt) (x y : Pt) : Prop where
  a : x ∈ l
  b : y ∈ l
  lt : Mel.lt x y
  nx : ∀ p ∈ l, Mel.lt x p → p = y ∨ Mel.lt y p
theorem step_of {l : List Pt} {a c : Pt} (ha : a ∈ l) (hc : c ∈ l) (h : lt a c) : ∃ b, Step l a b := by
  obtain ⟨b, h1, h2⟩ := min_of (l.filter fun p => decide (lt a p)) (fun e => by
    have : c ∈ l.filter fun p => decide (lt a p) := List.mem_filter.mpr ⟨hc, decide_eq_true h⟩
    rw [e] at this
    cases this)
  obtain ⟨h3, h4⟩ := List.mem_filter.mp h1
  exact ⟨b, ha, h3, of_decide_eq_true h4, fun p hp hl => h2 p (List.mem_filter.mpr ⟨hp, decide_eq_true hl⟩)⟩
theorem steps_in {l : List Pt} : ∀ xs : List Pt, xs.Nodup → (∀ a ∈ xs, ∃ b, Step l a b) → ∃ ds : List (Pt × Pt), ds.length = xs.length ∧ ds.Nodup ∧ (∀ d ∈ ds, d.1 ∈ xs) ∧ ∀ d ∈ ds, Step l d.1 d.2
  | [], _, _ => ⟨[], rfl, List.nodup_nil, (fun d h => nomatch h), fun d h => nomatch h⟩
  | a :: xs, nd, h => by
    rw [List.nodup_cons] at nd
    obtain ⟨ds, h1, h2, h3, h4⟩ := steps_in xs nd.2 fun z hz => h z (.tail _ hz)
    obtain ⟨b, hb⟩ := h a (.head _)
    refine ⟨(a, b) :: ds, by rw [List.length_cons, List.length_cons, h1], List.nodup_cons.mpr ⟨fun m => nd.1 (h3 _ m), h2⟩, fun d hd => ?_, fun d hd => ?_⟩
    · cases hd with
      | head => exact .head _
      | tail _ hd => exact .tail _ (h3 d hd)
    · cases hd with
      | head => exact hb
      | tail _ hd => exact h4 d hd
theorem steps_of {l : List Pt} (nd : l.Nodup) (ne : l ≠ []) : ∃ ds : List (Pt × Pt), ds.length + 1 = l.length ∧ ds.Nodup ∧ ∀ d ∈ ds, Step l d.1 d.2 := by
  obtain ⟨m, h1, h2⟩ := max_of l ne
  obtain ⟨ds, g1, g2, _, g4⟩ := steps_in (l := l) (l.erase m) (nd.erase m) fun a ha => by
    have ma := List.mem_of_mem_erase ha
    have na : a ≠ m := fun e => (List.Nodup.not_mem_erase nd) (e ▸ ha)
    exact step_of ma h1 ((h2 a ma).resolve_left na)
  have := List.length_erase_of_mem h1
  have p : 0 < l.length := List.length_pos_of_mem h1
  exact ⟨ds, by omega, g2, g4⟩
theorem dom_of : ∀ LS : List (List Pt), LS.Nodup → (∀ l ∈ LS, l.Nodup ∧ l ≠ []) → ∃ ds : List (List Pt × Pt × Pt), ds.length + LS.length = (LS.map (·.length)).sum ∧ ds.Nodup ∧ ∀ d ∈ ds, d.1 ∈ LS ∧ Step d.1 d.2.1 d.2.2
  | [], _, _ => ⟨[], rfl, List.nodup_nil, fun d h => nomatch h⟩
  | l :: LS, nd, h => by
    rw [List.nodup_cons] at nd
    obtain ⟨ds, h1, h2, h3⟩ := dom_of LS nd.2 fun z hz => h z (.tail _ hz)
    obtain ⟨es, g1, g2, g3⟩ := steps_of (h l (.head _)).1 (h l (.head _)).2
    refine ⟨es.map (fun e => (l, e)) ++ ds, ?_, ?_, fun d hd => ?_⟩
    · rw [List.length_append, List.length_map, List.length_cons, List.map_cons, List.sum_cons]
      omega
    · rw [List.nodup_append]
      refine ⟨?_, h2, fun d hd e he z => ?_⟩
      · rw [List.nodup_iff_pairwise_ne, List.pairwise_map]
        exact (List.nodup_iff_pairwise_ne.mp g2).imp fun z e => z (Prod.mk.inj e).2
      · obtain ⟨k, _, rfl⟩ := List.mem_map.mp hd
        subst z
        exact nd.1 (h3 _ he).1
    · rcases List.mem_append.mp hd with hd | hd
      · obtain ⟨k, hk, rfl⟩ := List.mem_map.mp hd
        exact ⟨.head _, g3 k hk⟩
      · exact ⟨.tail _ (h3 d hd).1, (h3 d hd).2⟩
/-! ### the parting at a step -/
def inA (a b p : Pt) : Prop := 0 < bd a b p ∨ (bd a b p = 0 ∧ ¬ lt a p)
theorem inA_a {a b : Pt} : inA a b a := .inr ⟨bd_fst a b, lt_irr⟩
theorem inA_b {a b : Pt} (h : lt a b) : ¬ inA a b b := fun z => z.elim (fun q => by rw [bd_snd] at q; omega) fun q => q.2 h
theorem inA_nn {a b p : Pt} (h : inA a b p) : 0 ≤ bd a b p := h.elim Int.le_of_lt fun q => by omega
theorem inA_np {a b p : Pt} (h : ¬ inA a b p) : bd a b p ≤ 0 := by
  rcases Int.lt_or_le 0 (bd a b p) with z | z
  · exact absurd (.inl z) h
  · exact z
theorem lt_ne {a b : Pt} (h : lt a b) : a ≠ b := fun e => lt_irr (e ▸ h)
/-- the parting tells the step -/
theorem step_inj {ps : List Pt} {l1 l2 : List Pt} {a1 b1 a2 b2 : Pt} (e1 : l1 = lot ps a1 b1) (e2 : l2 = lot ps a2 b2) (s1 : Step l1 a1 b1) (s2 : Step l2 a2 b2) (h : ∀ p ∈ ps, inA a1 b1 p ↔ inA a2 b2 p) : l1 = l2 ∧ a1 = a2 ∧ b1 = b2 := by
  have sub1 : ∀ p, p ∈ l1 → p ∈ ps := fun p hp => by rw [e1] at hp; exact (mem_lot.mp hp).1
  have sub2 : ∀ p, p ∈ l2 → p ∈ ps := fun p hp => by rw [e2] at hp; exact (mem_lot.mp hp).1
  have A2 := inA_nn ((h a2 (sub2 _ s2.a)).mpr inA_a)
  have B2 := inA_np (fun z => inA_b s2.lt ((h b2 (sub2 _ s2.b)).mp z))
  have A1 := inA_nn ((h a1 (sub1 _ s1.a)).mp inA_a)
  have B1 := inA_np (fun z => inA_b s1.lt ((h b1 (sub1 _ s1.b)).mpr z))
  unfold bd at A1 A2 B1 B2
  have c1 := cr_df (df b1 a1) b2 a2 a1
  have c2 := cr_df (df b2 a2) b1 a1 a2
  have c3 := cr_anti (df b1 a1) (df b2 a2)
  have z1 : bd a1 b1 a2 = 0 := by unfold bd; omega
  have z2 : bd a1 b1 b2 = 0 := by unfold bd; omega
  have m1 : a2 ∈ lot ps a1 b1 := mem_lot.mpr ⟨sub2 _ s2.a, z1⟩
  have m2 : b2 ∈ lot ps a1 b1 := mem_lot.mpr ⟨sub2 _ s2.b, z2⟩
  have el : l1 = l2 := by rw [e1, e2]; exact lot_eq (lt_ne s1.lt) (lt_ne s2.lt) m1 m2
  have z3 : bd a2 b2 a1 = 0 := by
    have : a1 ∈ lot ps a2 b2 := by rw [← e2, ← el]; exact s1.a
    exact (mem_lot.mp this).2
  have k1 : ¬ lt a1 a2 := fun k => by
    have : inA a1 b1 a2 := (h a2 (sub2 _ s2.a)).mpr inA_a
    rcases this with q | q
    · omega
    · exact q.2 k
  have k2 : ¬ lt a2 a1 := fun k => by
    have : inA a2 b2 a1 := (h a1 (sub1 _ s1.a)).mp inA_a
    rcases this with q | q
    · omega
    · exact q.2 k
  have ea : a1 = a2 := Classical.byContradiction fun ne => k2 (lt_tri ne k1)
  subst ea
  refine ⟨el, rfl, ?_⟩
  subst el
  rcases s1.nx b2 s2.b s2.lt with q | q
  · exact q.symm
  · rcases s2.nx b1 s1.b s1.lt with r | r
    · exact r
    · exact (lt_irr (lt_trans q r)).elim
/-- no step has the parting of another, turned about -/
theorem step_opp {ps : List Pt} {l1 l2 : List Pt} {a1 b1 a2 b2 : Pt} (e1 : l1 = lot ps a1 b1) (e2 : l2 = lot ps a2 b2) (s1 : Step l1 a1 b1) (s2 : Step l2 a2 b2) (h : ∀ p ∈ ps, inA a1 b1 p ↔ ¬ inA a2 b2 p) : False := by
  have sub1 : ∀ p, p ∈ l1 → p ∈ ps := fun p hp => by rw [e1] at hp; exact (mem_lot.mp hp).1
  have sub2 : ∀ p, p ∈ l2 → p ∈ ps := fun p hp => by rw [e2] at hp; exact (mem_lot.mp hp).1
  have na2 : ¬ inA a1 b1 a2 := fun z => (h a2 (sub2 _ s2.a)).mp z inA_a
  have yb2 : inA a1 b1 b2 := (h b2 (sub2 _ s2.b)).mpr (inA_b s2.lt)
  have na1 : ¬ inA a2 b2 a1 := (h a1 (sub1 _ s1.a)).mp inA_a
  have yb1 : inA a2 b2 b1 := Classical.byContradiction fun z => inA_b s1.lt ((h b1 (sub1 _ s1.b)).mpr z)
  have A2 := inA_np na2
  have B2 := inA_nn yb2
  have A1 := inA_np na1
  have B1 := inA_nn yb1
  unfold bd at A1 A2 B1 B2
  have c1 := cr_df (df b1 a1) b2 a2 a1
  have c2 := cr_df (df b2 a2) b1 a1 a2
  have c3 := cr_anti (df b1 a1) (df b2 a2)
  have z1 : bd a1 b1 a2 = 0 := by unfold bd; omega
  have z2 : bd a2 b2 a1 = 0 := by unfold bd; omega
  have k1 : lt a1 a2 := Classical.byContradiction fun k => na2 (.inr ⟨z1, k⟩)
  have k2 : lt a2 a1 := Classical.byContradiction fun k => na1 (.inr ⟨z2, k⟩)
  exact lt_irr (lt_trans k1 k2)
/-- the parting at a step is that of a side of some lot -/
theorem step_end {ps : List Pt} (nd : ps.Nodup) {a b : Pt} (s : Step (lot ps a b) a b) (off : ∃ p ∈ ps, bd a b p ≠ 0) :
    ∃ c ∈ ps, ∃ d ∈ ps, c ≠ d ∧ ∃ t : Bool, (∀ p ∈ ps, inA a b p ↔ ¬ sd (lot ps c d) t p) ∨ ∀ p ∈ ps, inA a b p ↔ sd (lot ps c d) t p := by
  have ab := lt_ne s.lt
  have pa := (mem_lot.mp s.a).1
  have pb := (mem_lot.mp s.b).1
  have hu := df_ne (Ne.symm ab)
  have uu := dt_pos hu
  let V : List Pt := (ps.filter fun p => decide (0 < bd a b p)).map (fun p => df p a) ++ (ps.filter fun p => decide (bd a b p < 0)).map (fun p => df b p)
  have inL : ∀ p ∈ ps, 0 < bd a b p → df p a ∈ V := fun p hp h => List.mem_append_left _ (List.mem_map.mpr ⟨p, List.mem_filter.mpr ⟨hp, decide_eq_true h⟩, rfl⟩)
  have inR : ∀ p ∈ ps, bd a b p < 0 → df b p ∈ V := fun p hp h => List.mem_append_right _ (List.mem_map.mpr ⟨p, List.mem_filter.mpr ⟨hp, decide_eq_true h⟩, rfl⟩)
  have right : ∀ p, cr (df b a) (df b p) = - bd a b p := fun p => by unfold bd cr df; grind
  have Vpos : ∀ v ∈ V, 0 < cr (df b a) v := fun v hv => by
    rcases List.mem_append.mp hv with hv | hv
    · obtain ⟨p, hp, rfl⟩ := List.mem_map.mp hv
      exact of_decide_eq_true (List.mem_filter.mp hp).2
    · obtain ⟨p, hp, rfl⟩ := List.mem_map.mp hv
      have := of_decide_eq_true (List.mem_filter.mp hp).2
      rw [right]
      omega
  obtain ⟨v0, m0, h0⟩ := first_dir (df b a) V (fun e => by
    obtain ⟨p, hp, hn⟩ := off
    rcases Int.lt_or_gt_of_ne hn with z | z
    · have := inR p hp z
      rw [e] at this; cases this
    · have := inL p hp z
      rw [e] at this; cases this) Vpos
  have u0 := Vpos v0 m0
  -- what lies on the line
  have onl : ∀ p q : Pt, cr (df b a) (df p q) = 0 → (0 < dt (df b a) (df p q) → cr v0 (df p q) < 0) ∧ (dt (df b a) (df p q) ≤ 0 → 0 ≤ cr v0 (df p q)) ∧ (dt (df b a) (df p q) < 0 → 0 < cr v0 (df p q)) ∧ (0 ≤ dt (df b a) (df p q) → cr v0 (df p q) ≤ 0) := fun p q e => by
    have h := par (df b a) (df p q) v0 e
    have an := cr_anti (df p q) v0
    refine ⟨fun d => ?_, fun d => ?_, fun d => ?_, fun d => ?_⟩
    · have := Int.mul_pos d u0
      rw [← h] at this
      have := pos_of_mul' uu this
      omega
    · have : 0 ≤ dt (df b a) (df b a) * cr v0 (df p q) := by
        rw [an, Int.mul_neg, h]
        have := Int.mul_le_mul_of_nonneg_right d (Int.le_of_lt u0)
        omega
      exact pos_of_mul uu this
    · have : 0 < dt (df b a) (df b a) * cr v0 (df p q) := by
        rw [an, Int.mul_neg, h]
        have := Int.mul_lt_mul_of_pos_right d u0
        omega
      exact pos_of_mul' uu this
    · have : 0 ≤ dt (df b a) (df b a) * (- cr v0 (df p q)) := by
        rw [← cr_anti, h]
        exact Int.mul_nonneg d (Int.le_of_lt u0)
      have := pos_of_mul uu this
      omega
  have dneg : ∀ p, bd a b p = 0 → ¬ lt a p → dt (df b a) (df p a) ≤ 0 := fun p e k => by
    by_cases q : a = p
    · subst q
      have : dt (df b a) (df a a) = 0 := by unfold dt df; grind
      omega
    · exact Int.le_of_lt (dt_neg s.lt e (lt_tri q k))
  have dpos : ∀ p, bd a b p = 0 → lt a p → 0 < dt (df b a) (df p a) := fun p e k => lp_dt (lp_of.mp s.lt) e (lp_of.mp k)
  have dsub : ∀ p, dt (df b a) (df p b) = dt (df b a) (df p a) - dt (df b a) (df b a) := fun p => by unfold dt df; grind
  have cb : ∀ p, bd a b p = 0 → cr (df b a) (df p b) = 0 := fun p e => by
    unfold bd at e
    rw [cr_df _ p b a, e, cr_self]; rfl
  rcases List.mem_append.mp m0 with hv | hv
  · obtain ⟨x, hx, ex⟩ := List.mem_map.mp hv
    have px := (List.mem_filter.mp hx).1
    have ne : a ≠ x := fun e => by
      have := of_decide_eq_true (List.mem_filter.mp hx).2
      rw [← e, bd_fst] at this
      omega
    obtain ⟨t, _, ht⟩ := side_of nd pa px ne
    have tell : ∀ p, bd a x p = cr v0 (df p a) := fun p => by rw [← ex]; rfl
    refine ⟨a, pa, x, px, ne, !t, .inl fun p hp => ?_⟩
    rw [ht, tell]
    rcases Int.lt_trichotomy (bd a b p) 0 with z | z | z
    · have h1 := h0 _ (inR p hp z)
      have h2 := cr_df v0 p b a
      have h3 := cr_dn v0 p b
      have h4 := cr_anti v0 (df b a)
      exact ⟨fun q => absurd q (fun q => by rcases q with q | q <;> omega), fun q => by omega⟩
    · by_cases k : lt a p
      · have := (onl p a z).1 (dpos p z k)
        exact ⟨fun q => (q.elim (fun q => by omega) fun q => absurd k q.2), fun q => by omega⟩
      · have := (onl p a z).2.1 (dneg p z k)
        exact ⟨fun _ => by omega, fun _ => .inr ⟨z, k⟩⟩
    · have h1 := h0 _ (inL p hp z)
      exact ⟨fun _ => by omega, fun _ => .inl z⟩
  · obtain ⟨y, hy, ey⟩ := List.mem_map.mp hv
    have py := (List.mem_filter.mp hy).1
    have ne : y ≠ b := fun e => by
      have := of_decide_eq_true (List.mem_filter.mp hy).2
      rw [e, bd_snd] at this
      omega
    obtain ⟨t, ht, _⟩ := side_of nd py pb ne
    have tell : ∀ p, bd y b p = cr v0 (df p b) := fun p => by rw [← ey]; unfold bd cr df; grind
    refine ⟨y, py, b, pb, ne, t, .inr fun p hp => ?_⟩
    rw [ht, tell]
    rcases Int.lt_trichotomy (bd a b p) 0 with z | z | z
    · have h1 := h0 _ (inR p hp z)
      have h3 := cr_dn v0 p b
      exact ⟨fun q => absurd q (fun q => by rcases q with q | q <;> omega), fun q => by omega⟩
    · by_cases k : lt a p
      · have d0 : 0 ≤ dt (df b a) (df p b) := by
          rcases s.nx p (mem_lot.mpr ⟨hp, z⟩) k with e | e
          · subst e
            have : dt (df p a) (df p p) = 0 := by unfold dt df; grind
            omega
          · exact Int.le_of_lt (lp_dt (lp_of.mp s.lt) (cb p z) (lp_of.mp e))
        have := (onl p b (cb p z)).2.2.2 d0
        exact ⟨fun q => (q.elim (fun q => by omega) fun q => absurd k q.2), fun q => by omega⟩
      · have d0 := dneg p z k
        have d1 := dsub p
        have := (onl p b (cb p z)).2.2.1 (by omega)
        exact ⟨fun _ => this, fun _ => .inr ⟨z, k⟩⟩
    · have h1 := h0 _ (inL p hp z)
      have h2 := cr_df v0 p b a
      have h4 := cr_anti v0 (df b a)
      exact ⟨fun _ => by omega, fun _ => .inl z⟩
end Mel

set_option Elab.async false
set_option linter.all false
set_option maxRecDepth 100000
namespace Mel
/-- all lots of ps -/
structure Lines (ps : List Pt) (LS : List (List Pt)) : Prop where
  nd : LS.Nodup
  mem : ∀ l, l ∈ LS ↔ ∃ a ∈ ps, ∃ b ∈ ps, a ≠ b ∧ l = lot ps a b
def Off (ps : List Pt) : Prop := ∀ a ∈ ps, ∀ b ∈ ps, a ≠ b → ∃ p ∈ ps, bd a b p ≠ 0
def Supp (ps : List Pt) (a b : Pt) : Prop := a ∈ ps ∧ b ∈ ps ∧ a ≠ b ∧ ∀ p ∈ ps, 0 ≤ bd a b p
theorem fmax_of (f : Pt → Int) : ∀ l : List Pt, l ≠ [] → ∃ m ∈ l, ∀ p ∈ l, f p ≤ f m
  | [], h => absurd rfl h
  | [p], _ => ⟨p, .head _, fun q hq => by rw [List.mem_singleton.mp hq]; exact Int.le_refl _⟩
  | p :: q :: l, _ => by
    obtain ⟨m, h1, h2⟩ := fmax_of f (q :: l) (by simp)
    by_cases c : f m ≤ f p
    · refine ⟨p, .head _, fun z hz => ?_⟩
      cases hz with
      | head => exact Int.le_refl _
      | tail _ hz => exact Int.le_trans (h2 z hz) c
    · refine ⟨m, .tail _ h1, fun z hz => ?_⟩
      cases hz with
      | head => omega
      | tail _ hz => exact h2 z hz
theorem supp_next {ps : List Pt} {a b : Pt} (s : Supp ps a b) (off : ∃ p ∈ ps, bd a b p ≠ 0) : ∃ c x, c ∈ lot ps a b ∧ (∀ p ∈ lot ps a b, dt (df b a) (df p a) ≤ dt (df b a) (df c a)) ∧ Supp ps c x ∧ x ∉ lot ps a b := by
  obtain ⟨pa, pb, ab, sp⟩ := s
  obtain ⟨c, c1, c2⟩ := fmax_of (fun p => dt (df b a) (df p a)) (lot ps a b) (fun e => by
    have : a ∈ lot ps a b := mem_lot.mpr ⟨pa, bd_fst _ _⟩
    rw [e] at this
    cases this)
  obtain ⟨pc, zc⟩ := mem_lot.mp c1
  have uu := dt_pos (df_ne (Ne.symm ab))
  have rel : ∀ p, cr (df b a) (df p c) = bd a b p := fun p => by
    have := cr_df (df b a) p c a
    unfold bd at zc ⊢
    omega
  obtain ⟨v0, m0, h0⟩ := first_dir (df b a) ((ps.filter fun p => decide (0 < bd a b p)).map fun p => df p c) (fun e => by
    obtain ⟨p, hp, hn⟩ := off
    have h1 := sp p hp
    have : df p c ∈ (ps.filter fun p => decide (0 < bd a b p)).map fun p => df p c := List.mem_map.mpr ⟨p, List.mem_filter.mpr ⟨hp, decide_eq_true (by omega)⟩, rfl⟩
    rw [e] at this
    cases this) (fun v hv => by
    obtain ⟨p, hp, rfl⟩ := List.mem_map.mp hv
    rw [rel]
    exact of_decide_eq_true (List.mem_filter.mp hp).2)
  obtain ⟨x, hx, ex⟩ := List.mem_map.mp m0
  obtain ⟨px, hx1⟩ := List.mem_filter.mp hx
  have hx2 := of_decide_eq_true hx1
  have u0 : 0 < cr (df b a) v0 := by rw [← ex, rel]; exact hx2
  refine ⟨c, x, c1, c2, ⟨pc, px, fun e => by rw [← e] at hx2; omega, fun p hp => ?_⟩, fun m => by have := (mem_lot.mp m).2; omega⟩
  have tell : bd c x p = cr v0 (df p c) := by rw [← ex]; rfl
  rw [tell]
  have h1 := sp p hp
  by_cases z : bd a b p = 0
  · have d := c2 p (mem_lot.mpr ⟨hp, z⟩)
    have d2 : dt (df b a) (df p c) = dt (df b a) (df p a) - dt (df b a) (df c a) := by unfold dt df; grind
    have h := par (df b a) (df p c) v0 (by rw [rel]; exact z)
    have an := cr_anti (df p c) v0
    have : 0 ≤ dt (df b a) (df b a) * cr v0 (df p c) := by
      rw [an, Int.mul_neg, h]
      have := Int.mul_le_mul_of_nonneg_right (show dt (df b a) (df p c) ≤ 0 by omega) (Int.le_of_lt u0)
      omega
    exact pos_of_mul uu this
  · exact h0 _ (List.mem_map.mpr ⟨p, List.mem_filter.mpr ⟨hp, decide_eq_true (by omega)⟩, rfl⟩)
theorem bound_of (q : Pt) : ∀ l : List Pt, ∃ M : Int, 0 < M ∧ ∀ p ∈ l, -M < p.2 - q.2
  | [] => ⟨1, by decide, fun p h => nomatch h⟩
  | p :: l => by
    obtain ⟨M, h0, h⟩ := bound_of q l
    refine ⟨M + (p.2 - q.2).natAbs + 1, by omega, fun z hz => ?_⟩
    cases hz with
    | head => omega
    | tail _ hz => have := h z hz; omega
theorem supp_first {ps : List Pt} (nd : ps.Nodup) (h2 : 2 ≤ ps.length) : ∃ a b, Supp ps a b := by
  obtain ⟨a, ha, hm⟩ := min_of ps (fun e => by rw [e] at h2; simp at h2)
  obtain ⟨M, M0, hM⟩ := bound_of a ps
  have pos : ∀ p ∈ ps, p ≠ a → 0 < cr (1, -M) (df p a) := fun p hp ne => by
    have := (hm p hp).resolve_left ne
    have b := hM p hp
    unfold lt at this
    unfold cr df
    simp only
    rcases this with z | ⟨z, y⟩
    · have : M * 1 ≤ M * (p.1 - a.1) := Int.mul_le_mul_of_nonneg_left (by omega) (Int.le_of_lt M0)
      have e : -M * (p.1 - a.1) = -(M * (p.1 - a.1)) := Int.neg_mul _ _
      omega
    · have e : p.1 - a.1 = 0 := by omega
      rw [e, Int.mul_zero]
      omega
  obtain ⟨q, hq, nq⟩ : ∃ q ∈ ps, q ≠ a := by
    match ps, h2, nd with
    | x :: y :: r, _, nd =>
      rw [List.nodup_cons] at nd
      by_cases e : x = a
      · exact ⟨y, .tail _ (.head _), fun z => nd.1 (by rw [e, ← z]; exact .head _)⟩
      · exact ⟨x, .head _, e⟩
  obtain ⟨v0, m0, h0⟩ := first_dir (1, -M) ((ps.filter fun p => decide (p ≠ a)).map fun p => df p a) (fun e => by
    have : df q a ∈ (ps.filter fun p => decide (p ≠ a)).map fun p => df p a := List.mem_map.mpr ⟨q, List.mem_filter.mpr ⟨hq, decide_eq_true nq⟩, rfl⟩
    rw [e] at this
    cases this) (fun v hv => by
    obtain ⟨p, hp, rfl⟩ := List.mem_map.mp hv
    obtain ⟨h1, h2⟩ := List.mem_filter.mp hp
    exact pos p h1 (of_decide_eq_true h2))
  obtain ⟨b, hb, eb⟩ := List.mem_map.mp m0
  obtain ⟨pb, nb⟩ := List.mem_filter.mp hb
  refine ⟨a, b, ha, pb, (of_decide_eq_true nb).symm, fun p hp => ?_⟩
  have tell : bd a b p = cr v0 (df p a) := by rw [← eb]; rfl
  rw [tell]
  by_cases e : p = a
  · subst e
    have : cr v0 (df p p) = 0 := by unfold cr df; grind
    omega
  · exact h0 _ (List.mem_map.mpr ⟨p, List.mem_filter.mpr ⟨hp, decide_eq_true e⟩, rfl⟩)
theorem supp_three {ps : List Pt} (nd : ps.Nodup) (h2 : 2 ≤ ps.length) (off : Off ps) : ∃ a1 b1 a2 b2 a3 b3, Supp ps a1 b1 ∧ Supp ps a2 b2 ∧ Supp ps a3 b3 ∧ lot ps a1 b1 ≠ lot ps a2 b2 ∧ lot ps a1 b1 ≠ lot ps a3 b3 ∧ lot ps a2 b2 ≠ lot ps a3 b3 := by
  obtain ⟨a1, b1, s1⟩ := supp_first nd h2
  obtain ⟨a2, b2, c1, c2, s2, n2⟩ := supp_next s1 (off _ s1.1 _ s1.2.1 s1.2.2.1)
  obtain ⟨a3, b3, d1, d2, s3, n3⟩ := supp_next s2 (off _ s2.1 _ s2.2.1 s2.2.2.1)
  have e2 : b2 ∈ lot ps a2 b2 := mem_lot.mpr ⟨s2.2.1, bd_snd _ _⟩
  have e3 : b3 ∈ lot ps a3 b3 := mem_lot.mpr ⟨s3.2.1, bd_snd _ _⟩
  have f3 : a3 ∈ lot ps a3 b3 := mem_lot.mpr ⟨s3.1, bd_fst _ _⟩
  have f2 : a2 ∈ lot ps a2 b2 := mem_lot.mpr ⟨s2.1, bd_fst _ _⟩
  refine ⟨a1, b1, a2, b2, a3, b3, s1, s2, s3, fun e => n2 (e ▸ e2), fun e => ?_, fun e => n3 (e ▸ e3)⟩
  -- a3 lies on the first and the second
  have g1 : a3 ∈ lot ps a1 b1 := e ▸ f3
  have ne : a2 ≠ a3 := fun z => by
    have h := d2 b2 e2
    rw [← z] at h
    have p := dt_pos (df_ne (Ne.symm s2.2.2.1))
    have q : dt (df b2 a2) (df a2 a2) = 0 := by unfold dt df; grind
    omega
  have k1 := lot_eq s1.2.2.1 ne c1 g1
  have k2 := lot_eq s2.2.2.1 ne f2 d1
  exact n2 (by rw [k1, ← k2]; exact e2)
theorem supp_empty {ps : List Pt} (nd : ps.Nodup) {a b : Pt} (s : Supp ps a b) : ∃ t : Bool, ∀ p ∈ ps, ¬ sd (lot ps a b) t p := by
  obtain ⟨t, _, h⟩ := side_of nd s.1 s.2.1 s.2.2.1
  exact ⟨!t, fun p hp q => by have := (h p).mp q; have := s.2.2.2 p hp; omega⟩
open Classical in
theorem melchior {ps : List Pt} {LS : List (List Pt)} (nd : ps.Nodup) (h2 : 2 ≤ ps.length) (L : Lines ps LS) (off : Off ps) : (LS.map (·.length)).sum + 3 ≤ 3 * LS.length := by
  have lotN : ∀ l ∈ LS, l.Nodup ∧ l ≠ [] := fun l hl => by
    obtain ⟨a, ha, b, hb, ne, rfl⟩ := (L.mem l).mp hl
    refine ⟨nd.sublist List.filter_sublist, fun e => ?_⟩
    have : a ∈ lot ps a b := mem_lot.mpr ⟨ha, bd_fst _ _⟩
    rw [e] at this
    cases this
  obtain ⟨ds, d1, d2, d3⟩ := dom_of LS L.nd lotN
  have isl : ∀ d ∈ ds, d.1 = lot ps d.2.1 d.2.2 := fun d hd => by
    obtain ⟨m, s⟩ := d3 d hd
    obtain ⟨a, ha, b, hb, ne, e⟩ := (L.mem _).mp m
    rw [e]
    exact lot_eq ne (lt_ne s.lt) (e ▸ s.a) (e ▸ s.b)
  let all : List (List Pt × Bool) := LS.map (fun l => (l, true)) ++ LS.map (fun l => (l, false))
  have inall : ∀ l ∈ LS, ∀ t : Bool, (l, t) ∈ all := fun l hl t => by
    cases t with
    | true => exact List.mem_append_left _ (List.mem_map.mpr ⟨l, hl, rfl⟩)
    | false => exact List.mem_append_right _ (List.mem_map.mpr ⟨l, hl, rfl⟩)
  have alln : all.Nodup := by
    rw [List.nodup_append]
    refine ⟨?_, ?_, fun d hd e he z => ?_⟩
    · rw [List.nodup_iff_pairwise_ne, List.pairwise_map]
      exact (List.nodup_iff_pairwise_ne.mp L.nd).imp fun z e => z (Prod.mk.inj e).1
    · rw [List.nodup_iff_pairwise_ne, List.pairwise_map]
      exact (List.nodup_iff_pairwise_ne.mp L.nd).imp fun z e => z (Prod.mk.inj e).1
    · obtain ⟨_, _, rfl⟩ := List.mem_map.mp hd
      obtain ⟨_, _, rfl⟩ := List.mem_map.mp he
      exact absurd (Prod.mk.inj z).2 (by decide)
  have alll : all.length = 2 * LS.length := by
    show (_ ++ _ : List (List Pt × Bool)).length = _
    rw [List.length_append, List.length_map, List.length_map]
    omega
  let cod := all.filter fun e => decide (∃ p ∈ ps, sd e.1 e.2 p)
  have codL : cod.length + 3 ≤ 2 * LS.length := by
    obtain ⟨a1, b1, a2, b2, a3, b3, s1, s2, s3, n12, n13, n23⟩ := supp_three nd h2 off
    obtain ⟨t1, k1⟩ := supp_empty nd s1
    obtain ⟨t2, k2⟩ := supp_empty nd s2
    obtain ⟨t3, k3⟩ := supp_empty nd s3
    have out : ∀ (a b : Pt) (t : Bool), (∀ p ∈ ps, ¬ sd (lot ps a b) t p) → (lot ps a b, t) ∉ cod := fun a b t k m => by
      obtain ⟨p, hp, q⟩ := of_decide_eq_true (List.mem_filter.mp m).2
      exact k p hp q
    have isin : ∀ {a b : Pt}, Supp ps a b → lot ps a b ∈ LS := fun {a b} s => (L.mem _).mpr ⟨a, s.1, b, s.2.1, s.2.2.1, rfl⟩
    have := pigeon (fun d e => d = e) ((lot ps a1 b1, t1) :: (lot ps a2 b2, t2) :: (lot ps a3 b3, t3) :: cod) all (by
      rw [List.nodup_cons, List.nodup_cons, List.nodup_cons]
      refine ⟨?_, ?_, out _ _ _ k3, alln.sublist List.filter_sublist⟩
      · intro m
        simp only [List.mem_cons] at m
        rcases m with m | m | m
        · exact n12 (Prod.mk.inj m).1
        · exact n13 (Prod.mk.inj m).1
        · exact out _ _ _ k1 m
      · intro m
        simp only [List.mem_cons] at m
        rcases m with m | m
        · exact n23 (Prod.mk.inj m).1
        · exact out _ _ _ k2 m) (fun d hd => by
      simp only [List.mem_cons] at hd
      rcases hd with rfl | rfl | rfl | hd
      · exact ⟨_, inall _ (isin s1) _, rfl⟩
      · exact ⟨_, inall _ (isin s2) _, rfl⟩
      · exact ⟨_, inall _ (isin s3) _, rfl⟩
      · exact ⟨_, (List.mem_filter.mp hd).1, rfl⟩) (fun d1 _ d2 _ e h1 h2 => h1.trans h2.symm)
    rw [alll] at this
    simpa using this
  have main := pigeon (fun (d : List Pt × Pt × Pt) (e : List Pt × Bool) => (∀ p ∈ ps, inA d.2.1 d.2.2 p ↔ ¬ sd e.1 e.2 p) ∨ ∀ p ∈ ps, inA d.2.1 d.2.2 p ↔ sd e.1 e.2 p) ds cod d2 (fun d hd => by
    obtain ⟨m, s⟩ := d3 d hd
    have el := isl d hd
    have pa : d.2.1 ∈ ps := by have := s.a; rw [el] at this; exact (mem_lot.mp this).1
    have pb : d.2.2 ∈ ps := by have := s.b; rw [el] at this; exact (mem_lot.mp this).1
    rw [el] at s
    obtain ⟨c, hc, x, hx, ne, t, h⟩ := step_end nd s (off _ pa _ pb (lt_ne s.lt))
    refine ⟨(lot ps c x, t), List.mem_filter.mpr ⟨inall _ ((L.mem _).mpr ⟨c, hc, x, hx, ne, rfl⟩) t, decide_eq_true ?_⟩, h⟩
    rcases h with h | h
    · exact ⟨d.2.2, pb, Classical.byContradiction fun z => inA_b s.lt ((h _ pb).mpr z)⟩
    · exact ⟨d.2.1, pa, (h _ pa).mp inA_a⟩) (fun e1 m1 e2 m2 e r1 r2 => by
    obtain ⟨_, s1⟩ := d3 e1 m1
    obtain ⟨_, s2⟩ := d3 e2 m2
    have same : (∀ p ∈ ps, inA e1.2.1 e1.2.2 p ↔ inA e2.2.1 e2.2.2 p) → e1 = e2 := fun h => by
      obtain ⟨q1, q2, q3⟩ := step_inj (isl e1 m1) (isl e2 m2) s1 s2 h
      exact Prod.ext q1 (Prod.ext q2 q3)
    rcases r1 with r1 | r1 <;> rcases r2 with r2 | r2
    · exact same fun p hp => (r1 p hp).trans (r2 p hp).symm
    · exact (step_opp (isl e1 m1) (isl e2 m2) s1 s2 fun p hp => (r1 p hp).trans (not_congr (r2 p hp).symm)).elim
    · exact (step_opp (isl e2 m2) (isl e1 m1) s2 s1 fun p hp => (r2 p hp).trans (not_congr (r1 p hp).symm)).elim
    · exact same fun p hp => (r1 p hp).trans (r2 p hp).symm)
  omega
end Mel

set_option Elab.async false
set_option linter.all false
set_option maxRecDepth 100000
namespace Mel
theorem dedup {α : Type} [DecidableEq α] : ∀ xs : List α, ∃ ys : List α, ys.Nodup ∧ ∀ y, y ∈ ys ↔ y ∈ xs
  | [] => ⟨[], List.nodup_nil, fun _ => Iff.rfl⟩
  | x :: xs => by
    obtain ⟨ys, a, b⟩ := dedup xs
    by_cases m : x ∈ xs
    · refine ⟨ys, a, fun y => ?_⟩
      rw [b, List.mem_cons]
      exact ⟨.inr, fun z => z.elim (fun e => by rw [e]; exact m) id⟩
    · exact ⟨x :: ys, List.nodup_cons.mpr ⟨fun z => m ((b x).mp z), a⟩, fun y => by rw [List.mem_cons, List.mem_cons, b]⟩
theorem lines_exist (ps : List Pt) : ∃ LS, Lines ps LS := by
  obtain ⟨ys, h1, h2⟩ := dedup (ps.flatMap fun a => (ps.filter fun b => decide (a ≠ b)).map fun b => lot ps a b)
  refine ⟨ys, h1, fun l => ?_⟩
  rw [h2, List.mem_flatMap]
  constructor
  · rintro ⟨a, ha, h⟩
    obtain ⟨b, hb, rfl⟩ := List.mem_map.mp h
    obtain ⟨hb1, hb2⟩ := List.mem_filter.mp hb
    exact ⟨a, ha, b, hb1, of_decide_eq_true hb2, rfl⟩
  · rintro ⟨a, ha, b, hb, ne, rfl⟩
    exact ⟨a, ha, List.mem_map.mpr ⟨b, List.mem_filter.mpr ⟨hb, decide_eq_true ne⟩, rfl⟩⟩
/-- of numbers that are 2 at least: how many are 2 -/
theorem twos : ∀ ks : List Nat, (∀ k ∈ ks, 2 ≤ k) → ks.sum + 3 ≤ 3 * ks.length → 3 + ((ks.filter fun k => decide (3 < k)).map fun k => k - 3).sum ≤ (ks.filter fun k => decide (k = 2)).length := by
  have key : ∀ ks : List Nat, (∀ k ∈ ks, 2 ≤ k) → 3 * ks.length + ((ks.filter fun k => decide (3 < k)).map fun k => k - 3).sum = (ks.filter fun k => decide (k = 2)).length + ks.sum := by
    intro ks
    induction ks with
    | nil => intro _; rfl
    | cons k ks ih =>
      intro h
      have := ih fun z hz => h z (.tail _ hz)
      have hk := h k (.head _)
      rw [List.filter_cons, List.filter_cons, List.length_cons, List.sum_cons]
      by_cases c : 3 < k
      · rw [if_pos (decide_eq_true c), if_neg (by simp; omega), List.map_cons, List.sum_cons]
        omega
      · rw [if_neg (by simpa using c)]
        by_cases d : k = 2
        · rw [if_pos (decide_eq_true d), List.length_cons]
          omega
        · rw [if_neg (by simpa using d)]
          omega
  intro ks h l
  have := key ks h
  omega
theorem lot_two {ps : List Pt} {a b : Pt} (nd : ps.Nodup) (ha : a ∈ ps) (hb : b ∈ ps) (ne : a ≠ b) : 2 ≤ (lot ps a b).length := by
  obtain ⟨c, d, r, e, _⟩ := two_of (l := lot ps a b) (mem_lot.mpr ⟨ha, bd_fst _ _⟩) (mem_lot.mpr ⟨hb, bd_snd _ _⟩) ne (nd.sublist List.filter_sublist)
  rw [e, List.length_cons, List.length_cons]
  omega
/-- at least as many lots as points -/
theorem lines_many : ∀ (n : Nat) (ps : List Pt) (LS : List (List Pt)), ps.length = n → ps.Nodup → 2 ≤ ps.length → Lines ps LS → Off ps → ps.length ≤ LS.length
  | 0, ps, LS, hn, _, h2, _, _ => by omega
  | n + 1, ps, LS, hn, nd, h2, L, off => by
    have M := melchior nd h2 L off
    -- a lot of two
    have sizes : ∀ k ∈ LS.map (·.length), 2 ≤ k := fun k hk => by
      obtain ⟨l, hl, rfl⟩ := List.mem_map.mp hk
      obtain ⟨a, ha, b, hb, ne, rfl⟩ := (L.mem l).mp hl
      exact lot_two nd ha hb ne
    have T := twos _ sizes (by rw [List.length_map]; exact M)
    obtain ⟨k, hk⟩ : ∃ k, k ∈ (LS.map (·.length)).filter fun k => decide (k = 2) := by
      cases e : (LS.map (·.length)).filter fun k => decide (k = 2) with
      | nil => rw [e] at T; simp at T
      | cons k r => exact ⟨k, .head _⟩
    obtain ⟨hk1, hk2⟩ := List.mem_filter.mp hk
    obtain ⟨l, hl, el⟩ := List.mem_map.mp hk1
    have l2 : l.length = 2 := el.trans (of_decide_eq_true hk2)
    obtain ⟨a, ha, b, hb, ne, rfl⟩ := (L.mem l).mp hl
    have la : a ∈ lot ps a b := mem_lot.mpr ⟨ha, bd_fst _ _⟩
    have lb : b ∈ lot ps a b := mem_lot.mpr ⟨hb, bd_snd _ _⟩
    have only : ∀ p ∈ lot ps a b, p = a ∨ p = b := fun p hp => by
      refine Classical.byContradiction fun z => ?_
      have := pigeon (fun d e => d = e) [a, b, p] (lot ps a b) (by
        simp only [List.nodup_cons, List.mem_cons, List.not_mem_nil, or_false, not_or, List.nodup_nil, and_true, not_false_eq_true]
        exact ⟨⟨ne, fun e => z (.inl e.symm)⟩, fun e => z (.inr e.symm)⟩) (fun d hd => by
        simp only [List.mem_cons, List.not_mem_nil, or_false] at hd
        rcases hd with rfl | rfl | rfl
        · exact ⟨_, la, rfl⟩
        · exact ⟨_, lb, rfl⟩
        · exact ⟨_, hp, rfl⟩) (fun d1 _ d2 _ e h1 h2 => h1.trans h2.symm)
      rw [l2] at this
      simp only [List.length_cons, List.length_nil] at this
      omega
    let qs := ps.erase a
    have qnd : qs.Nodup := nd.erase a
    have ql : qs.length + 1 = ps.length := by
      have := List.length_erase_of_mem ha
      have p : 0 < ps.length := List.length_pos_of_mem ha
      show (ps.erase a).length + 1 = _
      omega
    have qin : ∀ q ∈ qs, q ∈ ps ∧ q ≠ a := fun q hq => ⟨List.mem_of_mem_erase hq, fun e => List.Nodup.not_mem_erase nd (e ▸ hq)⟩
    have inq : ∀ p ∈ ps, p ≠ a → p ∈ qs := fun p hp e => (List.mem_erase_of_ne e).mpr hp
    by_cases qo : Off qs
    · -- the others are not on a line
      by_cases q2 : 2 ≤ qs.length
      · obtain ⟨LQ, LQ1⟩ := lines_exist qs
        have ih := lines_many n qs LQ (by omega) qnd q2 LQ1 qo
        have sub : ∀ c d : Pt, lot qs c d = (lot ps c d).filter fun p => decide (p ≠ a) := fun c d => by
          have e : qs = ps.filter fun p => decide (p ≠ a) := by
            show ps.erase a = _
            rw [List.Nodup.erase_eq_filter nd]
            refine List.filter_congr fun p _ => ?_
            by_cases z : p = a
            · subst z; simp
            · simp [z]
          unfold lot
          rw [e, List.filter_filter, List.filter_filter]
          refine List.filter_congr fun p _ => ?_
          rw [Bool.and_comm]
        have P := pigeon (fun (d : Option (List Pt)) (e : List Pt) => match d with
            | none => e = lot ps a b
            | some m => ∃ c ∈ qs, ∃ x ∈ qs, c ≠ x ∧ m = lot qs c x ∧ e = lot ps c x) (none :: LQ.map some) LS (by
          rw [List.nodup_cons]
          refine ⟨fun m => ?_, ?_⟩
          · obtain ⟨z, _, e⟩ := List.mem_map.mp m
            cases e
          · rw [List.nodup_iff_pairwise_ne, List.pairwise_map]
            exact (List.nodup_iff_pairwise_ne.mp LQ1.nd).imp fun z e => z (Option.some.inj e)) (fun d hd => by
          cases hd with
          | head => exact ⟨_, hl, rfl⟩
          | tail _ hd =>
            obtain ⟨m, hm, rfl⟩ := List.mem_map.mp hd
            obtain ⟨c, hc, x, hx, nx, e⟩ := (LQ1.mem m).mp hm
            exact ⟨lot ps c x, (L.mem _).mpr ⟨c, (qin c hc).1, x, (qin x hx).1, nx, rfl⟩, c, hc, x, hx, nx, e, rfl⟩) (by
          have no : ∀ c x, c ∈ qs → x ∈ qs → c ≠ x → lot ps c x ≠ lot ps a b := fun c x hc hx nx e => by
            have c1 : c ∈ lot ps a b := e ▸ mem_lot.mpr ⟨(qin c hc).1, bd_fst _ _⟩
            have x1 : x ∈ lot ps a b := e ▸ mem_lot.mpr ⟨(qin x hx).1, bd_snd _ _⟩
            exact nx (((only c c1).resolve_left (qin c hc).2).trans ((only x x1).resolve_left (qin x hx).2).symm)
          intro d1 _ d2 _ e h1 h2
          cases d1 with
          | none =>
            cases d2 with
            | none => rfl
            | some m2 =>
              obtain ⟨c, hc, x, hx, nx, _, e2⟩ := h2
              exact absurd (e2.symm.trans h1) (no c x hc hx nx)
          | some m1 =>
            obtain ⟨c, hc, x, hx, nx, f1, f2⟩ := h1
            cases d2 with
            | none => exact absurd (f2.symm.trans h2) (no c x hc hx nx)
            | some m2 =>
              obtain ⟨c2, hc2, x2, hx2, nx2, g1, g2⟩ := h2
              rw [f1, g1, sub, sub, ← f2, ← g2])
        rw [List.length_cons, List.length_map] at P
        omega
      · -- two points are on a line
        have : ps.length = 2 := by omega
        obtain ⟨p, hp, z⟩ := off a ha b hb ne
        have na : p ≠ a := fun e => z (by rw [e]; exact bd_fst _ _)
        have nb : p ≠ b := fun e => z (by rw [e]; exact bd_snd _ _)
        have := pigeon (fun d e => d = e) [a, b, p] ps (by
          simp only [List.nodup_cons, List.mem_cons, List.not_mem_nil, or_false, not_or, List.nodup_nil, and_true, not_false_eq_true]
          exact ⟨⟨ne, Ne.symm na⟩, Ne.symm nb⟩) (fun d hd => by
          simp only [List.mem_cons, List.not_mem_nil, or_false] at hd
          rcases hd with rfl | rfl | rfl
          · exact ⟨_, ha, rfl⟩
          · exact ⟨_, hb, rfl⟩
          · exact ⟨_, hp, rfl⟩) (fun d1 _ d2 _ e h1 h2 => h1.trans h2.symm)
        simp only [List.length_cons, List.length_nil] at this
        omega
    · -- all others are on a line
      obtain ⟨c, hc, x, hx, nx, hall⟩ : ∃ c ∈ qs, ∃ x ∈ qs, c ≠ x ∧ ∀ p ∈ qs, bd c x p = 0 := by
        unfold Off at qo
        refine Classical.byContradiction fun z => qo fun c hc x hx nx => Classical.byContradiction fun y => z ⟨c, hc, x, hx, nx, fun p hp => Classical.byContradiction fun w => y ⟨p, hp, w⟩⟩
      have nota : a ∉ lot ps c x := fun m => by
        obtain ⟨p, hp, z⟩ := off c (qin c hc).1 x (qin x hx).1 nx
        by_cases e : p = a
        · rw [e] at z; exact z (mem_lot.mp m).2
        · exact z (hall p (inq p hp e))
      have P := pigeon (fun (d : Option Pt) (e : List Pt) => match d with
          | none => e = lot ps c x
          | some q => q ∈ qs ∧ e = lot ps a q) (none :: qs.map some) LS (by
        rw [List.nodup_cons]
        refine ⟨fun m => ?_, ?_⟩
        · obtain ⟨z, _, e⟩ := List.mem_map.mp m
          cases e
        · rw [List.nodup_iff_pairwise_ne, List.pairwise_map]
          exact (List.nodup_iff_pairwise_ne.mp qnd).imp fun z e => z (Option.some.inj e)) (fun d hd => by
        cases hd with
        | head => exact ⟨_, (L.mem _).mpr ⟨c, (qin c hc).1, x, (qin x hx).1, nx, rfl⟩, rfl⟩
        | tail _ hd =>
          obtain ⟨q, hq, rfl⟩ := List.mem_map.mp hd
          exact ⟨lot ps a q, (L.mem _).mpr ⟨a, ha, q, (qin q hq).1, (qin q hq).2.symm, rfl⟩, hq, rfl⟩) (by
        have no : ∀ q, q ∈ qs → lot ps a q ≠ lot ps c x := fun q hq e => nota (e ▸ mem_lot.mpr ⟨ha, bd_fst _ _⟩)
        intro d1 _ d2 _ e h1 h2
        cases d1 with
        | none =>
          cases d2 with
          | none => rfl
          | some q => exact absurd (h2.2.symm.trans h1) (no q h2.1)
        | some q =>
          cases d2 with
          | none => exact absurd (h1.2.symm.trans h2) (no q h1.1)
          | some q2 =>
            refine congrArg some (Classical.byContradiction fun z => ?_)
            have e3 : lot ps a q = lot ps a q2 := h1.2.symm.trans h2.2
            have m1 : q ∈ lot ps a q := mem_lot.mpr ⟨(qin q h1.1).1, bd_snd _ _⟩
            have m2 : q2 ∈ lot ps a q := by rw [e3]; exact mem_lot.mpr ⟨(qin q2 h2.1).1, bd_snd _ _⟩
            have k1 := lot_eq (qin q h1.1).2.symm z m1 m2
            have k2 := lot_eq (ps := ps) nx z (mem_lot.mpr ⟨(qin q h1.1).1, hall q h1.1⟩) (mem_lot.mpr ⟨(qin q2 h2.1).1, hall q2 h2.1⟩)
            exact nota (by rw [k2, ← k1]; exact mem_lot.mpr ⟨ha, bd_fst _ _⟩))
      rw [List.length_cons, List.length_map] at P
      omega
/-- Melchior, with sizes -/
theorem melchior_sizes {ps : List Pt} {LS : List (List Pt)} (nd : ps.Nodup) (h2 : 2 ≤ ps.length) (L : Lines ps LS) (off : Off ps) : 3 + (((LS.map (·.length)).filter fun k => decide (3 < k)).map fun k => k - 3).sum ≤ ((LS.map (·.length)).filter fun k => decide (k = 2)).length :=
  twos _ (fun k hk => by
    obtain ⟨l, hl, rfl⟩ := List.mem_map.mp hk
    obtain ⟨a, ha, b, hb, ne, rfl⟩ := (L.mem l).mp hl
    exact lot_two nd ha hb ne) (by rw [List.length_map]; exact melchior nd h2 L off)
/-! ### pairs -/
def pairs (ps : List Pt) : List (Pt × Pt) := ps.flatMap fun a => (ps.filter fun b => decide (a ≠ b)).map fun b => (a, b)
theorem mem_pairs {ps : List Pt} {d : Pt × Pt} : d ∈ pairs ps ↔ d.1 ∈ ps ∧ d.2 ∈ ps ∧ d.1 ≠ d.2 := by
  unfold pairs
  rw [List.mem_flatMap]
  constructor
  · rintro ⟨a, ha, h⟩
    obtain ⟨b, hb, rfl⟩ := List.mem_map.mp h
    obtain ⟨hb1, hb2⟩ := List.mem_filter.mp hb
    exact ⟨ha, hb1, of_decide_eq_true hb2⟩
  · rintro ⟨h1, h2, h3⟩
    exact ⟨d.1, h1, List.mem_map.mpr ⟨d.2, List.mem_filter.mpr ⟨h2, decide_eq_true h3⟩, rfl⟩⟩
theorem len_flat {α β : Type} (f : α → List β) (k : Nat) : ∀ xs : List α, (∀ x ∈ xs, (f x).length = k) → (xs.flatMap f).length = xs.length * k
  | [], _ => by simp
  | x :: xs, h => by
    rw [List.flatMap_cons, List.length_append, h x (.head _), len_flat f k xs fun z hz => h z (.tail _ hz), List.length_cons, Nat.add_mul]
    omega
theorem pairs_len {ps : List Pt} (nd : ps.Nodup) : (pairs ps).length = ps.length * (ps.length - 1) := by
  unfold pairs
  refine len_flat _ _ ps fun a ha => ?_
  have e : (ps.filter fun b => decide (a ≠ b)) = ps.erase a := by
    rw [List.Nodup.erase_eq_filter nd]
    refine List.filter_congr fun p _ => ?_
    by_cases z : a = p
    · subst z; simp
    · have : p ≠ a := Ne.symm z
      simp [z, this]
  rw [List.length_map, e, List.length_erase_of_mem ha]
theorem nodup_flat {α β : Type} {f : α → List β} : ∀ {xs : List α}, xs.Nodup → (∀ x ∈ xs, (f x).Nodup) → (∀ x ∈ xs, ∀ y ∈ xs, ∀ d, d ∈ f x → d ∈ f y → x = y) → (xs.flatMap f).Nodup
  | [], _, _, _ => List.nodup_nil
  | x :: xs, nd, h1, h2 => by
    rw [List.nodup_cons] at nd
    rw [List.flatMap_cons, List.nodup_append]
    refine ⟨h1 x (.head _), nodup_flat nd.2 (fun y hy => h1 y (.tail _ hy)) (fun y hy z hz => h2 y (.tail _ hy) z (.tail _ hz)), fun d hd e he z => ?_⟩
    subst z
    obtain ⟨y, hy, hd2⟩ := List.mem_flatMap.mp he
    have := h2 x (.head _) y (.tail _ hy) d hd hd2
    exact nd.1 (this ▸ hy)
theorem pairs_nodup {ps : List Pt} (nd : ps.Nodup) : (pairs ps).Nodup := by
  refine nodup_flat nd (fun a _ => ?_) fun a _ b _ d h1 h2 => ?_
  · rw [List.nodup_iff_pairwise_ne, List.pairwise_map]
    exact (List.nodup_iff_pairwise_ne.mp (nd.sublist List.filter_sublist)).imp fun z e => z (Prod.mk.inj e).2
  · obtain ⟨_, _, rfl⟩ := List.mem_map.mp h1
    obtain ⟨_, _, e⟩ := List.mem_map.mp h2
    exact (Prod.mk.inj e).1.symm
theorem len_flat_sum {α β : Type} (f : α → List β) (k : α → Nat) : ∀ xs : List α, (∀ x ∈ xs, (f x).length = k x) → (xs.flatMap f).length = (xs.map k).sum
  | [], _ => rfl
  | x :: xs, h => by
    rw [List.flatMap_cons, List.length_append, h x (.head _), len_flat_sum f k xs fun z hz => h z (.tail _ hz), List.map_cons, List.sum_cons]
/-- each pair lies on just one lot -/
theorem all_pairs {ps : List Pt} {LS : List (List Pt)} (nd : ps.Nodup) (L : Lines ps LS) : (LS.map fun l => l.length * (l.length - 1)).sum = ps.length * (ps.length - 1) := by
  have lotN : ∀ l ∈ LS, l.Nodup := fun l hl => by
    obtain ⟨a, ha, b, hb, ne, rfl⟩ := (L.mem l).mp hl
    exact nd.sublist List.filter_sublist
  have sub : ∀ l ∈ LS, ∀ p ∈ l, p ∈ ps := fun l hl p hp => by
    obtain ⟨a, ha, b, hb, ne, rfl⟩ := (L.mem l).mp hl
    exact (mem_lot.mp hp).1
  have tell : ∀ l ∈ LS, ∀ a ∈ l, ∀ b ∈ l, a ≠ b → l = lot ps a b := fun l hl a ha b hb ne => by
    obtain ⟨c, hc, d, hd, n2, rfl⟩ := (L.mem l).mp hl
    exact lot_eq n2 ne ha hb
  have F1 : (LS.flatMap pairs).length = (LS.map fun l => l.length * (l.length - 1)).sum := len_flat_sum pairs _ LS fun l hl => pairs_len (lotN l hl)
  have F2 : (LS.flatMap pairs).Nodup := nodup_flat L.nd (fun l hl => pairs_nodup (lotN l hl)) fun l hl m hm d h1 h2 => by
    obtain ⟨a1, a2, a3⟩ := mem_pairs.mp h1
    obtain ⟨b1, b2, b3⟩ := mem_pairs.mp h2
    exact (tell l hl _ a1 _ a2 a3).trans (tell m hm _ b1 _ b2 b3).symm
  rw [← F1, ← pairs_len nd]
  apply Nat.le_antisymm
  · exact pigeon (fun d e => d = e) _ _ F2 (fun d hd => by
      obtain ⟨l, hl, h⟩ := List.mem_flatMap.mp hd
      obtain ⟨a1, a2, a3⟩ := mem_pairs.mp h
      exact ⟨d, mem_pairs.mpr ⟨sub l hl _ a1, sub l hl _ a2, a3⟩, rfl⟩) (fun d1 _ d2 _ e h1 h2 => h1.trans h2.symm)
  · exact pigeon (fun d e => d = e) _ _ (pairs_nodup nd) (fun d hd => by
      obtain ⟨a1, a2, a3⟩ := mem_pairs.mp hd
      exact ⟨d, List.mem_flatMap.mpr ⟨lot ps d.1 d.2, (L.mem _).mpr ⟨_, a1, _, a2, a3, rfl⟩, mem_pairs.mpr ⟨mem_lot.mpr ⟨a1, bd_fst _ _⟩, mem_lot.mpr ⟨a2, bd_snd _ _⟩, a3⟩⟩, rfl⟩) (fun d1 _ d2 _ e h1 h2 => h1.trans h2.symm)
end Mel

set_option Elab.async false
set_option linter.all false
set_option maxRecDepth 100000
/-! crossings: few on a side (Lovasz, Vesztergombi, Wagner, Welzl; Abrego, Fernandez-Merchant) -/
namespace Cro
open Mel
structure GP (ps : List Pt) : Prop where
  nd : ps.Nodup
  ok : ∀ a ∈ ps, ∀ b ∈ ps, ∀ c ∈ ps, a ≠ b → a ≠ c → b ≠ c → bd a b c ≠ 0
theorem GP.sub {ps qs : List Pt} (h : GP ps) (nd : qs.Nodup) (s : ∀ q ∈ qs, q ∈ ps) : GP qs := ⟨nd, fun a ha b hb c hc => h.ok a (s a ha) b (s b hb) c (s c hc)⟩
def rt (ps : List Pt) (a b : Pt) : Nat := (ps.filter fun p => decide (bd a b p < 0)).length
def lf (ps : List Pt) (a b : Pt) : Nat := (ps.filter fun p => decide (0 < bd a b p)).length
theorem bd_rot (a b c : Pt) : bd b c a = bd a b c := by unfold bd cr df; grind
theorem bd_swap (a b c : Pt) : bd b a c = - bd a b c := by unfold bd cr df; grind
theorem lf_rt (ps : List Pt) (a b : Pt) : lf ps a b = rt ps b a := by
  unfold lf rt
  refine congrArg List.length (List.filter_congr fun p _ => decide_eq_decide.mpr ?_)
  rw [bd_swap b a p]
  omega
theorem rt_perm {ps qs : List Pt} (h : ps.Perm qs) (a b : Pt) : rt ps a b = rt qs a b := (h.filter _).length_eq
theorem rt_cons (v : Pt) (ps : List Pt) (a b : Pt) : rt (v :: ps) a b = rt ps a b + if bd a b v < 0 then 1 else 0 := by
  unfold rt
  rw [List.filter_cons]
  by_cases h : bd a b v < 0
  · rw [if_pos (decide_eq_true h), if_pos h, List.length_cons]
  · rw [if_neg (by rw [decide_eq_false h]; exact Bool.false_ne_true), if_neg h]; rfl
/-- sorted by direction -/
theorem sort_dir {α : Type} [DecidableEq α] (f : α → Pt) (u : Pt) : ∀ (n : Nat) (Q : List α), Q.length = n → Q.Nodup → (∀ a ∈ Q, 0 < cr u (f a)) → (∀ a ∈ Q, ∀ b ∈ Q, a ≠ b → cr (f a) (f b) ≠ 0) → ∃ W : List α, W.Perm Q ∧ W.Pairwise fun a b => 0 < cr (f a) (f b)
  | 0, Q, hn, _, _, _ => by
    rw [List.eq_nil_of_length_eq_zero hn]
    exact ⟨[], List.Perm.refl _, .nil⟩
  | n + 1, Q, hn, nd, hu, hc => by
    obtain ⟨v0, m0, h0⟩ := first_dir u (Q.map f) (by intro e; rw [List.map_eq_nil_iff] at e; rw [e] at hn; cases hn) fun v hv => by
      obtain ⟨a, ha, rfl⟩ := List.mem_map.mp hv
      exact hu a ha
    obtain ⟨q, hq, rfl⟩ := List.mem_map.mp m0
    have hp := List.perm_cons_erase hq
    have nd2 := hp.nodup_iff.mp nd
    have sub : ∀ a ∈ Q.erase q, a ∈ Q := fun a ha => List.mem_of_mem_erase ha
    obtain ⟨W, w1, w2⟩ := sort_dir f u n (Q.erase q) (by have := hp.length_eq; rw [List.length_cons] at this; omega) (List.nodup_cons.mp nd2).2 (fun a ha => hu a (sub a ha)) fun a ha b hb => hc a (sub a ha) b (sub b hb)
    refine ⟨q :: W, (w1.cons q).trans hp.symm, List.pairwise_cons.mpr ⟨fun a ha => ?_, w2⟩⟩
    have ha' := w1.subset ha
    have ne : q ≠ a := fun e => (List.nodup_cons.mp nd2).1 (e ▸ ha')
    have h1 := h0 (f a) (List.mem_map.mpr ⟨a, sub a ha', rfl⟩)
    have h2 := hc q hq a (sub a ha') ne
    omega
/-- the number on the right, walked through -/
theorem ivt {α : Type} (L : α → Bool) (k : Nat) : ∀ (rest pre : List α), (pre.filter L).length + (rest.filter fun x => !L x).length ≤ k → k < ((pre ++ rest).filter L).length → ∃ a q b, pre ++ rest = a ++ q :: b ∧ L q = true ∧ (a.filter L).length + (b.filter fun x => !L x).length = k
  | [], pre, h1, h2 => by
    rw [List.append_nil] at h2
    rw [List.filter_nil] at h1
    simp only [List.length_nil] at h1
    omega
  | q :: b, pre, h1, h2 => by
    have e : pre ++ q :: b = (pre ++ [q]) ++ b := by simp
    rw [List.filter_cons] at h1
    cases hq : L q with
    | true =>
      rw [hq] at h1
      have h1' : (pre.filter L).length + (b.filter fun x => !L x).length ≤ k := h1
      by_cases c : (pre.filter L).length + (b.filter fun x => !L x).length = k
      · exact ⟨pre, q, b, rfl, hq, c⟩
      · rw [e] at h2 ⊢
        refine ivt L k b (pre ++ [q]) ?_ h2
        rw [List.filter_append, List.length_append, List.filter_cons, hq]
        show (pre.filter L).length + 1 + _ ≤ k
        omega
    | false =>
      rw [hq] at h1
      have h1' : (pre.filter L).length + ((b.filter fun x => !L x).length + 1) ≤ k := h1
      rw [e] at h2 ⊢
      refine ivt L k b (pre ++ [q]) ?_ h2
      rw [List.filter_append, List.length_append, List.filter_cons, hq]
      show (pre.filter L).length + 0 + _ ≤ k
      omega
theorem len_split {α : Type} (L : α → Bool) : ∀ xs : List α, (xs.filter L).length + (xs.filter fun x => !L x).length = xs.length
  | [] => rfl
  | x :: xs => by
    have := len_split L xs
    rw [List.filter_cons, List.filter_cons, List.length_cons]
    cases L x <;> simp <;> omega
/-- around p, from the way of v onward: a point q ahead with k on the right, v on the left -/
theorem pivot {P : List Pt} {v p : Pt} {k : Nat} (gp : GP (v :: P)) (hp : p ∈ P) (h1 : rt P v p ≤ k) (h2 : k < lf P v p) : ∃ q ∈ P, p ≠ q ∧ rt P p q = k ∧ 0 < bd p q v := by
  have nd := (List.nodup_cons.mp gp.nd)
  have hvp : v ≠ p := fun e => nd.1 (e ▸ hp)
  have pe := List.perm_cons_erase hp
  have nd2 := pe.nodup_iff.mp nd.2
  generalize hQ : P.erase p = Q at pe nd2
  have inP : ∀ q ∈ Q, q ∈ P := fun q hq => pe.symm.subset (.tail _ hq)
  have nep : ∀ q ∈ Q, p ≠ q := fun q hq e => (List.nodup_cons.mp nd2).1 (e ▸ hq)
  have nev : ∀ q ∈ Q, v ≠ q := fun q hq e => nd.1 (e ▸ inP q hq)
  have off : ∀ q ∈ Q, bd v p q ≠ 0 := fun q hq => gp.ok v (.head _) p (.tail _ hp) q (.tail _ (inP q hq)) hvp (nev q hq) (nep q hq)
  let w : Pt → Pt := fun q => if 0 < bd v p q then df q p else df p q
  have e1 : ∀ q, cr (df p v) (df q p) = bd v p q := fun q => by unfold bd cr df; grind
  have e2 : ∀ q, cr (df p v) (df p q) = - bd v p q := fun q => by unfold bd cr df; grind
  obtain ⟨W, w1, w2⟩ := sort_dir w (df p v) Q.length Q rfl (List.nodup_cons.mp nd2).2 (fun q hq => by
      show 0 < cr (df p v) (if 0 < bd v p q then df q p else df p q)
      have := off q hq
      split
      · rw [e1]; assumption
      · rw [e2]; omega) fun a ha b hb ne => by
      have g := gp.ok p (.tail _ hp) a (.tail _ (inP a ha)) b (.tail _ (inP b hb)) (nep a ha) (nep b hb) ne
      have x1 : cr (df a p) (df b p) = bd p a b := rfl
      have x2 : cr (df a p) (df p b) = - bd p a b := by unfold bd cr df; grind
      have x3 : cr (df p a) (df b p) = - bd p a b := by unfold bd cr df; grind
      have x4 : cr (df p a) (df p b) = bd p a b := by unfold bd cr df; grind
      show cr (if 0 < bd v p a then df a p else df p a) (if 0 < bd v p b then df b p else df p b) ≠ 0
      split <;> split <;> (first | rw [x1] | rw [x2] | rw [x3] | rw [x4]) <;> omega
  let L : Pt → Bool := fun q => decide (0 < bd v p q)
  have pw : P.Perm (p :: W) := pe.trans (w1.symm.cons p)
  have bpp : bd v p p = 0 := bd_snd v p
  have lr : (W.filter fun x => !L x).length = rt P v p := by
    rw [rt_perm pw, rt_cons, if_neg (by omega)]
    refine congrArg List.length (List.filter_congr fun q hq => ?_)
    have := off q (w1.subset hq)
    show (!decide (0 < bd v p q)) = decide (bd v p q < 0)
    rw [← decide_not]
    exact decide_eq_decide.mpr (by omega)
  have ll : (W.filter L).length = lf P v p := by
    rw [lf_rt, rt_perm pw, rt_cons, if_neg (by rw [bd_swap]; omega)]
    refine congrArg List.length (List.filter_congr fun q hq => ?_)
    refine decide_eq_decide.mpr ?_
    rw [bd_swap v p q]
    omega
  obtain ⟨a, q, b, eW, hq, hk⟩ := ivt L k W [] (by rw [List.filter_nil, lr]; show 0 + _ ≤ k; omega) (by rw [List.nil_append, ll]; exact h2)
  rw [List.nil_append] at eW
  have hqW : q ∈ W := by rw [eW]; simp
  have hqQ := w1.subset hqW
  have hq' : 0 < bd v p q := of_decide_eq_true hq
  have wq : w q = df q p := if_pos hq'
  rw [eW, List.pairwise_append] at w2
  obtain ⟨_, w3, w4⟩ := w2
  obtain ⟨w5, _⟩ := List.pairwise_cons.mp w3
  refine ⟨q, inP q hqQ, nep q hqQ, ?_, ?_⟩
  · have ca : ∀ r ∈ a, decide (bd p q r < 0) = L r := fun r hr => by
      have g := w4 r hr q (.head _)
      have gr := off r (w1.subset (by rw [eW]; exact List.mem_append_left _ hr))
      rw [wq] at g
      refine decide_eq_decide.mpr ?_
      have g2 : 0 < cr (if 0 < bd v p r then df r p else df p r) (df q p) := g
      have y1 : cr (df r p) (df q p) = - bd p q r := by unfold bd cr df; grind
      have y2 : cr (df p r) (df q p) = bd p q r := by unfold bd cr df; grind
      by_cases c : 0 < bd v p r
      · rw [if_pos c, y1] at g2
        omega
      · rw [if_neg c, y2] at g2
        omega
    have cb : ∀ r ∈ b, decide (bd p q r < 0) = !L r := fun r hr => by
      have g := w5 r hr
      rw [wq] at g
      have gr := off r (w1.subset (by rw [eW]; exact List.mem_append_right _ (.tail _ hr)))
      show _ = !decide (0 < bd v p r)
      rw [← decide_not]
      refine decide_eq_decide.mpr ?_
      have g2 : 0 < cr (df q p) (if 0 < bd v p r then df r p else df p r) := g
      have y1 : cr (df q p) (df r p) = bd p q r := rfl
      have y2 : cr (df q p) (df p r) = - bd p q r := by unfold bd cr df; grind
      by_cases c : 0 < bd v p r
      · rw [if_pos c, y1] at g2
        omega
      · rw [if_neg c, y2] at g2
        omega
    rw [rt_perm pw, rt_cons, if_neg (by rw [bd_fst]; omega), eW]
    unfold rt
    rw [List.filter_append, List.length_append, List.filter_cons, if_neg (by rw [bd_snd]; decide), List.filter_congr ca, List.filter_congr cb]
    exact hk
  · have : bd p q v = bd v p q := bd_rot v p q
    omega
end Cro

set_option Elab.async false
set_option linter.all false
set_option maxRecDepth 100000
namespace Cro
open Mel
def E (ps : List Pt) (k : Nat) : List (Pt × Pt) := (pairs ps).filter fun d => decide (rt ps d.1 d.2 < k)
theorem mem_E {ps : List Pt} {k : Nat} {d : Pt × Pt} : d ∈ E ps k ↔ (d.1 ∈ ps ∧ d.2 ∈ ps ∧ d.1 ≠ d.2) ∧ rt ps d.1 d.2 < k := by
  unfold E
  rw [List.mem_filter, mem_pairs, decide_eq_true_iff]
theorem len_sub {α : Type} [DecidableEq α] {xs ys : List α} (nd : xs.Nodup) (h : ∀ x ∈ xs, x ∈ ys) : xs.length ≤ ys.length :=
  pigeon (fun a b => a = b) xs ys nd (fun d hd => ⟨d, h d hd, rfl⟩) fun _ _ _ _ e h1 h2 => h1.trans h2.symm
theorem choose_list {R : Pt → Pt → Prop} : ∀ xs : List Pt, (∀ p ∈ xs, ∃ q, R p q) → ∃ ds : List (Pt × Pt), ds.map Prod.fst = xs ∧ ∀ d ∈ ds, R d.1 d.2
  | [], _ => ⟨[], rfl, fun d hd => nomatch hd⟩
  | x :: xs, h => by
    obtain ⟨ds, e, hd⟩ := choose_list xs fun p hp => h p (.tail _ hp)
    obtain ⟨q, hq⟩ := h x (.head _)
    refine ⟨(x, q) :: ds, by rw [List.map_cons, e], fun d m => ?_⟩
    cases m with
    | head => exact hq
    | tail _ m => exact hd d m
theorem nodup_of_fst {ds : List (Pt × Pt)} (h : (ds.map Prod.fst).Nodup) : ds.Nodup := by
  induction ds with
  | nil => exact List.nodup_nil
  | cons d ds ih =>
    rw [List.map_cons, List.nodup_cons] at h
    exact List.nodup_cons.mpr ⟨fun m => h.1 (List.mem_map.mpr ⟨d, m, rfl⟩), ih h.2⟩
theorem nodup_map_inj {α β : Type} {f : α → β} (inj : ∀ a b, f a = f b → a = b) : ∀ {xs : List α}, xs.Nodup → (xs.map f).Nodup
  | [], _ => List.nodup_nil
  | x :: xs, h => by
    rw [List.nodup_cons] at h
    rw [List.map_cons]
    refine List.nodup_cons.mpr ⟨fun m => ?_, nodup_map_inj inj h.2⟩
    obtain ⟨y, hy, e⟩ := List.mem_map.mp m
    exact h.1 (inj _ _ e ▸ hy)
theorem filter_none {α : Type} {p : α → Bool} : ∀ {xs : List α}, (∀ x ∈ xs, p x = false) → (xs.filter p).length = 0
  | [], _ => rfl
  | x :: xs, h => by
    rw [List.filter_cons, if_neg (by rw [h x (.head _)]; decide)]
    exact filter_none fun y hy => h y (.tail _ hy)
theorem filter_all {α : Type} {p : α → Bool} : ∀ {xs : List α}, (∀ x ∈ xs, p x = true) → (xs.filter p).length = xs.length
  | [], _ => rfl
  | x :: xs, h => by
    rw [List.filter_cons, if_pos (h x (.head _)), List.length_cons, List.length_cons, filter_all fun y hy => h y (.tail _ hy)]
theorem split_rt {v p : Pt} {P x y : List Pt} (pe : P.Perm (x ++ p :: y)) (pw : (x ++ p :: y).Pairwise fun a c => 0 < bd v a c) : rt P v p = x.length ∧ lf P v p = y.length := by
  rw [List.pairwise_append] at pw
  obtain ⟨_, w3, w4⟩ := pw
  obtain ⟨w5, _⟩ := List.pairwise_cons.mp w3
  have bpp : bd v p p = 0 := bd_snd v p
  have hx : ∀ q ∈ x, bd v p q < 0 := fun q hq => by
    have := w4 q hq p (.head _)
    have e : bd v q p = - bd v p q := by unfold bd cr df; grind
    omega
  have hy : ∀ q ∈ y, 0 < bd v p q := w5
  constructor
  · unfold rt
    rw [(pe.filter _).length_eq, List.filter_append, List.length_append, List.filter_cons, if_neg (by rw [bpp]; decide), filter_all fun q hq => decide_eq_true (hx q hq), filter_none fun q hq => decide_eq_false (by have := hy q hq; omega)]
    rfl
  · unfold lf
    rw [(pe.filter _).length_eq, List.filter_append, List.length_append, List.filter_cons, if_neg (by rw [bpp]; decide), filter_none fun q hq => decide_eq_false (by have := hx q hq; omega), filter_all fun q hq => decide_eq_true (hy q hq)]
    exact Nat.zero_add _
theorem few : ∀ (k : Nat) (ps : List Pt), GP ps → 2 * k < ps.length → 3 * (k * (k + 1)) ≤ 2 * (E ps k).length
  | 0, _, _, _ => by omega
  | k + 1, ps, gp, hk => by
    obtain ⟨v, b, hv, hb, ne, hs⟩ := supp_first gp.nd (by omega)
    have pe := List.perm_cons_erase hv
    have nd2 := pe.nodup_iff.mp gp.nd
    generalize hP : ps.erase v = P at pe nd2
    have lP : P.length + 1 = ps.length := by rw [pe.length_eq]; rfl
    have inP : ∀ q ∈ P, q ∈ ps := fun q hq => pe.symm.subset (.tail _ hq)
    have vP : v ∉ P := (List.nodup_cons.mp nd2).1
    have gpv : GP (v :: P) := gp.sub nd2 fun q hq => pe.symm.subset hq
    have gpP : GP P := gp.sub (List.nodup_cons.mp nd2).2 inP
    have hbP : b ∈ P := by
      rcases List.mem_cons.mp (pe.subset hb) with e | h
      · exact absurd e.symm ne
      · exact h
    have pb := List.perm_cons_erase hbP
    have nd3 := pb.nodup_iff.mp gpP.nd
    obtain ⟨W, w1, w2⟩ := sort_dir (fun q => df q v) (df b v) (P.erase b).length (P.erase b) rfl (List.nodup_cons.mp nd3).2 (fun q hq => by
        have hqP : q ∈ P := List.mem_of_mem_erase hq
        have h0 := hs q (inP q hqP)
        have h1 := gpv.ok v (.head _) b (.tail _ hbP) q (.tail _ hqP) ne (fun e => vP (e ▸ hqP)) (fun e => (List.nodup_cons.mp nd3).1 (e ▸ hq))
        have e : cr (df b v) (df q v) = bd v b q := rfl
        omega) fun a ha c hc nac => by
        have haP : a ∈ P := List.mem_of_mem_erase ha
        have hcP : c ∈ P := List.mem_of_mem_erase hc
        exact gpv.ok v (.head _) a (.tail _ haP) c (.tail _ hcP) (fun e => vP (e ▸ haP)) (fun e => vP (e ▸ hcP)) nac
    have sp : P.Perm (b :: W) := pb.trans (w1.symm.cons b)
    have spw : (b :: W).Pairwise fun a c => 0 < bd v a c := List.pairwise_cons.mpr ⟨fun q hq => by
        have hq2 := w1.subset hq
        have hqP : q ∈ P := List.mem_of_mem_erase hq2
        have h0 := hs q (inP q hqP)
        have h1 := gpv.ok v (.head _) b (.tail _ hbP) q (.tail _ hqP) ne (fun e => vP (e ▸ hqP)) (fun e => (List.nodup_cons.mp nd3).1 (e ▸ hq2))
        omega, w2⟩
    generalize (b :: W) = s at sp spw
    have ls : s.length = P.length := sp.length_eq.symm
    have nds : s.Nodup := sp.nodup_iff.mp gpP.nd
    have at_ : ∀ i (hi : i < s.length), rt P v s[i] = i ∧ lf P v s[i] = s.length - 1 - i := fun i hi => by
      have e : s = s.take i ++ s[i] :: s.drop (i + 1) := by rw [List.getElem_cons_drop]; exact (List.take_append_drop i s).symm
      have q := split_rt (v := v) (p := s[i]) (P := P) (x := s.take i) (y := s.drop (i + 1)) (by rw [← e]; exact sp) (by rw [← e]; exact spw)
      rw [List.length_take, List.length_drop] at q
      exact ⟨by omega, by omega⟩
    have rtp : ∀ a c, rt ps a c = rt P a c + if bd a c v < 0 then 1 else 0 := fun a c => by rw [rt_perm pe, rt_cons]
    have tk : ∀ p ∈ s.take (k + 1), p ∈ P ∧ rt P v p ≤ k ∧ k < lf P v p := fun p hp => by
      obtain ⟨i, hi, e⟩ := List.mem_iff_getElem.mp hp
      rw [List.length_take] at hi
      rw [List.getElem_take] at e
      have z := at_ i (by omega)
      rw [e] at z
      exact ⟨sp.symm.subset (e ▸ List.getElem_mem _), by omega, by omega⟩
    have dr : ∀ p ∈ s.drop (s.length - (k + 1)), p ∈ P ∧ lf P v p ≤ k := fun p hp => by
      obtain ⟨i, hi, e⟩ := List.mem_iff_getElem.mp hp
      rw [List.length_drop] at hi
      rw [List.getElem_drop] at e
      have z := at_ (s.length - (k + 1) + i) (by omega)
      rw [e] at z
      exact ⟨sp.symm.subset (e ▸ List.getElem_mem _), by omega⟩
    obtain ⟨B, b1, b2⟩ := choose_list (R := fun p q => p ∈ P ∧ q ∈ P ∧ p ≠ q ∧ rt P p q = k ∧ 0 < bd p q v) (s.take (k + 1)) fun p hp => by
      obtain ⟨z1, z2, z3⟩ := tk p hp
      obtain ⟨q, q1, q2, q3, q4⟩ := pivot gpv z1 z2 z3
      exact ⟨q, z1, q1, q2, q3, q4⟩
    have lB : B.length = k + 1 := by
      rw [← List.length_map (as := B) (f := Prod.fst), b1, List.length_take]
      omega
    have nB : B.Nodup := nodup_of_fst (by rw [b1]; exact nds.sublist (List.take_sublist _ _))
    have ih := few k P gpP (by omega)
    have nA : (E P k).Nodup := (pairs_nodup gpP.nd).sublist List.filter_sublist
    have nC : ((s.take (k + 1)).map fun p => (v, p)).Nodup := nodup_map_inj (fun a c e => (Prod.mk.inj e).2) (nds.sublist (List.take_sublist _ _))
    have nD : ((s.drop (s.length - (k + 1))).map fun p => (p, v)).Nodup := nodup_map_inj (fun a c e => (Prod.mk.inj e).1) (nds.sublist (List.drop_sublist _ _))
    have bvv : ∀ p, bd v p v = 0 := fun p => bd_fst v p
    have bpv : ∀ p, bd p v v = 0 := fun p => bd_snd p v
    have all := len_sub (xs := E P k ++ (B ++ (((s.take (k + 1)).map fun p => (v, p)) ++ ((s.drop (s.length - (k + 1))).map fun p => (p, v))))) (ys := E ps (k + 1)) (by
      rw [List.nodup_append, List.nodup_append, List.nodup_append]
      refine ⟨nA, ⟨nB, ⟨nC, nD, ?_⟩, ?_⟩, ?_⟩
      · intro x hx y hy e
        obtain ⟨p, hp, rfl⟩ := List.mem_map.mp hx
        obtain ⟨q, hq, rfl⟩ := List.mem_map.mp hy
        exact vP ((Prod.mk.inj e).1 ▸ (dr q hq).1)
      · intro x hx y hy e
        subst e
        obtain ⟨z1, z2, _⟩ := b2 x hx
        rcases List.mem_append.mp hy with h | h
        · obtain ⟨p, hp, rfl⟩ := List.mem_map.mp h
          exact vP z1
        · obtain ⟨p, hp, rfl⟩ := List.mem_map.mp h
          exact vP z2
      · intro x hx y hy e
        subst e
        obtain ⟨⟨z1, z2, _⟩, z3⟩ := mem_E.mp hx
        rcases List.mem_append.mp hy with h | h
        · obtain ⟨_, _, _, z4, _⟩ := b2 x h
          omega
        · rcases List.mem_append.mp h with h | h
          · obtain ⟨p, hp, rfl⟩ := List.mem_map.mp h
            exact vP z1
          · obtain ⟨p, hp, rfl⟩ := List.mem_map.mp h
            exact vP z2) (by
      intro x hx
      rw [mem_E]
      rcases List.mem_append.mp hx with h | h
      · obtain ⟨⟨z1, z2, z3⟩, z4⟩ := mem_E.mp h
        refine ⟨⟨inP _ z1, inP _ z2, z3⟩, ?_⟩
        rw [rtp]
        split <;> omega
      · rcases List.mem_append.mp h with h | h
        · obtain ⟨z1, z2, z3, z4, z5⟩ := b2 x h
          refine ⟨⟨inP _ z1, inP _ z2, z3⟩, ?_⟩
          rw [rtp, if_neg (by omega)]
          omega
        · rcases List.mem_append.mp h with h | h
          · obtain ⟨p, hp, rfl⟩ := List.mem_map.mp h
            obtain ⟨z1, z2, _⟩ := tk p hp
            refine ⟨⟨hv, inP _ z1, fun e => vP ((show v = p from e) ▸ z1)⟩, ?_⟩
            show rt ps v p < k + 1
            rw [rtp, if_neg (by rw [bvv]; omega)]
            omega
          · obtain ⟨p, hp, rfl⟩ := List.mem_map.mp h
            obtain ⟨z1, z2⟩ := dr p hp
            refine ⟨⟨inP _ z1, hv, fun e => vP ((show p = v from e) ▸ z1)⟩, ?_⟩
            show rt ps p v < k + 1
            rw [rtp, if_neg (by rw [bpv]; omega), ← lf_rt]
            omega)
    rw [List.length_append, List.length_append, List.length_append, List.length_map, List.length_map, List.length_take, List.length_drop, lB] at all
    have e : (k + 1) * (k + 1 + 1) = k * (k + 1) + 2 * (k + 1) := by grind
    rw [e]
    omega
end Cro

set_option Elab.async false
set_option linter.all false
set_option maxRecDepth 100000
set_option maxHeartbeats 4000000
/-! three times all fours, less what lies on both sides of each pair -/
namespace Cro
open Mel
def sm {α : Type} (xs : List α) (f : α → Int) : Int := (xs.map f).sum
theorem sm_cons {α : Type} (x : α) (xs : List α) (f : α → Int) : sm (x :: xs) f = f x + sm xs f := by unfold sm; rw [List.map_cons, List.sum_cons]
theorem sm_nil {α : Type} (f : α → Int) : sm [] f = 0 := rfl
theorem sm_congr {α : Type} {xs : List α} {f g : α → Int} (h : ∀ x ∈ xs, f x = g x) : sm xs f = sm xs g := by
  unfold sm
  rw [List.map_congr_left h]
theorem sm_add {α : Type} (f g : α → Int) : ∀ xs : List α, sm xs (fun x => f x + g x) = sm xs f + sm xs g
  | [] => rfl
  | x :: xs => by rw [sm_cons, sm_cons, sm_cons, sm_add f g xs]; omega
theorem sm_mul {α : Type} (c : Int) (f : α → Int) : ∀ xs : List α, sm xs (fun x => c * f x) = c * sm xs f
  | [] => by rw [sm_nil, sm_nil, Int.mul_zero]
  | x :: xs => by rw [sm_cons, sm_cons, sm_mul c f xs, Int.mul_add]
theorem sm_zero {α : Type} {f : α → Int} {xs : List α} (h : ∀ x ∈ xs, f x = 0) : sm xs f = 0 := by
  induction xs with
  | nil => rfl
  | cons x xs ih => rw [sm_cons, h x (.head _), ih fun y hy => h y (.tail _ hy)]; rfl
theorem sm_app {α : Type} (f : α → Int) : ∀ xs ys : List α, sm (xs ++ ys) f = sm xs f + sm ys f
  | [], ys => by rw [List.nil_append, sm_nil]; omega
  | x :: xs, ys => by rw [List.cons_append, sm_cons, sm_cons, sm_app f xs ys]; omega
theorem sm_map {α β : Type} (g : β → α) (f : α → Int) (xs : List β) : sm (xs.map g) f = sm xs fun x => f (g x) := by
  unfold sm
  rw [List.map_map]
  rfl
theorem sm_swap {α β : Type} (f : α → β → Int) (ys : List β) : ∀ xs : List α, sm xs (fun x => sm ys (f x)) = sm ys fun y => sm xs fun x => f x y
  | [] => by rw [sm_nil]; exact (sm_zero fun _ _ => rfl).symm
  | x :: xs => by
    rw [sm_cons, sm_swap f ys xs, ← sm_add]
    exact sm_congr fun y _ => (sm_cons x xs fun x => f x y).symm
theorem sm_const {α : Type} (c : Int) : ∀ xs : List α, sm xs (fun _ => c) = (xs.length : Int) * c
  | [] => by rw [sm_nil]; simp
  | x :: xs => by rw [sm_cons, sm_const c xs, List.length_cons]; grind
theorem sm_count {α : Type} (p : α → Bool) : ∀ xs : List α, sm xs (fun x => if p x = true then 1 else 0) = (xs.filter p).length
  | [] => rfl
  | x :: xs => by
    rw [sm_cons, sm_count p xs, List.filter_cons]
    split <;> simp <;> omega
/-- pairs of a list, the earlier one first -/
def prs {α : Type} : List α → List (α × α)
  | [] => []
  | x :: xs => xs.map (fun y => (x, y)) ++ prs xs
theorem sm_prs {α : Type} {f : α → α → Int} : ∀ xs : List α, (∀ x ∈ xs, ∀ y ∈ xs, f x y = f y x) → (∀ x ∈ xs, f x x = 0) → sm xs (fun x => sm xs (f x)) = 2 * sm (prs xs) fun d => f d.1 d.2
  | [], _, _ => rfl
  | x :: xs, h, h0 => by
    have ih := sm_prs xs (fun a ha b hb => h a (.tail _ ha) b (.tail _ hb)) fun a ha => h0 a (.tail _ ha)
    rw [prs, sm_app, sm_map, sm_cons, sm_cons, h0 x (.head _)]
    have e : sm xs (fun y => sm (x :: xs) (f y)) = sm xs (f x) + sm xs fun y => sm xs (f y) := by
      rw [← sm_add]
      exact sm_congr fun y hy => by rw [sm_cons, h y (.tail _ hy) x (.head _)]
    rw [e, ih]
    have e2 : sm xs (fun y => f (x, y).1 (x, y).2) = sm xs (f x) := rfl
    rw [e2]
    omega
abbrev F4 := Pt → Pt → Pt → Pt → Int
def S4 (ps : List Pt) (f : F4) : Int := sm ps fun a => sm ps fun b => sm ps fun c => sm ps fun d => f a b c d
theorem S4_add (ps : List Pt) (f g : F4) : S4 ps (fun a b c d => f a b c d + g a b c d) = S4 ps f + S4 ps g := by
  unfold S4
  simp only [sm_add]
theorem S4_congr {ps : List Pt} {f g : F4} (h : ∀ a ∈ ps, ∀ b ∈ ps, ∀ c ∈ ps, ∀ d ∈ ps, f a b c d = g a b c d) : S4 ps f = S4 ps g :=
  sm_congr fun a ha => sm_congr fun b hb => sm_congr fun c hc => sm_congr fun d hd => h a ha b hb c hc d hd
theorem S4_12 (ps : List Pt) (f : F4) : S4 ps (fun a b c d => f b a c d) = S4 ps f := sm_swap (fun a b => sm ps fun c => sm ps fun d => f b a c d) ps ps
theorem S4_23 (ps : List Pt) (f : F4) : S4 ps (fun a b c d => f a c b d) = S4 ps f := sm_congr fun a _ => sm_swap (fun b c => sm ps fun d => f a c b d) ps ps
theorem S4_34 (ps : List Pt) (f : F4) : S4 ps (fun a b c d => f a b d c) = S4 ps f := sm_congr fun a _ => sm_congr fun b _ => sm_swap (fun c d => f a b d c) ps ps
def eqI (a b : Pt) : Int := if a = b then 1 else 0
/-- four that are unlike -/
def D4 (a b c d : Pt) : Int := (1 - eqI a b) * ((1 - eqI a c - eqI b c) * (1 - eqI a d - eqI b d - eqI c d))
theorem sm_eq {ps : List Pt} (nd : ps.Nodup) {a : Pt} (h : a ∈ ps) : sm ps (eqI a) = 1 := by
  induction ps with
  | nil => cases h
  | cons p ps ih =>
    rw [List.nodup_cons] at nd
    rw [sm_cons]
    by_cases e : a = p
    · subst e
      have z : sm ps (eqI a) = 0 := sm_zero fun x hx => if_neg fun (e : a = x) => nd.1 (e ▸ hx)
      rw [z]
      unfold eqI
      rw [if_pos rfl]
      rfl
    · have m : a ∈ ps := by
        cases h with
        | head => exact absurd rfl e
        | tail _ h => exact h
      rw [ih nd.2 m]
      unfold eqI
      rw [if_neg e]
      rfl
theorem sm_sub {α : Type} (f g : α → Int) (xs : List α) : sm xs (fun x => f x - g x) = sm xs f - sm xs g := by
  have e : (fun x => f x - g x) = fun x => f x + (-1) * g x := funext fun x => by omega
  rw [e, sm_add, sm_mul]
  omega
theorem S4_D4 {ps : List Pt} (nd : ps.Nodup) : S4 ps D4 = (ps.length : Int) * ((ps.length : Int) - 1) * ((ps.length : Int) - 2) * ((ps.length : Int) - 3) := by
  have h1 : ∀ a ∈ ps, ∀ b ∈ ps, ∀ c ∈ ps, sm ps (fun d => D4 a b c d) = (1 - eqI a b) * ((1 - eqI a c - eqI b c) * ((ps.length : Int) - 3)) := fun a ha b hb c hc => by
    unfold D4
    rw [sm_mul, sm_mul]
    have e : sm ps (fun d => 1 - eqI a d - eqI b d - eqI c d) = (ps.length : Int) - 3 := by
      rw [sm_sub, sm_sub, sm_sub, sm_const, sm_eq nd ha, sm_eq nd hb, sm_eq nd hc]
      omega
    rw [e]
  have h2 : ∀ a ∈ ps, ∀ b ∈ ps, sm ps (fun c => sm ps fun d => D4 a b c d) = (1 - eqI a b) * (((ps.length : Int) - 2) * ((ps.length : Int) - 3)) := fun a ha b hb => by
    rw [sm_congr fun c hc => h1 a ha b hb c hc, sm_mul]
    have e : sm ps (fun c => (1 - eqI a c - eqI b c) * ((ps.length : Int) - 3)) = ((ps.length : Int) - 2) * ((ps.length : Int) - 3) := by
      have e1 : sm ps (fun c => (1 - eqI a c - eqI b c) * ((ps.length : Int) - 3)) = sm ps fun c => ((ps.length : Int) - 3) * (1 - eqI a c - eqI b c) := sm_congr fun c _ => Int.mul_comm _ _
      rw [e1, sm_mul, sm_sub, sm_sub, sm_const, sm_eq nd ha, sm_eq nd hb]
      grind
    rw [e]
  have h3 : ∀ a ∈ ps, sm ps (fun b => sm ps fun c => sm ps fun d => D4 a b c d) = ((ps.length : Int) - 1) * (((ps.length : Int) - 2) * ((ps.length : Int) - 3)) := fun a ha => by
    rw [sm_congr fun b hb => h2 a ha b hb]
    have e1 : sm ps (fun b => (1 - eqI a b) * (((ps.length : Int) - 2) * ((ps.length : Int) - 3))) = sm ps fun b => (((ps.length : Int) - 2) * ((ps.length : Int) - 3)) * (1 - eqI a b) := sm_congr fun c _ => Int.mul_comm _ _
    rw [e1, sm_mul, sm_sub, sm_const, sm_eq nd ha]
    grind
  unfold S4
  rw [sm_congr fun a ha => h3 a ha, sm_const]
  grind
end Cro

set_option Elab.async false
set_option linter.all false
set_option maxRecDepth 100000
set_option maxHeartbeats 4000000
namespace Cro
open Mel
def crossed (a b c d : Pt) : Bool := decide (bd a b c * bd a b d < 0) && decide (bd c d a * bd c d b < 0)
def bi (b : Bool) : Int := if b = true then 1 else 0
def X4 (a b c d : Pt) : Int := bi (crossed a b c d)
def Sp (a b c d : Pt) : Int := bi (decide (0 < bd a b c) && decide (bd a b d < 0))
theorem bd_aa (a c : Pt) : bd a a c = 0 := by unfold bd cr df; grind
theorem no_both (t : Int) : (decide (0 < t) && decide (t < 0)) = false := by
  rw [Bool.and_eq_false_iff, decide_eq_false_iff_not, decide_eq_false_iff_not]
  omega
theorem mul_sg {p q : Int} (hp : p ≠ 0) (hq : q ≠ 0) : decide (p * q < 0) = (decide (0 < p) != decide (0 < q)) := by
  rcases Int.lt_or_gt_of_ne hp with h | h <;> rcases Int.lt_or_gt_of_ne hq with k | k
  · have := Int.mul_pos_of_neg_of_neg h k
    rw [decide_eq_false (by omega), decide_eq_false (by omega), decide_eq_false (by omega)]; rfl
  · have := Int.mul_neg_of_neg_of_pos h k
    rw [decide_eq_true (by omega), decide_eq_false (by omega), decide_eq_true (by omega)]; rfl
  · have := Int.mul_neg_of_pos_of_neg h k
    rw [decide_eq_true (by omega), decide_eq_true (by omega), decide_eq_false (by omega)]; rfl
  · have := Int.mul_pos h k
    rw [decide_eq_false (by omega), decide_eq_true (by omega), decide_eq_true (by omega)]; rfl
theorem neg_sg {p : Int} (hp : p ≠ 0) : decide (p < 0) = !decide (0 < p) := by
  rw [← decide_not]
  exact decide_eq_decide.mpr (by omega)
theorem opp_sg {p : Int} (hp : p ≠ 0) : decide (0 < -p) = !decide (0 < p) := by
  rw [← decide_not]
  exact decide_eq_decide.mpr (by omega)
theorem nn_sg (p : Int) : decide (-p < 0) = decide (0 < p) := decide_eq_decide.mpr (by omega)
def P12 (a b c d : Pt) : Int := X4 a b c d + X4 a c b d + X4 a d b c + Sp a b c d + Sp a b d c + Sp a c b d + Sp a c d b + Sp a d b c + Sp a d c b + Sp b c a d + Sp b c d a + Sp b d a c + Sp b d c a + Sp c d a b + Sp c d b a
theorem bools : ∀ W Z Y X : Bool, ¬ (X = true ∧ Z = true ∧ Y = false ∧ W = false) → ¬ (X = false ∧ Z = false ∧ Y = true ∧ W = true) →
    bi ((W != Z) && (Y != X)) + bi (((!W) != Y) && (Z != !X)) + bi (((!Z) != !Y) && (W != X)) + bi (W && !Z) + bi (Z && !W) + bi ((!W) && !Y) + bi (Y && W) + bi ((!Z) && Y) + bi ((!Y) && Z) + bi (W && !X) + bi (X && !W) + bi (Z && X) + bi ((!X) && !Z) + bi (Y && !X) + bi (X && !Y) = 3 := by decide
theorem point_ne {ps : List Pt} (gp : GP ps) {a b c d : Pt} (ha : a ∈ ps) (hb : b ∈ ps) (hc : c ∈ ps) (hd : d ∈ ps) (ab : a ≠ b) (ac : a ≠ c) (ad : a ≠ d) (bc : b ≠ c) (bd' : b ≠ d) (cd : c ≠ d) : P12 a b c d = 3 := by
  have hw := gp.ok a ha b hb c hc ab ac bc
  have hz := gp.ok a ha b hb d hd ab ad bd'
  have hy := gp.ok a ha c hc d hd ac ad cd
  have hx := gp.ok b hb c hc d hd bc bd' cd
  have id4 : bd b c d - bd a c d + bd a b d - bd a b c = 0 := by unfold bd cr df; grind
  have e1 : bd a c b = - bd a b c := by unfold bd cr df; grind
  have e2 : bd a d b = - bd a b d := by unfold bd cr df; grind
  have e3 : bd a d c = - bd a c d := by unfold bd cr df; grind
  have e4 : bd b c a = bd a b c := by unfold bd cr df; grind
  have e5 : bd b d a = bd a b d := by unfold bd cr df; grind
  have e6 : bd b d c = - bd b c d := by unfold bd cr df; grind
  have e7 : bd c d a = bd a c d := by unfold bd cr df; grind
  have e8 : bd c d b = bd b c d := by unfold bd cr df; grind
  have nw : - bd a b c ≠ 0 := by omega
  have nz : - bd a b d ≠ 0 := by omega
  have ny : - bd a c d ≠ 0 := by omega
  have nx : - bd b c d ≠ 0 := by omega
  unfold P12 X4 Sp crossed
  rw [e1, e2, e3, e4, e5, e6, e7, e8]
  generalize bd a b c = w at *
  generalize bd a b d = z at *
  generalize bd a c d = y at *
  generalize bd b c d = x at *
  rw [mul_sg hw hz, mul_sg hy hx, mul_sg nw hy, mul_sg hz nx, mul_sg nz ny, mul_sg hw hx]
  simp only [opp_sg hw, opp_sg hz, opp_sg hy, opp_sg hx, nn_sg, neg_sg hw, neg_sg hz, neg_sg hy, neg_sg hx]
  have k := bools (decide (0 < w)) (decide (0 < z)) (decide (0 < y)) (decide (0 < x)) (by
    rintro ⟨h1, h2, h3, h4⟩
    have := of_decide_eq_true h1
    have := of_decide_eq_true h2
    have := of_decide_eq_false h3
    have := of_decide_eq_false h4
    omega) (by
    rintro ⟨h1, h2, h3, h4⟩
    have := of_decide_eq_false h1
    have := of_decide_eq_false h2
    have := of_decide_eq_true h3
    have := of_decide_eq_true h4
    omega)
  exact k
theorem X4_0 {a b c d : Pt} (h : a = b ∨ a = c ∨ a = d ∨ b = c ∨ b = d ∨ c = d) : X4 a b c d = 0 := by
  unfold X4 crossed
  rcases h with rfl | rfl | rfl | rfl | rfl | rfl <;> simp [bd_aa, bd_fst, bd_snd, bi]
theorem Sp_0 {a b c d : Pt} (h : a = b ∨ a = c ∨ a = d ∨ b = c ∨ b = d ∨ c = d) : Sp a b c d = 0 := by
  unfold Sp
  rcases h with rfl | rfl | rfl | rfl | rfl | rfl
  · simp [bd_aa, bi]
  · simp [bd_fst, bi]
  · simp [bd_fst, bi]
  · simp [bd_snd, bi]
  · simp [bd_snd, bi]
  · rw [no_both]; rfl
theorem D4_0 {a b c d : Pt} (h : a = b ∨ a = c ∨ a = d ∨ b = c ∨ b = d ∨ c = d) : D4 a b c d = 0 := by
  unfold D4
  by_cases ab : a = b
  · simp [eqI, ab]
  by_cases ac : a = c
  · subst ac; simp [eqI, ab, Ne.symm ab]
  by_cases bc : b = c
  · subst bc; simp [eqI, ab]
  rcases h with h | h | h | h | h | h
  · exact absurd h ab
  · exact absurd h ac
  · subst h; simp [eqI, ab, ac, Ne.symm ab, Ne.symm ac]
  · exact absurd h bc
  · subst h; simp [eqI, ab, ac, bc, Ne.symm bc]
  · subst h; simp [eqI, ab, ac, bc]
theorem D4_1 {a b c d : Pt} (ab : a ≠ b) (ac : a ≠ c) (ad : a ≠ d) (bc : b ≠ c) (bd' : b ≠ d) (cd : c ≠ d) : D4 a b c d = 1 := by
  unfold D4 eqI
  simp [ab, ac, ad, bc, bd', cd]
theorem point {ps : List Pt} (gp : GP ps) : ∀ a ∈ ps, ∀ b ∈ ps, ∀ c ∈ ps, ∀ d ∈ ps, P12 a b c d = 3 * D4 a b c d := fun a ha b hb c hc d hd => by
  by_cases h : a = b ∨ a = c ∨ a = d ∨ b = c ∨ b = d ∨ c = d
  · rw [D4_0 h]
    unfold P12
    rw [X4_0 h, X4_0 (a := a) (b := c) (c := b) (d := d) (by grind), X4_0 (a := a) (b := d) (c := b) (d := c) (by grind), Sp_0 h]
    rw [Sp_0 (a := a) (b := b) (c := d) (d := c) (by grind), Sp_0 (a := a) (b := c) (c := b) (d := d) (by grind), Sp_0 (a := a) (b := c) (c := d) (d := b) (by grind), Sp_0 (a := a) (b := d) (c := b) (d := c) (by grind), Sp_0 (a := a) (b := d) (c := c) (d := b) (by grind)]
    rw [Sp_0 (a := b) (b := c) (c := a) (d := d) (by grind), Sp_0 (a := b) (b := c) (c := d) (d := a) (by grind), Sp_0 (a := b) (b := d) (c := a) (d := c) (by grind), Sp_0 (a := b) (b := d) (c := c) (d := a) (by grind), Sp_0 (a := c) (b := d) (c := a) (d := b) (by grind), Sp_0 (a := c) (b := d) (c := b) (d := a) (by grind)]
    rfl
  · have h' : a ≠ b ∧ a ≠ c ∧ a ≠ d ∧ b ≠ c ∧ b ≠ d ∧ c ≠ d := by grind
    obtain ⟨h1, h2, h3, h4, h5, h6⟩ := h'
    rw [point_ne gp ha hb hc hd h1 h2 h3 h4 h5 h6, D4_1 h1 h2 h3 h4 h5 h6]
    rfl
section
variable (ps : List Pt) (f : F4)
theorem p34 : S4 ps (fun a b c d => f a b d c) = S4 ps f := S4_34 ps f
theorem p_acbd : S4 ps (fun a b c d => f a c b d) = S4 ps f := S4_23 ps f
theorem p_acdb : S4 ps (fun a b c d => f a c d b) = S4 ps f := (S4_23 ps fun a b c d => f a b d c).trans (S4_34 ps f)
theorem p_adcb : S4 ps (fun a b c d => f a d c b) = S4 ps f := (S4_34 ps fun a b c d => f a c d b).trans (p_acdb ps f)
theorem p_adbc : S4 ps (fun a b c d => f a d b c) = S4 ps f := (S4_23 ps fun a b c d => f a d c b).trans (p_adcb ps f)
theorem p_bcad : S4 ps (fun a b c d => f b c a d) = S4 ps f := (S4_12 ps fun a b c d => f a c b d).trans (p_acbd ps f)
theorem p_bcda : S4 ps (fun a b c d => f b c d a) = S4 ps f := (S4_12 ps fun a b c d => f a c d b).trans (p_acdb ps f)
theorem p_bdac : S4 ps (fun a b c d => f b d a c) = S4 ps f := (S4_12 ps fun a b c d => f a d b c).trans (p_adbc ps f)
theorem p_bdca : S4 ps (fun a b c d => f b d c a) = S4 ps f := (S4_12 ps fun a b c d => f a d c b).trans (p_adcb ps f)
theorem p_cdab : S4 ps (fun a b c d => f c d a b) = S4 ps f := (S4_23 ps fun a b c d => f b d a c).trans (p_bdac ps f)
theorem p_cdba : S4 ps (fun a b c d => f c d b a) = S4 ps f := (S4_23 ps fun a b c d => f b d c a).trans (p_bdca ps f)
end
theorem S4_P12 (ps : List Pt) : S4 ps P12 = 3 * S4 ps X4 + 12 * S4 ps Sp := by
  unfold P12
  rw [S4_add, S4_add, S4_add, S4_add, S4_add, S4_add, S4_add, S4_add, S4_add, S4_add, S4_add, S4_add, S4_add, S4_add]
  rw [p_acbd ps X4, p_adbc ps X4, p34 ps Sp, p_acbd ps Sp, p_acdb ps Sp, p_adbc ps Sp, p_adcb ps Sp, p_bcad ps Sp, p_bcda ps Sp, p_bdac ps Sp, p_bdca ps Sp, p_cdab ps Sp, p_cdba ps Sp]
  have e1 : S4 ps (fun a b c d => X4 a b c d) = S4 ps X4 := rfl
  have e2 : S4 ps (fun a b c d => Sp a b c d) = S4 ps Sp := rfl
  rw [e1, e2]
  omega
theorem S4_mul (c : Int) (ps : List Pt) (f : F4) : S4 ps (fun a b d e => c * f a b d e) = c * S4 ps f := by
  unfold S4
  simp only [sm_mul]
theorem crossed_12 (a b c d : Pt) : crossed b a c d = crossed a b c d := by
  unfold crossed
  rw [bd_swap a b c, bd_swap a b d, Int.neg_mul_neg, Int.mul_comm (bd c d b)]
theorem crossed_34 (a b c d : Pt) : crossed a b d c = crossed a b c d := by
  unfold crossed
  rw [bd_swap c d a, bd_swap c d b, Int.neg_mul_neg, Int.mul_comm (bd a b d)]
theorem crossed_pp (a b c d : Pt) : crossed c d a b = crossed a b c d := by
  unfold crossed
  rw [Bool.and_comm]
theorem S4_X4 (ps : List Pt) : S4 ps X4 = 8 * sm (prs (prs ps)) fun q => X4 q.1.1 q.1.2 q.2.1 q.2.2 := by
  have h1 : ∀ a b, sm ps (fun c => sm ps (X4 a b c)) = 2 * sm (prs ps) fun q => X4 a b q.1 q.2 := fun a b =>
    sm_prs (f := fun c d => X4 a b c d) ps (fun c _ d _ => by unfold X4; rw [crossed_34]) fun c _ => X4_0 (.inr (.inr (.inr (.inr (.inr rfl)))))
  have h2 : S4 ps X4 = sm ps fun a => sm ps fun b => 2 * sm (prs ps) fun q => X4 a b q.1 q.2 := sm_congr fun a _ => sm_congr fun b _ => h1 a b
  rw [h2, sm_prs (f := fun a b => 2 * sm (prs ps) fun q => X4 a b q.1 q.2) ps (fun a _ b _ => congrArg (fun z => 2 * z) (sm_congr fun q _ => by unfold X4; rw [crossed_12])) (fun a _ => by rw [sm_zero fun q _ => X4_0 (.inl rfl)]; rfl)]
  rw [sm_mul, sm_prs (f := fun (p q : Pt × Pt) => X4 p.1 p.2 q.1 q.2) (prs ps) (fun p _ q _ => by unfold X4; rw [crossed_pp]) (fun p _ => X4_0 (.inr (.inl rfl)))]
  omega
theorem S4_Sp (ps : List Pt) : S4 ps Sp = 2 * sm (prs ps) fun p => (lf ps p.1 p.2 : Int) * (rt ps p.1 p.2 : Int) := by
  have h1 : ∀ a b, sm ps (fun c => sm ps (Sp a b c)) = (lf ps a b : Int) * (rt ps a b : Int) := fun a b => by
    have e : ∀ c, sm ps (Sp a b c) = bi (decide (0 < bd a b c)) * (rt ps a b : Int) := fun c => by
      have e2 : ∀ d, Sp a b c d = bi (decide (0 < bd a b c)) * (if decide (bd a b d < 0) = true then 1 else 0) := fun d => by
        unfold Sp
        cases decide (0 < bd a b c) <;> cases decide (bd a b d < 0) <;> rfl
      rw [sm_congr fun d _ => e2 d, sm_mul, sm_count]
      rfl
    rw [sm_congr fun c _ => e c]
    have e3 : sm ps (fun c => bi (decide (0 < bd a b c)) * (rt ps a b : Int)) = sm ps fun c => (rt ps a b : Int) * bi (decide (0 < bd a b c)) := sm_congr fun c _ => Int.mul_comm _ _
    rw [e3, sm_mul]
    have e4 : sm ps (fun c => bi (decide (0 < bd a b c))) = (lf ps a b : Int) := sm_count (fun c => decide (0 < bd a b c)) ps
    rw [e4, Int.mul_comm]
  have h2 : S4 ps Sp = sm ps fun a => sm ps fun b => (lf ps a b : Int) * (rt ps a b : Int) := sm_congr fun a _ => sm_congr fun b _ => h1 a b
  rw [h2]
  refine sm_prs (f := fun a b => (lf ps a b : Int) * (rt ps a b : Int)) ps (fun a _ b _ => ?_) fun a _ => ?_
  · show (lf ps a b : Int) * (rt ps a b : Int) = (lf ps b a : Int) * (rt ps b a : Int)
    rw [lf_rt ps a b, lf_rt ps b a, Int.mul_comm]
  · have z : lf ps a a = 0 := filter_none fun p _ => decide_eq_false (by rw [bd_aa]; omega)
    show (lf ps a a : Int) * _ = 0
    rw [z]
    simp
theorem count {ps : List Pt} (gp : GP ps) : 8 * (sm (prs (prs ps)) fun q => X4 q.1.1 q.1.2 q.2.1 q.2.2) + 8 * (sm (prs ps) fun p => (lf ps p.1 p.2 : Int) * (rt ps p.1 p.2 : Int)) = (ps.length : Int) * ((ps.length : Int) - 1) * ((ps.length : Int) - 2) * ((ps.length : Int) - 3) := by
  have h1 := S4_congr (point gp)
  have h2 : S4 ps (fun a b c d => 3 * D4 a b c d) = 3 * S4 ps D4 := S4_mul 3 ps D4
  have h3 : S4 ps (fun a b c d => P12 a b c d) = S4 ps P12 := rfl
  rw [h2, S4_D4 gp.nd, S4_P12, S4_X4, S4_Sp] at h1
  omega
end Cro

set_option Elab.async false
set_option linter.all false
set_option maxRecDepth 100000
set_option maxHeartbeats 0
namespace Law
open PySem PySem.Spec PyProof.Rows L2 Lw
def top (i : Nat) : Stmt := PySem.Challenge.pw_whosewell_k50_whole_crossings_by_all_pie.main.body.getD i (.Pass ⟨0, 0, 0, 0⟩)
abbrev sis_integer : Stmt := top 11
abbrev sis_between : Stmt := top 12
abbrev sis_name : Stmt := top 13
abbrev sread_integer : Stmt := top 14
abbrev swell_in : Stmt := top 19
abbrev sis_spot : Stmt := top 20
abbrev scan_stand : Stmt := top 21
abbrev sfield_of : Stmt := top 23
abbrev scheck_field : Stmt := top 24
abbrev sspots_by : Stmt := top 25
abbrev sbend : Stmt := top 26
abbrev ssign_of : Stmt := top 27
abbrev smoved : Stmt := top 28
abbrev sturned : Stmt := top 29
abbrev smirrored : Stmt := top 30
abbrev spairs_of : Stmt := top 32
abbrev sthrees_of : Stmt := top 33
abbrev scheck_loose : Stmt := top 35
abbrev son_sides : Stmt := top 36
abbrev ssides_of_pairs : Stmt := top 37
abbrev scrossings : Stmt := top 38
abbrev s_law_pot : Stmt := top 40
abbrev s_law_take : Stmt := top 41
abbrev s_law_of : Stmt := top 42
abbrev s_law_cells : Stmt := top 43
abbrev s_law_some : Stmt := top 44
abbrev s_law_name : Stmt := top 45
abbrev s_law_names : Stmt := top 46
abbrev s_law_spot : Stmt := top 47
abbrev s_law_field : Stmt := top 48
abbrev s_law_text : Stmt := top 49
abbrev s_law_bend : Stmt := top 50
abbrev s_law_pairs : Stmt := top 51
abbrev s_law_do_cross : Stmt := top 52
abbrev s_law_first_line : Stmt := top 53
abbrev s_law_heard : Stmt := top 54
abbrev s_law_choose : Stmt := top 55
abbrev s_law_are_sides_right : Stmt := top 56
abbrev s_law_right : Stmt := top 57
abbrev s_law_are_bows_right : Stmt := top 58
abbrev slaw : Stmt := top 59
abbrev sField___init__ : Stmt := inClass (top 22) 0
abbrev sField___eq__ : Stmt := inClass (top 22) 1
abbrev sField_text : Stmt := inClass (top 22) 2
abbrev sField_names : Stmt := inClass (top 22) 3
abbrev sField_spots : Stmt := inClass (top 22) 4
abbrev sField_told_wells : Stmt := inClass (top 22) 5
abbrev sField_more : Stmt := inClass (top 22) 6
abbrev sField_without : Stmt := inClass (top 22) 7
abbrev sWellError___init__ : Stmt := inClass (top 2) 0
def dp (ad : Lh.Fg → Addr) (n q : Str) (s : Stmt) (b : Bool) : Lh.DP := ⟨ad, n, q, defArgs s, defBody s, defScope s, b⟩
abbrev dsis_integer : Lh.DP := dp (fun K => He.ga K "is_integer") "is_integer" "is_integer" sis_integer false
abbrev dsis_between : Lh.DP := dp (fun K => He.ga K "is_between") "is_between" "is_between" sis_between false
abbrev dsis_name : Lh.DP := dp (fun K => He.ga K "is_name") "is_name" "is_name" sis_name false
abbrev dsread_integer : Lh.DP := dp (fun K => He.ga K "read_integer") "read_integer" "read_integer" sread_integer false
abbrev dswell_in : Lh.DP := dp (fun K => He.ga K "well_in") "well_in" "well_in" swell_in false
abbrev dsis_spot : Lh.DP := dp (fun K => He.ga K "is_spot") "is_spot" "is_spot" sis_spot false
abbrev dscan_stand : Lh.DP := dp (fun K => He.ga K "can_stand") "can_stand" "can_stand" scan_stand false
abbrev dsfield_of : Lh.DP := dp (fun K => He.ga K "field_of") "field_of" "field_of" sfield_of false
abbrev dscheck_field : Lh.DP := dp (fun K => He.ga K "check_field") "check_field" "check_field" scheck_field false
abbrev dsspots_by : Lh.DP := dp (fun K => He.ga K "spots_by") "spots_by" "spots_by" sspots_by false
abbrev dsbend : Lh.DP := dp (fun K => He.ga K "bend") "bend" "bend" sbend false
abbrev dssign_of : Lh.DP := dp (fun K => He.ga K "sign_of") "sign_of" "sign_of" ssign_of false
abbrev dsmoved : Lh.DP := dp (fun K => He.ga K "moved") "moved" "moved" smoved false
abbrev dsturned : Lh.DP := dp (fun K => He.ga K "turned") "turned" "turned" sturned false
abbrev dsmirrored : Lh.DP := dp (fun K => He.ga K "mirrored") "mirrored" "mirrored" smirrored false
abbrev dspairs_of : Lh.DP := dp (fun K => He.ga K "pairs_of") "pairs_of" "pairs_of" spairs_of false
abbrev dsthrees_of : Lh.DP := dp (fun K => He.ga K "threes_of") "threes_of" "threes_of" sthrees_of false
abbrev dscheck_loose : Lh.DP := dp (fun K => He.ga K "check_loose") "check_loose" "check_loose" scheck_loose false
abbrev dson_sides : Lh.DP := dp (fun K => He.ga K "on_sides") "on_sides" "on_sides" son_sides false
abbrev dssides_of_pairs : Lh.DP := dp (fun K => He.ga K "sides_of_pairs") "sides_of_pairs" "sides_of_pairs" ssides_of_pairs false
abbrev dscrossings : Lh.DP := dp (fun K => He.ga K "crossings") "crossings" "crossings" scrossings false
abbrev ds_law_pot : Lh.DP := dp (fun K => He.ga K "_law_pot") "_law_pot" "_law_pot" s_law_pot false
abbrev ds_law_take : Lh.DP := dp (fun K => He.ga K "_law_take") "_law_take" "_law_take" s_law_take false
abbrev ds_law_of : Lh.DP := dp (fun K => He.ga K "_law_of") "_law_of" "_law_of" s_law_of false
abbrev ds_law_cells : Lh.DP := dp (fun K => He.ga K "_law_cells") "_law_cells" "_law_cells" s_law_cells false
abbrev ds_law_some : Lh.DP := dp (fun K => He.ga K "_law_some") "_law_some" "_law_some" s_law_some false
abbrev ds_law_name : Lh.DP := dp (fun K => He.ga K "_law_name") "_law_name" "_law_name" s_law_name false
abbrev ds_law_names : Lh.DP := dp (fun K => He.ga K "_law_names") "_law_names" "_law_names" s_law_names false
abbrev ds_law_spot : Lh.DP := dp (fun K => He.ga K "_law_spot") "_law_spot" "_law_spot" s_law_spot false
abbrev ds_law_field : Lh.DP := dp (fun K => He.ga K "_law_field") "_law_field" "_law_field" s_law_field false
abbrev ds_law_text : Lh.DP := dp (fun K => He.ga K "_law_text") "_law_text" "_law_text" s_law_text false
abbrev ds_law_bend : Lh.DP := dp (fun K => He.ga K "_law_bend") "_law_bend" "_law_bend" s_law_bend false
abbrev ds_law_pairs : Lh.DP := dp (fun K => He.ga K "_law_pairs") "_law_pairs" "_law_pairs" s_law_pairs false
abbrev ds_law_do_cross : Lh.DP := dp (fun K => He.ga K "_law_do_cross") "_law_do_cross" "_law_do_cross" s_law_do_cross false
abbrev ds_law_first_line : Lh.DP := dp (fun K => He.ga K "_law_first_line") "_law_first_line" "_law_first_line" s_law_first_line false
abbrev ds_law_heard : Lh.DP := dp (fun K => He.ga K "_law_heard") "_law_heard" "_law_heard" s_law_heard false
abbrev ds_law_choose : Lh.DP := dp (fun K => He.ga K "_law_choose") "_law_choose" "_law_choose" s_law_choose false
abbrev ds_law_are_sides_right : Lh.DP := dp (fun K => He.ga K "_law_are_sides_right") "_law_are_sides_right" "_law_are_sides_right" s_law_are_sides_right false
abbrev ds_law_right : Lh.DP := dp (fun K => He.ga K "_law_right") "_law_right" "_law_right" s_law_right false
abbrev ds_law_are_bows_right : Lh.DP := dp (fun K => He.ga K "_law_are_bows_right") "_law_are_bows_right" "_law_are_bows_right" s_law_are_bows_right false
abbrev dslaw : Lh.DP := dp (fun K => He.ga K "law") "law" "law" slaw false
abbrev dsField___init__ : Lh.DP := dp (fun K => He.ma K (He.ga K "Field") "__init__") "__init__" "Field.__init__" sField___init__ false
abbrev dsField___eq__ : Lh.DP := dp (fun K => He.ma K (He.ga K "Field") "__eq__") "__eq__" "Field.__eq__" sField___eq__ false
abbrev dsField_text : Lh.DP := dp (fun K => Lh.prG K "Field" "text") "text" "Field.text" sField_text false
abbrev dsField_names : Lh.DP := dp (fun K => Lh.prG K "Field" "names") "names" "Field.names" sField_names false
abbrev dsField_spots : Lh.DP := dp (fun K => Lh.prG K "Field" "spots") "spots" "Field.spots" sField_spots false
abbrev dsField_told_wells : Lh.DP := dp (fun K => He.ma K (He.ga K "Field") "told_wells") "told_wells" "Field.told_wells" sField_told_wells false
abbrev dsField_more : Lh.DP := dp (fun K => He.ma K (He.ga K "Field") "more") "more" "Field.more" sField_more false
abbrev dsField_without : Lh.DP := dp (fun K => He.ma K (He.ga K "Field") "without") "without" "Field.without" sField_without false
abbrev dsWellError___init__ : Lh.DP := dp (fun K => He.ma K (He.ga K "WellError") "__init__") "__init__" "WellError.__init__" sWellError___init__ true
def fnL : List Lh.DP := ([dsis_integer, dsis_between, dsis_name, dsread_integer, dswell_in, dsis_spot, dscan_stand, dsfield_of, dscheck_field, dsspots_by, dsbend, dssign_of, dsmoved, dsturned, dsmirrored, dspairs_of, dsthrees_of, dscheck_loose, dson_sides, dssides_of_pairs, dscrossings, ds_law_pot, ds_law_take, ds_law_of, ds_law_cells, ds_law_some, ds_law_name, ds_law_names, ds_law_spot, ds_law_field] : List Lh.DP) ++ ([ds_law_text, ds_law_bend, ds_law_pairs, ds_law_do_cross, ds_law_first_line, ds_law_heard, ds_law_choose, ds_law_are_sides_right, ds_law_right, ds_law_are_bows_right, dslaw, dsField___init__, dsField___eq__, dsField_text, dsField_names, dsField_spots, dsField_told_wells, dsField_more, dsField_without, dsWellError___init__] : List Lh.DP)
def faL : List He.Fa := ([.glo "is_integer", .glo "is_between", .glo "is_name", .glo "read_integer", .glo "well_in", .glo "is_spot", .glo "can_stand", .glo "field_of", .glo "check_field", .glo "spots_by", .glo "bend", .glo "sign_of", .glo "moved", .glo "turned", .glo "mirrored", .glo "pairs_of", .glo "threes_of", .glo "check_loose", .glo "on_sides", .glo "sides_of_pairs", .glo "crossings", .glo "_law_pot", .glo "_law_take", .glo "_law_of", .glo "_law_cells", .glo "_law_some", .glo "_law_name", .glo "_law_names", .glo "_law_spot", .glo "_law_field"] : List He.Fa) ++ ([.glo "_law_text", .glo "_law_bend", .glo "_law_pairs", .glo "_law_do_cross", .glo "_law_first_line", .glo "_law_heard", .glo "_law_choose", .glo "_law_are_sides_right", .glo "_law_right", .glo "_law_are_bows_right", .glo "law", .str "LETTERS" "abcdefghijklmnopqrstuvwxyz", .str "FIGURES" "0123456789", .int "MOST_SIGNS" 8, .str "WELL" "well", .int "MOST_WELLS" 40, .int "MOST_SPOT" 9999, .free "ValueError", .free "abs", .free "all", .free "any", .free "bool", .free "dict", .free "enumerate", .free "int", .free "isinstance", .free "len", .free "list", .free "max", .free "min"] : List He.Fa) ++ ([.free "property", .free "range", .free "repr", .free "str", .free "sum", .free "super", .free "tuple", .free "zip", .glo "WellError", .glo "BadField", .glo "BadNumber", .glo "NoField", .glo "OnOne", .glo "Field", .cls "Field", .keep "Field", .noat "Field" "own_text", .noat "Field" "own_names", .noat "Field" "own_spots", .mkr "Field", .meth "Field" "__eq__", .meth "Field" "told_wells", .meth "Field" "more", .meth "Field" "without"] : List He.Fa)
def prL : List (Str × Str) := [("Field", "text"), ("Field", "names"), ("Field", "spots")]
def clL : List Str := ["Field"]
def erL : List Str := ["WellError", "BadField", "BadNumber", "NoField", "OnOne"]
def kiL : List (Lh.TyN × Lh.TyN × Bool) := ([(.ty "NoneType", .cl "WellError", false), (.ty "NoneType", .cl "BadField", false), (.ty "NoneType", .cl "BadNumber", false), (.ty "NoneType", .cl "NoField", false), (.ty "NoneType", .cl "OnOne", false), (.ty "NoneType", .cl "Field", false), (.ty "bool", .cl "WellError", false), (.ty "bool", .cl "BadField", false), (.ty "bool", .cl "BadNumber", false), (.ty "bool", .cl "NoField", false), (.ty "bool", .cl "OnOne", false), (.ty "bool", .cl "Field", false), (.ty "int", .cl "WellError", false), (.ty "int", .cl "BadField", false), (.ty "int", .cl "BadNumber", false), (.ty "int", .cl "NoField", false), (.ty "int", .cl "OnOne", false), (.ty "int", .cl "Field", false), (.ty "str", .cl "WellError", false), (.ty "str", .cl "BadField", false), (.ty "str", .cl "BadNumber", false), (.ty "str", .cl "NoField", false), (.ty "str", .cl "OnOne", false), (.ty "str", .cl "Field", false), (.ty "tuple", .cl "WellError", false), (.ty "tuple", .cl "BadField", false), (.ty "tuple", .cl "BadNumber", false), (.ty "tuple", .cl "NoField", false), (.ty "tuple", .cl "OnOne", false), (.ty "tuple", .cl "Field", false)] : List (Lh.TyN × Lh.TyN × Bool)) ++ ([(.ty "list", .cl "WellError", false), (.ty "list", .cl "BadField", false), (.ty "list", .cl "BadNumber", false), (.ty "list", .cl "NoField", false), (.ty "list", .cl "OnOne", false), (.ty "list", .cl "Field", false), (.ty "dict", .cl "WellError", false), (.ty "dict", .cl "BadField", false), (.ty "dict", .cl "BadNumber", false), (.ty "dict", .cl "NoField", false), (.ty "dict", .cl "OnOne", false), (.ty "dict", .cl "Field", false), (.cl "WellError", .cl "WellError", true), (.cl "WellError", .cl "BadField", false), (.cl "WellError", .cl "BadNumber", false), (.cl "WellError", .cl "NoField", false), (.cl "WellError", .cl "OnOne", false), (.cl "BadField", .cl "WellError", true), (.cl "BadField", .cl "BadField", true), (.cl "BadField", .cl "BadNumber", false), (.cl "BadField", .cl "NoField", false), (.cl "BadField", .cl "OnOne", false), (.cl "BadNumber", .cl "WellError", true), (.cl "BadNumber", .cl "BadField", false), (.cl "BadNumber", .cl "BadNumber", true), (.cl "BadNumber", .cl "NoField", false), (.cl "BadNumber", .cl "OnOne", false), (.cl "NoField", .cl "WellError", true), (.cl "NoField", .cl "BadField", false), (.cl "NoField", .cl "BadNumber", false)] : List (Lh.TyN × Lh.TyN × Bool)) ++ ([(.cl "NoField", .cl "NoField", true), (.cl "NoField", .cl "OnOne", false), (.cl "OnOne", .cl "WellError", true), (.cl "OnOne", .cl "BadField", false), (.cl "OnOne", .cl "BadNumber", false), (.cl "OnOne", .cl "NoField", false), (.cl "OnOne", .cl "OnOne", true), (.cl "Field", .cl "Field", true), (.cl "WellError", .ty "ValueError", true), (.cl "BadField", .ty "ValueError", true), (.cl "BadNumber", .ty "ValueError", true), (.cl "NoField", .ty "ValueError", true), (.cl "OnOne", .ty "ValueError", true)] : List (Lh.TyN × Lh.TyN × Bool))
def exB (K : Lh.Fg) : Bool := faL.all (fun f => f.ok K) && (prL.all (fun p => Lh.propB K p.1 p.2) && (clL.all (fun c => Lw.insB K (He.ga K c)) && (kiL.all (Lh.kitB K) && (erL.all (fun c => Lh.supB K (He.ga K c) (He.ga K "WellError") && (Lh.cauB K (He.ga K c) (He.ga K "WellError") && He.eqO (PySem.W.findIn K (.ref (He.ga K c)) "__init__") (some (some (.ref (He.ma K (He.ga K "WellError") "__init__")))))) && (Lh.supFB K (He.ga K "WellError") (He.ma K (He.ga K "WellError") "__init__") "/claim/cut.py")))))
abbrev nm__law_right : Nat → Nat → Str := fun l c => if l = 249 ∧ c = 30 then "_law_right.<locals>.<lambda>" else if l = 250 ∧ c = 28 then "_law_right.<locals>.<lambda>" else ""
def tlL : List Lh.TP := [⟨fun K => He.ga K "_law_right", nm__law_right⟩]
abbrev Rw : PySem.W.OpenRow := PySem.W.OpenLaw.row PySem.Challenge.rw_whosewell_k50_whole_crossings_by_all_pie
abbrev hk : PySem.W.Hook := Lh.hookPT 6 exB fnL tlL
def ob (s : PySem.W.SharedT) : Lh.Sees := Lh.obsPT 6 exB fnL tlL (HandSHeadRun.getT s)
theorem ob_eq (s : PySem.W.SharedT) : ob s = hk.obs s.abs := Lh.obsPT_eq (HandSHeadRun.getT_eq s)
def looseL : List Str := (["_wall", "__name__", "WellError", "BadField", "BadNumber", "NoField", "OnOne", "LETTERS", "FIGURES", "MOST_SIGNS", "is_integer", "is_between", "is_name", "read_integer", "WELL", "MOST_WELLS", "MOST_SPOT", "well_in", "is_spot", "can_stand", "Field", "field_of", "check_field", "spots_by", "bend", "sign_of", "moved", "turned", "mirrored", "pairs_of"] : List Str) ++ (["threes_of", "check_loose", "on_sides", "sides_of_pairs", "crossings", "_law_pot", "_law_take", "_law_of", "_law_cells", "_law_some", "_law_name", "_law_names", "_law_spot", "_law_field", "_law_text", "_law_bend", "_law_pairs", "_law_do_cross", "_law_first_line", "_law_heard", "_law_choose", "_law_are_sides_right", "_law_right", "_law_are_bows_right"] : List Str)
theorem run (w : World) : HandSHeadRun.RunEq Rw (PySem.W.view Rw.prog [59]) hk ob 6000 looseL w := by
  intro os
  kernel_rfl

/-- what the top has left -/
structure Tx [Tabl] (P : Program) (K : Lh.Fg) (mg : Str → Option Value) (base : Heap) : Prop where
  kin : ∃ h : Heap, K.In h ∧ h.Ns mainGlobals mg
  d : Lh.obsP exB fnL K = Lh.dueP fnL
  tt : Tabl.T = Lh.tabT tlL K
  nd : (tlL.map fun t => t.p K).Nodup
  tab : ∀ t ∈ tlL, LamX.TabB base mg (t.c K) (t.p K)
  file : P.main.file = "/claim/cut.py"
  top : (P.main.scope.names.lookup ("super" : Str)).isSome = false
section
variable [Tabl] {P : Program} {w : World} {K : Lh.Fg} {mg : Str → Option Value} {base : Heap}
theorem Tx.ex (T : Tx P K mg base) : exB K = true := Lh.more_of T.d
theorem Tx.fa (T : Tx P K mg base) {i : Nat} {f : He.Fa} (h : faL[i]? = some f) : f.ok K = true := by
  have q := T.ex
  unfold exB at q
  rw [Bool.and_eq_true] at q
  exact List.all_eq_true.mp q.1 f (List.mem_of_getElem? h)
theorem Tx.glo (T : Tx P K mg base) (x : Str) (i : Nat) (h : faL[i]? = some (.glo x) := by rfl) : mg x = some (.ref (He.ga K x)) := by
  obtain ⟨hp, a, b⟩ := T.kin
  exact He.glo_ok a b (T.fa h)
theorem Tx.free (T : Tx P K mg base) (x : Str) (i : Nat) (h : faL[i]? = some (.free x) := by rfl) : mg x = none := by
  obtain ⟨hp, a, b⟩ := T.kin
  exact He.free_ok a b (T.fa h)
theorem Tx.str (T : Tx P K mg base) (x : Str) (i : Nat) {z : Str} (h : faL[i]? = some (.str x z) := by rfl) : ∃ t, mg x = some (.str z t) := by
  obtain ⟨hp, a, b⟩ := T.kin
  exact He.str_ok a b (T.fa h)
theorem Tx.int (T : Tx P K mg base) (x : Str) (i : Nat) {z : Int} (h : faL[i]? = some (.int x z) := by rfl) : ∃ t, mg x = some (.int z t) := by
  obtain ⟨hp, a, b⟩ := T.kin
  exact He.int_ok a b (T.fa h)
theorem Tx.cls (T : Tx P K mg base) (x : Str) (i : Nat) (h : faL[i]? = some (.cls x) := by rfl) : Cls K (He.ga K x) := He.cls_ok (T.fa h)
theorem Tx.noat (T : Tx P K mg base) (x f : Str) (i : Nat) (h : faL[i]? = some (.noat x f) := by rfl) : NoAttr K (He.ga K x) f := He.noat_ok (T.fa h)
theorem Tx.meth (T : Tx P K mg base) (x m : Str) (i : Nat) (h : faL[i]? = some (.meth x m) := by rfl) : Meth K (He.ga K x) m (He.ma K (He.ga K x) m) := He.meth_ok (T.fa h)
theorem Tx.mkr (T : Tx P K mg base) (x : Str) (i : Nat) (h : faL[i]? = some (.mkr x) := by rfl) : Mk K (He.ga K x) (He.ma K (He.ga K x) "__init__") := He.mkr_ok (T.fa h)
theorem Tx.prop (T : Tx P K mg base) (i : Nat) {c m : Str} (h : prL[i]? = some (c, m) := by rfl) : PropOf K (He.ga K c) m (He.ma K (He.ga K c) m) (Lh.prG K c m) := by
  have q := T.ex
  unfold exB at q
  rw [Bool.and_eq_true, Bool.and_eq_true] at q
  exact Lh.prop_of (List.all_eq_true.mp q.2.1 (c, m) (List.mem_of_getElem? h))
theorem Tx.ins (T : Tx P K mg base) (i : Nat) {c : Str} (h : clL[i]? = some c := by rfl) : Lw.InsOk K (He.ga K c) ∧ PySem.W.kitOne K (.ref (He.ga K c)) (.ref (He.ga K c)) = some true := by
  have q := T.ex
  unfold exB at q
  rw [Bool.and_eq_true, Bool.and_eq_true, Bool.and_eq_true] at q
  exact Lw.ins_of (List.all_eq_true.mp q.2.2.1 c (List.mem_of_getElem? h))
theorem Tx.kit (T : Tx P K mg base) (i : Nat) {a b : Lh.TyN} {r : Bool} (h : kiL[i]? = some (a, b, r) := by rfl) : PySem.W.kitOne K (a.v K) (b.v K) = some r := by
  have q := T.ex
  unfold exB at q
  rw [Bool.and_eq_true, Bool.and_eq_true, Bool.and_eq_true, Bool.and_eq_true] at q
  exact Lh.kit_of (List.all_eq_true.mp q.2.2.2.1 (a, b, r) (List.mem_of_getElem? h))
theorem Tx.nf (T : Tx P K mg base) (i : Nat) {a : Lh.TyN} {x : Str} (h : kiL[i]? = some (a, .cl x, false) := by rfl) : PySem.W.notFirst K (He.ga K x) (a.v K) = true := by
  have q := T.ex
  unfold exB at q
  rw [Bool.and_eq_true, Bool.and_eq_true, Bool.and_eq_true, Bool.and_eq_true] at q
  exact Lh.nf_of (List.all_eq_true.mp q.2.2.2.1 (a, .cl x, false) (List.mem_of_getElem? h))
theorem Tx.err (T : Tx P K mg base) (i : Nat) {c : Str} (h : erL[i]? = some c := by rfl) : Lx.SupC K (He.ga K c) (He.ga K "WellError") ∧ Lh.Cau K (He.ga K c) (He.ga K "WellError") ∧ PySem.W.findIn K (.ref (He.ga K c)) "__init__" = some (some (.ref (He.ma K (He.ga K "WellError") "__init__"))) := by
  have q := T.ex
  unfold exB at q
  rw [Bool.and_eq_true, Bool.and_eq_true, Bool.and_eq_true, Bool.and_eq_true, Bool.and_eq_true] at q
  have z := List.all_eq_true.mp q.2.2.2.2.1 c (List.mem_of_getElem? h)
  rw [Bool.and_eq_true, Bool.and_eq_true] at z
  exact ⟨Lh.sup_of z.1, Lh.cau_of z.2.1, He.eqO_ok z.2.2⟩
theorem Tx.exm (T : Tx P K mg base) (x : Str) (i j : Nat) (h : faL[i]? = some (.glo x) := by rfl) (hj : erL[j]? = some x := by rfl) : Lw.Exm P w K mg base x (He.ga K x) (He.ga K "WellError") 1 := by
  have q := T.ex
  unfold exB at q
  rw [Bool.and_eq_true, Bool.and_eq_true, Bool.and_eq_true, Bool.and_eq_true, Bool.and_eq_true] at q
  have c := Lh.see_of T.d 49 (d := dsWellError___init__) rfl
  obtain ⟨fd, SF, ty, _⟩ := Lh.supF_of (P := P) (d := dsWellError___init__) q.2.2.2.2.2 rfl c.1 c.2 T.file T.top ⟨_, rfl, rfl⟩
  have b : Binds K fd ["self", "value"] [] := by
    obtain ⟨name, qual, kV, doc, pm, ct, oc, cda, cc, an, od, osl, cl, ccl, cld, cdd, csl, ccs, vs, file, tf, cdD, _, rfl, _⟩ := SF.ex
    intro s us _ hl
    match us, hl with
    | [a, b], _ =>
      refine .of_eq ?_
      rfl
  refine ⟨_, fd, T.glo x i h, (T.err j hj).1, (T.err j hj).2.2, ty, b, Lx.fn_super (k := 0) ⟨rfl, rfl, rfl, by decide +kernel, by decide +kernel, rfl, rfl, rfl, rfl⟩ (T.free "super" 65) SF (fun _ => rfl) (fun _ _ _ _ _ => rfl) (fun _ => rfl) (fun _ => rfl) (fun _ => rfl) (fun _ => rfl)⟩
theorem Tx.tb (T : Tx P K mg base) (i : Nat) {t : Lh.TP} (h : tlL[i]? = some t := by rfl) : LamX.TabB base mg (t.c K) (t.p K) ∧ (t.p K, t.nm) ∈ Tabl.T ∧ (∀ p ∈ Tabl.T, p.1 = t.p K → p.2 = t.nm) ∧ Lw.Tb (t.p K) := Lh.tab_of T.tt T.nd T.tab i h
theorem sc__law_heard : FnScope ["call", "caught", "told", "error"] ["call"] (defScope s_law_heard) := ⟨rfl, rfl, rfl, by decide +kernel, rfl, by decide +kernel, by decide +kernel⟩
theorem c__law_heard (T : Tx P K mg base) : Lw.Heard P w K mg base "_law_heard" "call" ["call", "caught", "told", "error"] (He.ga K "WellError") := by
  obtain ⟨fd, F⟩ := Lh.def_of T.d 35 (d := ds_law_heard)
  have b : Binds K fd ["call"] [] := F.bindsN (fun _ _ _ _ _ _ us hl => by
      match us, hl with
      | [_], _ => rfl)
  have kp := F.kp
  obtain ⟨oc, od, dV, kV, doc, pm, an, cdv, ct, osl, rfl, lk, hcd, _, _⟩ := F.ex
  refine ⟨_, _, _, _, dV, kV, doc, pm, cdv, ct, oc, an, od, osl, T.glo "_law_heard" 35, kp, lk, hcd, b, sc__law_heard, rfl, .inl rfl, fun X L e1 e2 e3 e4 e5 => ?_⟩
  subst e1 e2 e3 e4 e5
  exact Lx.heard_gives (by decide) rfl rfl rfl rfl rfl (T.glo "WellError" 68) (by decide) (by decide) (fun _ => by rfl) (fun _ => by rfl) (fun _ => by rfl) (fun _ => by rfl)
end

end Law

set_option Elab.async false
set_option linter.all false
set_option maxRecDepth 100000
set_option maxHeartbeats 0
namespace Law
open PySem PySem.Spec PyProof.Rows L2 Lw
variable [Tabl]
def sgI (i : Int) : Int := (if decide (i > 0) then 1 else 0) - (if decide (i < 0) then 1 else 0)
def bendI (a b c : Spot) : Int := (b.1 - a.1) * (c.2 - a.2) - (b.2 - a.2) * (c.1 - a.1)
def sqI (a b : Spot) : Int := (a.1 - b.1) * (a.1 - b.1) + (a.2 - b.2) * (a.2 - b.2)
def S3 (f : Spot → Spot → Spot → D) : List D → (D → Prop) → Prop := fun ds G => ∃ a b c, ds = [spD a, spD b, spD c] ∧ SpOk a ∧ SpOk b ∧ SpOk c ∧ G (f a b c)
def Ssg : List D → (D → Prop) → Prop := fun ds G => ∃ i : Int, ds = [.int i] ∧ G (.int (sgI i))
def Ssq : List D → (D → Prop) → Prop := fun ds G => ∃ a b, ds = [spD a, spD b] ∧ SpOk a ∧ SpOk b ∧ G (.int (sqI a b))
def tIs : D → String → Bool
  | .int _, n => n == "int"
  | .bl _, n => n == "bool" || n == "int"
  | .str _, n => n == "str"
  | .tup _, n => n == "tuple"
  | .lst _, n => n == "list"
  | .frl _, n => n == "list"
  | _, _ => false
theorem dIsi_int {K : Lh.Fg} {x : D} (hx : x.pl = true) (F : D → Prop) (h : F (.bl (tIs x "int"))) : dIsi K x (.ty "int") F := by
  cases x <;> first | exact ⟨trivial, _, _, rfl, by rfl, h⟩ | cases hx
theorem dIsi_bool {K : Lh.Fg} {x : D} (hx : x.pl = true) (F : D → Prop) (h : F (.bl (tIs x "bool"))) : dIsi K x (.ty "bool") F := by
  cases x <;> first | exact ⟨trivial, _, _, rfl, by rfl, h⟩ | cases hx
theorem dIsi_str {K : Lh.Fg} {x : D} (hx : x.pl = true) (F : D → Prop) (h : F (.bl (tIs x "str"))) : dIsi K x (.ty "str") F := by
  cases x <;> first | exact ⟨trivial, _, _, rfl, by rfl, h⟩ | cases hx
theorem dIsi_tuple {K : Lh.Fg} {x : D} (hx : x.pl = true) (F : D → Prop) (h : F (.bl (tIs x "tuple"))) : dIsi K x (.ty "tuple") F := by
  cases x <;> first | exact ⟨trivial, _, _, rfl, by rfl, h⟩ | cases hx
def isIntD : D → Bool
  | .int _ => true
  | _ => false
def Sii : List D → (D → Prop) → Prop := fun ds G => ∃ x : D, ds = [x] ∧ x.pl = true ∧ G (.bl (isIntD x))
def Sbt : List D → (D → Prop) → Prop := fun ds G => ∃ i l m : Int, ds = [.int i, .int l, .int m] ∧ G (.bl (decide (l ≤ i) && decide (i ≤ m)))
def Snm : List D → (D → Prop) → Prop := fun ds G => ∃ z : Str, ds = [.str z] ∧ nameB z = true ∧ G (.bl true)
def Sri : List D → (D → Prop) → Prop := fun ds G => ∃ i : Int, ds = [.str (numS i)] ∧ i.natAbs ≤ 9999 ∧ G (.int i)
def Swi : List D → (D → Prop) → Prop := fun ds G => ∃ v : Well, ds = [.str (lineOf v)] ∧ WOk v ∧ G (wellD v)
def Ssp : List D → (D → Prop) → Prop := fun ds G => ∃ p : Spot, ds = [spD p] ∧ p.1.natAbs ≤ 9999 ∧ p.2.natAbs ≤ 9999 ∧ G (.bl true)
def Scs : List D → (D → Prop) → Prop := fun ds G => ∃ (ws : List Well) (v : Well), ds = [.lst (ws.map wellD), wellD v] ∧ ws.length < 40 ∧ (∀ u ∈ ws, v.1 ≠ u.1 ∧ v.2 ≠ u.2) ∧ G (.bl true)
structure WsOk (ws : List Well) : Prop where
  ne : ws ≠ []
  len : ws.length ≤ 40
  ok : ∀ v ∈ ws, WOk v
  names : (ws.map (·.1)).Nodup
  spots : (ws.map (·.2)).Nodup
abbrev fldFs (ws : List Well) : List (Str × D) := [("own_text", .str (textOf ws)), ("own_names", .ntp (ws.map fun v => .str v.1)), ("own_spots", .tup (ws.map fun v => spD v.2))]
abbrev fldD (C : Addr) (ws : List Well) : D := .obj C (fldFs ws)
abbrev FC (K : Lh.Fg) : Addr := He.ga K "Field"
def Sin : List D → (List (Str × D) → Prop) → Prop := fun ds G => ∃ ws, ds = [.str (textOf ws)] ∧ WsOk ws ∧ G (fldFs ws)
def Sg1 (C : Addr) (f : List Well → D) : List D → (D → Prop) → Prop := fun ds G => ∃ ws, ds = [fldD C ws] ∧ G (f ws)
def Stw (C : Addr) : List D → (D → Prop) → Prop := fun ds G => ∃ ws, ds = [fldD C ws] ∧ ws.length ≤ 40 ∧ G (.lst (ws.map wellD))
def Sfeq (C : Addr) : List D → (D → Prop) → Prop := fun ds G => ∃ ws us, ds = [fldD C ws, fldD C us] ∧ textOf ws = textOf us ∧ G (.bl true)
def Sfo (C : Addr) : List D → (D → Prop) → Prop := fun ds G => ∃ ws, ds = [.lst (ws.map wellD)] ∧ WsOk ws ∧ G (fldD C ws)
def Scf (C : Addr) : List D → (D → Prop) → Prop := fun ds G => ∃ ws, ds = [fldD C ws] ∧ G .non
def Scw (C : Addr) : List D → (D → Prop) → Prop := fun ds G => ∃ (ws : List Well) (n : Str), ds = [fldD C ws, .str n] ∧ n ∈ ws.map (·.1) ∧ G .non
def Scws (C : Addr) : List D → (D → Prop) → Prop := fun ds G => ∃ (ws : List Well) (ns : List Str), ds = [fldD C ws, .lst (ns.map D.str)] ∧ ns.length ≤ 10 ∧ (∀ n ∈ ns, n ∈ ws.map (·.1)) ∧ G .non
def sbD (ws : List Well) : D := .dct (ws.map fun v => (.inr v.1, spD v.2))
def Ssb (C : Addr) : List D → (D → Prop) → Prop := fun ds G => ∃ ws, ds = [fldD C ws] ∧ WsOk ws ∧ G (sbD ws)
theorem nodup_take {α β : Type} {f : α → β} {ws : List α} {i : Nat} {v u : α} (h : (ws.map f).Nodup) (hv : ws[i]? = some v) (hu : u ∈ ws.take i) : f v ≠ f u := fun e => by
  obtain ⟨j, hj⟩ := List.mem_iff_getElem?.mp hu
  rw [List.getElem?_take] at hj
  split at hj
  · rename_i lt
    have a1 : (ws.map f)[i]? = some (f v) := by rw [List.getElem?_map, hv]; rfl
    have a2 : (ws.map f)[j]? = some (f v) := by rw [List.getElem?_map, hj, e]; rfl
    have hi : i < (ws.map f).length := (List.getElem?_eq_some_iff.mp a1).1
    have := (List.getElem?_inj hi h).mp (a1.trans a2.symm)
    omega
  · cases hj
def btw (a b c : Int) : Bool := decide ((if b < a then b else a) ≤ c) && decide (c ≤ (if b > a then b else a))
def liesB (a b c : Spot) : Bool := decide (bendI a b c = 0) && (btw a.1 b.1 c.1 && btw a.2 b.2 c.2)
def addNew (acc : List Spot) (t : Spot × Spot × Spot) : List Spot := if (liesB t.2.1 t.2.2 t.1 && !decide (t.1 ∈ acc)) = true then acc ++ [t.1] else acc
def ends4 (a b c d : Spot) : List (Spot × Spot × Spot) := [(a, c, d), (b, c, d), (c, a, b), (d, a, b)]
def commonS (a b c d : Spot) : List Spot := (ends4 a b c d).foldl addNew []
def crossB (a b c d : Spot) : Bool := decide (bendI a b c * bendI a b d < 0) && decide (bendI c d a * bendI c d b < 0)
def metS (a b c d : Spot) : Str := if 1 < (commonS a b c d).length then "along" else if (commonS a b c d).length = 1 then "touch" else if crossB a b c d = true then "cross" else "apart"
def Smet : List D → (D → Prop) → Prop := fun ds G => ∃ a b c d, ds = [spD a, spD b, spD c, spD d] ∧ SpOk a ∧ SpOk b ∧ SpOk c ∧ SpOk d ∧ G (.str (metS a b c d))
def Sw3 (C : Addr) (f : Spot → Spot → Spot → D) : List D → (D → Prop) → Prop := fun ds G => ∃ (ws : List Well) (a b c : Well), ds = [fldD C ws, .str a.1, .str b.1, .str c.1] ∧ WsOk ws ∧ a ∈ ws ∧ b ∈ ws ∧ c ∈ ws ∧ G (f a.2 b.2 c.2)
def Sw2 (C : Addr) (f : Spot → Spot → D) : List D → (D → Prop) → Prop := fun ds G => ∃ (ws : List Well) (a b : Well), ds = [fldD C ws, .str a.1, .str b.1] ∧ WsOk ws ∧ a ∈ ws ∧ b ∈ ws ∧ G (f a.2 b.2)
def Sw4 (C : Addr) (f : Spot → Spot → Spot → Spot → D) : List D → (D → Prop) → Prop := fun ds G => ∃ (ws : List Well) (a b c d : Well), ds = [fldD C ws, .str a.1, .str b.1, .str c.1, .str d.1] ∧ WsOk ws ∧ a ∈ ws ∧ b ∈ ws ∧ c ∈ ws ∧ d ∈ ws ∧ G (f a.2 b.2 c.2 d.2)
def mapW (f : Spot → Spot) (ws : List Well) : List Well := ws.map fun v => (v.1, f v.2)
def Smv (C : Addr) : List D → (D → Prop) → Prop := fun ds G => ∃ (ws : List Well) (i j : Int), ds = [fldD C ws, .int i, .int j] ∧ WsOk ws ∧ WsOk (mapW (fun p => (p.1 + i, p.2 + j)) ws) ∧ G (fldD C (mapW (fun p => (p.1 + i, p.2 + j)) ws))
def Sfn (C : Addr) (f : Spot → Spot) : List D → (D → Prop) → Prop := fun ds G => ∃ ws : List Well, ds = [fldD C ws] ∧ WsOk ws ∧ G (fldD C (mapW f ws))
theorem nodup_of_map {α β γ : Type} {f : α → β} {g : α → γ} {ws : List α} (h : (ws.map f).Nodup) (k : ∀ u ∈ ws, ∀ v ∈ ws, g u = g v → f u = f v) : (ws.map g).Nodup := by
  induction ws with
  | nil => exact List.nodup_nil
  | cons w ws ih =>
    rw [List.map_cons, List.nodup_cons] at h ⊢
    refine ⟨fun m => ?_, ih h.2 (fun u hu v hv => k u (.tail _ hu) v (.tail _ hv))⟩
    obtain ⟨u, hu, e⟩ := List.mem_map.mp m
    exact h.1 (List.mem_map.mpr ⟨u, hu, k u (.tail _ hu) w (.head _) e⟩)
theorem WsOk.map {ws : List Well} (h : WsOk ws) {f : Spot → Spot} (inj : ∀ p q, f p = f q → p = q) (b : ∀ v ∈ ws, (f v.2).1.natAbs ≤ 9999 ∧ (f v.2).2.natAbs ≤ 9999) : WsOk (mapW f ws) where
  ne := fun e => h.ne (by unfold mapW at e; exact List.map_eq_nil_iff.mp e)
  len := by unfold mapW; rw [List.length_map]; exact h.len
  ok := fun v hv => by
    unfold mapW at hv
    obtain ⟨u, hu, rfl⟩ := List.mem_map.mp hv
    exact ⟨(h.ok u hu).name, (b u hu).1, (b u hu).2⟩
  names := by
    unfold mapW
    rw [List.map_map]
    exact h.names
  spots := by
    unfold mapW
    rw [List.map_map]
    exact nodup_of_map h.spots fun u hu v hv e => inj _ _ e
theorem WsOk.spot {ws : List Well} (h : WsOk ws) {v : Well} (hv : v ∈ ws) : SpOk v.2 := ⟨Nat.le_trans (h.ok v hv).x (by decide), Nat.le_trans (h.ok v hv).y (by decide)⟩
theorem look_sb : ∀ {ws : List Well} {v : Well}, (ws.map (·.1)).Nodup → v ∈ ws → lookD (ws.map fun v => (.inr v.1, spD v.2)) (.inr v.1) = some (spD v.2)
  | w :: ws, v, h, m => by
    rw [List.map_cons, List.nodup_cons] at h
    unfold lookD
    rw [List.map_cons, List.find?_cons]
    by_cases e : w.1 = v.1
    · have : (decide ((Sum.inr w.1 : Key) = .inr v.1)) = true := by rw [e]; exact decide_eq_true rfl
      rw [this]
      cases m with
      | head => rfl
      | tail _ m => exact absurd (List.mem_map.mpr ⟨v, m, e.symm⟩) h.1
    · have : (decide ((Sum.inr w.1 : Key) = .inr v.1)) = false := decide_eq_false fun z => e (Sum.inr.inj z)
      rw [this]
      cases m with
      | head => exact absurd rfl e
      | tail _ m => exact look_sb h.2 m
theorem fn_names {ws : List Well} {v : Well} (h : v ∈ ws) : v.1 ∈ ws.map (·.1) := List.mem_map.mpr ⟨v, h, rfl⟩
abbrev tripD (t : Spot × Spot × Spot) : D := .tup [spD t.1, spD t.2.1, spD t.2.2]
theorem wells_len {ws : List Well} (h : ws.length ≤ 40) {f : Well → D} : (ws.map f).length < sizeLine := by
  rw [List.length_map]
  exact Nat.lt_of_le_of_lt h (by decide)
theorem wsOk_turned {ws : List Well} (hw : WsOk ws) : WsOk (mapW (fun p => (0 - p.2, p.1)) ws) :=
  hw.map (fun p q e => by
    have e1 := congrArg Prod.fst e
    have e2 := congrArg Prod.snd e
    simp only at e1 e2
    exact Prod.ext e2 (by omega)) fun v hv => by
    have := (hw.ok v hv).x
    have := (hw.ok v hv).y
    refine ⟨?_, ?_⟩ <;> (simp only; omega)
theorem wsOk_mirrored {ws : List Well} (hw : WsOk ws) : WsOk (mapW (fun p => (0 - p.1, p.2)) ws) :=
  hw.map (fun p q e => by
    have e1 := congrArg Prod.fst e
    have e2 := congrArg Prod.snd e
    simp only at e1 e2
    exact Prod.ext (by omega) e2) fun v hv => by
    have := (hw.ok v hv).x
    have := (hw.ok v hv).y
    refine ⟨?_, ?_⟩ <;> (simp only; omega)
theorem zip_maps {α β γ : Type} (f : α → β) (g : α → γ) : ∀ ws : List α, (ws.map f).zip (ws.map g) = ws.map fun v => (f v, g v)
  | [] => rfl
  | w :: ws => by rw [List.map_cons, List.map_cons, List.zip_cons_cons, zip_maps f g ws]; rfl
theorem flat_strs {α : Type} {f : α → Str} {ws : List α} : ((ws.map fun v => D.str (f v)).all D.flat) = true := by
  rw [List.all_map]
  exact List.all_eq_true.mpr fun _ _ => rfl
theorem inF_strs {α : Type} {f : α → Str} {ws : List α} {n : Str} : inF (.str n) (ws.map fun v => .str (f v)) = decide (n ∈ ws.map f) := by
  unfold inF inV
  rw [List.map_map, List.any_map, Bool.eq_iff_iff, List.any_eq_true, decide_eq_true_iff, List.mem_map]
  constructor
  · rintro ⟨v, hv, e⟩
    exact ⟨v, hv, eq_of_beq e⟩
  · rintro ⟨v, hv, e⟩
    exact ⟨v, hv, beq_iff_eq.mpr e⟩
theorem any_spots {acc : List Spot} {p : Spot} : ((acc.map spD).any fun z => D.eqb z (spD p)) = decide (p ∈ acc) := by
  rw [List.any_map, Bool.eq_iff_iff, List.any_eq_true, decide_eq_true_iff]
  constructor
  · rintro ⟨v, hv, e⟩
    rw [Function.comp_apply, spd_eqb] at e
    rw [← of_decide_eq_true e]
    exact hv
  · intro h
    exact ⟨p, h, by rw [Function.comp_apply, spd_eqb]; exact decide_eq_true rfl⟩
theorem spots_in : ∀ (acc : List Spot), D.pls (acc.map spD) = true ∧ PyData.canLayAll0 (D.pys (acc.map spD)) = true ∧ PyData.depthAll (D.pys (acc.map spD)) ≤ 1
  | [] => ⟨rfl, rfl, Nat.zero_le _⟩
  | p :: acc => by
    obtain ⟨h1, h2, h3⟩ := spots_in acc
    rw [List.map_cons]
    refine ⟨?_, ?_, ?_⟩
    · unfold D.pls
      rw [h1]
      rfl
    · unfold D.pys PyData.canLayAll0
      rw [h2]
      rfl
    · unfold D.pys PyData.depthAll
      exact Nat.max_le.mpr ⟨Nat.le_refl 1, h3⟩
theorem ok_of {x : D} (h1 : x.pl = true) (h2 : x.py.canLay0 = true) (h3 : x.py.depth ≤ 64) : x.ok = true := by
  unfold D.ok SeqAt.shaped
  rw [h1, h2, decide_eq_true h3]
  rfl
theorem pl_spots {acc : List Spot} : (D.lst (acc.map spD)).ok = true := by
  obtain ⟨h1, h2, h3⟩ := spots_in acc
  refine ok_of h1 ?_ ?_
  · unfold D.py PyData.canLay0
    exact h2
  · unfold D.py PyData.depth
    exact Nat.le_trans (Nat.add_le_add_right h3 1) (by decide)
theorem addNew_len {acc : List Spot} {t : Spot × Spot × Spot} : (addNew acc t).length ≤ acc.length + 1 := by
  unfold addNew
  split
  · rw [List.length_append]; exact Nat.le_refl _
  · exact Nat.le_succ _
theorem foldNew_len : ∀ {ts : List (Spot × Spot × Spot)} {acc : List Spot}, (ts.foldl addNew acc).length ≤ acc.length + ts.length
  | [], _ => Nat.le_refl _
  | t :: ts, acc => Nat.le_trans (foldNew_len (ts := ts)) (by have := addNew_len (acc := acc) (t := t); rw [List.length_cons]; omega)
theorem bend_le {a b c : Spot} (ha : SpOk a) (hb : SpOk b) (hc : SpOk c) : (bendI a b c).natAbs ≤ 10 ^ 20 := by
  obtain ⟨a1, a2⟩ := ha
  obtain ⟨b1, b2⟩ := hb
  obtain ⟨c1, c2⟩ := hc
  have m : ∀ x y : Int, x.natAbs ≤ 2 * 10 ^ 9 → y.natAbs ≤ 2 * 10 ^ 9 → (x * y).natAbs ≤ 4 * 10 ^ 18 := fun x y hx hy => by
    rw [Int.natAbs_mul]
    exact Nat.le_trans (Nat.mul_le_mul hx hy) (by decide)
  have h1 := m (b.1 - a.1) (c.2 - a.2) (by omega) (by omega)
  have h2 := m (b.2 - a.2) (c.1 - a.1) (by omega) (by omega)
  unfold bendI
  omega
def PotOk (m : Nat) (x y z : Int) : Prop := PotI x y z m
def Spt : List D → (List D → Prop) → Prop := fun ds G => ∃ (sc : List Int) (pl : Nat), ds = [.lst (sc.map D.int), .int pl] ∧ pl ≤ 2 ∧ ∀ x y, 0 ≤ x → 0 ≤ y → y < 2305843009213693951 → G [.int x, .int y, .int 0]
def Stk : List D → (D → Prop) → Prop := fun ds G => ∃ u : Int, ds = [.int u] ∧ 0 < u ∧ u ≤ 1000000000 ∧ ∀ d : Int, 0 ≤ d → d < u → G (.int d)
def Sof : List D → (D → Prop) → Prop := fun ds G => ∃ xs : List D, ds = [.lst xs] ∧ 0 < xs.length ∧ xs.length ≤ 1000000 ∧ ∀ d, d ∈ xs → G d
def Scl : List D → (D → Prop) → Prop := fun ds G => ∃ (sc : List D), ds = [.lst sc, .int 3] ∧ ∀ n : Nat, 1 ≤ n → n ≤ 3 → G (.lst (rgD 0 n))
def Ssm : List D → (D → Prop) → Prop := fun ds G => ∃ (xs : List Str) (a : Nat), ds = [.lst (xs.map D.str), .int a] ∧ a ≤ xs.length ∧ a ≤ 40 ∧ xs.length ≤ 100 ∧ ∀ ys zs : List Str, ys.length = a → (ys ++ zs).Perm xs → G (.lst (ys.map D.str))
def Snms : List D → (D → Prop) → Prop := fun ds G => ∃ m : Nat, ds = [.int m] ∧ 1 ≤ m ∧ m ≤ 40 ∧ ∀ ns : List Str, ns.length = m → ns.Nodup → (∀ n ∈ ns, nameB n = true) → G (.lst (ns.map D.str))
def SsOk (m : Nat) (ss : List Spot) : Prop := 1 ≤ ss.length ∧ ss.length ≤ m ∧ ss.Nodup ∧ ∀ p ∈ ss, p.1.natAbs ≤ 9000 ∧ p.2.natAbs ≤ 9000
def Sss : List D → (D → Prop) → Prop := fun ds G => ∃ m w : Nat, ds = [.int m, .int w] ∧ 1 ≤ m ∧ m ≤ 40 ∧ 3 ≤ w ∧ w ≤ 9000 ∧ ∀ ss, SsOk m ss → G (.lst (ss.map spD))
def Sfd : List D → (D → Prop) → Prop := fun ds G => ∃ m w : Nat, ds = [.int m, .int w] ∧ 1 ≤ m ∧ m ≤ 40 ∧ 3 ≤ w ∧ w ≤ 9000 ∧ ∀ ws : List Well, WsOk ws → ws.length ≤ m → (∀ v ∈ ws, v.2.1.natAbs ≤ 9000 ∧ v.2.2.natAbs ≤ 9000) → G (.lst (ws.map wellD))
def Stx : List D → (D → Prop) → Prop := fun ds G => ∃ ws : List Well, ds = [.lst (ws.map wellD)] ∧ WsOk ws ∧ G (.str (textOf ws))
def Spl : List D → (D → Prop) → Prop := fun ds G => ∃ ws : List Well, ds = [.lst (ws.map wellD)] ∧ WsOk ws ∧ G (sbD ws)
theorem prime5 {k : Int} (h0 : 0 ≤ k) (h5 : k < 5) : ∃ p : Int, atI [D.int 2147483647, .int 2147483629, .int 2147483587, .int 2147483579, .int 2147483563] k = some (.int p) ∧ 0 < p ∧ p ≤ 2147483647 := by
  have h : k = 0 ∨ k = 1 ∨ k = 2 ∨ k = 3 ∨ k = 4 := by omega
  rcases h with rfl | rfl | rfl | rfl | rfl <;> exact ⟨_, rfl, by decide, by decide⟩
theorem fdiv_nn {x u : Int} (hx : 0 ≤ x) (hu : 0 < u) : 0 ≤ x.fdiv u := Int.fdiv_nonneg hx (Int.le_of_lt hu)
theorem b01 (b : Bool) : -2 ^ 64 < (if b = true then (1 : Int) else 0) ∧ (if b = true then (1 : Int) else 0) < 2 ^ 64 ∧ 0 ≤ (if b = true then (1 : Int) else 0) := by
  cases b <;> decide
theorem addNew_mem {acc : List Spot} {t : Spot × Spot × Spot} {p : Spot} : p ∈ addNew acc t ↔ p ∈ acc ∨ (liesB t.2.1 t.2.2 t.1 = true ∧ p = t.1) := by
  unfold addNew
  by_cases h : liesB t.2.1 t.2.2 t.1 = true
  · by_cases m : t.1 ∈ acc
    · rw [if_neg (by rw [h, decide_eq_true m]; decide)]
      constructor
      · exact .inl
      · rintro (z | ⟨_, rfl⟩)
        · exact z
        · exact m
    · rw [if_pos (by rw [h, decide_eq_false m]; rfl), List.mem_append, List.mem_singleton]
      constructor
      · rintro (z | rfl)
        · exact .inl z
        · exact .inr ⟨h, rfl⟩
      · rintro (z | ⟨_, rfl⟩)
        · exact .inl z
        · exact .inr rfl
  · rw [if_neg (fun z => h (Bool.and_eq_true_iff.mp z).1)]
    constructor
    · exact .inl
    · rintro (z | ⟨z, _⟩)
      · exact z
      · exact absurd z h
theorem addNew_nodup {acc : List Spot} {t : Spot × Spot × Spot} (h : acc.Nodup) : (addNew acc t).Nodup := by
  unfold addNew
  split
  · rename_i z
    have m := of_decide_eq_false (by simpa using (Bool.and_eq_true_iff.mp z).2 : decide (t.1 ∈ acc) = false)
    rw [List.nodup_append]
    refine ⟨h, by simp, fun a ha b hb e => ?_⟩
    rw [List.mem_singleton] at hb
    subst hb
    subst e
    exact m ha
  · exact h
theorem fold_mem {p : Spot} : ∀ {ts : List (Spot × Spot × Spot)} {acc : List Spot}, p ∈ ts.foldl addNew acc ↔ p ∈ acc ∨ ∃ t ∈ ts, liesB t.2.1 t.2.2 t.1 = true ∧ p = t.1
  | [], acc => by simp
  | t :: ts, acc => by
    rw [List.foldl_cons, fold_mem, addNew_mem]
    constructor
    · rintro ((z | z) | ⟨u, hu, z⟩)
      · exact .inl z
      · exact .inr ⟨t, .head _, z⟩
      · exact .inr ⟨u, .tail _ hu, z⟩
    · rintro (z | ⟨u, hu, z⟩)
      · exact .inl (.inl z)
      · cases hu with
        | head => exact .inl (.inr z)
        | tail _ hu => exact .inr ⟨u, hu, z⟩
theorem fold_nodup : ∀ {ts : List (Spot × Spot × Spot)} {acc : List Spot}, acc.Nodup → (ts.foldl addNew acc).Nodup
  | [], _, h => h
  | t :: ts, acc, h => by
    rw [List.foldl_cons]
    exact fold_nodup (addNew_nodup h)
theorem same_len {α : Type} [DecidableEq α] : ∀ {xs ys : List α}, xs.Nodup → ys.Nodup → (∀ a, a ∈ xs ↔ a ∈ ys) → xs.length = ys.length
  | [], ys, _, _, h => by
    cases ys with
    | nil => rfl
    | cons y ys => exact absurd ((h y).mpr (.head _)) (fun z => nomatch z)
  | x :: xs, ys, hx, hy, h => by
    rw [List.nodup_cons] at hx
    have m : x ∈ ys := (h x).mp (.head _)
    have e := same_len (ys := ys.erase x) hx.2 (hy.erase x) fun a => by
      rw [hy.mem_erase_iff]
      constructor
      · intro z
        exact ⟨fun q => hx.1 (q ▸ z), (h a).mp (.tail _ z)⟩
      · rintro ⟨z1, z2⟩
        rcases List.mem_cons.mp ((h a).mpr z2) with q | q
        · exact absurd q z1
        · exact q
    have l := List.length_erase_of_mem m
    have p : 0 < ys.length := List.length_pos_of_mem m
    rw [List.length_cons, e, l]
    omega
def endsL (a b c d : Spot) : List Spot := [a, b].filter (fun s => liesB c d s) ++ [c, d].filter (fun s => liesB a b s)
theorem common_mem {a b c d p : Spot} : p ∈ commonS a b c d ↔ p ∈ endsL a b c d := by
  unfold commonS endsL ends4
  rw [fold_mem]
  simp only [List.not_mem_nil, false_or, List.mem_append, List.mem_filter, List.mem_cons, List.not_mem_nil, or_false]
  constructor
  · rintro ⟨t, (rfl | rfl | rfl | rfl), h, rfl⟩
    · exact .inl ⟨.inl rfl, h⟩
    · exact .inl ⟨.inr rfl, h⟩
    · exact .inr ⟨.inl rfl, h⟩
    · exact .inr ⟨.inr rfl, h⟩
  · rintro (⟨(rfl | rfl), h⟩ | ⟨(rfl | rfl), h⟩)
    · exact ⟨_, .inl rfl, h, rfl⟩
    · exact ⟨_, .inr (.inl rfl), h, rfl⟩
    · exact ⟨_, .inr (.inr (.inl rfl)), h, rfl⟩
    · exact ⟨_, .inr (.inr (.inr rfl)), h, rfl⟩
theorem common_nodup {a b c d : Spot} : (commonS a b c d).Nodup := fold_nodup List.nodup_nil
theorem dist_len {a b c d : Spot} {n : Nat} (h : Dist ((endsL a b c d).map fun p => [p.1, p.2]) n) : n = (commonS a b c d).length := by
  obtain ⟨M, h1, h2, h3⟩ := h
  have e := same_len (xs := M) (ys := (commonS a b c d).map fun p => [p.1, p.2]) h1
    (nodup_of_map (f := fun p => p) (by rw [List.map_id']; exact common_nodup) fun u _ v _ z => by
      have z1 := (List.cons.inj z).1
      have z2 := (List.cons.inj (List.cons.inj z).2).1
      exact Prod.ext z1 z2)
    fun y => by
      rw [h3, List.mem_map, List.mem_map]
      constructor
      · rintro ⟨p, hp, e⟩
        exact ⟨p, common_mem.mpr hp, e⟩
      · rintro ⟨p, hp, e⟩
        exact ⟨p, common_mem.mp hp, e⟩
  rw [← h2, e, List.length_map]
theorem common_nil {a b c d : Spot} : (commonS a b c d).length = 0 ↔ endsL a b c d = [] := by
  rw [List.length_eq_zero_iff]
  constructor
  · intro h
    refine List.eq_nil_iff_forall_not_mem.mpr fun p hp => ?_
    have := common_mem.mpr hp
    rw [h] at this
    exact nomatch this
  · intro h
    refine List.eq_nil_iff_forall_not_mem.mpr fun p hp => ?_
    have := common_mem.mp hp
    rw [h] at this
    exact nomatch this
theorem sg_pos {x : Int} (h : 0 < x) : sgI x = 1 := by
  unfold sgI
  rw [decide_eq_true h, decide_eq_false (by omega)]
  rfl
theorem sg_neg {x : Int} (h : x < 0) : sgI x = -1 := by
  unfold sgI
  rw [decide_eq_true h, decide_eq_false (by omega)]
  rfl
theorem sg_zero : sgI 0 = 0 := by decide
theorem sg_mul {x y : Int} : decide (sgI x * sgI y < 0) = decide (x * y < 0) := by
  rcases Int.lt_trichotomy x 0 with hx | rfl | hx
  · rcases Int.lt_trichotomy y 0 with hy | rfl | hy
    · rw [sg_neg hx, sg_neg hy, decide_eq_false (p := x * y < 0) (by have := Int.mul_pos_of_neg_of_neg hx hy; omega)]
      decide
    · rw [sg_zero, Int.mul_zero, Int.mul_zero]
    · rw [sg_neg hx, sg_pos hy, decide_eq_true (p := x * y < 0) (Int.mul_neg_of_neg_of_pos hx hy)]
      decide
  · rw [sg_zero, Int.zero_mul, Int.zero_mul]
  · rcases Int.lt_trichotomy y 0 with hy | rfl | hy
    · rw [sg_pos hx, sg_neg hy, decide_eq_true (p := x * y < 0) (Int.mul_neg_of_pos_of_neg hx hy)]
      decide
    · rw [sg_zero, Int.mul_zero, Int.mul_zero]
    · rw [sg_pos hx, sg_pos hy, decide_eq_false (p := x * y < 0) (by have := Int.mul_pos hx hy; omega)]
      decide
theorem sg_le {x : Int} : (sgI x).natAbs ≤ 1 := by
  rcases Int.lt_trichotomy x 0 with hx | rfl | hx
  · rw [sg_neg hx]; decide
  · decide
  · rw [sg_pos hx]; decide
theorem eqb_nil {acc : List Spot} : D.eqb (.lst (acc.map spD)) (.lst []) = decide (acc = []) := by
  cases acc with
  | nil => rfl
  | cons p acc => rfl
theorem str_len (x y : Str) : (x ++ y).length = x.length + y.length := by
  rw [len_tl, TL.tl_append, List.length_append, ← len_tl, ← len_tl]
theorem line_eq (v : Well) : (((((("well " : Str) ++ v.1) ++ (" " : Str)) ++ numS v.2.1) ++ (" " : Str)) ++ numS v.2.2) = lineOf v := by
  refine str_ext ?_
  rw [tl_line]
  simp only [TL.tl_append, tl_numS]
  have e1 : TL.tl "well " = TL.tl "well" ++ [32] := by decide +kernel
  have e2 : TL.tl " " = [32] := by decide +kernel
  rw [e1, e2]
  simp only [List.append_assoc, List.singleton_append, List.cons_append, List.nil_append]
theorem erase_perm {α : Type} : ∀ {xs : List α} {i : Nat} (h : i < xs.length), ([xs[i]] ++ xs.eraseIdx i).Perm xs
  | x :: xs, 0, _ => List.Perm.refl _
  | x :: xs, i + 1, h => by
    have p := erase_perm (xs := xs) (i := i) (Nat.lt_of_succ_lt_succ h)
    exact (List.Perm.swap _ _ _).trans (p.cons x)
theorem rangeD_len {a : Int} : (rangeD 0 a).length = a.toNat := by
  unfold rangeD
  rw [List.length_map, List.length_range]
  omega
theorem erase_map {α β : Type} (f : α → β) : ∀ (xs : List α) (i : Nat), (xs.map f).eraseIdx i = (xs.eraseIdx i).map f
  | [], _ => rfl
  | x :: xs, 0 => rfl
  | x :: xs, i + 1 => by
    have e := erase_map f xs i
    show f x :: (xs.map f).eraseIdx i = f x :: (xs.eraseIdx i).map f
    rw [e]
theorem ends_len {a b c d : Spot} : (endsL a b c d).length ≤ 4 := by
  unfold endsL
  rw [List.length_append]
  have h1 := List.length_filter_le (fun s => liesB c d s) [a, b]
  have h2 := List.length_filter_le (fun s => liesB a b s) [c, d]
  simp only [List.length_cons, List.length_nil] at h1 h2
  omega
def poolS : List Str := (["a", "b", "c", "x9", "well", "far"] : List Str) ++ (List.range 44).map fun (i : Nat) => (("n" : Str) ++ numS (0 + (i : Int)))
theorem pool_names : poolS.all nameB = true := by decide +kernel
theorem pool_nodup : poolS.Nodup := by decide +kernel
theorem cut_last {xs : List D} (h : 1 ≤ xs.length) : Lw.cutD xs none (some (-1)) = xs.dropLast := by
  unfold Lw.cutD
  have e1 : HT.sIx xs.length 0 none = 0 := rfl
  have e2 : HT.sIx xs.length xs.length (some (-1)) = xs.length - 1 := by
    unfold HT.sIx
    simp only []
    split <;> omega
  rw [e1, e2, List.drop_zero, Nat.sub_zero, List.dropLast_eq_take]
def signC : List Nat := TL.tl "abcdefghijklmnopqrstuvwxyz0123456789"
theorem sign_in {c : Nat} (h : c ∈ signC) : c ∈ letC ∨ c ∈ figC := by
  have e : ∀ c ∈ signC, c ∈ letC ∨ c ∈ figC := by decide +kernel
  exact e c h
theorem join_nil : ∀ (ys : List Str), TL.tl (Txt.join "" ys) = (ys.map TL.tl).flatten := fun ys => by
  rw [TL.join_eq, TL.tl_join]
  have e : TL.tl "" = [] := by decide +kernel
  rw [e]
  induction ys with
  | nil => rfl
  | cons y ys ih =>
    cases ys with
    | nil => simp [TL.joinL]
    | cons z zs =>
      rw [List.map_cons, List.map_cons, TL.joinL, List.flatten_cons, List.nil_append]
      rw [← List.map_cons, ih]
theorem word_ok {ys : List Str} (hl : ys.length ≤ 6) (h : ∀ y ∈ ys, ∃ c, y = ⟨#[c]⟩ ∧ c ∈ signC) : nameB ("of" ++ Txt.join "" ys) = true ∧ (Txt.join "" ys).length ≤ 6 ∧ (ys.map (·.length)).sum ≤ 6 := by
  have k : ∀ ys : List Str, (∀ y ∈ ys, ∃ c, y = ⟨#[c]⟩ ∧ c ∈ signC) → (∀ d ∈ (ys.map TL.tl).flatten, d ∈ signC) ∧ (ys.map TL.tl).flatten.length = ys.length ∧ (ys.map (·.length)).sum = ys.length := by
    intro ys
    induction ys with
    | nil => exact fun _ => ⟨(fun d hd => nomatch hd), rfl, rfl⟩
    | cons y ys ih =>
      intro h
      obtain ⟨c, rfl, hc⟩ := h _ (.head _)
      obtain ⟨i1, i2, i3⟩ := ih fun z hz => h z (.tail _ hz)
      refine ⟨fun d hd => ?_, ?_, ?_⟩
      · rw [List.map_cons, List.flatten_cons, List.mem_append] at hd
        rcases hd with hd | hd
        · have : d = c := by simpa [TL.tl] using hd
          rw [this]; exact hc
        · exact i1 d hd
      · rw [List.map_cons, List.flatten_cons, List.length_append, i2, List.length_cons, Nat.add_comm]
        rfl
      · rw [List.map_cons, List.sum_cons, i3, List.length_cons, Nat.add_comm]
        rfl
  obtain ⟨k1, k2, k3⟩ := k ys h
  refine ⟨?_, ?_, by omega⟩
  · unfold nameB
    rw [TL.tl_append, join_nil]
    have e : TL.tl "of" = [111, 102] := by decide +kernel
    rw [e]
    show (decide (_ < 8) && decide ((111 : Nat) ∈ letC) && List.all (102 :: (ys.map TL.tl).flatten) _) = true
    rw [Bool.and_eq_true, Bool.and_eq_true, List.all_eq_true]
    refine ⟨⟨decide_eq_true (by show ((102 :: (ys.map TL.tl).flatten).length) < 8; rw [List.length_cons, k2]; omega), by decide +kernel⟩, fun d hd => ?_⟩
    rw [Bool.or_eq_true, decide_eq_true_iff, decide_eq_true_iff]
    rcases List.mem_cons.mp hd with rfl | hd
    · exact .inl (by decide +kernel)
    · exact sign_in (k1 d hd)
  · rw [len_tl, join_nil, k2]
    exact hl
theorem sign_at {d : Int} (h0 : 0 ≤ d) (h : d < 36) : ∃ c, atI (Str.ofString "abcdefghijklmnopqrstuvwxyz0123456789").cps.toList d = some c ∧ c ∈ signC := by
  have l : signC.length = 36 := by decide +kernel
  have hd : d.toNat < signC.length := by omega
  refine ⟨signC[d.toNat], ?_, List.getElem_mem _⟩
  have e := atI_at (xs := signC) (List.getElem?_eq_getElem hd)
  rw [Int.toNat_of_nonneg h0] at e
  exact e
theorem inF_str {ys : List Str} {n : Str} : inF (.str n) (ys.map D.str) = decide (n ∈ ys) := by
  have e := inF_strs (f := fun v : Str => v) (ws := ys) (n := n)
  rw [List.map_id'] at e
  exact e
def ringL : List Spot := [(5, 0), (4, 3), (3, 4), (0, 5), (-3, 4), (-4, 3), (-5, 0), (-4, -3), (-3, -4), (0, -5), (3, -4), (4, -3)]
abbrev ringD : D := .lst (ringL.map spD)
theorem rangeD_at {a : Int} {i : Nat} {x : D} (h : (rangeD 0 a)[i]? = some x) : (i : Int) < a ∧ x = .int (i : Nat) := by
  unfold rangeD at h
  rw [List.getElem?_map] at h
  cases q : (List.range (a - 0).toNat)[i]? with
  | none => rw [q] at h; cases h
  | some n =>
    rw [q] at h
    cases h
    obtain ⟨hi, e⟩ := List.getElem?_eq_some_iff.mp q
    rw [List.length_range] at hi
    rw [List.getElem_range] at e
    subst e
    exact ⟨by omega, congrArg D.int (Int.zero_add _)⟩
theorem ring_ok : ∀ p ∈ ringL, p.1.natAbs ≤ 9000 ∧ p.2.natAbs ≤ 9000 := by decide
def Srt : List D → (D → Prop) → Prop := fun ds G => ds = [] ∧ G (.bl true)
def Slaw : List D → (D → Prop) → Prop := fun ds G => ∃ sc : List Int, ds = [.lst (sc.map D.int)] ∧ G (.bl true)
theorem bend_rot (a b c : Spot) : bendI b c a = bendI a b c := by unfold bendI; grind
theorem bend_swap (a b c : Spot) : bendI b a c = -bendI a b c := by unfold bendI; grind
theorem bend_move (a b c : Spot) (i j : Int) : bendI (a.1 + i, a.2 + j) (b.1 + i, b.2 + j) (c.1 + i, c.2 + j) = bendI a b c := by unfold bendI; grind
theorem bend_turn (a b c : Spot) : bendI (0 - a.2, a.1) (0 - b.2, b.1) (0 - c.2, c.1) = bendI a b c := by unfold bendI; grind
theorem bend_glass (a b c : Spot) : bendI (0 - a.1, a.2) (0 - b.1, b.2) (0 - c.1, c.2) = -bendI a b c := by unfold bendI; grind
theorem sq_comm (a b : Spot) : sqI b a = sqI a b := by unfold sqI; grind
theorem sg_opp (x : Int) : sgI (-x) = 0 - sgI x := by
  rcases Int.lt_trichotomy x 0 with h | rfl | h
  · rw [sg_neg h, sg_pos (by omega)]
    rfl
  · decide
  · rw [sg_pos h, sg_neg (by omega)]
    rfl
theorem btw_comm (a b c : Int) : btw b a c = btw a b c := by
  unfold btw
  grind
theorem lies_comm (a b c : Spot) : liesB b a c = liesB a b c := by
  unfold liesB
  rw [bend_swap a b c, btw_comm a.1 b.1, btw_comm a.2 b.2]
  congr 1
  grind
theorem met_comm (a b c d : Spot) : metS c d b a = metS a b c d := by
  have m : ∀ p, p ∈ commonS c d b a ↔ p ∈ commonS a b c d := fun p => by
    rw [common_mem, common_mem]
    unfold endsL
    simp only [List.mem_append, List.mem_filter, List.mem_cons, List.not_mem_nil, or_false, lies_comm a b]
    grind
  have l := same_len common_nodup common_nodup m
  have e : crossB c d b a = crossB a b c d := by
    unfold crossB
    rw [bend_swap a b c, bend_swap a b d, Int.neg_mul_neg, Bool.and_comm, Int.mul_comm (bendI c d b)]
  unfold metS
  rw [l, e]
theorem mapW_mapW (f g : Spot → Spot) (ws : List Well) : mapW f (mapW g ws) = mapW (fun p => f (g p)) ws := by
  unfold mapW
  rw [List.map_map]
  rfl
theorem mapW_id {f : Spot → Spot} (h : ∀ p, f p = p) (ws : List Well) : mapW f ws = ws := by
  unfold mapW
  conv => rhs; rw [← List.map_id ws]
  exact List.map_congr_left fun v _ => by rw [h]; rfl
theorem four {α : Type} {xs : List α} (h : xs.length = 4) : ∃ a b c d, xs = [a, b, c, d] := by
  match xs, h with
  | [a, b, c, d], _ => exact ⟨a, b, c, d, rfl⟩
theorem three {α : Type} {xs : List α} (h : xs.length = 3) : ∃ a b c, xs = [a, b, c] := by
  match xs, h with
  | [a, b, c], _ => exact ⟨a, b, c, rfl⟩
/-! ### names of a field: told with or without what is known of their tuple -/
def Snms2 (C : Addr) : List D → (D → Prop) → Prop := fun ds G => ∃ ws, ds = [fldD C ws] ∧ (G (.tup (ws.map fun v => .str v.1)) ∨ G (.ntp (ws.map fun v => .str v.1)))
def StwN (C : Addr) : List D → (List D → Prop) → Prop := fun ds G => ∃ ws, ds = [fldD C ws] ∧ ws.length ≤ 40 ∧ G (ws.map wellD)
def Siw : List D → (D → Prop) → Prop := fun ds G => ∃ v : Well, ds = [wellD v] ∧ WOk v ∧ G (.bl true)
def Smo (C : Addr) : List D → (D → Prop) → Prop := fun ds G => ∃ (ws : List Well) (v : Well), ds = [fldD C ws, .tup [wellD v]] ∧ WsOk (ws ++ [v]) ∧ G (fldD C (ws ++ [v]))
/-! ### lots of wells -/
abbrev lotD (l : List Str) : D := .tup (l.map D.str)
abbrev lotT (l : List Nat) : D := .tup (l.map fun (i : Nat) => D.int (i : Int))
def numL {α : Type} (xs : List α) : List (Nat × α) := (List.range xs.length).zip xs
def pairsL {α : Type} (xs : List α) : List (α × α) := (numL xs).flatMap fun p => (xs.drop (p.1 + 1)).map fun b => (p.2, b)
def addU {α : Type} [DecidableEq α] (acc : List α) (x : α) : List α := if x ∈ acc then acc else acc ++ [x]
def lotI (ws : List Well) (a b : Spot) : List Nat := ((numL ws).filter fun p => decide (bendI a b p.2.2 = 0)).map Prod.fst
def lotN (ws : List Well) (a b : Spot) : List Str := (ws.filter fun v => decide (bendI a b v.2 = 0)).map (·.1)
def foundI (ws : List Well) : List (List Nat) := ((pairsL ws).map fun p => lotI ws p.1.2 p.2.2).foldl addU []
def foundN (ws : List Well) : List (List Str) := ((pairsL ws).map fun p => lotN ws p.1.2 p.2.2).foldl addU []
def keyT (l : List Nat) : PyData := .tuple (l.map fun (i : Nat) => PyData.int (i : Int))
def keyL (l : List Nat) : PyData := .list (l.map fun (i : Nat) => PyData.int (i : Int))
def keyN (ws : List Well) (r : List Str) : PyData := .list (r.map fun n => PyData.int (((ws.map (·.1)).idxOf n : Nat) : Int))
def sortI (ls : List (List Nat)) : List (List Nat) := ls.mergeSort (PySem.W.dataLe false keyT)
def nmI (ws : List Well) (l : List Nat) : List Str := l.map fun i => ((ws[i]?).map (·.1)).getD ""
def linesW (ws : List Well) : List (List Str) := (sortI (foundI ws)).map (nmI ws)
def Spo : List D → (D → Prop) → Prop := fun ds G => ∃ ns : List Str, ds = [lotD ns] ∧ ns.length ≤ 40 ∧ G (.lst ((pairsL ns).map fun p => .tup [.str p.1, .str p.2]))
def Sbn (C : Addr) : List D → (D → Prop) → Prop := fun ds G => ∃ (ws : List Well) (rows : List (List Str)), ds = [fldD C ws, .lst (rows.map lotD)] ∧ WsOk ws ∧ (∀ r ∈ rows, ∀ n ∈ r, n ∈ ws.map (·.1)) ∧ (∀ r ∈ rows, r.length ≤ 40) ∧
  G (.tup ((Lk.sortK false (rows.map (keyN ws)) rows).map lotD))
def Sli (C : Addr) : List D → (D → Prop) → Prop := fun ds G => ∃ ws, ds = [fldD C ws] ∧ WsOk ws ∧ G (.tup ((linesW ws).map lotD))
def loneD (ws : List Well) : D := match (linesW ws).filter fun l => decide (l.length = 2) with
  | [] => .tup [.str "line", lotD (ws.map (·.1))]
  | l :: _ => .tup [.str "pair", lotD l]
def Slp (C : Addr) : List D → (D → Prop) → Prop := fun ds G => ∃ ws, ds = [fldD C ws] ∧ WsOk ws ∧ G (loneD ws)
/-! ### the law's own defs -/
def Spt2 : List D → (List D → Prop) → Prop := fun ds G => ∃ (sc : List Int) (pl : Nat), ds = [.frl (sc.map D.int), .int pl] ∧ pl ≤ 2 ∧ ∀ x y, 0 ≤ x → 0 ≤ y → y < 2305843009213693951 → G [.int x, .int y, .int 0]
def Scl2 : List D → (D → Prop) → Prop := fun ds G => ∃ (sc : List D), ds = [.frl sc, .int 2] ∧ ∀ n : Nat, 1 ≤ n → n ≤ 2 → G (.lst (rgD 0 n))
def SsmN : List D → (List D → Prop) → Prop := fun ds G => ∃ (xs : List Str) (a : Nat), ds = [.lst (xs.map D.str), .int a] ∧ a ≤ xs.length ∧ a ≤ 40 ∧ xs.length ≤ 100 ∧ ∀ ys zs : List Str, ys.length = a → (ys ++ zs).Perm xs → G (ys.map D.str)
def Snm1 : List D → (D → Prop) → Prop := fun ds G => ∃ ns : List Str, ds = [.lst (ns.map D.str)] ∧ ns.length ≤ 40 ∧ ∀ w, nameB w = true → w ∉ ns → G (.str w)
def Snm9 : List D → (D → Prop) → Prop := fun ds G => ∃ m : Nat, ds = [.int m] ∧ 1 ≤ m ∧ m ≤ 12 ∧ ∀ ns : List Str, ns.length = m → ns.Nodup → (∀ n ∈ ns, nameB n = true) → G (.tup (ns.map D.str))
def Ssp1 : List D → (D → Prop) → Prop := fun ds G => ∃ a b : Int, ds = [.int a, .int b] ∧ 1 ≤ b ∧ b ≤ 9 ∧ ∀ p : Spot, p.1.natAbs ≤ 100 → p.2.natAbs ≤ 100 → G (spD p)
def Sfd2 : List D → (D → Prop) → Prop := fun ds G => ∃ m b : Int, ds = [.int m, .int b] ∧ 1 ≤ m ∧ m ≤ 12 ∧ 1 ≤ b ∧ b ≤ 9 ∧ ∀ ws : List Well, WsOk ws → ws.length ≤ 12 → (∀ v ∈ ws, v.2.1.natAbs ≤ 100 ∧ v.2.2.natAbs ≤ 100) → G (.tup (ws.map wellD))
def seqD (x : D) (xs : List D) : Prop := x = .tup xs ∨ x = .lst xs
def Stx2 : List D → (D → Prop) → Prop := fun ds G => ∃ ws x, ds = [x] ∧ seqD x (ws.map wellD) ∧ WsOk ws ∧ G (.str (textOf ws))
def Sll : List D → (D → Prop) → Prop := fun ds G => ∃ ws x, ds = [x] ∧ seqD x (ws.map wellD) ∧ WsOk ws ∧ G (.lst ((linesW ws).map lotD))
def NumOk (n : Nat) (sizes : List Nat) : Prop := (sizes.map fun k => k * (k - 1)).sum = n * (n - 1) ∧ (3 ≤ n → sizes ≠ [] ∧ ((∀ k ∈ sizes, k ≠ n) → n ≤ sizes.length ∧ 3 + ((sizes.filter fun k => decide (3 < k)).map fun k => k - 3).sum ≤ (sizes.filter fun k => decide (k = 2)).length))
def Snr : List D → (D → Prop) → Prop := fun ds G => ∃ (ws : List Well) (ls : List (List Str)) (x y : D), ds = [x, y] ∧ seqD x (ws.map wellD) ∧ seqD y (ls.map lotD) ∧ ws.length ≤ 40 ∧ (∀ l ∈ ls, l.length ≤ ws.length) ∧ ls.length ≤ 2000 ∧ (∀ l ∈ ls, 2 ≤ l.length) ∧ NumOk ws.length (ls.map (·.length)) ∧ G (.bl true)
def Slo2 : List D → (D → Prop) → Prop := fun ds G => ∃ ws, ds = [.tup (ws.map wellD), loneD ws] ∧ WsOk ws ∧ G (.bl true)
def Slaw2 : List D → (D → Prop) → Prop := fun ds G => ∃ sc : List Int, ds = [.frl (sc.map D.int)] ∧ G (.bl true)
theorem cut_ints (sc : List Int) (lo hi : Option Int) : D.lst (Lw.cutD (sc.map D.int) lo hi) = .lst ((((sc.drop (HT.sIx sc.length 0 lo)).take (HT.sIx sc.length sc.length hi - HT.sIx sc.length 0 lo))).map D.int) := by
  unfold Lw.cutD
  rw [List.length_map, ← List.map_drop, ← List.map_take]
/-! ### k50: crossings -/
def threesL {α : Type} (xs : List α) : List (α × α × α) := (numL xs).flatMap fun p => (pairsL (xs.drop (p.1 + 1))).map fun q => (p.2, q.1, q.2)
def lineB (t : Well × Well × Well) : Bool := decide (bendI t.1.2 t.2.1.2 t.2.2.2 = 0)
def firstT (ws : List Well) : Option (Well × Well × Well) := (threesL ws).find? lineB
abbrev tripL (t : Well × Well × Well) : List Str := [t.1.1, t.2.1.1, t.2.2.1]
def Sth : List D → (D → Prop) → Prop := fun ds G => ∃ ns : List Str, ds = [lotD ns] ∧ ns.length ≤ 40 ∧ G (.lst ((threesL ns).map fun t => lotD [t.1, t.2.1, t.2.2]))
def SclX (K : Lh.Fg) : List D → (D → Prop) → (Addr → D → Prop) → Prop := fun ds F G => ∃ ws, ds = [fldD (FC K) ws] ∧ WsOk ws ∧ (firstT ws = none → F .non) ∧ ∀ t, firstT ws = some t → G (He.ga K "OnOne") (lotD (tripL t))
def leftN (ws : List Well) (a b : Spot) : Nat := (ws.filter fun v => decide (0 < bendI a b v.2)).length
def rightN (ws : List Well) (a b : Spot) : Nat := (ws.filter fun v => decide (bendI a b v.2 < 0)).length
def Sos (C : Addr) : List D → (D → Prop) → Prop := fun ds G => ∃ (ws : List Well) (a b : Well), ds = [fldD C ws, .str a.1, .str b.1] ∧ WsOk ws ∧ a ∈ ws ∧ b ∈ ws ∧ G (.tup [.int (leftN ws a.2 b.2 : Nat), .int (rightN ws a.2 b.2 : Nat)])
def minN (ws : List Well) (p : Well × Well) : Nat := min (leftN ws p.1.2 p.2.2) (rightN ws p.1.2 p.2.2)
def minsL (ws : List Well) : List Nat := (pairsL ws).map (minN ws)
def sidesN (n : Nat) (ks : List Nat) : List Nat := (List.range ((n - 2) / 2 + 1)).map fun m => ks.count m
def sidesL (ws : List Well) : List Nat := sidesN ws.length (minsL ws)
def natsT (ks : List Nat) : D := .tup (ks.map fun k => .int (k : Nat))
def c4 (n : Nat) : Int := ((n : Int) * ((n : Int) - 1) * ((n : Int) - 2) * ((n : Int) - 3)).fdiv 24
def prodL (ws : List Well) : List Int := (pairsL ws).map fun p => (leftN ws p.1.2 p.2.2 : Int) * (rightN ws p.1.2 p.2.2 : Int)
def crossI (ws : List Well) : Int := 3 * c4 ws.length - (prodL ws).sum
def SspX (K : Lh.Fg) : List D → (D → Prop) → (Addr → D → Prop) → Prop := fun ds F G => ∃ ws, ds = [fldD (FC K) ws] ∧ WsOk ws ∧ (firstT ws = none → F (natsT (sidesL ws))) ∧ ∀ t, firstT ws = some t → G (He.ga K "OnOne") (lotD (tripL t))
def ScrX (K : Lh.Fg) : List D → (D → Prop) → (Addr → D → Prop) → Prop := fun ds F G => ∃ ws, ds = [fldD (FC K) ws] ∧ WsOk ws ∧ (firstT ws = none → F (.int (crossI ws))) ∧ ∀ t, firstT ws = some t → G (He.ga K "OnOne") (lotD (tripL t))
def S4 (f : Spot → Spot → Spot → Spot → D) : List D → (D → Prop) → Prop := fun ds G => ∃ a b c d, ds = [spD a, spD b, spD c, spD d] ∧ SpOk a ∧ SpOk b ∧ SpOk c ∧ SpOk d ∧ G (f a b c d)
def Slps : List D → (D → Prop) → Prop := fun ds G => ∃ xs : List D, ds = [.lst xs] ∧ xs.length ≤ 900 ∧ G (.lst ((pairsL xs).map fun p => .tup [p.1, p.2]))
def Sfl : List D → (D → Prop) → Prop := fun ds G => ∃ ws : List Well, ds = [.tup (ws.map wellD)] ∧ WsOk ws ∧ (firstT ws = none → G .non) ∧ ∀ t, firstT ws = some t → G (lotD (tripL t))
def Sch : List D → (D → Prop) → Prop := fun ds G => ∃ m f : Nat, ds = [.int (m : Nat), .int (f : Nat)] ∧ m ≤ 40 ∧ (f = 2 ∨ f = 4) ∧ G (.int (if f = 2 then (m * (m - 1) / 2 : Nat) else (m * (m - 1) * (m - 2) * (m - 3) / 24 : Nat)))
def FewOk (n : Nat) (ks : List Nat) : Prop := ∀ f : Nat, 2 * (f + 1) < n → 3 * ((f + 2) * (f + 1) / 2) ≤ ((sidesN n ks).take (f + 1)).sum
def Ssr : List D → (D → Prop) → Prop := fun ds G => ∃ (ws : List Well) (x : D), ds = [x, natsT (sidesL ws)] ∧ seqD x (ws.map wellD) ∧ WsOk ws ∧ 2 ≤ ws.length ∧ (∀ p ∈ pairsL ws, leftN ws p.1.2 p.2.2 + rightN ws p.1.2 p.2.2 + 2 = ws.length) ∧ FewOk ws.length (minsL ws) ∧ G (.bl true)
def Ssp5 : List D → (D → Prop) → Prop := fun ds G => ∃ a b : Int, ds = [.int a, .int b] ∧ 1 ≤ b ∧ b ≤ 4000 ∧ ∀ p : Spot, p.1.natAbs ≤ 8000 → p.2.natAbs ≤ 8000 → G (spD p)
def Sfd5 : List D → (D → Prop) → Prop := fun ds G => ∃ m b : Int, ds = [.int m, .int b] ∧ 1 ≤ m ∧ m ≤ 12 ∧ 1 ≤ b ∧ b ≤ 4000 ∧ ∀ ws : List Well, WsOk ws → ws.length ≤ 12 → (∀ v ∈ ws, v.2.1.natAbs ≤ 8000 ∧ v.2.2.natAbs ≤ 8000) → G (.tup (ws.map wellD))
end Law

set_option Elab.async false
set_option linter.all false
set_option maxRecDepth 100000
set_option maxHeartbeats 0
namespace Law
open PySem PySem.Spec PyProof.Rows L2 Lw
variable [Tabl]
/-! ### numbered lists, pairs -/
theorem numL_len {α : Type} (xs : List α) : (numL xs).length = xs.length := by unfold numL; rw [List.length_zip, List.length_range, Nat.min_self]
theorem numL_get {α : Type} {xs : List α} {i : Nat} {w : α} (h : xs[i]? = some w) : (numL xs)[i]? = some (i, w) := by
  unfold numL
  obtain ⟨hi, e⟩ := List.getElem?_eq_some_iff.mp h
  rw [List.getElem?_zip_eq_some]
  exact ⟨by rw [List.getElem?_range hi], h⟩
theorem numL_at {α : Type} {xs : List α} {i : Nat} {p : Nat × α} (h : (numL xs)[i]? = some p) : p.1 = i ∧ xs[i]? = some p.2 := by
  unfold numL at h
  rw [List.getElem?_zip_eq_some] at h
  obtain ⟨h1, h2⟩ := h
  obtain ⟨hi, e⟩ := List.getElem?_eq_some_iff.mp h1
  rw [List.getElem_range] at e
  exact ⟨e.symm, h2⟩
theorem numL_mem {α : Type} {xs : List α} {p : Nat × α} (h : p ∈ numL xs) : xs[p.1]? = some p.2 := by
  obtain ⟨i, hi⟩ := List.mem_iff_getElem?.mp h
  obtain ⟨e1, e2⟩ := numL_at hi
  rw [e1]; exact e2
theorem numL_snd {α : Type} (xs : List α) : (numL xs).map Prod.snd = xs := by
  unfold numL
  exact List.map_snd_zip (by rw [List.length_range]; exact Nat.le_refl _)
theorem numL_map {α β : Type} (f : α → β) (xs : List α) : numL (xs.map f) = (numL xs).map fun p => (p.1, f p.2) := by
  unfold numL
  rw [List.length_map, List.zip_map_right]
  rfl
theorem numL_take {α : Type} {xs : List α} {i : Nat} {w : α} (h : xs[i]? = some w) : (numL xs).take (i + 1) = (numL xs).take i ++ [(i, w)] := by
  rw [List.take_succ, numL_get h]
  rfl
theorem enumD_num {α : Type} (f : α → D) (xs : List α) : enumD (xs.map f) = (numL xs).map fun p => .tup [.int (p.1 : Int), f p.2] := by
  refine List.ext_getElem? fun i => ?_
  rw [List.getElem?_map]
  cases e : xs[i]? with
  | none =>
    have h1 : xs.length ≤ i := List.getElem?_eq_none_iff.mp e
    rw [List.getElem?_eq_none (l := enumD (xs.map f)) (by rw [enumD_len, List.length_map]; exact h1), List.getElem?_eq_none (l := numL xs) (by rw [numL_len]; exact h1)]
    rfl
  | some w =>
    have hi := (List.getElem?_eq_some_iff.mp e).1
    have h2 : i < (enumD (xs.map f)).length := by rw [enumD_len, List.length_map]; exact hi
    obtain ⟨v, e1, e2⟩ := enumD_map (f := f) (ws := xs) (List.getElem?_eq_getElem h2)
    rw [e] at e1
    cases e1
    rw [List.getElem?_eq_getElem h2, e2, numL_get e]
    rfl
/-- the pairs of the first i -/
def pairsTo {α : Type} (xs : List α) (i : Nat) : List (α × α) := ((numL xs).take i).flatMap fun p => (xs.drop (p.1 + 1)).map fun b => (p.2, b)
theorem pairsTo_succ {α : Type} {xs : List α} {i : Nat} {w : α} (h : xs[i]? = some w) : pairsTo xs (i + 1) = pairsTo xs i ++ (xs.drop (i + 1)).map fun b => (w, b) := by
  unfold pairsTo
  rw [numL_take h, List.flatMap_append]
  rw [List.flatMap_cons, List.flatMap_nil, List.append_nil]
theorem pairsTo_all {α : Type} (xs : List α) : pairsTo xs xs.length = pairsL xs := by
  unfold pairsTo pairsL
  rw [← numL_len xs, List.take_length]
theorem pairsL_map {α β : Type} (f : α → β) (xs : List α) : pairsL (xs.map f) = (pairsL xs).map fun p => (f p.1, f p.2) := by
  unfold pairsL
  rw [numL_map, List.flatMap_map, List.map_flatMap]
  refine congrArg (fun g => (numL xs).flatMap g) (funext fun p => ?_)
  rw [← List.map_drop, List.map_map, List.map_map]
  rfl
theorem pairsL_mem {α : Type} {xs : List α} {d : α × α} : d ∈ pairsL xs ↔ ∃ i j : Nat, i < j ∧ xs[i]? = some d.1 ∧ xs[j]? = some d.2 := by
  unfold pairsL
  rw [List.mem_flatMap]
  constructor
  · rintro ⟨p, hp, hd⟩
    obtain ⟨b, hb, rfl⟩ := List.mem_map.mp hd
    obtain ⟨k, hk⟩ := List.mem_iff_getElem?.mp hb
    rw [List.getElem?_drop] at hk
    exact ⟨p.1, p.1 + 1 + k, by omega, numL_mem hp, hk⟩
  · rintro ⟨i, j, hij, h1, h2⟩
    refine ⟨(i, d.1), List.mem_iff_getElem?.mpr ⟨i, numL_get h1⟩, List.mem_map.mpr ⟨d.2, List.mem_iff_getElem?.mpr ⟨j - (i + 1), ?_⟩, rfl⟩⟩
    rw [List.getElem?_drop]
    rw [show i + 1 + (j - (i + 1)) = j by omega]
    exact h2
theorem pairsL_in {α : Type} {xs : List α} {d : α × α} (h : d ∈ pairsL xs) : d.1 ∈ xs ∧ d.2 ∈ xs := by
  obtain ⟨i, j, _, h1, h2⟩ := pairsL_mem.mp h
  exact ⟨List.mem_of_getElem? h1, List.mem_of_getElem? h2⟩
theorem pairsL_ne {α : Type} {xs : List α} (nd : xs.Nodup) {d : α × α} (h : d ∈ pairsL xs) : d.1 ≠ d.2 := fun e => by
  obtain ⟨i, j, hij, h1, h2⟩ := pairsL_mem.mp h
  rw [← e] at h2
  have hi := (List.getElem?_eq_some_iff.mp h1).1
  have := (List.getElem?_inj hi nd).mp (h1.trans h2.symm)
  omega
theorem pairsTo_len {α : Type} (xs : List α) : ∀ i, (pairsTo xs i).length ≤ i * xs.length
  | 0 => by unfold pairsTo; simp
  | i + 1 => by
    have ih := pairsTo_len xs i
    cases e : xs[i]? with
    | none =>
      have h1 : xs.length ≤ i := List.getElem?_eq_none_iff.mp e
      have : pairsTo xs (i + 1) = pairsTo xs i := by
        unfold pairsTo
        rw [List.take_of_length_le (by rw [numL_len]; omega), List.take_of_length_le (by rw [numL_len]; omega)]
      rw [this, Nat.succ_mul]
      omega
    | some w =>
      rw [pairsTo_succ e, List.length_append, List.length_map, List.length_drop, Nat.succ_mul]
      omega
theorem cut_drop {xs : List D} (k : Nat) : Lw.cutD xs (some (k : Int)) none = xs.drop k := by
  unfold Lw.cutD
  have e2 : HT.sIx xs.length xs.length none = xs.length := rfl
  have e1 : HT.sIx xs.length 0 (some (k : Int)) = min k xs.length := by
    unfold HT.sIx
    simp only []
    split <;> omega
  rw [e1, e2]
  by_cases h : k ≤ xs.length
  · rw [Nat.min_eq_left h]
    rw [List.take_of_length_le (by rw [List.length_drop]; exact Nat.le_refl _)]
  · rw [Nat.min_eq_right (by omega), List.drop_of_length_le (i := k) (by omega), List.drop_length, List.take_nil]
/-! ### lots that are added once -/
theorem addU_mem {α : Type} [DecidableEq α] {acc : List α} {x y : α} : y ∈ addU acc x ↔ y ∈ acc ∨ y = x := by
  unfold addU
  split
  · rename_i h
    exact ⟨.inl, fun z => z.elim id fun e => e ▸ h⟩
  · rw [List.mem_append, List.mem_singleton]
theorem addU_nodup {α : Type} [DecidableEq α] {acc : List α} {x : α} (h : acc.Nodup) : (addU acc x).Nodup := by
  unfold addU
  split
  · exact h
  · rename_i n
    rw [List.nodup_append]
    refine ⟨h, by simp, fun a ha b hb e => ?_⟩
    rw [List.mem_singleton] at hb
    subst hb
    subst e
    exact n ha
theorem addU_len {α : Type} [DecidableEq α] {acc : List α} {x : α} : (addU acc x).length ≤ acc.length + 1 := by
  unfold addU
  split
  · omega
  · rw [List.length_append]; exact Nat.le_refl _
theorem foldU_mem {α : Type} [DecidableEq α] {y : α} : ∀ {xs acc : List α}, y ∈ xs.foldl addU acc ↔ y ∈ acc ∨ y ∈ xs
  | [], acc => by simp
  | x :: xs, acc => by
    rw [List.foldl_cons, foldU_mem, addU_mem, List.mem_cons, or_assoc]
theorem foldU_nodup {α : Type} [DecidableEq α] : ∀ {xs acc : List α}, acc.Nodup → (xs.foldl addU acc).Nodup
  | [], _, h => h
  | x :: xs, acc, h => by
    rw [List.foldl_cons]
    exact foldU_nodup (addU_nodup h)
theorem foldU_len {α : Type} [DecidableEq α] : ∀ {xs acc : List α}, (xs.foldl addU acc).length ≤ acc.length + xs.length
  | [], _ => Nat.le_refl _
  | x :: xs, acc => by
    rw [List.foldl_cons, List.length_cons]
    exact Nat.le_trans foldU_len (by have := addU_len (acc := acc) (x := x); omega)
theorem foldU_map {α β : Type} [DecidableEq α] [DecidableEq β] (f : α → β) : ∀ (xs acc : List α), (∀ x ∈ acc ++ xs, ∀ y ∈ acc ++ xs, f x = f y → x = y) → (xs.foldl addU acc).map f = (xs.map f).foldl addU (acc.map f)
  | [], _, _ => rfl
  | x :: xs, acc, h => by
    have e : (addU acc x).map f = addU (acc.map f) (f x) := by
      unfold addU
      by_cases m : x ∈ acc
      · rw [if_pos m, if_pos (List.mem_map_of_mem m)]
      · rw [if_neg m, if_neg, List.map_append]
        · rfl
        · intro z
          obtain ⟨y, hy, e⟩ := List.mem_map.mp z
          exact m (h y (List.mem_append_left _ hy) x (List.mem_append_right _ List.mem_cons_self) e ▸ hy)
    rw [List.foldl_cons, List.map_cons, List.foldl_cons, ← e]
    refine foldU_map f xs (addU acc x) fun u hu v hv => h u ?_ v ?_
    · rcases List.mem_append.mp hu with hu | hu
      · rcases addU_mem.mp hu with hu | hu
        · exact List.mem_append_left _ hu
        · exact List.mem_append_right _ (hu ▸ List.mem_cons_self)
      · exact List.mem_append_right _ (List.mem_cons_of_mem _ hu)
    · rcases List.mem_append.mp hv with hu | hu
      · rcases addU_mem.mp hu with hu | hu
        · exact List.mem_append_left _ hu
        · exact List.mem_append_right _ (hu ▸ List.mem_cons_self)
      · exact List.mem_append_right _ (List.mem_cons_of_mem _ hu)
/-- a dict whose values are all True -/
theorem putG_keys {ks : List (List Key)} {k : List Key} : putG (ks.map fun l => (l, D.bl true)) k (.bl true) = (addU ks k).map fun l => (l, D.bl true) := by
  unfold putG addU
  have e : ((ks.map fun l => (l, D.bl true)).any fun kv => decide (kv.1 = k)) = true ↔ k ∈ ks := by
    rw [List.any_map, List.any_eq_true]
    constructor
    · rintro ⟨x, hx, q⟩
      exact (of_decide_eq_true q) ▸ hx
    · intro h
      exact ⟨k, h, decide_eq_true rfl⟩
  by_cases m : k ∈ ks
  · rw [if_pos (e.mpr m), if_pos m, List.map_map]
    refine List.map_congr_left fun l _ => ?_
    show (if l = k then (l, D.bl true) else (l, D.bl true)) = _
    split <;> rfl
  · rw [if_neg (fun z => m (e.mp z)), if_neg m, List.map_append]
    rfl
/-! ### lots of wells by numbers and by names -/
theorem nm_lot (ws : List Well) (a b : Spot) : nmI ws (lotI ws a b) = lotN ws a b := by
  unfold nmI lotI lotN
  have e : ws.filter (fun v => decide (bendI a b v.2 = 0)) = ((numL ws).filter fun p => decide (bendI a b p.2.2 = 0)).map Prod.snd := by
    conv => lhs; rw [← numL_snd ws]
    rw [List.filter_map]
    rfl
  rw [e, List.map_map, List.map_map]
  refine List.map_congr_left fun p hp => ?_
  show ((ws[p.1]?).map (fun v : Well => v.1)).getD ("" : Str) = p.2.1
  rw [numL_mem (List.mem_filter.mp hp).1]
  rfl
theorem lotI_lt {ws : List Well} {a b : Spot} {i : Nat} (h : i ∈ lotI ws a b) : i < ws.length := by
  unfold lotI at h
  obtain ⟨p, hp, rfl⟩ := List.mem_map.mp h
  exact (List.getElem?_eq_some_iff.mp (numL_mem (List.mem_filter.mp hp).1)).1
theorem nm_at {ws : List Well} {i : Nat} (h : i < ws.length) : ((ws[i]?).map (·.1)).getD ("" : Str) = (ws.map (·.1))[i]'(by rw [List.length_map]; exact h) := by
  rw [List.getElem?_eq_getElem h, List.getElem_map]
  rfl
theorem nmI_inj {ws : List Well} (nd : (ws.map (·.1)).Nodup) : ∀ {l m : List Nat}, (∀ i ∈ l, i < ws.length) → (∀ i ∈ m, i < ws.length) → nmI ws l = nmI ws m → l = m
  | [], [], _, _, _ => rfl
  | [], _ :: _, _, _, e => by unfold nmI at e; simp at e
  | _ :: _, [], _, _, e => by unfold nmI at e; simp at e
  | i :: l, j :: m, h1, h2, e => by
    unfold nmI at e
    rw [List.map_cons, List.map_cons, List.cons.injEq] at e
    obtain ⟨e1, e2⟩ := e
    have hi := h1 i List.mem_cons_self
    have hj := h2 j List.mem_cons_self
    rw [nm_at hi, nm_at hj] at e1
    have := (List.getElem_inj nd).mp e1
    rw [this, nmI_inj nd (fun k hk => h1 k (List.mem_cons_of_mem _ hk)) (fun k hk => h2 k (List.mem_cons_of_mem _ hk)) e2]
theorem foundI_mem {ws : List Well} {l : List Nat} : l ∈ foundI ws ↔ ∃ p ∈ pairsL ws, l = lotI ws p.1.2 p.2.2 := by
  unfold foundI
  rw [foldU_mem]
  simp only [List.not_mem_nil, false_or, List.mem_map]
  exact ⟨fun ⟨p, hp, e⟩ => ⟨p, hp, e.symm⟩, fun ⟨p, hp, e⟩ => ⟨p, hp, e.symm⟩⟩
theorem foundI_lt {ws : List Well} {l : List Nat} (h : l ∈ foundI ws) : ∀ i ∈ l, i < ws.length := by
  obtain ⟨p, _, rfl⟩ := foundI_mem.mp h
  exact fun i hi => lotI_lt hi
theorem foundN_eq {ws : List Well} (nd : (ws.map (·.1)).Nodup) : foundN ws = (foundI ws).map (nmI ws) := by
  unfold foundN foundI
  rw [foldU_map (nmI ws) _ [] (fun x hx y hy e => ?_)]
  · rw [List.map_map, List.map_nil]
    refine congrArg (fun z => List.foldl addU [] z) (List.map_congr_left fun p _ => (nm_lot ws p.1.2 p.2.2).symm)
  · rw [List.nil_append] at hx hy
    obtain ⟨p, _, rfl⟩ := List.mem_map.mp hx
    obtain ⟨q, _, rfl⟩ := List.mem_map.mp hy
    exact nmI_inj nd (fun i hi => lotI_lt hi) (fun i hi => lotI_lt hi) e
theorem idx_nm {ws : List Well} (nd : (ws.map (·.1)).Nodup) {i : Nat} (h : i < ws.length) : (ws.map (·.1)).idxOf (((ws[i]?).map (·.1)).getD ("" : Str)) = i := by
  rw [nm_at h]
  have hi : i < (ws.map (·.1)).length := by rw [List.length_map]; exact h
  have m : (ws.map (·.1))[i] ∈ ws.map (·.1) := List.getElem_mem hi
  have hj := List.idxOf_lt_length_of_mem m
  exact (List.getElem_inj nd).mp (List.getElem_idxOf hj)
/-! ### sorting -/
theorem sortK_by {α : Type} (f : α → PyData) (ls : List α) : Lk.sortK false (ls.map f) ls = ls.mergeSort (PySem.W.dataLe false f) := by
  unfold Lk.sortK
  have e : (ls.map f).zip ls = ls.map fun l => (f l, l) := by
    induction ls with
    | nil => rfl
    | cons l ls ih => rw [List.map_cons, List.zip_cons_cons, ih]; rfl
  rw [e, ← List.map_mergeSort (r := PySem.W.dataLe false f) (s := PySem.W.dataLe false Prod.fst) (f := fun l => (f l, l)) (fun a _ b _ => rfl), List.map_map]
  exact List.map_id _
theorem le_keys : PySem.W.dataLe false keyL = PySem.W.dataLe false keyT := rfl
theorem sort_names {ws : List Well} (nd : (ws.map (·.1)).Nodup) : Lk.sortK false ((foundN ws).map (keyN ws)) (foundN ws) = linesW ws := by
  rw [foundN_eq nd, List.map_map, sortK_map]
  unfold linesW sortI
  have e : (foundI ws).map (keyN ws ∘ nmI ws) = (foundI ws).map keyL := List.map_congr_left fun l hl => by
    show keyN ws (nmI ws l) = keyL l
    unfold keyN nmI keyL
    rw [List.map_map]
    refine congrArg PyData.list (List.map_congr_left fun i hi => ?_)
    show PyData.int (((ws.map (·.1)).idxOf (((ws[i]?).map (·.1)).getD ("" : Str)) : Nat) : Int) = _
    rw [idx_nm nd (foundI_lt hl i hi)]
  rw [e, sortK_by keyL, le_keys]
theorem sortI_perm (ls : List (List Nat)) : (sortI ls).Perm ls := List.mergeSort_perm _ _
theorem linesW_mem {ws : List Well} {l : List Str} : l ∈ linesW ws ↔ ∃ p ∈ pairsL ws, l = lotN ws p.1.2 p.2.2 := by
  unfold linesW
  rw [List.mem_map]
  constructor
  · rintro ⟨m, hm, rfl⟩
    obtain ⟨p, hp, rfl⟩ := foundI_mem.mp ((sortI_perm _).mem_iff.mp hm)
    exact ⟨p, hp, nm_lot ws _ _⟩
  · rintro ⟨p, hp, rfl⟩
    exact ⟨lotI ws p.1.2 p.2.2, (sortI_perm _).mem_iff.mpr (foundI_mem.mpr ⟨p, hp, rfl⟩), nm_lot ws _ _⟩
theorem linesW_len (ws : List Well) : (linesW ws).length = (foundI ws).length := by
  unfold linesW
  rw [List.length_map]
  exact (sortI_perm _).length_eq
theorem linesW_sizes (ws : List Well) : ((linesW ws).map (·.length)).Perm ((foundI ws).map (·.length)) := by
  unfold linesW
  rw [List.map_map]
  have e : ((fun l : List Str => l.length) ∘ nmI ws) = fun l : List Nat => l.length := funext fun l => by
    show (nmI ws l).length = _
    unfold nmI
    rw [List.length_map]
  rw [e]
  exact (sortI_perm _).map _
/-! ### data of ints and of texts -/
theorem idx_first {n : Str} : ∀ {ys : List Str}, n ∈ ys → ys[ys.idxOf n]? = some n ∧ ∀ m, m < ys.idxOf n → ys[m]? ≠ some n
  | y :: ys, h => by
    by_cases e : y = n
    · subst e
      rw [List.idxOf_cons_self]
      exact ⟨rfl, fun m hm => absurd hm (Nat.not_lt_zero _)⟩
    · have hn : n ∈ ys := (List.mem_cons.mp h).resolve_left (fun z => e z.symm)
      obtain ⟨h1, h2⟩ := idx_first hn
      have ei : (y :: ys).idxOf n = ys.idxOf n + 1 := by
        rw [List.idxOf_cons, show (y == n) = false from beq_false_of_ne e]
        rfl
      rw [ei]
      refine ⟨by rw [List.getElem?_cons_succ]; exact h1, fun m hm => ?_⟩
      cases m with
      | zero => rw [List.getElem?_cons_zero]; exact fun z => e (Option.some.inj z)
      | succ m => rw [List.getElem?_cons_succ]; exact h2 m (Nat.lt_of_succ_lt_succ hm)
theorem pys_ints {α : Type} (f : α → Int) (r : List α) : D.pys (r.map fun n => D.int (f n)) = r.map fun n => PyData.int (f n) := by
  rw [pys_map, List.map_map]; rfl
theorem pls_ints {α : Type} (f : α → Int) (r : List α) : D.pls (r.map fun n => D.int (f n)) = true := by
  rw [pls_all, List.all_map]
  exact List.all_eq_true.mpr fun _ _ => rfl
theorem alike_ints {α : Type} (f : α → Int) : ∀ r s : List α, W.alikeAll (r.map fun n => PyData.int (f n)) (s.map fun n => PyData.int (f n)) = true
  | [], _ => by simp [W.alikeAll]
  | _ :: _, [] => by simp [W.alikeAll]
  | a :: r, b :: s => by
    rw [List.map_cons, List.map_cons, W.alikeAll, alike_ints f r s]
    rfl
theorem depth_ints {α : Type} (f : α → Int) : ∀ r : List α, PyData.depthAll (r.map fun n => PyData.int (f n)) = 0
  | [] => rfl
  | a :: r => by rw [List.map_cons, PyData.depthAll, depth_ints f r]; rfl
theorem name_ok {z : Str} (h : nameB z = true) : PyData.strOk z = true := by
  unfold PyData.strOk
  rw [← Array.all_toList, List.all_eq_true]
  intro c hc
  have := name_in h hc
  exact decide_eq_true (by omega)
theorem strs_in : ∀ (l : List Str), (∀ n ∈ l, nameB n = true) → D.pls (l.map D.str) = true ∧ PyData.canLayAll0 (D.pys (l.map D.str)) = true ∧ PyData.depthAll (D.pys (l.map D.str)) = 0
  | [], _ => ⟨rfl, rfl, rfl⟩
  | x :: l, h => by
    obtain ⟨h1, h2, h3⟩ := strs_in l fun n hn => h n (List.mem_cons_of_mem _ hn)
    rw [List.map_cons]
    refine ⟨?_, ?_, ?_⟩
    · unfold D.pls; rw [h1]; rfl
    · unfold D.pys PyData.canLayAll0; rw [h2, show (D.str x).py.canLay0 = true from name_ok (h x List.mem_cons_self)]; rfl
    · unfold D.pys PyData.depthAll; rw [h3]; rfl
theorem lots_in : ∀ (ls : List (List Str)), (∀ l ∈ ls, ∀ n ∈ l, nameB n = true) → D.pls (ls.map lotD) = true ∧ PyData.canLayAll0 (D.pys (ls.map lotD)) = true ∧ PyData.depthAll (D.pys (ls.map lotD)) ≤ 1
  | [], _ => ⟨rfl, rfl, Nat.zero_le _⟩
  | x :: l, h => by
    obtain ⟨h1, h2, h3⟩ := lots_in l fun m hm => h m (List.mem_cons_of_mem _ hm)
    obtain ⟨k1, k2, k3⟩ := strs_in x (h x List.mem_cons_self)
    rw [List.map_cons]
    refine ⟨?_, ?_, ?_⟩
    · unfold D.pls
      rw [h1, show (lotD x).pl = true from k1]
      rfl
    · unfold D.pys PyData.canLayAll0
      rw [h2, show (lotD x).py.canLay0 = true from k2]
      rfl
    · unfold D.pys PyData.depthAll
      refine Nat.max_le.mpr ⟨?_, h3⟩
      show PyData.depthAll (D.pys (x.map D.str)) + 1 ≤ 1
      rw [k3]
      exact Nat.le_refl _
theorem ok_lot {l : List Str} (h : ∀ n ∈ l, nameB n = true) : (lotD l).ok = true := by
  obtain ⟨h1, h2, h3⟩ := strs_in l h
  refine ok_of h1 h2 ?_
  show PyData.depthAll (D.pys (l.map D.str)) + 1 ≤ 64
  rw [h3]; decide
theorem ok_lots {ls : List (List Str)} (h : ∀ l ∈ ls, ∀ n ∈ l, nameB n = true) : (D.lst (ls.map lotD)).ok = true := by
  obtain ⟨h1, h2, h3⟩ := lots_in ls h
  refine ok_of h1 h2 ?_
  show PyData.depthAll (D.pys (ls.map lotD)) + 1 ≤ 64
  omega
theorem eqb_lot : ∀ (ns ms : List Str), D.eqb (lotD ns) (lotD ms) = decide (ns = ms) := by
  have key : ∀ (ns ms : List Str), PyData.eqvAll (D.pys (ns.map D.str)) (D.pys (ms.map D.str)) = decide (ns = ms) := by
    intro ns
    induction ns with
    | nil => intro ms; cases ms <;> simp [D.pys, PyData.eqvAll]
    | cons n ns ih =>
      intro ms
      cases ms with
      | nil => simp [D.pys, PyData.eqvAll]
      | cons m ms =>
        simp only [List.map_cons, D.pys, PyData.eqvAll, ih ms, D.py, PyData.eqv]
        by_cases e : n = m
        · subst e; simp
        · simp [e]
  intro ns ms
  unfold D.eqb
  simp only [D.py, PyData.eqv]
  exact key ns ms
theorem any_lot (ls : List (List Str)) (l : List Str) : ((ls.map lotD).any fun z => D.eqb z (lotD l)) = decide (l ∈ ls) := by
  rw [List.any_map, Bool.eq_iff_iff, List.any_eq_true, decide_eq_true_iff]
  constructor
  · rintro ⟨v, hv, e⟩
    rw [Function.comp_apply, eqb_lot] at e
    rw [← of_decide_eq_true e]
    exact hv
  · intro h
    exact ⟨l, h, by rw [Function.comp_apply, eqb_lot]; exact decide_eq_true rfl⟩
theorem lots_nil (ls : List (List Str)) : D.eqb (.lst (ls.map lotD)) (.lst []) = decide (ls = []) := by
  cases ls with
  | nil => rfl
  | cons p acc => rfl
theorem nums_in : ∀ (l : List Nat), D.pls (l.map fun (i : Nat) => D.int (i : Int)) = true ∧ PyData.canLayAll0 (D.pys (l.map fun (i : Nat) => D.int (i : Int))) = true ∧ PyData.depthAll (D.pys (l.map fun (i : Nat) => D.int (i : Int))) = 0
  | [] => ⟨rfl, rfl, rfl⟩
  | x :: l => by
    obtain ⟨h1, h2, h3⟩ := nums_in l
    rw [List.map_cons]
    refine ⟨?_, ?_, ?_⟩
    · unfold D.pls; rw [h1]; rfl
    · unfold D.pys PyData.canLayAll0; rw [h2]; rfl
    · unfold D.pys PyData.depthAll; rw [h3]; rfl
theorem lotTs_in : ∀ (ls : List (List Nat)), D.pls (ls.map lotT) = true ∧ PyData.canLayAll0 (D.pys (ls.map lotT)) = true ∧ PyData.depthAll (D.pys (ls.map lotT)) ≤ 1
  | [] => ⟨rfl, rfl, Nat.zero_le _⟩
  | x :: l => by
    obtain ⟨h1, h2, h3⟩ := lotTs_in l
    obtain ⟨k1, k2, k3⟩ := nums_in x
    rw [List.map_cons]
    refine ⟨?_, ?_, ?_⟩
    · unfold D.pls
      rw [h1, show (lotT x).pl = true from k1]
      rfl
    · unfold D.pys PyData.canLayAll0
      rw [h2, show (lotT x).py.canLay0 = true from k2]
      rfl
    · unfold D.pys PyData.depthAll
      refine Nat.max_le.mpr ⟨?_, h3⟩
      show PyData.depthAll (D.pys (x.map fun (i : Nat) => D.int (i : Int))) + 1 ≤ 1
      rw [k3]
      exact Nat.le_refl _
theorem ok_lotT (l : List Nat) : (lotT l).ok = true := by
  obtain ⟨h1, h2, h3⟩ := nums_in l
  refine ok_of h1 h2 ?_
  show PyData.depthAll (D.pys (l.map fun (i : Nat) => D.int (i : Int))) + 1 ≤ 64
  rw [h3]; decide
theorem ok_lotTs (ls : List (List Nat)) : (D.lst (ls.map lotT)).ok = true := by
  obtain ⟨h1, h2, h3⟩ := lotTs_in ls
  refine ok_of h1 h2 ?_
  show PyData.depthAll (D.pys (ls.map lotT)) + 1 ≤ 64
  omega
theorem eqb_lotT : ∀ (ns ms : List Nat), D.eqb (lotT ns) (lotT ms) = decide (ns = ms) := by
  have key : ∀ (ns ms : List Nat), PyData.eqvAll (D.pys (ns.map fun (i : Nat) => D.int (i : Int))) (D.pys (ms.map fun (i : Nat) => D.int (i : Int))) = decide (ns = ms) := by
    intro ns
    induction ns with
    | nil => intro ms; cases ms <;> simp [D.pys, PyData.eqvAll]
    | cons n ns ih =>
      intro ms
      cases ms with
      | nil => simp [D.pys, PyData.eqvAll]
      | cons m ms =>
        simp only [List.map_cons, D.pys, PyData.eqvAll, ih ms, D.py, PyData.eqv]
        by_cases e : n = m
        · subst e; simp
        · have : ((n : Int) == (m : Int)) = false := by simp; omega
          rw [this]
          simp [e]
  intro ns ms
  unfold D.eqb
  simp only [D.py, PyData.eqv]
  exact key ns ms
theorem any_lotT (ls : List (List Nat)) (l : List Nat) : ((ls.map lotT).any fun z => D.eqb z (lotT l)) = decide (l ∈ ls) := by
  rw [List.any_map, Bool.eq_iff_iff, List.any_eq_true, decide_eq_true_iff]
  constructor
  · rintro ⟨v, hv, e⟩
    rw [Function.comp_apply, eqb_lotT] at e
    rw [← of_decide_eq_true e]
    exact hv
  · intro h
    exact ⟨l, h, by rw [Function.comp_apply, eqb_lotT]; exact decide_eq_true rfl⟩
abbrev kk (l : List Str) : List Key := l.map Sum.inr
theorem kk_inj : ∀ {l m : List Str}, kk l = kk m → l = m
  | [], [], _ => rfl
  | [], _ :: _, h => by simp at h
  | _ :: _, [], h => by simp at h
  | a :: l, b :: m, h => by
    rw [kk, kk, List.map_cons, List.map_cons, List.cons.injEq] at h
    rw [Sum.inr.inj h.1, kk_inj h.2]
theorem kk_lot (l : List Str) : (D.tup ((kk l).map kD)) = lotD l := by
  unfold kk
  rw [List.map_map]
  rfl
theorem putG_strs (ls : List (List Str)) (x : List Str) : putG (ls.map fun l => (kk l, D.bl true)) (kk x) (.bl true) = (addU ls x).map fun l => (kk l, D.bl true) := by
  have h := putG_keys (ks := ls.map kk) (k := kk x)
  rw [List.map_map] at h
  refine h.trans ?_
  have e : addU (ls.map kk) (kk x) = (addU ls x).map kk := by
    unfold addU
    by_cases m : x ∈ ls
    · rw [if_pos m, if_pos (List.mem_map_of_mem m)]
    · rw [if_neg m, if_neg, List.map_append]
      · rfl
      · intro z
        obtain ⟨y, hy, e⟩ := List.mem_map.mp z
        exact m (kk_inj e ▸ hy)
  rw [e, List.map_map]
  rfl
def lotsP (ws : List Well) : List (List Str) := (pairsL ws).map fun p => lotN ws p.1.2 p.2.2
theorem lotN_in {ws : List Well} {a b : Spot} : ∀ n ∈ lotN ws a b, n ∈ ws.map (·.1) := fun n hn => by
  unfold lotN at hn
  obtain ⟨v, hv, rfl⟩ := List.mem_map.mp hn
  exact List.mem_map.mpr ⟨v, (List.mem_filter.mp hv).1, rfl⟩
theorem lotN_len (ws : List Well) (a b : Spot) : (lotN ws a b).length ≤ ws.length := by
  unfold lotN
  rw [List.length_map]
  exact List.length_filter_le _ _
theorem pairsL_len {α : Type} (xs : List α) : (pairsL xs).length ≤ xs.length * xs.length := by
  rw [← pairsTo_all]
  exact pairsTo_len xs _
theorem foundN_mem {ws : List Well} {l : List Str} : l ∈ foundN ws ↔ ∃ p ∈ pairsL ws, l = lotN ws p.1.2 p.2.2 := by
  unfold foundN
  rw [foldU_mem]
  simp only [List.not_mem_nil, false_or, List.mem_map]
  exact ⟨fun ⟨p, hp, e⟩ => ⟨p, hp, e.symm⟩, fun ⟨p, hp, e⟩ => ⟨p, hp, e.symm⟩⟩
theorem names_lot (ws : List Well) : D.tup (ws.map fun v => D.str v.1) = lotD (ws.map (·.1)) := by
  show _ = D.tup ((ws.map (·.1)).map D.str)
  rw [List.map_map]
  rfl
/-! ### drawn names -/
def gN (k : Nat) : Str := ("g" : Str) ++ numS (k : Int)
theorem gN_name : ∀ k, k < 42 → nameB (gN k) = true := by decide +kernel
theorem gN_inj {j k : Nat} (h : gN j = gN k) : j = k := by
  have e := congrArg TL.tl h
  unfold gN at e
  rw [TL.tl_append, TL.tl_append] at e
  have e2 := List.append_cancel_left e
  rw [tl_numS, tl_numS] at e2
  unfold numC at e2
  rw [if_neg (by omega), if_neg (by omega)] at e2
  have h2 := TL.numL_inj e2
  omega
def Stuck (ns : List Str) (i : Nat) (w : Str) : Prop := (∀ k, k + 1 < i → gN k ∈ ns) ∧ (0 < i → w = gN (i - 1))
theorem stuck_step {ns : List Str} {i : Nat} {w : Str} (h : Stuck ns i w) (hw : w ∈ ns) : Stuck ns (i + 1) (gN i) := by
  refine ⟨fun k hk => ?_, fun _ => rfl⟩
  by_cases e : k + 1 < i
  · exact h.1 k e
  · have e2 : k = i - 1 := by omega
    rw [e2, ← h.2 (by omega)]
    exact hw
theorem stuck_end {ns : List Str} {w : Str} (h : Stuck ns (ns.length + 1) w) : w ∉ ns := fun hw => by
  have hall : ∀ k, k < ns.length + 1 → gN k ∈ ns := fun k hk => by
    by_cases e : k < ns.length
    · exact h.1 k (by omega)
    · have e2 : k = ns.length + 1 - 1 := by omega
      rw [e2, ← h.2 (by omega)]
      exact hw
  have p := Mel.pigeon (fun (k : Nat) (s : Str) => s = gN k) (List.range (ns.length + 1)) ns List.nodup_range (fun k hk => ⟨gN k, hall k (List.mem_range.mp hk), rfl⟩) (fun d1 _ d2 _ e e1 e2 => gN_inj (e1.symm.trans e2))
  rw [List.length_range] at p
  omega
theorem name_snoc {z : Str} {c : Nat} (h : nameB z = true) (hl : z.length < 8) (hc : c ∈ signC) : nameB (z ++ (⟨#[c]⟩ : Str)) = true := by
  have e : TL.tl (z ++ (⟨#[c]⟩ : Str)) = TL.tl z ++ [c] := by rw [TL.tl_append]
  rw [len_tl] at hl
  unfold nameB at h ⊢
  rw [e]
  cases q : TL.tl z with
  | nil => rw [q] at h; exact absurd h (by decide)
  | cons d r =>
    rw [q] at h hl
    rw [List.cons_append]
    simp only [Bool.and_eq_true, decide_eq_true_eq, List.all_eq_true, Bool.or_eq_true] at h ⊢
    rw [List.length_cons] at hl
    refine ⟨⟨by rw [List.length_append]; show r.length + 1 < 8; omega, h.1.2⟩, fun x hx => ?_⟩
    rcases List.mem_append.mp hx with hx | hx
    · exact h.2 x hx
    · rw [List.mem_singleton.mp hx]; exact sign_in hc
theorem name_one {c : Nat} (h : c ∈ letC) : nameB (⟨#[c]⟩ : Str) = true := by
  show (decide (([] : List Nat).length < 8) && decide (c ∈ letC) && true) = true
  rw [decide_eq_true h]
  rfl
theorem let_at {d : Int} (h0 : 0 ≤ d) (h : d < 26) : ∃ c, atI (Str.ofString "abcdefghijklmnopqrstuvwxyz").cps.toList d = some c ∧ c ∈ letC := by
  have l : letC.length = 26 := by decide +kernel
  have hd : d.toNat < letC.length := by omega
  refine ⟨letC[d.toNat], ?_, List.getElem_mem _⟩
  have e := atI_at (xs := letC) (List.getElem?_eq_getElem hd)
  rw [Int.toNat_of_nonneg h0] at e
  exact e
theorem signs_cat : (Str.ofString "abcdefghijklmnopqrstuvwxyz" ++ Str.ofString "0123456789") = Str.ofString "abcdefghijklmnopqrstuvwxyz0123456789" := by decide +kernel
def pool6 : List Str := ["a", "b", "c1", "well", "field", "oak"]
theorem pool6_ok : (∀ n ∈ pool6, nameB n = true) ∧ pool6.Nodup := by decide +kernel
end Law
namespace Law
open PySem PySem.Spec PyProof.Rows L2 Lw
variable [Tabl]
/-! ### repr of lots -/
theorem strs_re : ∀ (l : List Str), (∀ n ∈ l, nameB n = true) → D.shs true (l.map D.str) = true ∧ PyData.leavesShortAll 13 (D.prs (l.map D.str)) = true ∧ PyData.depthAll (D.prs (l.map D.str)) = 0 ∧ PyData.weightAll (D.prs (l.map D.str)) ≤ 9 * l.length
  | [], _ => ⟨rfl, rfl, rfl, Nat.le_refl _⟩
  | x :: l, h => by
    obtain ⟨h1, h2, h3, h4⟩ := strs_re l fun n hn => h n (List.mem_cons_of_mem _ hn)
    have hx := h x List.mem_cons_self
    have hlen : x.cps.size ≤ 8 := (name_len hx).2
    rw [List.map_cons]
    refine ⟨?_, ?_, ?_, ?_⟩
    · simp only [D.shs, D.sh, Bool.true_and]; exact h1
    · simp only [D.prs, D.pr, PyData.leavesShortAll, PyData.leavesShort, Bool.and_eq_true, List.all_eq_true, decide_eq_true_eq]
      refine ⟨fun c hc => ?_, h2⟩
      have := name_in hx hc
      omega
    · simp only [D.prs, D.pr, PyData.depthAll, PyData.depth, h3]
      rfl
    · simp only [D.prs, D.pr, PyData.weightAll, PyData.weight, List.length_cons]
      omega
theorem lots_re : ∀ (ls : List (List Str)), (∀ l ∈ ls, ∀ n ∈ l, nameB n = true) → (∀ l ∈ ls, l.length ≤ 40) → D.shs true (ls.map lotD) = true ∧ PyData.leavesShortAll 13 (D.prs (ls.map lotD)) = true ∧ PyData.depthAll (D.prs (ls.map lotD)) ≤ 1 ∧ PyData.weightAll (D.prs (ls.map lotD)) ≤ 361 * ls.length
  | [], _, _ => ⟨rfl, rfl, Nat.zero_le _, Nat.le_refl _⟩
  | x :: l, h, g => by
    obtain ⟨h1, h2, h3, h4⟩ := lots_re l (fun n hn => h n (List.mem_cons_of_mem _ hn)) (fun n hn => g n (List.mem_cons_of_mem _ hn))
    obtain ⟨k1, k2, k3, k4⟩ := strs_re x (h x List.mem_cons_self)
    have hlen := g x List.mem_cons_self
    rw [List.map_cons]
    refine ⟨?_, ?_, ?_, ?_⟩
    · simp only [D.shs, D.sh, k1, Bool.true_and]; exact h1
    · simp only [D.prs, D.pr, PyData.leavesShortAll, PyData.leavesShort, k2, Bool.true_and]; exact h2
    · simp only [D.prs, D.pr, PyData.depthAll, PyData.depth, k3]
      exact Nat.max_le.mpr ⟨Nat.le_refl _, h3⟩
    · simp only [D.prs, D.pr, PyData.weightAll, PyData.weight, List.length_cons]
      omega
theorem repr_lots {ls : List (List Str)} (h1 : ls.length ≤ 2000) (h2 : ∀ l ∈ ls, l.length ≤ 40) (h3 : ∀ l ∈ ls, ∀ n ∈ l, nameB n = true) {F : D → Prop} (q : F (.str (D.tup (ls.map lotD)).pr.shown)) : dReprG (.tup (ls.map lotD)) F := by
  obtain ⟨a, b, c, d⟩ := lots_re ls h3 h2
  refine ⟨.inl (by simp only [D.sh]; exact a), ?_, PyData.shown_fits (B := 13) (by decide) (by decide) (by simp only [D.pr, PyData.leavesShort]; exact b) ?_, q⟩
  · simp only [D.pr, PyData.depth]
    omega
  · simp only [D.pr, PyData.weight]
    omega
theorem repr_line {ns : List Str} (h1 : ns.length ≤ 40) (h3 : ∀ n ∈ ns, nameB n = true) {F : D → Prop} (q : F (.str (D.tup [.str "line", lotD ns]).pr.shown)) : dReprG (.tup [.str "line", lotD ns]) F := by
  obtain ⟨a, b, c, d⟩ := strs_re ns h3
  obtain ⟨a2, b2, c2, d2⟩ := strs_re ["line"] (by decide +kernel)
  simp only [List.map_cons, List.map_nil, D.shs, D.prs, PyData.leavesShortAll, PyData.depthAll, PyData.weightAll, Bool.and_true, List.length_cons, List.length_nil] at a2 b2 c2 d2
  refine ⟨.inl ?_, ?_, PyData.shown_fits (B := 13) (by decide) (by decide) ?_ ?_, q⟩
  · simp only [D.sh, D.shs, a, Bool.and_true, Bool.true_and]
  · simp only [D.pr, D.prs, PyData.depth, PyData.depthAll, c]
    decide
  · simp only [D.pr, D.prs, PyData.leavesShort, PyData.leavesShortAll, b, Bool.and_true]
    simp only [D.pr, PyData.leavesShort] at b2
    exact b2
  · simp only [D.pr, D.prs, PyData.weight, PyData.weightAll]
    simp only [D.pr, PyData.weight] at d2
    omega
/-! ### a tuple or a list -/
theorem q_lenQ {x : D} {xs : List D} {F : D → Prop} (h : seqD x xs) (q : F (.int xs.length)) : dLen x F := by
  rcases h with rfl | rfl <;> exact q
theorem q_ixQ {x d : D} {xs : List D} {i : Int} {F : D → Prop} (h : seqD x xs) (e : atI xs i = some d) (q : F d) : dIx x (.int i) F := by
  rcases h with rfl | rfl
  · exact q_ixT e q
  · exact q_ixL e q
theorem q_slQ {x : D} {xs : List D} {lo hi : Option Int} {F : D → Prop} (h : seqD x xs) (q : ∀ y, seqD y (Lw.cutD xs lo hi) → F y) : dSl x lo hi F := by
  rcases h with rfl | rfl
  · exact q _ (.inl rfl)
  · exact q _ (.inr rfl)
theorem seq_things {x : D} {xs : List D} (h : seqD x xs) : x.things = some xs := by rcases h with rfl | rfl <;> rfl
theorem seq_items {x : D} {xs : List D} (h : seqD x xs) : x.items = some xs := by rcases h with rfl | rfl <;> rfl
/-! ### what the law's lines are -/
def ltI (ws : List Well) (p : Well × Well) : List Nat := lotI ws p.1.2 p.2.2
theorem py_lotT (l : List Nat) : (lotT l).py = keyT l := by
  show PyData.tuple (D.pys (l.map fun (i : Nat) => D.int (i : Int))) = _
  rw [pys_ints (fun (i : Nat) => (i : Int))]
  rfl
theorem sort_lots (ls : List (List Nat)) : Lk.sortK false ((ls.map lotT).map D.py) (ls.map lotT) = (sortI ls).map lotT := by
  rw [sortK_map, List.map_map, show (D.py ∘ lotT) = keyT from funext fun l => py_lotT l, sortK_by]
  rfl
theorem sortable_lots {ls : List (List Nat)} (h : ∀ l ∈ ls, l ≠ []) : W.Sortable ((ls.map lotT).map D.py) := .inl fun d hd => by
  rw [List.map_map] at hd
  obtain ⟨l, hl, rfl⟩ := List.mem_map.mp hd
  rw [Function.comp_apply, py_lotT]
  cases l with
  | nil => exact absurd rfl (h _ hl)
  | cons i l => exact ⟨_, _, rfl⟩
theorem alike_lots (ls : List (List Nat)) : W.AllAlike ((ls.map lotT).map D.py) := fun d hd d' hd' => by
  rw [List.map_map] at hd hd'
  obtain ⟨l, _, rfl⟩ := List.mem_map.mp hd
  obtain ⟨k, _, rfl⟩ := List.mem_map.mp hd'
  rw [Function.comp_apply, Function.comp_apply, py_lotT, py_lotT]
  unfold keyT
  rw [W.alike]
  exact alike_ints _ l k
theorem depth_lots (ls : List (List Nat)) : ∀ y ∈ ls.map lotT, y.py.depth ≤ 60 := fun y hy => by
  obtain ⟨l, _, rfl⟩ := List.mem_map.mp hy
  rw [py_lotT]
  show PyData.depthAll (l.map fun (i : Nat) => PyData.int (i : Int)) + 1 ≤ 60
  rw [depth_ints]
  decide
theorem pl_lots (ls : List (List Nat)) : ∀ y ∈ ls.map lotT, y.pl = true := fun y hy => by
  obtain ⟨l, _, rfl⟩ := List.mem_map.mp hy
  exact (nums_in l).1
theorem lotI_ne {ws : List Well} {p : Well × Well} (h : p ∈ pairsL ws) : lotI ws p.1.2 p.2.2 ≠ [] := fun e => by
  obtain ⟨i, j, hij, h1, h2⟩ := pairsL_mem.mp h
  have : i ∈ lotI ws p.1.2 p.2.2 := by
    unfold lotI
    refine List.mem_map.mpr ⟨(i, p.1), List.mem_filter.mpr ⟨List.mem_of_getElem? (numL_get h1), decide_eq_true ?_⟩, rfl⟩
    unfold bendI
    grind
  rw [e] at this
  exact nomatch this
theorem foundI_ne {ws : List Well} : ∀ l ∈ foundI ws, l ≠ [] := fun l hl => by
  obtain ⟨p, hp, rfl⟩ := foundI_mem.mp hl
  exact lotI_ne hp
theorem foundI_len (ws : List Well) : (foundI ws).length ≤ ws.length * ws.length := by
  unfold foundI
  have fl := foldU_len (xs := (pairsL ws).map fun p => lotI ws p.1.2 p.2.2) (acc := [])
  have pl := pairsL_len ws
  rw [List.length_map, List.length_nil] at fl
  omega
theorem lotI_len (ws : List Well) (a b : Spot) : (lotI ws a b).length ≤ ws.length := by
  unfold lotI
  rw [List.length_map]
  exact Nat.le_trans (List.length_filter_le _ _) (by rw [numL_len]; exact Nat.le_refl _)
end Law
namespace Law
open PySem PySem.Spec PyProof.Rows L2 Lw
/-! ### numbers -/
theorem cast_sq : ∀ ks : List Nat, (ks.map fun (k : Nat) => (k : Int) * ((k : Int) - 1)).sum = (((ks.map fun k => k * (k - 1)).sum : Nat) : Int)
  | [] => rfl
  | k :: ks => by
    rw [List.map_cons, List.sum_cons, List.map_cons, List.sum_cons, cast_sq ks]
    cases k with
    | zero => simp
    | succ k => push_cast; congr 1; simp
theorem cast_sub3 : ∀ ks : List Nat, ((ks.filter fun (k : Nat) => decide (3 < k)).map fun (k : Nat) => (k : Int) - 3).sum = ((((ks.filter fun k => decide (3 < k)).map fun k => k - 3).sum : Nat) : Int)
  | [] => rfl
  | k :: ks => by
    have ih := cast_sub3 ks
    by_cases h : 3 < k
    · rw [List.filter_cons_of_pos (by simpa using h), List.map_cons, List.sum_cons, List.map_cons, List.sum_cons, ih]
      omega
    · rw [List.filter_cons_of_neg (by simpa using h), ih]
theorem cast_count : ∀ ks : List Nat, (ks.map fun (k : Nat) => (k : Int)).count 2 = (ks.filter fun k => decide (k = 2)).length
  | [] => rfl
  | k :: ks => by
    rw [List.map_cons, List.count_cons, cast_count ks]
    by_cases h : k = 2
    · subst h
      rw [List.filter_cons_of_pos (by simp)]
      rfl
    · rw [List.filter_cons_of_neg (by simpa using h)]
      have : ((k : Int) == 2) = false := by simp; omega
      rw [this]
      rfl
end Law
namespace Law
open PySem PySem.Spec PyProof.Rows L2 Lw
variable [Tabl] [Exn]
theorem ws_eq {K : Lh.Fg} {ρ ρ' : List SD} {t : L2.TS} {E : Out} (e : ρ = ρ') (h : WS K t ρ' E) : WS K t ρ E := by rw [e]; exact h
theorem we_eq' {K : Lh.Fg} {ρ ρ' : List SD} {t : L2.TE} {F : D → List SD → Prop} (e : ρ = ρ') (h : Lw.WE K t ρ' F) : Lw.WE K t ρ F := by rw [e]; exact h
theorem wt_eq' {K : Lh.Fg} {ρ ρ' : List SD} {t : L2.TT} {F : Bool → List SD → Prop} (e : ρ = ρ') (h : WT K t ρ' F) : WT K t ρ F := by rw [e]; exact h
end Law
namespace Law
open PySem PySem.Spec PyProof.Rows L2 Lw
variable [Tabl]
/-! ### Melchior for the lots of a field -/
theorem NumOk.perm {n : Nat} {ks js : List Nat} (h : NumOk n ks) (p : ks.Perm js) : NumOk n js := by
  obtain ⟨h1, h2⟩ := h
  refine ⟨?_, fun h3 => ?_⟩
  · rw [← h1]
    exact ((p.map _).sum_nat).symm
  · obtain ⟨h4, h5⟩ := h2 h3
    refine ⟨fun e => h4 ?_, fun hne => ?_⟩
    · rw [e] at p
      exact p.eq_nil
    · obtain ⟨k1, k2⟩ := h5 fun k hk => hne k (p.mem_iff.mp hk)
      refine ⟨by rw [← p.length_eq]; exact k1, ?_⟩
      rw [← ((p.filter fun k => decide (3 < k)).map fun k => k - 3).sum_nat, ← (p.filter fun k => decide (k = 2)).length_eq]
      exact k2
/-! ### moved, turned, mirrored -/
/-! ### a well more -/
theorem pairsL_more {α : Type} {xs : List α} {v : α} {d : α × α} (h : d ∈ pairsL xs) : d ∈ pairsL (xs ++ [v]) := by
  obtain ⟨i, j, hij, h1, h2⟩ := pairsL_mem.mp h
  have hi := (List.getElem?_eq_some_iff.mp h1).1
  have hj := (List.getElem?_eq_some_iff.mp h2).1
  exact pairsL_mem.mpr ⟨i, j, hij, by rw [List.getElem?_append_left hi]; exact h1, by rw [List.getElem?_append_left hj]; exact h2⟩
end Law
namespace Law
open PySem PySem.Spec PyProof.Rows L2 Lw
variable [Tabl]
theorem pl_spotsT {acc : List Spot} : (D.tup (acc.map spD)).ok = true := by
  obtain ⟨h1, h2, h3⟩ := spots_in acc
  refine ok_of h1 ?_ ?_
  · unfold D.py PyData.canLay0
    exact h2
  · unfold D.py PyData.depth
    exact Nat.le_trans (Nat.add_le_add_right h3 1) (by decide)
theorem spots_map (ws : List Well) : (ws.map fun v => spD v.2) = (ws.map (·.2)).map spD := by rw [List.map_map]; rfl
end Law
namespace Law
open PySem PySem.Spec PyProof.Rows L2 Lw
variable [Tabl]
/-! ### sorted sizes -/
abbrev natsD (ks : List Nat) : D := .lst (ks.map fun (k : Nat) => D.int (k : Int))
theorem ok_nats (ks : List Nat) : (natsD ks).ok = true := by
  obtain ⟨h1, h2, h3⟩ := nums_in ks
  refine ok_of h1 h2 ?_
  show PyData.depthAll (D.pys (ks.map fun (i : Nat) => D.int (i : Int))) + 1 ≤ 64
  rw [h3]; decide
theorem eqb_nats (ks : List Nat) : D.eqb (natsD ks) (natsD ks) = true := by
  have h := eqb_lotT ks ks
  rw [decide_eq_true rfl] at h
  exact h
end Law
namespace Law
open PySem PySem.Spec PyProof.Rows L2 Lw
variable [Tabl]
/-! ### nets and rows -/
def wsB (ws : List Well) : Bool := decide (ws ≠ []) && (decide (ws.length ≤ 40) && (ws.all (fun v => nameB v.1 && (decide (v.2.1.natAbs ≤ 9999) && decide (v.2.2.natAbs ≤ 9999))) && (decide (ws.map (·.1)).Nodup && decide (ws.map (·.2)).Nodup)))
theorem wsB_ok {ws : List Well} (h : wsB ws = true) : WsOk ws := by
  unfold wsB at h
  simp only [Bool.and_eq_true, decide_eq_true_eq, List.all_eq_true] at h
  obtain ⟨h1, h2, h3, h4, h5⟩ := h
  exact ⟨h1, h2, fun v hv => ⟨(h3 v hv).1, (h3 v hv).2.1, (h3 v hv).2.2⟩, h4, h5⟩
/-! ### threes -/
def threesTo {α : Type} (xs : List α) (i : Nat) : List (α × α × α) := ((numL xs).take i).flatMap fun p => (pairsL (xs.drop (p.1 + 1))).map fun q => (p.2, q.1, q.2)
theorem threesTo_succ {α : Type} {xs : List α} {i : Nat} {w : α} (h : xs[i]? = some w) : threesTo xs (i + 1) = threesTo xs i ++ (pairsL (xs.drop (i + 1))).map fun q => (w, q.1, q.2) := by
  unfold threesTo
  rw [numL_take h, List.flatMap_append]
  rw [List.flatMap_cons, List.flatMap_nil, List.append_nil]
theorem threesTo_all {α : Type} (xs : List α) : threesTo xs xs.length = threesL xs := by
  unfold threesTo threesL
  rw [← numL_len xs, List.take_length]
theorem threesL_map {α β : Type} (f : α → β) (xs : List α) : threesL (xs.map f) = (threesL xs).map fun t => (f t.1, f t.2.1, f t.2.2) := by
  unfold threesL
  rw [numL_map, List.flatMap_map, List.map_flatMap]
  refine congrArg (fun g => (numL xs).flatMap g) (funext fun p => ?_)
  rw [← List.map_drop, pairsL_map, List.map_map, List.map_map]
  rfl
theorem threesTo_len {α : Type} (xs : List α) : ∀ i, (threesTo xs i).length ≤ i * (xs.length * xs.length)
  | 0 => by unfold threesTo; simp
  | i + 1 => by
    have ih := threesTo_len xs i
    cases e : xs[i]? with
    | none =>
      have h1 : xs.length ≤ i := List.getElem?_eq_none_iff.mp e
      have : threesTo xs (i + 1) = threesTo xs i := by
        unfold threesTo
        rw [List.take_of_length_le (by rw [numL_len]; omega), List.take_of_length_le (by rw [numL_len]; omega)]
      rw [this, Nat.succ_mul]
      omega
    | some w =>
      have h2 := pairsL_len (xs.drop (i + 1))
      have h3 : (xs.drop (i + 1)).length ≤ xs.length := by rw [List.length_drop]; exact Nat.sub_le _ _
      have h4 := Nat.mul_le_mul h3 h3
      rw [threesTo_succ e, List.length_append, List.length_map, Nat.succ_mul]
      omega
theorem threesL_mem {α : Type} {xs : List α} {t : α × α × α} : t ∈ threesL xs ↔ ∃ i j k : Nat, i < j ∧ j < k ∧ xs[i]? = some t.1 ∧ xs[j]? = some t.2.1 ∧ xs[k]? = some t.2.2 := by
  unfold threesL
  rw [List.mem_flatMap]
  constructor
  · rintro ⟨p, hp, hd⟩
    obtain ⟨q, hq, rfl⟩ := List.mem_map.mp hd
    obtain ⟨j, k, h1, h2, h3⟩ := pairsL_mem.mp hq
    rw [List.getElem?_drop] at h2 h3
    exact ⟨p.1, p.1 + 1 + j, p.1 + 1 + k, by omega, by omega, numL_mem hp, h2, h3⟩
  · rintro ⟨i, j, k, h1, h2, e1, e2, e3⟩
    refine ⟨(i, t.1), List.mem_iff_getElem?.mpr ⟨i, numL_get e1⟩, List.mem_map.mpr ⟨t.2, pairsL_mem.mpr ⟨j - (i + 1), k - (i + 1), by omega, ?_, ?_⟩, rfl⟩⟩
    · rw [List.getElem?_drop, show i + 1 + (j - (i + 1)) = j by omega]; exact e2
    · rw [List.getElem?_drop, show i + 1 + (k - (i + 1)) = k by omega]; exact e3
theorem threesL_in {α : Type} {xs : List α} {t : α × α × α} (h : t ∈ threesL xs) : t.1 ∈ xs ∧ t.2.1 ∈ xs ∧ t.2.2 ∈ xs := by
  obtain ⟨i, j, k, _, _, h1, h2, h3⟩ := threesL_mem.mp h
  exact ⟨List.mem_of_getElem? h1, List.mem_of_getElem? h2, List.mem_of_getElem? h3⟩
theorem find_first {α : Type} {p : α → Bool} : ∀ {xs : List α} {i : Nat} {t : α}, (∀ u ∈ xs.take i, p u = false) → xs[i]? = some t → p t = true → xs.find? p = some t
  | x :: xs, 0, t, _, e, h => by
    cases e
    rw [List.find?_cons, h]
  | x :: xs, i + 1, t, k, e, h => by
    rw [List.find?_cons, k x (by rw [List.take_succ_cons]; exact .head _)]
    exact find_first (fun u hu => k u (by rw [List.take_succ_cons]; exact .tail _ hu)) e h
theorem find_never {α : Type} {p : α → Bool} {xs : List α} (h : ∀ u ∈ xs, p u = false) : xs.find? p = none := List.find?_eq_none.mpr fun u hu z => by rw [h u hu] at z; cases z
theorem take_step {α : Type} {p : α → Bool} {xs : List α} {i : Nat} {t : α} (k : ∀ u ∈ xs.take i, p u = false) (e : xs[i]? = some t) (h : p t = false) : ∀ u ∈ xs.take (i + 1), p u = false := fun u hu => by
  rw [List.take_succ, e] at hu
  rcases List.mem_append.mp hu with hu | hu
  · exact k u hu
  · rw [Option.toList_some, List.mem_singleton] at hu
    rw [hu]; exact h
theorem sg_one {x : Int} : (sgI x = 1) ↔ 0 < x := by
  rcases Int.lt_trichotomy x 0 with h | rfl | h
  · rw [sg_neg h]; omega
  · decide
  · rw [sg_pos h]; omega
theorem sg_mone {x : Int} : (sgI x = -1) ↔ x < 0 := by
  rcases Int.lt_trichotomy x 0 with h | rfl | h
  · rw [sg_neg h]; omega
  · decide
  · rw [sg_pos h]; omega
theorem count_map {α : Type} (f : α → Int) (j : Int) : ∀ ws : List α, (ws.map f).count j = (ws.filter fun v => decide (f v = j)).length
  | [] => rfl
  | w :: ws => by
    rw [List.map_cons, List.count_cons, count_map f j ws, List.filter_cons]
    by_cases h : f w = j
    · rw [if_pos (beq_iff_eq.mpr h), if_pos (decide_eq_true h), List.length_cons]
    · rw [if_neg (by rw [beq_iff_eq]; exact h), if_neg (by rw [decide_eq_false h]; decide)]; rfl
theorem count_left (ws : List Well) (a b : Spot) : (ws.map fun v => sgI (bendI a b v.2)).count 1 = leftN ws a b := by
  rw [count_map]
  unfold leftN
  exact congrArg List.length (List.filter_congr fun v _ => decide_eq_decide.mpr sg_one)
theorem count_right (ws : List Well) (a b : Spot) : (ws.map fun v => sgI (bendI a b v.2)).count (-1) = rightN ws a b := by
  rw [count_map]
  unfold rightN
  exact congrArg List.length (List.filter_congr fun v _ => decide_eq_decide.mpr sg_mone)
theorem count_nat (ks : List Nat) (m : Nat) : (ks.map fun k => ((k : Nat) : Int)).count (m : Int) = ks.count m := by
  rw [count_map, List.count_eq_countP, List.countP_eq_length_filter]
  exact congrArg List.length (List.filter_congr fun v _ => by
    rw [Bool.eq_iff_iff, decide_eq_true_iff, beq_iff_eq]; omega)
/-- the numbers by which `_law_choose` goes -/
def chT (m : Nat) : Nat → Int
  | 0 => 1
  | s + 1 => (chT m s * ((m : Int) - s)).fdiv ((s : Int) + 1)
theorem threesL_from {α : Type} (xs : List α) (i : Nat) : ∃ Z, threesL xs = threesTo xs i ++ Z := by
  unfold threesL threesTo
  refine ⟨((numL xs).drop i).flatMap fun p => (pairsL (xs.drop (p.1 + 1))).map fun q => (p.2, q.1, q.2), ?_⟩
  rw [← List.flatMap_append, List.take_append_drop]
theorem pairsL_from {α : Type} (xs : List α) (i : Nat) : ∃ Z, pairsL xs = pairsTo xs i ++ Z := by
  unfold pairsL pairsTo
  refine ⟨((numL xs).drop i).flatMap fun p => (xs.drop (p.1 + 1)).map fun b => (p.2, b), ?_⟩
  rw [← List.flatMap_append, List.take_append_drop]
theorem find_skip {α : Type} {p : α → Bool} {xs ys : List α} (h : ∀ u ∈ xs, p u = false) : (xs ++ ys).find? p = ys.find? p := by
  rw [List.find?_append, find_never h]
  rfl
theorem find_hit {α : Type} {p : α → Bool} {xs ys : List α} {t : α} (h : xs.find? p = some t) : (xs ++ ys).find? p = some t := by
  rw [List.find?_append, h]
  rfl
theorem first_at {ws : List Well} {i j k : Nat} {v w u : Well} (hi : ws[i]? = some v) (hj : (ws.drop (i + 1))[j]? = some w) (hk : ((ws.drop (i + 1)).drop (j + 1))[k]? = some u)
    (h1 : ∀ t ∈ threesTo ws i, lineB t = false) (h2 : ∀ q ∈ pairsTo (ws.drop (i + 1)) j, lineB (v, q.1, q.2) = false) (h3 : ∀ x ∈ ((ws.drop (i + 1)).drop (j + 1)).take k, lineB (v, w, x) = false) (h : lineB (v, w, u) = true) : firstT ws = some (v, w, u) := by
  unfold firstT
  obtain ⟨Z, e⟩ := threesL_from ws (i + 1)
  obtain ⟨Y, f⟩ := pairsL_from (ws.drop (i + 1)) (j + 1)
  rw [e, threesTo_succ hi]
  refine find_hit ?_
  rw [find_skip h1, f, pairsTo_succ hj, List.map_append]
  refine find_hit ?_
  rw [List.map_append, find_skip]
  · rw [List.map_map]
    refine find_first (i := k) (t := (v, w, u)) (fun t ht => ?_) ?_ h
    · rw [← List.map_take] at ht
      obtain ⟨x, hx, rfl⟩ := List.mem_map.mp ht
      exact h3 x hx
    · rw [List.getElem?_map, hk]; rfl
  · intro t ht
    obtain ⟨q, hq, rfl⟩ := List.mem_map.mp ht
    exact h2 q hq
theorem range2_at {a b : Int} {i : Nat} {x : D} (h : (rangeD a b)[i]? = some x) : a + (i : Int) < b ∧ x = .int (a + (i : Int)) := by
  unfold rangeD at h
  rw [List.getElem?_map] at h
  cases q : (List.range (b - a).toNat)[i]? with
  | none => rw [q] at h; cases h
  | some n =>
    rw [q] at h
    cases h
    obtain ⟨hi, e⟩ := List.getElem?_eq_some_iff.mp q
    rw [List.length_range] at hi
    rw [List.getElem_range] at e
    subst e
    exact ⟨by omega, rfl⟩
theorem range2_len {a b : Int} : (rangeD a b).length = (b - a).toNat := by
  unfold rangeD
  rw [List.length_map, List.length_range]
/-! ### repr of numbers, of a lot -/
theorem nats_re : ∀ (ks : List Nat), (∀ k ∈ ks, k < 5000) → D.shs true (ks.map fun (k : Nat) => D.int (k : Int)) = true ∧ PyData.leavesShortAll 13 (D.prs (ks.map fun (k : Nat) => D.int (k : Int))) = true ∧ PyData.depthAll (D.prs (ks.map fun (k : Nat) => D.int (k : Int))) = 0 ∧ PyData.weightAll (D.prs (ks.map fun (k : Nat) => D.int (k : Int))) ≤ 20 * ks.length
  | [], _ => ⟨rfl, rfl, rfl, Nat.le_refl _⟩
  | x :: l, h => by
    obtain ⟨h1, h2, h3, h4⟩ := nats_re l fun n hn => h n (List.mem_cons_of_mem _ hn)
    have hx := h x List.mem_cons_self
    rw [List.map_cons]
    refine ⟨?_, ?_, ?_, ?_⟩
    · simp only [D.shs, D.sh, Bool.and_eq_true, decide_eq_true_eq]
      exact ⟨log_small (k := 14) (by omega) (by decide) (by decide), h1⟩
    · simp only [D.prs, D.pr, PyData.leavesShortAll, PyData.leavesShort, Bool.and_eq_true, decide_eq_true_eq]
      refine ⟨?_, h2⟩
      show (numS (x : Int)).length ≤ 13
      rw [len_tl, tl_numS]
      exact Nat.le_trans (numC_len (by decide : 0 < 4) (by omega)) (by decide)
    · simp only [D.prs, D.pr, PyData.depthAll, PyData.depth, h3]
      rfl
    · have lg : (x : Int).natAbs.log2 ≤ 13 := by
        rw [Int.natAbs_natCast]
        by_cases z : x = 0
        · subst z; decide
        · exact Nat.le_of_lt ((Nat.log2_lt z).mpr (by omega))
      simp only [D.prs, D.pr, PyData.weightAll, PyData.weight, List.length_cons]
      split <;> omega
theorem repr_nats {ks : List Nat} (h1 : ks.length ≤ 1000) (h3 : ∀ k ∈ ks, k < 5000) {F : D → Prop} (q : F (.str (natsT ks).pr.shown)) : dReprG (natsT ks) F := by
  obtain ⟨a, b, c, d⟩ := nats_re ks h3
  refine ⟨.inl (by simp only [natsT, D.sh]; exact a), ?_, PyData.shown_fits (B := 13) (by decide) (by decide) (by simp only [natsT, D.pr, PyData.leavesShort]; exact b) ?_, q⟩
  · simp only [natsT, D.pr, PyData.depth]
    omega
  · simp only [natsT, D.pr, PyData.weight]
    omega
theorem repr_lot {ns : List Str} (h1 : ns.length ≤ 40) (h3 : ∀ n ∈ ns, nameB n = true) {F : D → Prop} (q : F (.str (lotD ns).pr.shown)) : dReprG (lotD ns) F := by
  obtain ⟨a, b, c, d⟩ := strs_re ns h3
  refine ⟨.inl (by simp only [D.sh]; exact a), ?_, PyData.shown_fits (B := 13) (by decide) (by decide) (by simp only [D.pr, PyData.leavesShort]; exact b) ?_, q⟩
  · simp only [D.pr, PyData.depth]
    omega
  · simp only [D.pr, PyData.weight]
    omega
/-! ### numbers of pairs by how many are on the side -/
theorem sidesN_len (n : Nat) (ks : List Nat) : (sidesN n ks).length = (n - 2) / 2 + 1 := by unfold sidesN; rw [List.length_map, List.length_range]
theorem sidesN_nil (n : Nat) : sidesN n [] = List.replicate ((n - 2) / 2 + 1) 0 := by
  unfold sidesN
  generalize (n - 2) / 2 + 1 = m
  induction m with
  | zero => rfl
  | succ m ih =>
    rw [List.range_succ, List.map_append, ih, List.replicate_succ']
    rfl
theorem sidesN_step {n : Nat} {ks : List Nat} {m : Nat} (h : m < (n - 2) / 2 + 1) : (sidesN n ks).set m (ks.count m + 1) = sidesN n (ks ++ [m]) := by
  refine List.ext_getElem? fun j => ?_
  rw [List.getElem?_set]
  unfold sidesN
  rw [List.length_map, List.length_range, List.getElem?_map, List.getElem?_map]
  by_cases e : m = j
  · subst e
    rw [if_pos rfl, if_pos h, List.getElem?_range h, Option.map_some, List.count_append, List.count_singleton_self]
  · rw [if_neg e]
    cases q : (List.range ((n - 2) / 2 + 1))[j]? with
    | none => rfl
    | some i =>
      obtain ⟨hi, ei⟩ := List.getElem?_eq_some_iff.mp q
      rw [List.getElem_range] at ei
      subst ei
      have z : List.count j [m] = 0 := by rw [List.count_singleton]; exact if_neg (by rw [beq_iff_eq]; exact e)
      rw [Option.map_some, Option.map_some, List.count_append, z, Nat.add_zero]
theorem sidesN_get {n : Nat} {ks : List Nat} {m : Nat} (h : m < (n - 2) / 2 + 1) : (sidesN n ks)[m]? = some (ks.count m) := by
  unfold sidesN
  rw [List.getElem?_map, List.getElem?_range h]
  rfl
theorem sidesN_small {n : Nat} {ks : List Nat} {k : Nat} (h : k ∈ sidesN n ks) : k ≤ ks.length := by
  unfold sidesN at h
  obtain ⟨m, _, rfl⟩ := List.mem_map.mp h
  exact List.count_le_length
theorem cut_take {xs : List D} (k : Nat) : Lw.cutD xs none (some (k : Int)) = xs.take k := by
  unfold Lw.cutD
  have e1 : HT.sIx xs.length 0 none = 0 := rfl
  have e2 : HT.sIx xs.length xs.length (some (k : Int)) = min k xs.length := by
    unfold HT.sIx
    simp only []
    split <;> omega
  rw [e1, e2, List.drop_zero, Nat.sub_zero]
  by_cases h : k ≤ xs.length
  · rw [Nat.min_eq_left h]
  · rw [Nat.min_eq_right (by omega), List.take_length, List.take_of_length_le (by omega)]
theorem sum_cast : ∀ xs : List Nat, (xs.map fun (k : Nat) => (k : Int)).sum = (xs.sum : Nat)
  | [] => rfl
  | x :: xs => by rw [List.map_cons, List.sum_cons, List.sum_cons, sum_cast xs]; rfl
theorem repr_nat {k : Nat} (h : k < 100000) {F : D → Prop} (q : F (.str (D.int (k : Int)).pr.shown)) : dReprG (.int (k : Int)) F := by
  have lg : (k : Int).natAbs.log2 ≤ 17 := by
    rw [Int.natAbs_natCast]
    by_cases z : k = 0
    · subst z; decide
    · exact Nat.le_of_lt ((Nat.log2_lt z).mpr (by omega))
  refine ⟨.inl ?_, ?_, PyData.shown_fits (B := 13) (by decide) (by decide) ?_ ?_, q⟩
  · simp only [D.sh, decide_eq_true_eq]
    omega
  · simp only [D.pr, PyData.depth]
    omega
  · simp only [D.pr, PyData.leavesShort, decide_eq_true_eq]
    show (numS (k : Int)).length ≤ 13
    rw [len_tl, tl_numS]
    exact Nat.le_trans (numC_len (by decide : 0 < 5) (by omega)) (by decide)
  · simp only [D.pr, PyData.weight]
    split <;> omega
theorem eqb_natsT (ks : List Nat) : D.eqb (natsT ks) (natsT ks) = true := by
  have h := eqb_lotT ks ks
  rw [decide_eq_true rfl] at h
  exact h
theorem ok_natsT (ks : List Nat) : (natsT ks).ok = true := ok_lotT ks
theorem c4_choose : ∀ n : Nat, n < 41 → ((n * (n - 1) * (n - 2) * (n - 3) / 24 : Nat) : Int) = c4 n := by decide
/-! ### what stands of loose fields -/
def crossQ (q : (Well × Well) × (Well × Well)) : Bool := crossB q.1.1.2 q.1.2.2 q.2.1.2 q.2.2.2
def crossN (l : List ((Well × Well) × (Well × Well))) : Nat := (l.filter crossQ).length
def totI (ws : List Well) (i : Nat) : Int := (((numL (sidesL ws)).take i).map fun p => (p.2 : Int) * (p.1 : Int) * ((ws.length : Int) - 2 - (p.1 : Int))).sum
theorem crossN_step {l : List ((Well × Well) × (Well × Well))} {i : Nat} {q : (Well × Well) × (Well × Well)} (h : l[i]? = some q) : (crossN (l.take i) : Int) + (if crossQ q = true then 1 else 0) = (crossN (l.take (i + 1)) : Int) := by
  unfold crossN
  rw [List.take_succ, h, Option.toList_some, List.filter_append, List.length_append, List.filter_cons]
  split <;> simp
theorem totI_step {ws : List Well} {i k : Nat} (h : (sidesL ws)[i]? = some k) : totI ws i + (k : Int) * (i : Int) * ((ws.length : Int) - 2 - (i : Int)) = totI ws (i + 1) := by
  unfold totI
  rw [numL_take h, List.map_append, List.sum_append]
  simp
theorem ws_fall {K : Lh.Fg} [Exn] {ρ : List SD} {t u : TS} {E : Out} {F : List SD → Prop} (h : WS K t ρ { E with nx := F }) (k : ∀ ρ1, F ρ1 → WS K u ρ1 E) : WS K (tSeq t u) ρ E :=
  ws_seq (h.mono k (fun _ _ z => z) (fun _ z => z) (fun _ z => z))
theorem numL_cons {α : Type} (x : α) (xs : List α) : numL (x :: xs) = (0, x) :: (numL xs).map fun p => (p.1 + 1, p.2) := by
  unfold numL
  rw [List.length_cons, List.range_succ_eq_map, List.zip_cons_cons, List.zip_map_left]
  rfl
theorem pairsL_prs {α : Type} : ∀ xs : List α, pairsL xs = Cro.prs xs
  | [] => rfl
  | x :: xs => by
    rw [Cro.prs, ← pairsL_prs xs]
    unfold pairsL
    rw [numL_cons, List.flatMap_cons, List.flatMap_map]
    rfl
def spots (ws : List Well) : List Spot := ws.map (·.2)
theorem line_no {ws : List Well} (h : firstT ws = none) {i j k : Nat} (hij : i < j) (hjk : j < k) {a b c : Well} (ha : ws[i]? = some a) (hb : ws[j]? = some b) (hc : ws[k]? = some c) : bendI a.2 b.2 c.2 ≠ 0 := fun e => by
  have q := List.find?_eq_none.mp h (a, b, c) (threesL_mem.mpr ⟨i, j, k, hij, hjk, ha, hb, hc⟩)
  exact q (decide_eq_true e)
theorem gp_of {ws : List Well} (hw : WsOk ws) (h : firstT ws = none) : Cro.GP (spots ws) where
  nd := hw.spots
  ok := fun a ha b hb c hc ab ac bc => by
    obtain ⟨u, hu, rfl⟩ := List.mem_map.mp ha
    obtain ⟨v, hv, rfl⟩ := List.mem_map.mp hb
    obtain ⟨w, hw2, rfl⟩ := List.mem_map.mp hc
    obtain ⟨i, hi⟩ := List.mem_iff_getElem?.mp hu
    obtain ⟨j, hj⟩ := List.mem_iff_getElem?.mp hv
    obtain ⟨k, hk⟩ := List.mem_iff_getElem?.mp hw2
    have nij : i ≠ j := fun e => by subst e; rw [hi] at hj; cases hj; exact ab rfl
    have nik : i ≠ k := fun e => by subst e; rw [hi] at hk; cases hk; exact ac rfl
    have njk : j ≠ k := fun e => by subst e; rw [hj] at hk; cases hk; exact bc rfl
    show bendI u.2 v.2 w.2 ≠ 0
    rcases Nat.lt_or_gt_of_ne nij with h1 | h1 <;> rcases Nat.lt_or_gt_of_ne nik with h2 | h2 <;> rcases Nat.lt_or_gt_of_ne njk with h3 | h3
    · exact line_no h h1 h3 hi hj hk
    · have z := line_no h h2 h3 hi hk hj
      intro e; apply z; unfold bendI at e ⊢; grind
    · omega
    · have z := line_no h h2 h1 hk hi hj
      intro e; apply z; unfold bendI at e ⊢; grind
    · have z := line_no h h1 h2 hj hi hk
      intro e; apply z; unfold bendI at e ⊢; grind
    · omega
    · have z := line_no h h3 h2 hj hk hi
      intro e; apply z; unfold bendI at e ⊢; grind
    · have z := line_no h h3 h1 hk hj hi
      intro e; apply z; unfold bendI at e ⊢; grind
theorem left_lf (ws : List Well) (a b : Spot) : leftN ws a b = Cro.lf (spots ws) a b := by
  unfold leftN Cro.lf spots
  rw [List.filter_map, List.length_map]
  rfl
theorem right_rt (ws : List Well) (a b : Spot) : rightN ws a b = Cro.rt (spots ws) a b := by
  unfold rightN Cro.rt spots
  rw [List.filter_map, List.length_map]
  rfl
theorem spots_len (ws : List Well) : (spots ws).length = ws.length := List.length_map _
theorem prs_spots (ws : List Well) : Cro.prs (spots ws) = (pairsL ws).map fun p => (p.1.2, p.2.2) := by
  rw [← pairsL_prs]
  exact pairsL_map _ ws
theorem prod_sm (ws : List Well) : (prodL ws).sum = Cro.sm (Cro.prs (spots ws)) fun p => (Cro.lf (spots ws) p.1 p.2 : Int) * (Cro.rt (spots ws) p.1 p.2 : Int) := by
  rw [prs_spots, Cro.sm_map]
  unfold prodL Cro.sm
  refine congrArg List.sum (List.map_congr_left fun p _ => ?_)
  rw [left_lf, right_rt]
theorem cross_sm (ws : List Well) : (crossN (pairsL (pairsL ws)) : Int) = Cro.sm (Cro.prs (Cro.prs (spots ws))) fun q => Cro.X4 q.1.1 q.1.2 q.2.1 q.2.2 := by
  rw [prs_spots, ← pairsL_prs, pairsL_map, Cro.sm_map]
  unfold crossN
  rw [← Cro.sm_count]
  rfl
theorem c4_24 : ∀ n : Nat, n < 41 → (n : Int) * ((n : Int) - 1) * ((n : Int) - 2) * ((n : Int) - 3) = 24 * c4 n := by decide
theorem due_cross {ws : List Well} (hw : WsOk ws) (h : firstT ws = none) : crossI ws = (crossN (pairsL (pairsL ws)) : Nat) := by
  have c := Cro.count (gp_of hw h)
  have hl := hw.len
  rw [← cross_sm, ← prod_sm, spots_len, c4_24 _ (by omega)] at c
  unfold crossI
  omega
theorem three_parts (f : Spot → Int) : ∀ ps : List Spot, (ps.filter fun p => decide (0 < f p)).length + (ps.filter fun p => decide (f p < 0)).length + (ps.filter fun p => decide (f p = 0)).length = ps.length
  | [] => rfl
  | p :: ps => by
    have ih := three_parts f ps
    rw [List.filter_cons, List.filter_cons, List.filter_cons, List.length_cons]
    rcases Int.lt_trichotomy (f p) 0 with z | z | z
    · rw [if_neg (by rw [decide_eq_false (by omega)]; decide), if_pos (decide_eq_true z), if_neg (by rw [decide_eq_false (by omega)]; decide), List.length_cons]; omega
    · rw [if_neg (by rw [decide_eq_false (by omega)]; decide), if_neg (by rw [decide_eq_false (by omega)]; decide), if_pos (decide_eq_true z), List.length_cons]; omega
    · rw [if_pos (decide_eq_true z), if_neg (by rw [decide_eq_false (by omega)]; decide), if_neg (by rw [decide_eq_false (by omega)]; decide), List.length_cons]; omega
theorem lf_rt_two {ps : List Spot} (gp : Cro.GP ps) {a b : Spot} (ha : a ∈ ps) (hb : b ∈ ps) (ne : a ≠ b) : Cro.lf ps a b + Cro.rt ps a b + 2 = ps.length := by
  have t := three_parts (Mel.bd a b) ps
  have z1 : 2 ≤ (Mel.lot ps a b).length := Mel.lot_two gp.nd ha hb ne
  have z2 : (Mel.lot ps a b).length ≤ [a, b].length := Cro.len_sub (gp.nd.sublist List.filter_sublist) fun c hc => by
    obtain ⟨h1, h2⟩ := Mel.mem_lot.mp hc
    by_cases ca : a = c
    · rw [ca]; exact .head _
    by_cases cb : b = c
    · rw [cb]; exact .tail _ (.head _)
    · exact absurd h2 (gp.ok a ha b hb c h1 ne ca cb)
  have e : (Mel.lot ps a b).length = 2 := Nat.le_antisymm z2 z1
  unfold Mel.lot at e
  rw [e] at t
  exact t
theorem left_right {ws : List Well} (hw : WsOk ws) (h : firstT ws = none) : ∀ p ∈ pairsL ws, leftN ws p.1.2 p.2.2 + rightN ws p.1.2 p.2.2 + 2 = ws.length := fun p hp => by
  obtain ⟨p1, p2⟩ := pairsL_in hp
  have ne : p.1.2 ≠ p.2.2 := pairsL_ne (xs := spots ws) hw.spots (d := (p.1.2, p.2.2)) (by rw [pairsL_prs, prs_spots]; exact List.mem_map.mpr ⟨p, hp, rfl⟩)
  rw [left_lf, right_rt, ← spots_len ws]
  exact lf_rt_two (gp_of hw h) (List.mem_map.mpr ⟨p.1, p1, rfl⟩) (List.mem_map.mpr ⟨p.2, p2, rfl⟩) ne
/-! ### few on a side -/
theorem sum_counts (ks : List Nat) : ∀ m : Nat, ((List.range m).map fun j => ks.count j).sum = (ks.filter fun k => decide (k < m)).length
  | 0 => by
    rw [Cro.filter_none fun k _ => decide_eq_false (by omega)]
    rfl
  | m + 1 => by
    rw [List.range_succ, List.map_append, List.sum_append, sum_counts ks m]
    induction ks with
    | nil => rfl
    | cons k ks ih =>
      rw [List.filter_cons, List.filter_cons]
      simp only [List.map_cons, List.map_nil, List.sum_cons, List.sum_nil, List.count_cons] at ih ⊢
      by_cases h1 : k = m
      · subst h1
        rw [if_neg (by simp), if_pos (by simp), if_pos (by simp), List.length_cons]
        omega
      · by_cases h2 : k < m
        · rw [if_pos (decide_eq_true h2), if_pos (decide_eq_true (by omega)), if_neg (by rw [beq_iff_eq]; exact h1), List.length_cons, List.length_cons]
          omega
        · rw [if_neg (by rw [decide_eq_false h2]; decide), if_neg (by rw [beq_iff_eq]; exact h1), if_neg (by rw [decide_eq_false (by omega)]; decide)]
          omega
theorem sm_both {α : Type} (f : α → α → Int) (xs : List α) (h0 : ∀ x ∈ xs, f x x = 0) : Cro.sm xs (fun x => Cro.sm xs (f x)) = Cro.sm (Cro.prs xs) fun d => f d.1 d.2 + f d.2 d.1 := by
  have h := Cro.sm_prs (f := fun x y => f x y + f y x) xs (fun x _ y _ => Int.add_comm _ _) (fun x hx => by rw [h0 x hx]; rfl)
  have e : Cro.sm xs (fun x => Cro.sm xs fun y => f x y + f y x) = Cro.sm xs (fun x => Cro.sm xs (f x)) + Cro.sm xs (fun x => Cro.sm xs (f x)) := by
    have e1 : Cro.sm xs (fun x => Cro.sm xs fun y => f x y + f y x) = Cro.sm xs fun x => Cro.sm xs (f x) + Cro.sm xs fun y => f y x := Cro.sm_congr fun x _ => Cro.sm_add _ _ _
    rw [e1, Cro.sm_add, Cro.sm_swap (fun x y => f y x)]
  rw [e] at h
  omega
theorem len_flatf {α β : Type} (p : β → Bool) (f : α → List β) : ∀ xs : List α, ((((xs.flatMap f).filter p).length : Nat) : Int) = Cro.sm xs fun x => (((f x).filter p).length : Int)
  | [] => rfl
  | x :: xs => by
    rw [List.flatMap_cons, List.filter_append, List.length_append, Cro.sm_cons, ← len_flatf p f xs]
    omega
theorem E_len (ps : List Spot) (k : Nat) : ((Cro.E ps k).length : Int) = Cro.sm ps fun a => Cro.sm ps fun b => if (decide (a ≠ b) && decide (Cro.rt ps a b < k)) = true then 1 else 0 := by
  unfold Cro.E Mel.pairs
  rw [len_flatf]
  refine Cro.sm_congr fun a _ => ?_
  rw [Cro.sm_count (fun b => decide (a ≠ b) && decide (Cro.rt ps a b < k)), List.filter_map, List.length_map, List.filter_filter]
  refine congrArg (fun (n : Nat) => (n : Int)) (congrArg List.length (List.filter_congr fun b _ => ?_))
  rw [Bool.and_comm]
  rfl
theorem few_ok {ws : List Well} (hw : WsOk ws) (h : firstT ws = none) : FewOk ws.length (minsL ws) := fun f hf => by
  have gp := gp_of hw h
  have key := Cro.few (f + 1) (spots ws) gp (by rw [spots_len]; exact hf)
  have e1 : ((sidesN ws.length (minsL ws)).take (f + 1)).sum = ((minsL ws).filter fun k => decide (k < f + 1)).length := by
    unfold sidesN
    rw [← List.map_take, List.take_range, Nat.min_eq_left (by omega)]
    exact sum_counts _ _
  have e2 : ((Cro.E (spots ws) (f + 1)).length : Int) = (((minsL ws).filter fun k => decide (k < f + 1)).length : Nat) := by
    rw [E_len, sm_both _ _ (fun a _ => if_neg (by simp)), prs_spots, Cro.sm_map]
    unfold minsL
    rw [List.filter_map, List.length_map, ← Cro.sm_count]
    refine Cro.sm_congr fun p hp => ?_
    have lr := left_right hw h p hp
    have ne : p.1.2 ≠ p.2.2 := pairsL_ne (xs := spots ws) hw.spots (d := (p.1.2, p.2.2)) (by rw [pairsL_prs, prs_spots]; exact List.mem_map.mpr ⟨p, hp, rfl⟩)
    have r1 := right_rt ws p.1.2 p.2.2
    have r2 : Cro.rt (spots ws) p.2.2 p.1.2 = leftN ws p.1.2 p.2.2 := by rw [← Cro.lf_rt, ← left_lf]
    show (if (decide (p.1.2 ≠ p.2.2) && decide (Cro.rt (spots ws) p.1.2 p.2.2 < f + 1)) = true then (1 : Int) else 0) + (if (decide (p.2.2 ≠ p.1.2) && decide (Cro.rt (spots ws) p.2.2 p.1.2 < f + 1)) = true then (1 : Int) else 0) = if decide (minN ws p < f + 1) = true then 1 else 0
    rw [r2, ← r1, decide_eq_true ne, decide_eq_true ne.symm, Bool.true_and, Bool.true_and]
    unfold minN
    simp only [decide_eq_true_eq]
    split <;> split <;> split <;> omega
  rw [e1]
  have e3 : (f + 1) * (f + 1 + 1) = (f + 2) * (f + 1) := Nat.mul_comm _ _
  rw [e3] at key
  omega
/-! ### the sum by numbers -/
theorem numL_range {α : Type} (g : Nat → α) (n : Nat) : numL ((List.range n).map g) = (List.range n).map fun m => (m, g m) := by
  rw [numL_map]
  have e : numL (List.range n) = (List.range n).map fun m => (m, m) := by
    unfold numL
    rw [List.length_range]
    generalize List.range n = l
    induction l with
    | nil => rfl
    | cons x l ih => rw [List.zip_cons_cons, ih]; rfl
  rw [e, List.map_map]
  rfl
def eqN (a b : Nat) : Int := if a = b then 1 else 0
theorem sm_eqN {ps : List Nat} (nd : ps.Nodup) {a : Nat} (h : a ∈ ps) : Cro.sm ps (eqN a) = 1 := by
  induction ps with
  | nil => cases h
  | cons p ps ih =>
    rw [List.nodup_cons] at nd
    rw [Cro.sm_cons]
    by_cases e : a = p
    · subst e
      have z : Cro.sm ps (eqN a) = 0 := Cro.sm_zero fun x hx => if_neg fun (e : a = x) => nd.1 (e ▸ hx)
      rw [z]
      unfold eqN
      rw [if_pos rfl]
      rfl
    · have m : a ∈ ps := by
        cases h with
        | head => exact absurd rfl e
        | tail _ h => exact h
      rw [ih nd.2 m]
      unfold eqN
      rw [if_neg e]
      rfl
theorem sm_counts (g : Nat → Int) (L : Nat) : ∀ ks : List Nat, (∀ k ∈ ks, k < L) → Cro.sm (List.range L) (fun m => (ks.count m : Int) * g m) = Cro.sm ks g
  | [], _ => Cro.sm_zero fun m _ => by simp
  | k :: ks, h => by
    have ih := sm_counts g L ks fun j hj => h j (.tail _ hj)
    rw [Cro.sm_cons, ← ih]
    have e : ∀ m, (((k :: ks).count m : Nat) : Int) * g m = eqN k m * g k + (ks.count m : Int) * g m := fun m => by
      rw [List.count_cons]
      unfold eqN
      by_cases c : k = m
      · subst c
        rw [if_pos (by simp), if_pos rfl]
        grind
      · rw [if_neg (by rw [beq_iff_eq]; exact c), if_neg c]
        grind
    rw [Cro.sm_congr fun m _ => e m, Cro.sm_add]
    have e2 : Cro.sm (List.range L) (fun m => eqN k m * g k) = g k := by
      have e3 : Cro.sm (List.range L) (fun m => eqN k m * g k) = Cro.sm (List.range L) fun m => g k * eqN k m := Cro.sm_congr fun m _ => Int.mul_comm _ _
      rw [e3, Cro.sm_mul, sm_eqN List.nodup_range (List.mem_range.mpr (h k (.head _))), Int.mul_one]
    rw [e2]
theorem tot_all {ws : List Well} (hw : WsOk ws) (h : firstT ws = none) : totI ws (sidesL ws).length = (prodL ws).sum := by
  have e0 : totI ws (sidesL ws).length = Cro.sm (numL (sidesL ws)) fun p => (p.2 : Int) * (p.1 : Int) * ((ws.length : Int) - 2 - (p.1 : Int)) := by
    unfold totI Cro.sm
    rw [← numL_len (sidesL ws), List.take_length]
  rw [e0]
  unfold sidesL sidesN
  rw [numL_range, Cro.sm_map]
  have lr := left_right hw h
  have e1 : Cro.sm (List.range ((ws.length - 2) / 2 + 1)) (fun m => (((minsL ws).count m : Nat) : Int) * (m : Int) * ((ws.length : Int) - 2 - (m : Int))) = Cro.sm (List.range ((ws.length - 2) / 2 + 1)) fun m => ((minsL ws).count m : Int) * ((m : Int) * ((ws.length : Int) - 2 - (m : Int))) := Cro.sm_congr fun m _ => Int.mul_assoc _ _ _
  have e2 := e1.trans (sm_counts (fun m => (m : Int) * ((ws.length : Int) - 2 - (m : Int))) ((ws.length - 2) / 2 + 1) (minsL ws) fun k hk => by
    obtain ⟨p, hp, rfl⟩ := List.mem_map.mp hk
    have := lr p hp
    unfold minN
    omega)
  refine e2.trans ?_
  unfold minsL prodL
  rw [Cro.sm_map]
  unfold Cro.sm
  refine congrArg List.sum (List.map_congr_left fun p hp => ?_)
  have q := lr p hp
  unfold minN
  have d : (ws.length : Int) - 2 = (leftN ws p.1.2 p.2.2 : Int) + (rightN ws p.1.2 p.2.2 : Int) := by omega
  rw [d]
  by_cases c : leftN ws p.1.2 p.2.2 ≤ rightN ws p.1.2 p.2.2
  · rw [Nat.min_eq_left c]
    grind
  · rw [Nat.min_eq_right (by omega)]
    grind
/-! ### moved, turned, mirrored -/
theorem same_by {ws : List Well} {f : Spot → Spot} (hb : (∀ a b c, bendI (f a) (f b) (f c) = bendI a b c) ∨ ∀ a b c, bendI (f a) (f b) (f c) = - bendI a b c) (h : firstT ws = none) : firstT (mapW f ws) = none ∧ crossI (mapW f ws) = crossI ws ∧ sidesL (mapW f ws) = sidesL ws := by
  have hl : (mapW f ws).length = ws.length := by unfold mapW; rw [List.length_map]
  have hlr : (∀ a b, leftN (mapW f ws) (f a) (f b) = leftN ws a b ∧ rightN (mapW f ws) (f a) (f b) = rightN ws a b) ∨ ∀ a b, leftN (mapW f ws) (f a) (f b) = rightN ws a b ∧ rightN (mapW f ws) (f a) (f b) = leftN ws a b := by
    rcases hb with hb | hb
    · refine .inl fun a b => ⟨?_, ?_⟩
      · unfold leftN mapW
        rw [List.filter_map, List.length_map]
        exact congrArg List.length (List.filter_congr fun v _ => decide_eq_decide.mpr (by show 0 < bendI (f a) (f b) (f v.2) ↔ _; rw [hb]))
      · unfold rightN mapW
        rw [List.filter_map, List.length_map]
        exact congrArg List.length (List.filter_congr fun v _ => decide_eq_decide.mpr (by show bendI (f a) (f b) (f v.2) < 0 ↔ _; rw [hb]))
    · refine .inr fun a b => ⟨?_, ?_⟩
      · unfold leftN rightN mapW
        rw [List.filter_map, List.length_map]
        exact congrArg List.length (List.filter_congr fun v _ => decide_eq_decide.mpr (by show 0 < bendI (f a) (f b) (f v.2) ↔ _; rw [hb]; omega))
      · unfold leftN rightN mapW
        rw [List.filter_map, List.length_map]
        exact congrArg List.length (List.filter_congr fun v _ => decide_eq_decide.mpr (by show bendI (f a) (f b) (f v.2) < 0 ↔ _; rw [hb]; omega))
  refine ⟨?_, ?_, ?_⟩
  · refine List.find?_eq_none.mpr fun t ht => ?_
    unfold mapW at ht
    rw [threesL_map] at ht
    obtain ⟨u, hu, rfl⟩ := List.mem_map.mp ht
    have q := List.find?_eq_none.mp h u hu
    intro z
    have z2 : bendI (f u.1.2) (f u.2.1.2) (f u.2.2.2) = 0 := of_decide_eq_true z
    refine q (decide_eq_true ?_)
    rcases hb with hb | hb
    · rw [hb] at z2; exact z2
    · rw [hb] at z2; omega
  · unfold crossI
    rw [hl]
    have e : prodL (mapW f ws) = prodL ws := by
      unfold prodL
      conv => lhs; rw [show pairsL (mapW f ws) = (pairsL ws).map fun p => ((p.1.1, f p.1.2), (p.2.1, f p.2.2)) from pairsL_map _ ws]
      rw [List.map_map]
      refine List.map_congr_left fun p _ => ?_
      show (leftN (mapW f ws) (f p.1.2) (f p.2.2) : Int) * (rightN (mapW f ws) (f p.1.2) (f p.2.2) : Int) = _
      rcases hlr with g | g
      · rw [(g _ _).1, (g _ _).2]
      · rw [(g _ _).1, (g _ _).2, Int.mul_comm]
    rw [e]
  · unfold sidesL
    rw [hl]
    have e : minsL (mapW f ws) = minsL ws := by
      unfold minsL
      conv => lhs; rw [show pairsL (mapW f ws) = (pairsL ws).map fun p => ((p.1.1, f p.1.2), (p.2.1, f p.2.2)) from pairsL_map _ ws]
      rw [List.map_map]
      refine List.map_congr_left fun p _ => ?_
      show min (leftN (mapW f ws) (f p.1.2) (f p.2.2)) (rightN (mapW f ws) (f p.1.2) (f p.2.2)) = _
      unfold minN
      rcases hlr with g | g
      · rw [(g _ _).1, (g _ _).2]
      · rw [(g _ _).1, (g _ _).2, Nat.min_comm]
    rw [e]
/-! ### bows -/
def bowX (n i : Nat) : Int := (i : Int) - (n : Int).fdiv 2
def bowV (n i : Nat) : Well := (("b" : Str) ++ numS (i : Int), (bowX n i, bowX n i ^ 2))
def bowW (n : Nat) : List Well := (List.range n).map (bowV n)
def bowS (n : Nat) : List Nat := (List.range ((n - 2) / 2 + 1)).map fun m => if 2 * m + 2 < n then n else n / 2
theorem bow_ok : ∀ n, n < 31 → 4 ≤ n → wsB (bowW n) = true := by decide +kernel
theorem bow_len (n : Nat) : (bowW n).length = n := by unfold bowW; rw [List.length_map, List.length_range]
theorem bow_at {n i : Nat} {v : Well} (h : (bowW n)[i]? = some v) : v = bowV n i ∧ i < n := by
  unfold bowW at h
  rw [List.getElem?_map] at h
  cases q : (List.range n)[i]? with
  | none => rw [q] at h; cases h
  | some j =>
    rw [q] at h
    cases h
    obtain ⟨hi, e⟩ := List.getElem?_eq_some_iff.mp q
    rw [List.length_range] at hi
    rw [List.getElem_range] at e
    subst e
    exact ⟨rfl, hi⟩
theorem bow_bend (n i j k : Nat) : bendI (bowV n i).2 (bowV n j).2 (bowV n k).2 = ((j : Int) - i) * (((k : Int) - i) * ((k : Int) - j)) := by
  unfold bendI bowV bowX
  simp only
  generalize (n : Int).fdiv 2 = h
  grind
theorem bow_neg {n i j k : Nat} (hij : i < j) : bendI (bowV n i).2 (bowV n j).2 (bowV n k).2 < 0 ↔ i < k ∧ k < j := by
  rw [bow_bend]
  have h1 : (0 : Int) < (j : Int) - i := by omega
  constructor
  · intro h
    rcases Nat.lt_or_ge i k with a | a
    · rcases Nat.lt_or_ge k j with b | b
      · exact ⟨a, b⟩
      · have := Int.mul_nonneg (Int.le_of_lt h1) (Int.mul_nonneg (show (0 : Int) ≤ (k : Int) - i by omega) (show (0 : Int) ≤ (k : Int) - j by omega))
        omega
    · have e : ((k : Int) - i) * ((k : Int) - j) = ((i : Int) - k) * ((j : Int) - k) := by grind
      rw [e] at h
      have := Int.mul_nonneg (Int.le_of_lt h1) (Int.mul_nonneg (show (0 : Int) ≤ (i : Int) - k by omega) (show (0 : Int) ≤ (j : Int) - k by omega))
      omega
  · rintro ⟨a, b⟩
    exact Int.mul_neg_of_pos_of_neg h1 (Int.mul_neg_of_pos_of_neg (by omega) (by omega))
theorem bow_loose (n : Nat) : firstT (bowW n) = none := by
  refine List.find?_eq_none.mpr fun t ht z => ?_
  obtain ⟨i, j, k, hij, hjk, e1, e2, e3⟩ := threesL_mem.mp ht
  have z2 : bendI t.1.2 t.2.1.2 t.2.2.2 = 0 := of_decide_eq_true z
  rw [(bow_at e1).1, (bow_at e2).1, (bow_at e3).1, bow_bend] at z2
  have := Int.mul_pos (show (0 : Int) < (j : Int) - i by omega) (Int.mul_pos (show (0 : Int) < (k : Int) - i by omega) (show (0 : Int) < (k : Int) - j by omega))
  omega
theorem between_len (i j : Nat) : ∀ n : Nat, ((List.range n).filter fun k => decide (i < k ∧ k < j)).length = min j n - (i + 1)
  | 0 => by simp
  | n + 1 => by
    rw [List.range_succ, List.filter_append, List.length_append, between_len i j n, List.filter_cons]
    by_cases h : i < n ∧ n < j
    · rw [if_pos (decide_eq_true h)]
      show _ + 1 = _
      omega
    · rw [if_neg (by rw [decide_eq_false h]; decide)]
      show _ + 0 = _
      omega
theorem bow_right {n i j : Nat} (hij : i < j) (hj : j < n) : rightN (bowW n) (bowV n i).2 (bowV n j).2 = j - i - 1 := by
  unfold rightN bowW
  rw [List.filter_map, List.length_map]
  have e : ((List.range n).filter ((fun v : Well => decide (bendI (bowV n i).2 (bowV n j).2 v.2 < 0)) ∘ bowV n)) = (List.range n).filter fun k => decide (i < k ∧ k < j) := List.filter_congr fun k _ => decide_eq_decide.mpr (bow_neg hij)
  rw [e, between_len]
  omega
def bowM (n : Nat) : List Nat := (pairsL (List.range n)).map fun p => min (n - 2 - (p.2 - p.1 - 1)) (p.2 - p.1 - 1)
theorem bow_mins {n : Nat} (hw : WsOk (bowW n)) : minsL (bowW n) = bowM n := by
  have lr := left_right hw (bow_loose n)
  unfold minsL bowM
  rw [show pairsL (bowW n) = (pairsL (List.range n)).map fun p => (bowV n p.1, bowV n p.2) from pairsL_map _ _] at lr ⊢
  rw [List.map_map]
  refine List.map_congr_left fun p hp => ?_
  have q := lr _ (List.mem_map.mpr ⟨p, hp, rfl⟩)
  obtain ⟨i, j, hij, h1, h2⟩ := pairsL_mem.mp hp
  obtain ⟨hi, e1⟩ := List.getElem?_eq_some_iff.mp h1
  obtain ⟨hj, e2⟩ := List.getElem?_eq_some_iff.mp h2
  rw [List.getElem_range] at e1 e2
  rw [List.length_range] at hi hj
  show min (leftN (bowW n) (bowV n p.1).2 (bowV n p.2).2) (rightN (bowW n) (bowV n p.1).2 (bowV n p.2).2) = _
  have r : rightN (bowW n) (bowV n p.1).2 (bowV n p.2).2 = p.2 - p.1 - 1 := bow_right (by omega) (by omega)
  simp only [bow_len] at q
  rw [r] at q ⊢
  have l : leftN (bowW n) (bowV n p.1).2 (bowV n p.2).2 = n - 2 - (p.2 - p.1 - 1) := by omega
  rw [l]
theorem bow_nums : ∀ n, n < 31 → 4 ≤ n → sidesN n (bowM n) = bowS n := by decide +kernel
theorem bow_sides {n : Nat} (h : n < 31) (h4 : 4 ≤ n) : sidesL (bowW n) = bowS n := by
  unfold sidesL
  rw [bow_mins (wsB_ok (bow_ok n h h4)), bow_len]
  exact bow_nums n h h4
def totB (n : Nat) : Int := ((numL (bowS n)).map fun p => (p.2 : Int) * (p.1 : Int) * ((n : Int) - 2 - (p.1 : Int))).sum
theorem bow_tot : ∀ n, n < 31 → 4 ≤ n → 3 * c4 n - totB n = ((n * (n - 1) * (n - 2) * (n - 3) / 24 : Nat) : Int) := by decide +kernel
theorem bow_cross {n : Nat} (h : n < 31) (h4 : 4 ≤ n) : crossI (bowW n) = ((n * (n - 1) * (n - 2) * (n - 3) / 24 : Nat) : Int) := by
  have t := tot_all (wsB_ok (bow_ok n h h4)) (bow_loose n)
  unfold crossI
  rw [← t, bow_len, ← bow_tot n h h4]
  unfold totI totB
  rw [bow_sides h h4, bow_len, ← numL_len (bowS n), List.take_length]
theorem bow_S : ∀ n, n < 31 → 4 ≤ n → (bowS n)[0]? = some n ∧ ∀ k ∈ (bowS n).take ((n - 3) / 2 + 1), k = n := by decide +kernel

end Law
set_option maxHeartbeats 0
set_option maxRecDepth 100000
namespace Law
open PySem PySem.Spec PyProof.Rows L2 Lw
local macro_rules | `(tactic| walk_at "e1") => `(tactic| first
  | (with_reducible refine we_callP (by with_unfolding_all exact rfl) ?_)
  | (with_reducible refine we_int ?_)
  | (with_reducible refine we_str ?_)
  | (with_reducible refine we_bl ?_)
  | (with_reducible refine we_non ?_)
  | (with_reducible refine we_ty ?_)
  | (with_reducible refine we_cls ?_)
  | (with_reducible refine we_sub ?_)
  | (with_reducible refine we_add ?_)
  | (with_reducible refine we_mul ?_)
  | (with_reducible refine we_fdiv ?_)
  | (with_reducible refine we_mod ?_)
  | (with_reducible refine we_pow ?_)
  | (with_reducible refine we_neg ?_)
  | (with_reducible refine we_isN ?_)
  | (with_reducible refine we_notN ?_)
  | (with_reducible refine we_cmp ?_)
  | (with_reducible refine we_chain ?_)
  | (with_reducible refine we_eq ?_)
  | (with_reducible refine we_ne ?_)
  | (with_reducible refine we_in ?_)
  | (with_reducible refine we_notIn ?_)
  | (with_reducible refine we_ix ?_)
  | (with_reducible refine we_slice ?_)
  | (with_reducible refine wo_none ?_)
  | (with_reducible refine wo_some ?_)
  | (with_reducible refine we_if ?_)
  | (with_reducible refine we_andV ?_)
  | (with_reducible refine we_orV ?_)
  | (with_reducible refine we_notV ?_)
  | (with_reducible refine wt_test ?_)
  | (with_reducible refine wt_B ?_)
  | (with_reducible refine wt_and ?_)
  | (with_reducible refine wt_or ?_)
  | (with_reducible refine wt_not ?_)
  | (with_reducible refine wa_nil ?_)
  | (with_reducible refine wa_cons ?_)
  | (with_reducible refine wa_star ?_)
  | (with_reducible refine we_tup ?_)
  | (with_reducible refine we_lst ?_)
  | (with_reducible refine we_len ?_)
  | (with_reducible refine we_intc ?_)
  | (with_reducible refine we_abs ?_)
  | (with_reducible refine we_strc ?_)
  | (with_reducible refine we_2I ?_)
  | (with_reducible refine we_all ?_)
  | (with_reducible refine we_any ?_)
  | (with_reducible refine we_list ?_)
  | (with_reducible refine we_tuple ?_)
  | (with_reducible refine we_isi ?_)
  | (with_reducible refine we_fld ?_)
  | (with_reducible refine we_call ?_)
  | (with_reducible refine we_callN ?_)
  | (with_reducible refine we_prop ?_)
  | (with_reducible refine we_meth ?_)
  | (with_reducible refine we_make ?_)
  | (with_reducible refine we_join ?_)
  | (with_reducible refine we_split ?_)
  | (with_reducible refine we_dictZip ?_)
  | (with_reducible refine we_dictP ?_)
  | (with_reducible refine we_reprF ?_)
  | (with_reducible refine we_reprG ?_)
  | (with_reducible refine we_lenSetT ?_)
  | (with_reducible refine we_lenSetA ?_)
  | (with_reducible refine we_upper ?_)
  | (with_reducible refine we_dnew ?_)
  | (with_reducible refine we_revA ?_)
  | (with_reducible refine ws_next ?_)
  | (with_reducible refine ws_seq ?_)
  | (with_reducible refine ws_ret ?_)
  | (with_reducible refine ws_retN ?_)
  | (with_reducible refine ws_break ?_)
  | (with_reducible refine ws_cont ?_)
  | (with_reducible refine ws_drop ?_)
  | (with_reducible refine ws_if ?_)
  | (with_reducible refine ws_asg ?_)
  | (with_reducible refine ws_par ?_)
  | (with_reducible refine ws_par3 ?_)
  | (with_reducible refine wg_name ?_)
  | (with_reducible refine wgs_nil ?_)
  | (with_reducible refine wgs_cons ?_)
  | (with_reducible refine wt_yes ?_)
  | refine we_var rfl ?_ | fail)
local macro_rules | `(tactic| walk_at "q1") => `(tactic| first
  | (with_reducible refine q_sub ?_)
  | (with_reducible refine q_addI ?_)
  | (with_reducible refine q_neg ?_)
  | (with_reducible refine q_cmp ?_)
  | (with_reducible refine q_opdCmp ?_)
  | (with_reducible refine q_lenL ?_)
  | (with_reducible refine q_lenT ?_)
  | (with_reducible refine q_lenF ?_)
  | (with_reducible refine q_lenD ?_)
  | (with_reducible refine q_intI ?_)
  | (with_reducible refine q_intB ?_)
  | (with_reducible refine q_abs ?_)
  | (with_reducible refine q_2I ?_)
  | (with_reducible refine q_rB ?_)
  | (with_reducible refine q_eqI ?_)
  | (with_reducible refine q_eqS ?_)
  | (with_reducible refine q_eqB ?_)
  | (with_reducible refine q_eqN ?_)
  | (with_reducible refine q_eqNI ?_)
  | (with_reducible refine q_eqNS ?_)
  | (with_reducible refine q_eqIN ?_)
  | (with_reducible refine q_eqSN ?_)
  | (with_reducible refine q_slL ?_)
  | (with_reducible refine q_slF ?_)
  | (with_reducible refine q_slT ?_)
  | refine q_ixT rfl ?_
  | refine q_ixL rfl ?_
  | refine q_ixF rfl ?_
  | (with_reducible refine q_mul (mulA' (n := 10 ^ 20) (by decide) (by omega) (by omega)) ?_) | fail)
local macro_rules | `(tactic| walk_at "x1") => `(tactic| first | (with_reducible refine Exists.intro _ (And.intro rfl ?_)) | (with_reducible refine Exists.intro _ (Exists.intro _ (And.intro rfl ?_))) | (with_reducible refine And.intro rfl ?_) | refine And.intro (len_le rfl) ?_ | fail)
local macro_rules | `(tactic| walk_at "eo") => `(tactic| first
  | (with_reducible refine we_ixO (by with_unfolding_all exact rfl) (by with_unfolding_all exact .inr rfl) ?_)
  | (with_reducible refine we_callP (by with_unfolding_all exact rfl) ?_)
  | (with_reducible refine we_int ?_)
  | (with_reducible refine we_str ?_)
  | (with_reducible refine we_bl ?_)
  | (with_reducible refine we_non ?_)
  | (with_reducible refine we_ty ?_)
  | (with_reducible refine we_cls ?_)
  | (with_reducible refine we_sub ?_)
  | (with_reducible refine we_add ?_)
  | (with_reducible refine we_mul ?_)
  | (with_reducible refine we_fdiv ?_)
  | (with_reducible refine we_mod ?_)
  | (with_reducible refine we_pow ?_)
  | (with_reducible refine we_neg ?_)
  | (with_reducible refine we_isN ?_)
  | (with_reducible refine we_notN ?_)
  | (with_reducible refine we_cmp ?_)
  | (with_reducible refine we_chain ?_)
  | (with_reducible refine we_eq ?_)
  | (with_reducible refine we_ne ?_)
  | (with_reducible refine we_in ?_)
  | (with_reducible refine we_notIn ?_)
  | (with_reducible refine we_ix ?_)
  | (with_reducible refine we_slice ?_)
  | (with_reducible refine wo_none ?_)
  | (with_reducible refine wo_some ?_)
  | (with_reducible refine we_if ?_)
  | (with_reducible refine we_andV ?_)
  | (with_reducible refine we_orV ?_)
  | (with_reducible refine we_notV ?_)
  | (with_reducible refine wt_test ?_)
  | (with_reducible refine wt_B ?_)
  | (with_reducible refine wt_and ?_)
  | (with_reducible refine wt_or ?_)
  | (with_reducible refine wt_not ?_)
  | (with_reducible refine wa_nil ?_)
  | (with_reducible refine wa_cons ?_)
  | (with_reducible refine wa_star ?_)
  | (with_reducible refine we_tup ?_)
  | (with_reducible refine we_lst ?_)
  | (with_reducible refine we_len ?_)
  | (with_reducible refine we_intc ?_)
  | (with_reducible refine we_abs ?_)
  | (with_reducible refine we_strc ?_)
  | (with_reducible refine we_2I ?_)
  | (with_reducible refine we_all ?_)
  | (with_reducible refine we_any ?_)
  | (with_reducible refine we_list ?_)
  | (with_reducible refine we_tuple ?_)
  | (with_reducible refine we_isi ?_)
  | (with_reducible refine we_fld ?_)
  | (with_reducible refine we_call ?_)
  | (with_reducible refine we_callN ?_)
  | (with_reducible refine we_prop ?_)
  | (with_reducible refine we_meth ?_)
  | (with_reducible refine we_make ?_)
  | (with_reducible refine we_join ?_)
  | (with_reducible refine we_split ?_)
  | (with_reducible refine we_dictZip ?_)
  | (with_reducible refine we_dictP ?_)
  | (with_reducible refine we_reprF ?_)
  | (with_reducible refine we_reprG ?_)
  | (with_reducible refine we_lenSetT ?_)
  | (with_reducible refine we_lenSetA ?_)
  | (with_reducible refine we_upper ?_)
  | (with_reducible refine we_dnew ?_)
  | (with_reducible refine we_revA ?_)
  | (with_reducible refine wg_name ?_)
  | (with_reducible refine wgs_nil ?_)
  | (with_reducible refine wgs_cons ?_)
  | (with_reducible refine wt_yes ?_)
  | refine we_var rfl ?_ | fail)
local macro_rules | `(tactic| walk_at "ow") => `(tactic| refine Exists.intro _ (Exists.intro _ (Exists.intro _ (Exists.intro _ (And.intro rfl (And.intro (.inr rfl) (And.intro rfl (And.intro rfl (And.intro rfl ?_)))))))))
local macro_rules | `(tactic| walk_at "ge") => `(tactic| repeat' first | walk_at "eo" | walk_at "q1" | walk_at "x1" | walk_at "ow" | fail)
local macro_rules | `(tactic| walk_at "go") => `(tactic| repeat' first | walk_at "e1" | walk_at "q1" | walk_at "x1" | fail)
local macro_rules | `(tactic| walk_at "gin") => `(tactic| repeat' first | exact gin_name (by decide) | exact gmono_name | exact gsin_nil | exact gsmono_nil | (with_reducible refine gin_seq ?_) | (with_reducible refine gmono_seq ?_) | (with_reducible refine gsmono_cons ?_ ?_) | (with_reducible refine gsin_cons ?_ ?_ ?_ ?_))
local macro_rules | `(tactic| walk_at "lc") => `(tactic| refine we_lc (by walk_at "gin") (by walk_at "gin") ?_)
local macro_rules | `(tactic| walk_at "seq") => `(tactic| refine wg_seq ⟨_, .inl rfl, rfl, ?_⟩)
local macro_rules | `(tactic| walk_at "cx") => `(tactic| try dsimp only [L2.cxOf, L2.Cx.nox])
local macro_rules | `(tactic| walk_at "nm") => `(tactic| first | refine ws_eq (by ((try simp only [wipeD, List.map_cons, List.map_nil, List.set_cons_succ, List.set_cons_zero]); exact rfl)) ?_ | refine we_eq' (by ((try simp only [wipeD, List.map_cons, List.map_nil, List.set_cons_succ, List.set_cons_zero]); exact rfl)) ?_ | refine wt_eq' (by ((try simp only [wipeD, List.map_cons, List.map_nil, List.set_cons_succ, List.set_cons_zero]); exact rfl)) ?_)
section
variable [Tabl] {P : Program} {w : World} {K : Lh.Fg} {mg : Str → Option Value} {base : Heap}
open Classical in
theorem seq_start {K : Lh.Fg} {H : Hp} {a : Addr} {ns : List Int} (hT : ∀ b, Tb b → H b = some (.tbl #[])) (hS : SqL K H a (ns.map V.int)) : ∃ B : Hp, L2.Same B H ∧ TbOk B H ∧ SqL K B a (ns.map V.int) := by
  have hB : ∀ b, ¬ Tb b → (fun b => if Tb b then none else H b) b = H b := fun b h => if_neg h
  refine ⟨fun b => if Tb b then none else H b, fun b u e => ?_, ⟨fun p hp => ⟨#[], hT p.1 ⟨p, hp, rfl⟩, trivial, fun pos cv h => (nomatch h)⟩, fun b h => if_pos h⟩, ?_⟩
  · by_cases h : Tb b
    · dsimp only at e; rw [if_pos h] at e; cases e
    · dsimp only at e; rw [if_neg h] at e; exact e
  · rcases hS with h | h
    · refine .inl ?_
      have na : ¬ Tb a := fun z => by
        rcases h with h | ⟨o, h⟩ <;> (rw [hT a z] at h; cases h)
      rcases h with h | ⟨o, h⟩
      · exact .inl ((hB a na).trans h)
      · exact .inr ⟨o, (hB a na).trans h⟩
    · exact .inr h
theorem ints_ra {K : Lh.Fg} {B : Hp} : ∀ (ys : List Int), RA K B (ys.map V.int) (ys.map D.int)
  | [] => .nil
  | _ :: ys => .cons (.int _) (ints_ra ys)
theorem sc_can_stand : FnScope ["wells", "well", "name", "x", "y"] ["wells", "well"] (defScope scan_stand) := ⟨rfl, rfl, rfl, by decide +kernel, rfl, by decide +kernel, by decide +kernel⟩
theorem c_can_stand (T : Tx P K mg base) : Lw.Cal P w K mg base "can_stand" 1 ["wells", "well"] (pureSp K 2 Scs) := by
  obtain ⟨fd, F⟩ := Lh.def_of T.d 6 (d := dscan_stand)
  refine ⟨_, fd, T.glo "can_stand" 6, F.kp, F.bindsN (fun _ _ _ _ _ _ us hl => by
      match us, hl with
      | [_, _], _ => rfl), Lw.kbn_of F (fun _ _ _ _ _ _ j us ws hj h1 h2 => by
      match j, us, ws, hj, h1, h2 with
      | 0, [], [_, _], _, _, _ => rfl
      | 1, [_], [_], _, _, _ => rfl
      | 2, [_, _], [], _, _, _ => rfl), ?_⟩
  have nd := sc_can_stand.nd
  refine Lw.fn_pure F sc_can_stand rfl (by decide) fun cdv A outer s H E hr => ?_
  have hr65 := Lw.room65 hr
  refine ⟨_, (pss_cons (ps_if (PW.pt (pw_or (pt_cmpR op_isN (pv 1) pe_non (nomark _)) (pw_or1 (pt_cmpR (op_eqK K hr.units) (pe_callB (call_lenK K) (by rfl) (T.free "len" 56) (by decide +kernel) (pa_cons (pv 0) pa_nil)) (pe_gint (T.int "MOST_WELLS" 45)) (nomark _))))) (pss_one (ps_ret pe_bl)) pss_nil)
      (pss_one (ps_ret (pe_not (pe_callB (cr_anyK K rfl) (by rfl) (T.free "any" 50) (by decide +kernel) (pa_cons (pe_lc (own := [("name", 2), ("x", 3), ("y", 4)]) (by rfl) nd (pi_anyK K (pv 0)) (blkOk_by (N := ["wells", "well", "name", "x", "y"]) (sc := defScope scan_stand) (by decide +kernel)) (fun _ _ _ _ _ => (pg_seqK (n := 3) K rfl (pgs_cons (pg_name (i := 2) nd rfl (.inl rfl)) (pgs_cons (pg_name (i := 3) nd rfl (.inl rfl)) (pgs_cons (pg_name (i := 4) nd rfl (.inl rfl)) pgs_nil))))) (fun _ _ _ _ _ => pts_nil) (fun _ _ _ _ _ => (pe_or (pe_cmpR (op_eqK K hr.units) (pe_ix (ix_K K (hu_of hr)) (pv 1) pe_int (fun _ _ => rfl)) (pv 2) (nomark _)) (pe_one (pe_cmpR (op_eqK K hr.units) (pe_slice (sl_K K) (pv 1) (po_some pe_int) po_none) (pe_tup (pa_cons (pv 3) (pa_cons (pv 4) pa_nil))) (nomark _)))))) pa_nil)))))), ?_⟩
  rintro ds G hl ⟨ws, v, rfl, hlt, hne, hG⟩
  intro ex
  walk_at "go"
  refine ⟨fun _ => ?_, (fun h => absurd h (by simp [D.isN]))⟩
  walk_at "go"
  refine ⟨fun h => ?_, fun _ => ?_⟩
  · exfalso
    simp at h
    omega
  walk_at "go"
  walk_at "lc"
  refine wi_any ?_
  walk_at "go"
  refine ⟨?_, lcI_map (ws := ws) (enc := wellD) (res := fun u => .bl false) rfl (fun u hu => ?_) ?_⟩
  · rw [List.length_map]
    exact Nat.lt_of_lt_of_le hlt (by decide)
  · walk_at "seq"
    walk_at "go"
    refine ⟨fun h => ?_, fun _ => ?_⟩
    · exact absurd (of_decide_eq_true h) (hne u hu).1
    · walk_at "go"
      refine q_eqT (xs := [.int v.2.1, .int v.2.2]) (ys := [.int u.2.1, .int u.2.2]) rfl rfl ?_
      have e : D.eqb (.tup [.int v.2.1, .int v.2.2]) (.tup [.int u.2.1, .int u.2.2]) = false := by
        rw [spd_eqb v.2 u.2]
        exact decide_eq_false (hne u hu).2
      rw [e]
      exact ⟨rfl, rfl⟩
  · refine q_bools (bs := ws.map fun _ => false) (by rw [List.map_map]; rfl) ?_
    have ea : ((ws.map fun _ => false).any id) = false := by
      rw [List.any_map, List.any_eq_false]
      intro _ _ h
      cases h
    rw [ea]
    walk_at "x1"
    exact hG
theorem sc_is_name : FnScope ["value", "sign"] ["value"] (defScope sis_name) := ⟨rfl, rfl, rfl, by decide +kernel, rfl, by decide +kernel, by decide +kernel⟩
theorem c_is_name (T : Tx P K mg base) : Lw.Cal P w K mg base "is_name" 1 ["value"] (pureSp K 1 Snm) := by
  obtain ⟨fd, F⟩ := Lh.def_of T.d 2 (d := dsis_name)
  refine ⟨_, fd, T.glo "is_name" 2, F.kp, F.bindsN (fun _ _ _ _ _ _ us hl => by
      match us, hl with
      | [_], _ => rfl), Lw.kbn_of F (fun _ _ _ _ _ _ j us ws hj h1 h2 => by
      match j, us, ws, hj, h1, h2 with
      | 0, [], [_], _, _, _ => rfl
      | 1, [_], [], _, _, _ => rfl), ?_⟩
  have nd := sc_is_name.nd
  refine Lw.fn_pure F sc_is_name rfl (by decide) fun cdv A outer s H E hr => ?_
  have hr65 := Lw.room65 hr
  refine ⟨_, (pss_cons (ps_if (PW.pt (pw_or (pt_not (pt_val (pe_callB (call_isiQ K) (by rfl) (T.free "isinstance" 55) (by decide +kernel) (pa_cons (pv 0) (pa_cons (pe_gty "str" (T.free "str" 63) (by decide +kernel)) pa_nil))))) (pw_or (pt_not (pt_chain op_lt op_le pe_int (pe_callB (call_lenK K) (by rfl) (T.free "len" 56) (by decide +kernel) (pa_cons (pv 0) pa_nil)) (pe_gint (T.int "MOST_SIGNS" 43)))) (pw_or1 (pt_cmpR (op_notInK K w hr65) (pe_ix (ix_K K (hu_of hr)) (pv 0) pe_int (fun _ _ => rfl)) (pe_gstr (T.str "LETTERS" 41)) (by rfl)))))) (pss_one (ps_ret pe_bl)) pss_nil)
      (pss_one (ps_ret (pe_callB (cr_allK K rfl) (by rfl) (T.free "all" 49) (by decide +kernel) (pa_cons (pe_lc (own := [("sign", 1)]) (by rfl) nd (pi_anyK K (pv 0)) (blkOk_by (N := ["value", "sign"]) (sc := defScope sis_name) (by decide +kernel)) (fun _ _ _ _ _ => (pg_name (i := 1) nd rfl (.inl rfl))) (fun _ _ _ _ _ => pts_nil) (fun _ _ _ _ _ => (pe_or (pe_cmpR (op_inK K w hr65) (pv 1) (pe_gstr (T.str "LETTERS" 41)) (by rfl)) (pe_one (pe_cmpR (op_inK K w hr65) (pv 1) (pe_gstr (T.str "FIGURES" 42)) (by rfl)))))) pa_nil))))), ?_⟩
  rintro ds G hl ⟨z, rfl, hz, hG⟩
  intro ex
  obtain ⟨h1, h2⟩ := name_len hz
  have hs : z.length ≤ sizeLine := Nat.le_trans h2 (by decide)
  obtain ⟨c, r, e⟩ : ∃ c r, TL.tl z = c :: r := by
    unfold nameB at hz
    split at hz
    · cases hz
    · exact ⟨_, _, ‹_›⟩
  have hc : c ∈ letC ∧ ∀ d ∈ r, d ∈ letC ∨ d ∈ figC := by
    unfold nameB at hz
    rw [e] at hz
    simp only [Bool.and_eq_true, decide_eq_true_eq, List.all_eq_true, Bool.or_eq_true] at hz
    exact ⟨hz.1.2, hz.2⟩
  have all : ∀ d ∈ TL.tl z, d ∈ letC ∨ d ∈ figC := fun d hd => by
    rw [e] at hd
    rcases List.mem_cons.mp hd with rfl | hd
    · exact .inl hc.1
    · exact hc.2 d hd
  walk_at "go"
  refine dIsi_str (x := .str z) rfl _ ?_
  walk_at "go"
  refine ⟨fun _ => ?_, fun h => nomatch h⟩
  walk_at "go"
  refine q_lenS hs ?_
  refine q_opdCmp ?_
  walk_at "x1"
  refine ⟨fun _ => ?_, fun h => ?_⟩
  · walk_at "go"
    refine ⟨fun _ => ?_, fun h => ?_⟩
    · walk_at "go"
      refine q_ixS (c := c) hs (atI_at (j := 0) (by rw [show z.cps.toList = c :: r from e]; rfl)) ?_
      walk_at "go"
      refine .inr (.inr (.inl ⟨c, _, rfl, rfl, ?_⟩))
      walk_at "go"
      refine ⟨fun h => ?_, fun _ => ?_⟩
      · exact absurd hc.1 (by simpa [letC] using h)
      · walk_at "go"
        walk_at "lc"
        refine wi_any ?_
        walk_at "go"
        refine ⟨?_, lcI_map (ws := TL.tl z) (enc := fun c => .str ⟨#[c]⟩) (res := fun c => .bl true) rfl (fun d hd => ?_) ?_⟩
        · show (signsD z).length < sizeLine
          unfold signsD
          rw [List.length_map, ← len_tl]
          exact Nat.lt_of_le_of_lt h2 (by decide)
        · walk_at "go"
          refine .inr (.inr (.inl ⟨d, _, rfl, rfl, ?_⟩))
          walk_at "x1"
          refine ⟨fun h => ⟨rfl, rfl⟩, fun h => ?_⟩
          walk_at "go"
          refine .inr (.inr (.inl ⟨d, _, rfl, rfl, ?_⟩))
          have hf : d ∈ figC := by
            rcases all d hd with q | q
            · exact absurd q (by simpa [letC] using h)
            · exact q
          exact ⟨congrArg D.bl (decide_eq_true hf), rfl⟩
        · refine q_bools (bs := (TL.tl z).map fun _ => true) (by rw [List.map_map]; rfl) ?_
          show G (.bl (((TL.tl z).map fun _ => true).all id))
          have ea : (((TL.tl z).map fun _ => true).all id) = true := by
            rw [List.all_map]
            exact List.all_eq_true.mpr fun _ _ => rfl
          rw [ea]
          exact hG
    · exfalso
      simp at h
      omega
  · exfalso
    simp at h
    rw [h] at h1
    omega
theorem sc_is_integer : FnScope ["value"] ["value"] (defScope sis_integer) := ⟨rfl, rfl, rfl, by decide +kernel, rfl, by decide +kernel, by decide +kernel⟩
theorem c_is_integer (T : Tx P K mg base) : Lw.Cal P w K mg base "is_integer" 1 ["value"] (pureSp K 1 Sii) := by
  obtain ⟨fd, F⟩ := Lh.def_of T.d 0 (d := dsis_integer)
  refine ⟨_, fd, T.glo "is_integer" 0, F.kp, F.bindsN (fun _ _ _ _ _ _ us hl => by
      match us, hl with
      | [_], _ => rfl), Lw.kbn_of F (fun _ _ _ _ _ _ j us ws hj h1 h2 => by
      match j, us, ws, hj, h1, h2 with
      | 0, [], [_], _, _, _ => rfl
      | 1, [_], [], _, _, _ => rfl), ?_⟩
  have nd := sc_is_integer.nd
  refine Lw.fn_pure F sc_is_integer rfl (by decide) fun cdv A outer s H E hr => ?_
  have hr65 := Lw.room65 hr
  refine ⟨_, (pss_one (ps_ret (pe_and (pe_callB (call_isiQ K) (by rfl) (T.free "isinstance" 55) (by decide +kernel) (pa_cons (pv 0) (pa_cons (pe_gty "int" (T.free "int" 54) (by decide +kernel)) pa_nil))) (pe_one (pe_not (pe_callB (call_isiQ K) (by rfl) (T.free "isinstance" 55) (by decide +kernel) (pa_cons (pv 0) (pa_cons (pe_gty "bool" (T.free "bool" 51) (by decide +kernel)) pa_nil)))))))), ?_⟩
  rintro ds G hl ⟨x, rfl, hx, hG⟩
  intro ex
  have isi := dIsi_int (K := K) hx
  have isb := dIsi_bool (K := K) hx
  walk_at "go"
  refine isi _ ?_
  walk_at "x1"
  refine ⟨fun hb => ?_, fun hb => ?_⟩
  · walk_at "go"
    refine isb _ ?_
    walk_at "go"
    cases x <;> first | exact hG | cases hb
  · cases x <;> first | exact hG | cases hb
theorem sc_is_between : FnScope ["value", "least", "most"] ["value", "least", "most"] (defScope sis_between) := ⟨rfl, rfl, rfl, by decide +kernel, rfl, by decide +kernel, by decide +kernel⟩
theorem c_is_between (T : Tx P K mg base) : Lw.Cal P w K mg base "is_between" 2 ["value", "least", "most"] (pureSp K 3 Sbt) := by
  obtain ⟨fd, F⟩ := Lh.def_of T.d 1 (d := dsis_between)
  refine ⟨_, fd, T.glo "is_between" 1, F.kp, F.bindsN (fun _ _ _ _ _ _ us hl => by
      match us, hl with
      | [_, _, _], _ => rfl), Lw.kbn_of F (fun _ _ _ _ _ _ j us ws hj h1 h2 => by
      match j, us, ws, hj, h1, h2 with
      | 0, [], [_, _, _], _, _, _ => rfl
      | 1, [_], [_, _], _, _, _ => rfl
      | 2, [_, _], [_], _, _, _ => rfl
      | 3, [_, _, _], [], _, _, _ => rfl), ?_⟩
  have nd := sc_is_between.nd
  refine Lw.fn_pure F sc_is_between rfl (by decide) fun cdv A outer s H E hr => ?_
  have hr65 := Lw.room65 hr
  refine ⟨_, (pss_one (ps_ret (pe_and (pe_callF (c_is_integer (P := P) (w := w) (K := K) (mg := mg) (base := base) T) (hr.mono (by decide)) (pa_cons (pv 0) pa_nil)) (pe_one (pe_chain op_le op_le (pv 1) (pv 0) (pv 2)))))), ?_⟩
  rintro ds G hl ⟨i, l, m, rfl, hG⟩
  intro ex
  walk_at "go"
  refine ⟨.int i, rfl, rfl, ?_⟩
  walk_at "x1"
  refine ⟨fun hb => ?_, fun hb => nomatch hb⟩
  walk_at "go"
  refine ⟨fun h => ?_, fun h => ?_⟩
  · walk_at "go"
    rw [h, Bool.true_and] at hG
    exact hG
  · rw [h, Bool.false_and] at hG
    exact hG
theorem sc_is_spot : FnScope ["value", "part"] ["value"] (defScope sis_spot) := ⟨rfl, rfl, rfl, by decide +kernel, rfl, by decide +kernel, by decide +kernel⟩
theorem c_is_spot (T : Tx P K mg base) : Lw.Cal P w K mg base "is_spot" 3 ["value"] (pureSp K 1 Ssp) := by
  obtain ⟨fd, F⟩ := Lh.def_of T.d 5 (d := dsis_spot)
  refine ⟨_, fd, T.glo "is_spot" 5, F.kp, F.bindsN (fun _ _ _ _ _ _ us hl => by
      match us, hl with
      | [_], _ => rfl), Lw.kbn_of F (fun _ _ _ _ _ _ j us ws hj h1 h2 => by
      match j, us, ws, hj, h1, h2 with
      | 0, [], [_], _, _, _ => rfl
      | 1, [_], [], _, _, _ => rfl), ?_⟩
  have nd := sc_is_spot.nd
  refine Lw.fn_pure F sc_is_spot rfl (by decide) fun cdv A outer s H E hr => ?_
  have hr65 := Lw.room65 hr
  refine ⟨_, (pss_cons (ps_if (PW.pt (pw_or (pt_not (pt_val (pe_callB (call_isiQ K) (by rfl) (T.free "isinstance" 55) (by decide +kernel) (pa_cons (pv 0) (pa_cons (pe_gty "tuple" (T.free "tuple" 66) (by decide +kernel)) pa_nil))))) (pw_or1 (pt_cmpR (op_neK K hr.units) (pe_callB (call_lenK K) (by rfl) (T.free "len" 56) (by decide +kernel) (pa_cons (pv 0) pa_nil)) pe_int (nomark _))))) (pss_one (ps_ret pe_bl)) pss_nil)
      (pss_one (ps_ret (pe_callB (cr_allK K rfl) (by rfl) (T.free "all" 49) (by decide +kernel) (pa_cons (pe_lc (own := [("part", 1)]) (by rfl) nd (pi_anyK K (pv 0)) (blkOk_by (N := ["value", "part"]) (sc := defScope sis_spot) (by decide +kernel)) (fun _ _ _ _ _ => (pg_name (i := 1) nd rfl (.inl rfl))) (fun _ _ _ _ _ => pts_nil) (fun _ _ _ _ _ => (pe_callF (c_is_between (P := P) (w := w) (K := K) (mg := mg) (base := base) T) (hr.mono (by decide)) (pa_cons (pv 1) (pa_cons (pe_op op_sub pe_int (pe_gint (T.int "MOST_SPOT" 46))) (pa_cons (pe_gint (T.int "MOST_SPOT" 46)) pa_nil)))))) pa_nil))))), ?_⟩
  rintro ds G hl ⟨p, rfl, h1, h2, hG⟩
  intro ex
  walk_at "go"
  refine dIsi_tuple (x := spD p) rfl _ ?_
  walk_at "go"
  refine ⟨fun _ => ?_, fun h => nomatch h⟩
  walk_at "go"
  refine ⟨(fun h => absurd h (by simp)), fun _ => ?_⟩
  walk_at "go"
  walk_at "lc"
  refine wi_any ?_
  walk_at "go"
  refine lcI_map (ws := [p.1, p.2]) (enc := fun c => .int c) (res := fun c => .bl true) rfl (fun d hd => ?_) ?_
  · have hd' : d.natAbs ≤ 9999 := by
      simp only [List.mem_cons, List.not_mem_nil, or_false] at hd
      rcases hd with rfl | rfl
      · exact h1
      · exact h2
    walk_at "go"
    refine ⟨d, _, _, rfl, ?_⟩
    have e : (decide (0 - 9999 ≤ d) && decide (d ≤ 9999)) = true := by simp; omega
    rw [e]
    exact ⟨rfl, rfl⟩
  · refine q_bools (bs := [true, true]) rfl ?_
    exact hG
theorem sc_read_integer : FnScope ["word", "figures", "sign", "number"] ["word"] (defScope sread_integer) := ⟨rfl, rfl, rfl, by decide +kernel, rfl, by decide +kernel, by decide +kernel⟩
theorem c_read_integer (T : Tx P K mg base) : Lw.Cal P w K mg base "read_integer" 1 ["word"] (pureSp K 1 Sri) := by
  obtain ⟨fd, F⟩ := Lh.def_of T.d 3 (d := dsread_integer)
  refine ⟨_, fd, T.glo "read_integer" 3, F.kp, F.bindsN (fun _ _ _ _ _ _ us hl => by
      match us, hl with
      | [_], _ => rfl), Lw.kbn_of F (fun _ _ _ _ _ _ j us ws hj h1 h2 => by
      match j, us, ws, hj, h1, h2 with
      | 0, [], [_], _, _, _ => rfl
      | 1, [_], [], _, _, _ => rfl), ?_⟩
  have nd := sc_read_integer.nd
  refine Lw.fn_pure F sc_read_integer rfl (by decide) fun cdv A outer s H E hr => ?_
  have hr65 := Lw.room65 hr
  refine ⟨_, (pss_cons (ps_set (i := 1) nd rfl (Or.inl rfl) (pe_ifExp (pt_cmpR (op_eqK K hr.units) (pe_slice (sl_K K) (pv 0) po_none (po_some pe_int)) pe_str (nomark _)) (pe_slice (sl_K K) (pv 0) (po_some pe_int) po_none) (pv 0)))
      (pss_cons (ps_if (PW.pt (pw_or (pt_cmpR (op_eqK K hr.units) (pv 1) pe_str (nomark _)) (pw_or (pt_cmpR op_gt (pe_callB (call_lenK K) (by rfl) (T.free "len" 56) (by decide +kernel) (pa_cons (pv 1) pa_nil)) pe_int (nomark _)) (pw_or1 (pt_not (pt_val (pe_callB (cr_allK K rfl) (by rfl) (T.free "all" 49) (by decide +kernel) (pa_cons (pe_lc (own := [("sign", 2)]) (by rfl) nd (pi_anyK K (pv 1)) (blkOk_by (N := ["word", "figures", "sign", "number"]) (sc := defScope sread_integer) (by decide +kernel)) (fun _ _ _ _ _ => (pg_name (i := 2) nd rfl (.inl rfl))) (fun _ _ _ _ _ => pts_nil) (fun _ _ _ _ _ => (pe_cmpR (op_inK K w hr65) (pv 2) (pe_gstr (T.str "FIGURES" 42)) (by rfl)))) pa_nil)))))))) (pss_one (ps_ret pe_non)) pss_nil)
      (pss_cons (ps_set (i := 3) nd rfl (Or.inl rfl) (pe_callTy call_intA (by rfl) (T.free "int" 54) (by decide +kernel) (pa_cons (pv 0) pa_nil)))
      (pss_one (ps_ret (pe_ifExp (pt_cmpR (op_eqK K hr.units) (pe_callTy call_str_int (by rfl) (T.free "str" 63) (by decide +kernel) (pa_cons (pv 3) pa_nil)) (pv 0) (nomark _)) (pv 3) pe_non)))))), ?_⟩
  rintro ds G hl ⟨i, rfl, hi, hG⟩
  intro ex
  have h9 : i.natAbs < 10 ^ 4 := by omega
  have hn := numC_len (by decide : 0 < 4) h9
  have hs : (numS i).length ≤ sizeLine := by
    rw [len_tl, tl_numS]
    exact Nat.le_trans hn (by decide)
  have hlen : (numS i).length ≤ 5 := by rw [len_tl, tl_numS]; exact hn
  have h1 : 1 ≤ (numS i).length := by
    rw [len_tl, tl_numS]
    have := numC_ne i
    cases e : numC i with
    | nil => exact absurd e this
    | cons c r => rw [List.length_cons]; omega
  refine ws_seq ?_
  refine ws_asg ?_
  refine WE.mono (F := fun x ρ1 => ρ1 = rho ["word", "figures", "sign", "number"] [D.str (numS i)] ∧ ∃ z : Str, x = .str z ∧ TL.tl z = TL.numL i.natAbs) ?_ (fun x ρ1 hx => ?_)
  · walk_at "go"
    refine q_slS hs ?_
    walk_at "go"
    rw [cut_minus]
    refine ⟨fun h => ?_, fun h => ?_⟩
    · walk_at "go"
      refine q_slS hs ?_
      walk_at "go"
      rw [cut_tail h1, tl_numS]
      unfold numC
      rw [if_pos (of_decide_eq_true h)]
      rfl
    · walk_at "go"
      rw [tl_numS]
      unfold numC
      rw [if_neg (of_decide_eq_false h)]
  · obtain ⟨rfl, z, rfl, hz⟩ := hx
    have hzl : z.length ≤ 4 := by rw [len_tl, hz]; exact TL.numL_len (by decide) h9
    have hz1 : 1 ≤ z.length := by
      rw [len_tl, hz]
      cases e : TL.numL i.natAbs with
      | nil => exact absurd e (TL.numL_ne _)
      | cons c r => rw [List.length_cons]; omega
    have hzs : z.length ≤ sizeLine := Nat.le_trans hzl (by decide)
    walk_at "go"
    refine ⟨fun _ => ?_, fun h => ?_⟩
    · walk_at "go"
      refine q_lenS hzs ?_
      walk_at "go"
      refine ⟨fun _ => ?_, fun h => ?_⟩
      · walk_at "go"
        walk_at "lc"
        refine wi_any ?_
        walk_at "go"
        refine ⟨?_, lcI_map (ws := TL.tl z) (enc := fun c => .str ⟨#[c]⟩) (res := fun c => .bl true) rfl (fun d hd => ?_) ?_⟩
        · show (signsD z).length < sizeLine
          unfold signsD
          rw [List.length_map, ← len_tl]
          exact Nat.lt_of_le_of_lt hzl (by decide)
        · walk_at "go"
          refine .inr (.inr (.inl ⟨d, _, rfl, rfl, ?_⟩))
          have hd2 : d ∈ figC := by
            rw [hz] at hd
            have := TL.numL_digits _ d hd
            exact fig_of this.1 this.2
          exact ⟨congrArg D.bl (decide_eq_true hd2), rfl⟩
        · refine q_bools (bs := (TL.tl z).map fun _ => true) (by rw [List.map_map]; rfl) ?_
          have ea : (((TL.tl z).map fun _ => true).all id) = true := by
            rw [List.all_map]
            exact List.all_eq_true.mpr fun _ _ => rfl
          rw [ea]
          walk_at "x1"
          refine ⟨(fun h => absurd h (by decide)), fun _ => ?_⟩
          walk_at "go"
          refine ⟨i, int_numS (by omega), by omega, ?_⟩
          walk_at "go"
          refine q_str (log_small (k := 14) (by omega) (by decide) (by decide)) ?_
          walk_at "go"
          refine ⟨fun _ => ?_, fun h => (of_decide_eq_false h rfl).elim⟩
          walk_at "go"
          exact hG
      · exfalso
        simp at h
        omega
    · exfalso
      simp at h
      rw [h] at hz1
      exact absurd hz1 (by decide +kernel)
theorem sc_well_in : FnScope ["line", "words", "x", "y"] ["line"] (defScope swell_in) := ⟨rfl, rfl, rfl, by decide +kernel, rfl, by decide +kernel, by decide +kernel⟩
theorem c_well_in (T : Tx P K mg base) : Lw.Cal P w K mg base "well_in" 4 ["line"] (pureSp K 1 Swi) := by
  obtain ⟨fd, F⟩ := Lh.def_of T.d 4 (d := dswell_in)
  refine ⟨_, fd, T.glo "well_in" 4, F.kp, F.bindsN (fun _ _ _ _ _ _ us hl => by
      match us, hl with
      | [_], _ => rfl), Lw.kbn_of F (fun _ _ _ _ _ _ j us ws hj h1 h2 => by
      match j, us, ws, hj, h1, h2 with
      | 0, [], [_], _, _, _ => rfl
      | 1, [_], [], _, _, _ => rfl), ?_⟩
  have nd := sc_well_in.nd
  refine Lw.fn_pure F sc_well_in rfl (by decide) fun cdv A outer s H E hr => ?_
  have hr65 := Lw.room65 hr
  refine ⟨_, (pss_cons (ps_set (i := 1) nd rfl (Or.inl rfl) (pe_split (pv 0) pe_str))
      (pss_cons (ps_if (PW.pt (pw_or (pt_cmpR (op_neK K hr.units) (pe_callB (call_lenK K) (by rfl) (T.free "len" 56) (by decide +kernel) (pa_cons (pv 1) pa_nil)) pe_int (nomark _)) (pw_or (pt_cmpR (op_neK K hr.units) (pe_ix (ix_K K (hu_of hr)) (pv 1) pe_int (fun _ _ => rfl)) (pe_gstr (T.str "WELL" 44)) (nomark _)) (pw_or1 (pt_not (pt_val (pe_callF (c_is_name (P := P) (w := w) (K := K) (mg := mg) (base := base) T) (hr.mono (by decide)) (pa_cons (pe_ix (ix_K K (hu_of hr)) (pv 1) pe_int (fun _ _ => rfl)) pa_nil)))))))) (pss_one (ps_ret pe_non)) pss_nil)
      (pss_cons (ps_par (i := 2) (j := 3) (by rfl) nd rfl rfl (by decide) rfl rfl (pa_cons (pe_callF (c_read_integer (P := P) (w := w) (K := K) (mg := mg) (base := base) T) (hr.mono (by decide)) (pa_cons (pe_ix (ix_K K (hu_of hr)) (pv 1) pe_int (fun _ _ => rfl)) pa_nil)) (pa_cons (pe_callF (c_read_integer (P := P) (w := w) (K := K) (mg := mg) (base := base) T) (hr.mono (by decide)) (pa_cons (pe_ix (ix_K K (hu_of hr)) (pv 1) pe_int (fun _ _ => rfl)) pa_nil)) pa_nil)) (by rfl))
      (pss_one (ps_ret (pe_ifExp (pt_not (pt_val (pe_callF (c_is_spot (P := P) (w := w) (K := K) (mg := mg) (base := base) T) (hr.mono (by decide)) (pa_cons (pe_tup (pa_cons (pv 2) (pa_cons (pv 3) pa_nil))) pa_nil)))) pe_non (pe_tup (pa_cons (pe_ix (ix_K K (hu_of hr)) (pv 1) pe_int (fun _ _ => rfl)) (pa_cons (pv 2) (pa_cons (pv 3) pa_nil)))))))))), ?_⟩
  rintro ds G hl ⟨v, rfl, hv, hG⟩
  intro ex
  have hn := name_len hv.name
  walk_at "go"
  refine ⟨Nat.le_trans (Nat.add_le_add_right (line_len hv) 2) (by decide), ?_⟩
  rw [split_line hv.name]
  walk_at "go"
  refine ⟨fun _ => ?_, (fun h => absurd h (by simp))⟩
  walk_at "go"
  refine ⟨fun _ => ?_, (fun h => absurd h (by simp))⟩
  walk_at "go"
  refine ⟨v.1, rfl, hv.name, ?_⟩
  walk_at "x1"
  refine ⟨(fun h => absurd h (by decide)), fun _ => ?_⟩
  walk_at "go"
  refine ⟨v.2.1, rfl, hv.x, ?_⟩
  walk_at "go"
  refine ⟨v.2.2, rfl, hv.y, ?_⟩
  walk_at "go"
  refine ⟨v.2, rfl, hv.x, hv.y, ?_⟩
  walk_at "x1"
  refine ⟨(fun h => absurd h (by decide)), fun _ => ?_⟩
  walk_at "go"
  exact hG
theorem sc_Field___init__ : FnScope ["self", "text", "wells", "number", "line", "well", "name", "x", "y"] ["self", "text"] (defScope sField___init__) := ⟨rfl, rfl, rfl, by decide +kernel, rfl, by decide +kernel, by decide +kernel⟩
theorem m_Field (T : Tx P K mg base) : Lw.Mak P w K mg base "Field" (He.ga K "Field") 5 ["self", "text"] (initSp K (FC K) 1 Sin) := by
  obtain ⟨fd, F⟩ := Lh.def_of T.d 41 (d := dsField___init__)
  refine ⟨_, fd, T.glo "Field" 73, T.mkr "Field" 79, F.bindsN (fun _ _ _ _ _ _ us hl => by
      match us, hl with
      | [_, _], _ => rfl), ?_⟩
  have nd := sc_Field___init__.nd
  refine Lw.fn_init F sc_Field___init__ rfl (by decide) fun cdv A outer s H E hr => ?_
  have hr65 := Lw.room65 hr
  refine ⟨_, (pss_cons (ps_if (pt_not (pt_val (pe_callB (call_isiQ K) (by rfl) (T.free "isinstance" 55) (by decide +kernel) (pa_cons (pv 1) (pa_cons (pe_gty "str" (T.free "str" 63) (by decide +kernel)) pa_nil))))) (pss_one ps_never) pss_nil)
      (pss_cons (ps_set (i := 2) nd rfl (Or.inl rfl) (pe_lst pa_nil))
      (pss_cons (ps_for PassesOwn.never rfl (pi_enumA K (by rfl) (T.free "enumerate" 53) (pa_cons (pe_split (pv 1) pe_str) pa_nil)) (pg_seqK (n := 2) K rfl (pgs_cons (pg_name (i := 3) nd rfl (.inl rfl)) (pgs_cons (pg_name (i := 4) nd rfl (.inl rfl)) pgs_nil))) (pss_cons (ps_set (i := 5) nd rfl (Or.inl rfl) (pe_callF (c_well_in (P := P) (w := w) (K := K) (mg := mg) (base := base) T) (hr.mono (by decide)) (pa_cons (pv 4) pa_nil)))
      (pss_cons (ps_if (pt_not (pt_val (pe_callF (c_can_stand (P := P) (w := w) (K := K) (mg := mg) (base := base) T) (hr.mono (by decide)) (pa_cons (pv 2) (pa_cons (pv 5) pa_nil))))) (pss_one ps_never) pss_nil)
      (pss_one (ps_expr (pe_bm PySem.F.plainAttrs_list PySem.F.slot_list_append PySem.F.type_list_append mt_append (pv 2) (pa_cons (pv 5) pa_nil)))))))
      (pss_cons (ps_fld (pv 0) (pv 1) rfl)
      (pss_cons (ps_fld (pv 0) (pe_tupN K (by rfl) (T.free "tuple" 66) (pe_lc (own := [("name", 6), ("x", 7), ("y", 8)]) (by rfl) nd (pi_anyK K (pv 2)) (blkOk_by (N := ["self", "text", "wells", "number", "line", "well", "name", "x", "y"]) (sc := defScope sField___init__) (by decide +kernel)) (fun _ _ _ _ _ => (pg_seqK (n := 3) K rfl (pgs_cons (pg_name (i := 6) nd rfl (.inl rfl)) (pgs_cons (pg_name (i := 7) nd rfl (.inl rfl)) (pgs_cons (pg_name (i := 8) nd rfl (.inl rfl)) pgs_nil))))) (fun _ _ _ _ _ => pts_nil) (fun _ _ _ _ _ => (pv 6)))) rfl)
      (pss_one (ps_fld (pv 0) (pe_callTy (call_tupleK K) (by rfl) (T.free "tuple" 66) (by decide +kernel) (pa_cons (pe_lc (own := [("name", 6), ("x", 7), ("y", 8)]) (by rfl) nd (pi_anyK K (pv 2)) (blkOk_by (N := ["self", "text", "wells", "number", "line", "well", "name", "x", "y"]) (sc := defScope sField___init__) (by decide +kernel)) (fun _ _ _ _ _ => (pg_seqK (n := 3) K rfl (pgs_cons (pg_name (i := 6) nd rfl (.inl rfl)) (pgs_cons (pg_name (i := 7) nd rfl (.inl rfl)) (pgs_cons (pg_name (i := 8) nd rfl (.inl rfl)) pgs_nil))))) (fun _ _ _ _ _ => pts_nil) (fun _ _ _ _ _ => (pe_tup (pa_cons (pv 7) (pa_cons (pv 8) pa_nil))))) pa_nil)) rfl))))))), ?_⟩
  rintro dx ds G hl ⟨ws, rfl, hw, hG⟩
  intro ex
  walk_at "go"
  refine dIsi_str (x := .str _) rfl _ ?_
  walk_at "x1"
  refine ⟨(fun h => absurd h (by simp [tIs])), fun _ => ?_⟩
  walk_at "cx"
  refine ws_next (ws_seq (ws_own (wn_nil ?_)))
  refine ws_seq (ws_for (wi_enumA ?_))
  walk_at "go"
  refine ⟨Nat.le_trans (Nat.add_le_add_right (text_len hw.ok) 2) (Nat.le_trans (Nat.add_le_add_right (Nat.mul_le_mul_left 41 hw.len) 2) (by decide)), ?_⟩
  rw [split_text hw.ne (fun v hv => (hw.ok v hv).name), List.map_map]
  refine ⟨_, rfl, fun i ρ => ∃ s3 s4 s5, ρ = [SD.ins (FC K) dx [], .d (.str (textOf ws)), .ow ((ws.take i).map wellD), s3, s4, s5, .un, .un, .un], ⟨_, _, _, rfl⟩, fun i ρi x hx ⟨s3, s4, s5, hρ⟩ => ?_, fun ρ' ⟨s3, s4, s5, hρ⟩ => ?_⟩
  · obtain ⟨v, hv, rfl⟩ := enumD_map hx
    have hm : v ∈ ws := List.mem_of_getElem? hv
    obtain ⟨hi, -⟩ := List.getElem?_eq_some_iff.mp hv
    have tk : ws.take (i + 1) = ws.take i ++ [v] := by rw [List.take_succ, hv]; rfl
    have tl : (ws.take i).length = i := by rw [List.length_take]; omega
    have tk2 : (ws.take (i + 1)).map wellD = (ws.take i).map wellD ++ [wellD v] := by rw [tk, List.map_append]; rfl
    subst hρ
    walk_at "seq"
    walk_at "go"
    refine ⟨v, rfl, hw.ok v hm, ?_⟩
    refine wg_name ?_
    refine ws_seq (ws_if (wt_not (wt_B (we_callO (i := 2) rfl (.inl rfl) ?_))))
    refine wa_cons (we_var rfl (wa_nil ?_))
    refine ⟨_, _, rfl, .inl rfl, rfl, ws.take i, v, rfl, by rw [tl]; exact Nat.lt_of_lt_of_le hi hw.len, ?_, rfl, ?_⟩
    · exact fun u hu => ⟨nodup_take hw.names hv hu, nodup_take hw.spots hv hu⟩
    · walk_at "x1"
      refine ⟨(fun h => absurd h (by decide)), fun _ => ?_⟩
      refine ws_next (ws_drop (we_append (i := 2) rfl (we_var rfl ⟨_, rfl, ?_, ?_⟩)))
      · rw [List.length_map, tl]
        exact Nat.lt_of_lt_of_le hi (Nat.le_trans hw.len (by decide))
      · refine ⟨_, _, _, (congrArg (fun z => [SD.ins (FC K) dx [], .d (.str (textOf ws)), .ow z, _, _, _, .un, .un, .un]) tk2.symm)⟩
  · rw [enumD_len, List.length_map, List.take_length] at hρ
    subst hρ
    refine ws_seq (ws_fld (i := 0) rfl (T.cls "Field" 74) (T.noat "Field" "own_text" 76) ?_)
    refine we_var rfl ⟨_, rfl, (by show 0 < 1000; decide), rfl, ?_⟩
    refine ws_seq (ws_fld (i := 0) rfl (T.cls "Field" 74) (T.noat "Field" "own_names" 77) ?_)
    refine we_tupN ?_
    walk_at "lc"
    refine wi_any (we_still (i := 2) rfl ?_)
    refine ⟨_, rfl, ?_, lcI_map (ws := ws) (enc := wellD) (res := fun v => .str v.1) rfl (fun u hu => ?_) ?_⟩
    · rw [List.length_map]
      exact Nat.lt_of_le_of_lt hw.len (by decide)
    · walk_at "seq"
      walk_at "go"
      exact rfl
    · refine ⟨_, rfl, ?_⟩
      refine ⟨_, rfl, (by show 1 < 1000; decide), rfl, ?_⟩
      refine ws_fld (i := 0) rfl (T.cls "Field" 74) (T.noat "Field" "own_spots" 78) ?_
      refine we_tuple ?_
      walk_at "lc"
      refine wi_any (we_var rfl ?_)
      refine ⟨_, rfl, ?_, lcI_map (ws := ws) (enc := wellD) (res := fun v => spD v.2) rfl (fun u hu => ?_) ?_⟩
      · rw [List.length_map]
        exact Nat.lt_of_le_of_lt hw.len (by decide)
      · walk_at "seq"
        walk_at "go"
        exact rfl
      · refine ⟨_, rfl, ?_⟩
        refine ⟨_, rfl, (by show 2 < 1000; decide), rfl, ?_⟩
        exact ⟨_, rfl, hG⟩
theorem sc__law_bend : FnScope ["one", "other", "third"] ["one", "other", "third"] (defScope s_law_bend) := ⟨rfl, rfl, rfl, by decide +kernel, rfl, by decide +kernel, by decide +kernel⟩
theorem c__law_bend (T : Tx P K mg base) : Lw.Cal P w K mg base "_law_bend" 1 ["one", "other", "third"] (pureSp K 3 (S3 fun a b c => .int (bendI a b c))) := by
  obtain ⟨fd, F⟩ := Lh.def_of T.d 31 (d := ds_law_bend)
  refine ⟨_, fd, T.glo "_law_bend" 31, F.kp, F.bindsN (fun _ _ _ _ _ _ us hl => by
      match us, hl with
      | [_, _, _], _ => rfl), Lw.kbn_of F (fun _ _ _ _ _ _ j us ws hj h1 h2 => by
      match j, us, ws, hj, h1, h2 with
      | 0, [], [_, _, _], _, _, _ => rfl
      | 1, [_], [_, _], _, _, _ => rfl
      | 2, [_, _], [_], _, _, _ => rfl
      | 3, [_, _, _], [], _, _, _ => rfl), ?_⟩
  have nd := sc__law_bend.nd
  refine Lw.fn_pure F sc__law_bend rfl (by decide) fun cdv A outer s H E hr => ?_
  have hr65 := Lw.room65 hr
  refine ⟨_, (pss_one (ps_ret (pe_op op_sub (pe_op op_mulA (pe_op op_sub (pe_ix (ix_K K (hu_of hr)) (pv 1) pe_int (fun _ _ => rfl)) (pe_ix (ix_K K (hu_of hr)) (pv 0) pe_int (fun _ _ => rfl))) (pe_op op_sub (pe_ix (ix_K K (hu_of hr)) (pv 2) pe_int (fun _ _ => rfl)) (pe_ix (ix_K K (hu_of hr)) (pv 0) pe_int (fun _ _ => rfl)))) (pe_op op_mulA (pe_op op_sub (pe_ix (ix_K K (hu_of hr)) (pv 1) pe_int (fun _ _ => rfl)) (pe_ix (ix_K K (hu_of hr)) (pv 0) pe_int (fun _ _ => rfl))) (pe_op op_sub (pe_ix (ix_K K (hu_of hr)) (pv 2) pe_int (fun _ _ => rfl)) (pe_ix (ix_K K (hu_of hr)) (pv 0) pe_int (fun _ _ => rfl))))))), ?_⟩
  rintro ds G hl ⟨a, b, c, rfl, ⟨a1, a2⟩, ⟨b1, b2⟩, ⟨c1, c2⟩, hG⟩
  intro ex
  walk_at "go"
  exact hG
theorem sc__law_choose : FnScope ["many", "few", "total", "step"] ["many", "few"] (defScope s_law_choose) := ⟨rfl, rfl, rfl, by decide +kernel, rfl, by decide +kernel, by decide +kernel⟩
theorem c__law_choose (T : Tx P K mg base) : Lw.Cal P w K mg base "_law_choose" 1 ["many", "few"] (pureSp K 2 Sch) := by
  obtain ⟨fd, F⟩ := Lh.def_of T.d 36 (d := ds_law_choose)
  refine ⟨_, fd, T.glo "_law_choose" 36, F.kp, F.bindsN (fun _ _ _ _ _ _ us hl => by
      match us, hl with
      | [_, _], _ => rfl), Lw.kbn_of F (fun _ _ _ _ _ _ j us ws hj h1 h2 => by
      match j, us, ws, hj, h1, h2 with
      | 0, [], [_, _], _, _, _ => rfl
      | 1, [_], [_], _, _, _ => rfl
      | 2, [_, _], [], _, _, _ => rfl), ?_⟩
  have nd := sc__law_choose.nd
  refine Lw.fn_pure F sc__law_choose rfl (by decide) fun cdv A outer s H E hr => ?_
  have hr65 := Lw.room65 hr
  refine ⟨_, (pss_cons (ps_set (i := 2) nd rfl (Or.inl rfl) pe_int)
      (pss_cons (ps_for PassesOwn.never rfl (pi_range1 rfl (T.free "range" 61) (pa_cons (pv 1) pa_nil)) (pg_name (i := 3) nd rfl (.inl rfl)) (pss_one (ps_set (i := 2) nd rfl (Or.inl rfl) (pe_op op_fdivN (pe_op op_mulA (pv 2) (pe_op op_sub (pv 0) (pv 3))) (pe_op (op_addK K) (pv 3) pe_int)))))
      (pss_one (ps_ret (pe_ifExp (pt_cmpR op_ge (pv 0) (pv 1) (nomark _)) (pv 2) pe_int))))), ?_⟩
  rintro ds G hl ⟨m, f, rfl, hm, hf, hG⟩
  intro ex
  walk_at "cx"
  have key : ∀ m : Nat, m < 41 → ∀ s : Nat, s < 5 → (chT m s).natAbs ≤ 100000 ∧ ((m : Int) - s).natAbs ≤ 100 := by decide
  refine ws_seq (ws_asg ?_)
  walk_at "go"
  refine ws_seq (ws_for (wi_range1 ?_))
  walk_at "go"
  refine ⟨by omega, by omega, fun i ρ => ∃ s, ρ = [.d (.int m), .d (.int f), .d (.int (chT m i)), s], ⟨_, rfl⟩, fun i ρi x hx ⟨s, hρ⟩ => ?_, fun ρ' ⟨s, hρ⟩ => ?_⟩
  · obtain ⟨hi, rfl⟩ := rangeD_at hx
    subst hρ
    obtain ⟨k1, k2⟩ := key m (by omega) i (by omega)
    refine wg_name ?_
    refine ws_asg ?_
    walk_at "go"
    refine q_fdiv ⟨by omega, by omega⟩ ?_
    refine wg_name ?_
    exact ⟨_, rfl⟩
  · rw [rangeD_len, show (f : Int).toNat = f from rfl] at hρ
    subst hρ
    refine ws_next (ws_ret ?_)
    walk_at "ge"
    have v2 : ∀ m : Nat, m < 41 → (if decide (((2 : Nat) : Int) ≤ m) = true then chT m 2 else 0) = ((m * (m - 1) / 2 : Nat) : Int) := by decide
    have v4 : ∀ m : Nat, m < 41 → (if decide (((4 : Nat) : Int) ≤ m) = true then chT m 4 else 0) = ((m * (m - 1) * (m - 2) * (m - 3) / 24 : Nat) : Int) := by decide
    rcases hf with rfl | rfl
    · have w := v2 m (by omega)
      rw [if_pos rfl, ← w] at hG
      refine ⟨fun h => ?_, fun h => ?_⟩
      · rw [if_pos h] at hG
        walk_at "go"
        exact hG
      · rw [if_neg (by rw [h]; decide)] at hG
        walk_at "go"
        exact hG
    · have w := v4 m (by omega)
      rw [if_neg (by decide), ← w] at hG
      refine ⟨fun h => ?_, fun h => ?_⟩
      · rw [if_pos h] at hG
        walk_at "go"
        exact hG
      · rw [if_neg (by rw [h]; decide)] at hG
        walk_at "go"
        exact hG
theorem sc__law_pairs : FnScope ["some", "found", "at", "one", "other"] ["some"] (defScope s_law_pairs) := ⟨rfl, rfl, rfl, by decide +kernel, rfl, by decide +kernel, by decide +kernel⟩
theorem c__law_pairs (T : Tx P K mg base) : Lw.Cal P w K mg base "_law_pairs" 1 ["some"] (pureSp K 1 Slps) := by
  obtain ⟨fd, F⟩ := Lh.def_of T.d 32 (d := ds_law_pairs)
  refine ⟨_, fd, T.glo "_law_pairs" 32, F.kp, F.bindsN (fun _ _ _ _ _ _ us hl => by
      match us, hl with
      | [_], _ => rfl), Lw.kbn_of F (fun _ _ _ _ _ _ j us ws hj h1 h2 => by
      match j, us, ws, hj, h1, h2 with
      | 0, [], [_], _, _, _ => rfl
      | 1, [_], [], _, _, _ => rfl), ?_⟩
  have nd := sc__law_pairs.nd
  refine Lw.fn_pure F sc__law_pairs rfl (by decide) fun cdv A outer s H E hr => ?_
  have hr65 := Lw.room65 hr
  refine ⟨_, (pss_cons (ps_set (i := 1) nd rfl (Or.inl rfl) (pe_lst pa_nil))
      (pss_cons (ps_for PassesOwn.never rfl (pi_enumA K (by rfl) (T.free "enumerate" 53) (pa_cons (pv 0) pa_nil)) (pg_seqK (n := 2) K rfl (pgs_cons (pg_name (i := 2) nd rfl (.inl rfl)) (pgs_cons (pg_name (i := 3) nd rfl (.inr rfl)) pgs_nil))) (pss_one (ps_expr (pe_bm PySem.F.plainAttrs_list PySem.F.slot_list_extend PySem.F.type_list_extend mt_extend (pv 1) (pa_cons (pe_lc (own := [("other", 4)]) (by rfl) nd (pi_anyK K (pe_slice (sl_K K) (pv 0) (po_some (pe_op (op_addK K) (pv 2) pe_int)) po_none)) (blkOk_by (N := ["some", "found", "at", "one", "other"]) (sc := defScope s_law_pairs) (by decide +kernel)) (fun _ _ _ _ _ => (pg_name (i := 4) nd rfl (.inl rfl))) (fun _ _ _ _ _ => pts_nil) (fun _ _ _ _ _ => (pe_tup (pa_cons (pv 3) (pa_cons (pv 4) pa_nil))))) pa_nil)))))
      (pss_one (ps_ret (pv 1))))), ?_⟩
  rintro ds G hl ⟨ns, rfl, h4, hG⟩
  intro ex
  have big : ∀ n : Nat, n ≤ 810000 → n ≤ sizeLine := fun n h => Nat.le_trans h (by decide)
  walk_at "cx"
  refine ws_seq (ws_own (wn_nil ?_))
  refine ws_seq (ws_for (wi_enumA (we_var rfl ?_)))
  refine ⟨_, rfl, fun i ρ => ∃ s2 s3, ρ = [.d (.lst ns), .ow ((pairsTo ns i).map fun p => .tup [p.1, p.2]), s2, s3, .un], ⟨_, _, rfl⟩, fun i ρi x hx ⟨s2, s3, hρ⟩ => ?_, fun ρ' ⟨s2, s3, hρ⟩ => ?_⟩
  · rw [← List.map_id ns] at hx
    obtain ⟨v, hv, rfl⟩ := enumD_map hx
    have hi := (List.getElem?_eq_some_iff.mp hv).1
    subst hρ
    walk_at "seq"
    walk_at "go"
    refine we_extend (i := 1) rfl ?_
    walk_at "lc"
    refine wi_any ?_
    walk_at "ge"
    rw [show ((i : Int) + 1) = ((i + 1 : Nat) : Int) from rfl, cut_drop]
    refine ⟨Nat.lt_of_le_of_lt (by rw [List.length_drop]; exact Nat.le_trans (Nat.sub_le _ _) h4 : _ ≤ 900) (by decide), lcI_map (ws := ns.drop (i + 1)) (enc := fun n => n) (res := fun n => .tup [v, n]) (by rw [List.map_id']) (fun u hu => ?_) ?_⟩
    · walk_at "go"
      exact rfl
    · refine ⟨_, _, rfl, rfl, ?_, ?_⟩
      · rw [List.length_map, List.length_map, List.length_drop]
        have := pairsTo_len ns i
        have h5 : i * ns.length ≤ 899 * 900 := Nat.mul_le_mul (by omega) h4
        exact big _ (by omega)
      · exact ⟨_, _, congrArg (fun z => [SD.d (.lst ns), .ow z, _, _, .un]) (by rw [pairsTo_succ hv, List.map_append, List.map_map]; rfl)⟩
  · rw [enumD_len, pairsTo_all] at hρ
    subst hρ
    refine ws_ret (we_still (i := 1) rfl ?_)
    exact hG
theorem sc__law_are_sides_right : FnScope ["wells", "told", "spots", "many", "name", "x", "y", "due", "one", "other", "left", "spot", "few"] ["wells", "told"] (defScope s_law_are_sides_right) := ⟨rfl, rfl, rfl, by decide +kernel, rfl, by decide +kernel, by decide +kernel⟩
theorem c__law_are_sides_right (T : Tx P K mg base) : Lw.CalG P w K mg base "_law_are_sides_right" 2 ["wells", "told"] (pureSp K 2 Ssr) := by
  obtain ⟨fd, F⟩ := Lh.def_of T.d 37 (d := ds_law_are_sides_right)
  refine ⟨_, fd, T.glo "_law_are_sides_right" 37, F.kp, F.bindsN (fun _ _ _ _ _ _ us hl => by
      match us, hl with
      | [_, _], _ => rfl), ?_⟩
  have nd := sc__law_are_sides_right.nd
  refine Lw.fn_pureG F sc__law_are_sides_right rfl (by decide) fun A outer s H E hg hr => ?_
  have hr65 := Lw.room65 hr
  refine ⟨_, (pss_cons (ps_par (i := 2) (j := 3) (by rfl) nd rfl rfl (by decide) rfl rfl (pa_cons (pe_lc (own := [("name", 4), ("x", 5), ("y", 6)]) (by rfl) nd (pi_anyK K (pv 0)) (blkOk_by (N := ["wells", "told", "spots", "many", "name", "x", "y", "due", "one", "other", "left", "spot", "few"]) (sc := defScope s_law_are_sides_right) (by decide +kernel)) (fun _ _ _ _ _ => (pg_seqK (n := 3) K rfl (pgs_cons (pg_name (i := 4) nd rfl (.inl rfl)) (pgs_cons (pg_name (i := 5) nd rfl (.inl rfl)) (pgs_cons (pg_name (i := 6) nd rfl (.inl rfl)) pgs_nil))))) (fun _ _ _ _ _ => pts_nil) (fun _ _ _ _ _ => (pe_tup (pa_cons (pv 5) (pa_cons (pv 6) pa_nil))))) (pa_cons (pe_callB (call_lenK K) (by rfl) (T.free "len" 56) (by decide +kernel) (pa_cons (pv 0) pa_nil)) pa_nil)) (by rfl))
      (pss_cons (ps_set (i := 7) nd rfl (Or.inl rfl) (pe_op op_rep (pe_lst (pa_cons pe_int pa_nil)) (pe_op (op_addK K) (pe_op op_fdivN (pe_callB (call_max2 rfl) (by rfl) (T.free "max" 58) (by decide +kernel) (pa_cons pe_int (pa_cons (pe_op op_sub (pv 3) pe_int) pa_nil))) pe_int) pe_int)))
      (pss_cons (ps_for PassesOwn.never rfl (pi_anyK K (pe_callF (c__law_pairs (P := P) (w := w) (K := K) (mg := mg) (base := base) T) (hr.mono (by decide)) (pa_cons (pv 2) pa_nil))) (pg_seqK (n := 2) K rfl (pgs_cons (pg_name (i := 8) nd rfl (.inr rfl)) (pgs_cons (pg_name (i := 9) nd rfl (.inr rfl)) pgs_nil))) (pss_cons (ps_set (i := 10) nd rfl (Or.inl rfl) (pe_callB (call_lenK K) (by rfl) (T.free "len" 56) (by decide +kernel) (pa_cons (pe_lc (own := [("spot", 11)]) (by rfl) nd (pi_anyK K (pv 2)) (blkOk_by (N := ["wells", "told", "spots", "many", "name", "x", "y", "due", "one", "other", "left", "spot", "few"]) (sc := defScope s_law_are_sides_right) (by decide +kernel)) (fun _ _ _ _ _ => (pg_name (i := 11) nd rfl (.inl rfl))) (fun _ _ _ _ _ => (pts_one (pt_cmpR op_gt (pe_callF (c__law_bend (P := P) (w := w) (K := K) (mg := mg) (base := base) T) (hr.mono (by decide)) (pa_cons (pv 8) (pa_cons (pv 9) (pa_cons (pv 11) pa_nil)))) pe_int (nomark _)))) (fun _ _ _ _ _ => (pv 11))) pa_nil)))
      (pss_one (ps_asg (pe_op (op_addK K) (pe_ix (ix_K K (hu_of hr)) (pv 7) (pe_callB (call_min2 rfl) (by rfl) (T.free "min" 59) (by decide +kernel) (pa_cons (pv 10) (pa_cons (pe_op op_sub (pe_op op_sub (pv 3) pe_int) (pv 10)) pa_nil))) (fun _ _ => rfl)) pe_int) (pg_sub (pv 7) (pe_callB (call_min2 rfl) (by rfl) (T.free "min" 59) (by decide +kernel) (pa_cons (pv 10) (pa_cons (pe_op op_sub (pe_op op_sub (pv 3) pe_int) (pv 10)) pa_nil))) set_list)))))
      (pss_cons (ps_if (pt_cmpR (op_neK K hr.units) (pe_callB (call_reprG (K := K) hg (Lw.room70 hr)) (by rfl) (T.free "repr" 62) (by decide +kernel) (pa_cons (pv 1) pa_nil)) (pe_callB (call_reprG (K := K) hg (Lw.room70 hr)) (by rfl) (T.free "repr" 62) (by decide +kernel) (pa_cons (pe_callTy (call_tupleK K) (by rfl) (T.free "tuple" 66) (by decide +kernel) (pa_cons (pv 7) pa_nil)) pa_nil)) (nomark _)) (pss_one (ps_ret pe_bl)) pss_nil)
      (pss_cons (ps_for PassesOwn.never rfl (pi_range1 rfl (T.free "range" 61) (pa_cons (pe_callB (call_lenK K) (by rfl) (T.free "len" 56) (by decide +kernel) (pa_cons (pv 7) pa_nil)) pa_nil)) (pg_name (i := 12) nd rfl (.inl rfl)) (pss_one (ps_if (PW.pt (pw_and (pt_cmpR op_lt (pe_op op_mulA pe_int (pe_op (op_addK K) (pv 12) pe_int)) (pv 3) (nomark _)) (pw_and1 (pt_cmpR op_lt (pe_callB (cr_sumK (K := K) rfl) (by rfl) (T.free "sum" 64) (by decide +kernel) (pa_cons (pe_slice (sl_K K) (pv 7) po_none (po_some (pe_op (op_addK K) (pv 12) pe_int))) pa_nil)) (pe_op op_mulA pe_int (pe_callF (c__law_choose (P := P) (w := w) (K := K) (mg := mg) (base := base) T) (hr.mono (by decide)) (pa_cons (pe_op (op_addK K) (pv 12) pe_int) (pa_cons pe_int pa_nil)))) (nomark _))))) (pss_one (ps_ret pe_bl)) pss_nil)))
      (pss_one (ps_ret pe_bl))))))), ?_⟩
  rintro ds G hl ⟨ws, x, rfl, hx, hw, h2, hlr, hfew, hG⟩
  intro ex
  have big : ∀ n : Nat, n ≤ 70000 → n < sizeLine := fun n h => Nat.lt_of_le_of_lt h (by decide)
  have pl := pairsL_len ws
  have hl40 := hw.len
  have pl2 : ws.length * ws.length ≤ 40 * 40 := Nat.mul_le_mul hw.len hw.len
  refine ws_seq (ws_par (wa_cons ?_))
  walk_at "lc"
  refine wi_any (we_var rfl ⟨_, seq_things hx, wells_len hw.len, lcI_map (ws := ws) (enc := wellD) (res := fun v => spD v.2) rfl (fun v hv => ?_) ?_⟩)
  · walk_at "seq"
    walk_at "ge"
    exact rfl
  walk_at "ge"
  refine q_lenQ hx ?_
  walk_at "ge"
  rw [List.length_map]
  have en : (if (ws.length : Int) - 2 > 0 then (ws.length : Int) - 2 else 0).fdiv 2 + 1 = (((ws.length - 2) / 2 + 1 : Nat) : Int) := by
    have f : ∀ n : Nat, n < 41 → (if (n : Int) - 2 > 0 then (n : Int) - 2 else 0).fdiv 2 + 1 = (((n - 2) / 2 + 1 : Nat) : Int) := by decide
    exact f _ (by omega)
  refine ws_seq (ws_own (wn_rep ?_))
  walk_at "ge"
  refine q_fdiv ⟨by decide, by decide⟩ ?_
  walk_at "ge"
  rw [en]
  refine ⟨_, rfl, by omega, ?_⟩
  refine ws_eq (show _ = [.d x, .d (natsT (sidesL ws)), .d (.lst (ws.map fun v => spD v.2)), .d (.int ws.length), .un, .un, .un, .ow ((sidesN ws.length []).map fun (k : Nat) => D.int (k : Int)), .un, .un, .un, .un, .un] from by rw [sidesN_nil, List.map_replicate]; rfl) ?_
  refine ws_seq (ws_for (wi_any ?_))
  walk_at "ge"
  refine ⟨ws.map fun v => spD v.2, rfl, by rw [List.length_map]; omega, ?_⟩
  rw [pairsL_map, List.map_map]
  refine ⟨_, rfl, fun i ρ => ∃ s8 s9 s10, ρ = [.d x, .d (natsT (sidesL ws)), .d (.lst (ws.map fun v => spD v.2)), .d (.int ws.length), .un, .un, .un, .ow ((sidesN ws.length ((minsL ws).take i)).map fun (k : Nat) => D.int (k : Int)), s8, s9, s10, .un, .un], ⟨_, _, _, rfl⟩, fun i ρi y hy ⟨s8, s9, s10, hρ⟩ => ?_, fun ρ' ⟨s8, s9, s10, hρ⟩ => ?_⟩
  · rw [List.getElem?_map] at hy
    cases hv : (pairsL ws)[i]? with
    | none => rw [hv] at hy; cases hy
    | some p =>
      rw [hv] at hy
      cases hy
      subst hρ
      have hp := List.mem_of_getElem? hv
      obtain ⟨p1, p2⟩ := pairsL_in hp
      have hh := hlr p hp
      have hm : (minsL ws)[i]? = some (minN ws p) := by unfold minsL; rw [List.getElem?_map, hv]; rfl
      have tk : (minsL ws).take (i + 1) = (minsL ws).take i ++ [minN ws p] := by rw [List.take_succ, hm]; rfl
      have lt : minN ws p < (ws.length - 2) / 2 + 1 := by unfold minN; omega
      walk_at "seq"
      walk_at "go"
      walk_at "lc"
      refine wi_any ?_
      walk_at "ge"
      refine ⟨wells_len hw.len, lcI_typed (ws := ws) (enc := fun v => spD v.2) (res := fun v => spD v.2) (p := fun v => decide (0 < bendI p.1.2 p.2.2 v.2)) rfl (fun v hv2 => ?_) ?_⟩
      · walk_at "ge"
        refine ⟨p.1.2, p.2.2, v.2, rfl, hw.spot p1, hw.spot p2, hw.spot hv2, ?_⟩
        walk_at "ge"
        refine ⟨fun _ => ?_, fun _ => rfl⟩
        walk_at "ge"
        exact rfl
      · walk_at "ge"
        rw [List.length_map]
        refine ws_eq (show _ = [.d x, .d (natsT (sidesL ws)), .d (.lst (ws.map fun v => spD v.2)), .d (.int ws.length), .un, .un, .un, .ow ((sidesN ws.length ((minsL ws).take i)).map fun (k : Nat) => D.int (k : Int)), .d (spD p.1.2), .d (spD p.2.2), .d (.int (leftN ws p.1.2 p.2.2 : Nat)), .un, .un] from rfl) ?_
        have em : (if (ws.length : Int) - 2 - (leftN ws p.1.2 p.2.2 : Int) < (leftN ws p.1.2 p.2.2 : Int) then (ws.length : Int) - 2 - (leftN ws p.1.2 p.2.2 : Int) else (leftN ws p.1.2 p.2.2 : Int)) = (minN ws p : Nat) := by unfold minN; split <;> omega
        have gm := sidesN_get (n := ws.length) (ks := (minsL ws).take i) lt
        have ga : atI ((sidesN ws.length ((minsL ws).take i)).map fun (k : Nat) => D.int (k : Int)) (minN ws p : Nat) = some (.int (((minsL ws).take i).count (minN ws p) : Nat)) := atI_at (by rw [List.getElem?_map, gm]; rfl)
        refine wg_setW (i := 7) rfl (.inl rfl) (we_add (we_ixO (i := 7) rfl (.inl rfl) ?_))
        walk_at "ge"
        rw [em]
        refine ⟨_, _, _, _, rfl, .inl rfl, rfl, ga, rfl, ?_⟩
        walk_at "ge"
        rw [em]
        refine ⟨_, _, minN ws p, rfl, rfl, ?_, ?_⟩
        · rw [List.length_map, sidesN_len]
          unfold ixN
          rw [if_pos (Int.natCast_nonneg _), if_pos (by omega), Int.toNat_natCast]
        · have st := congrArg (List.map fun (k : Nat) => D.int (k : Int)) (sidesN_step (n := ws.length) (ks := (minsL ws).take i) lt)
          rw [← tk, List.map_set] at st
          exact ⟨_, _, _, congrArg (fun (z : List D) => [SD.d x, .d (natsT (sidesL ws)), .d (.lst (ws.map fun (v : Well) => spD v.2)), .d (.int ws.length), .un, .un, .un, .ow z, .d (spD p.1.2), .d (spD p.2.2), .d (.int (leftN ws p.1.2 p.2.2 : Nat)), .un, .un]) st⟩
  · rw [List.length_map, ← show (minsL ws).length = (pairsL ws).length from List.length_map _, List.take_length] at hρ
    have ls : sidesN ws.length (minsL ws) = sidesL ws := rfl
    rw [ls] at hρ
    have lm : (minsL ws).length ≤ 1600 := by unfold minsL; rw [List.length_map]; omega
    have sl : (sidesL ws).length = (ws.length - 2) / 2 + 1 := sidesN_len _ _
    have small : ∀ k ∈ sidesL ws, k < 5000 := fun k hk => by have := sidesN_small hk; omega
    subst hρ
    refine ws_seq (ws_if (wt_test ?_))
    walk_at "ge"
    refine repr_nats (by omega) small ?_
    generalize hS1 : (natsT (sidesL ws)).pr.shown = S1
    refine we_reprG (we_tuple (we_still (i := 7) rfl ?_))
    refine ⟨_, rfl, repr_nats (by omega) small ?_⟩
    rw [hS1]
    refine q_eqS ?_
    rw [decide_eq_true rfl]
    walk_at "x1"
    refine ⟨(fun h => nomatch h), fun _ => ws_next ?_⟩
    refine ws_seq (ws_for (wi_range1 ?_))
    walk_at "ge"
    rw [List.length_map, sl]
    refine ⟨by omega, by omega, fun i ρ => ∃ s8 s9 s10 s12, ρ = [.d x, .d (natsT (sidesL ws)), .d (.lst (ws.map fun v => spD v.2)), .d (.int ws.length), .un, .un, .un, .d (natsD (sidesL ws)), s8, s9, s10, .un, s12], ⟨_, _, _, _, rfl⟩, fun i ρi y hy ⟨s8, s9, s10, s12, hρ⟩ => ?_, fun ρ' ⟨s8, s9, s10, s12, hρ⟩ => ?_⟩
    · obtain ⟨hi, rfl⟩ := rangeD_at hy
      subst hρ
      refine wg_name ?_
      refine ws_if (wt_and (wt_test ?_))
      walk_at "ge"
      refine ⟨fun h5 => ?_, fun h5 => ?_⟩
      · have h6 := of_decide_eq_true h5
        have hf := hfew i (by omega)
        walk_at "ge"
        refine we_sum ?_
        walk_at "ge"
        rw [show ((i : Int) + 1) = ((i + 1 : Nat) : Int) from rfl, cut_take, ← List.map_take]
        refine ⟨((sidesL ws).take (i + 1)).map fun (k : Nat) => (k : Int), by rw [List.map_map]; rfl, ?_⟩
        walk_at "ge"
        refine ⟨i + 2, 2, rfl, by omega, .inl rfl, ?_⟩
        rw [if_pos rfl]
        have hb : (i + 2) * (i + 2 - 1) ≤ 100 * 100 := Nat.mul_le_mul (by omega) (by omega)
        walk_at "ge"
        rw [sum_cast]
        refine ⟨fun h => ?_, fun _ => ws_next ⟨_, _, _, _, rfl⟩⟩
        have h7 := of_decide_eq_true h
        have h8 : 3 * ((i + 2) * (i + 2 - 1) / 2) ≤ ((sidesL ws).take (i + 1)).sum := hf
        exact absurd h7 (by omega)
      · refine ⟨(fun z => by cases z), fun _ => ws_next ⟨_, _, _, _, rfl⟩⟩
    · subst hρ
      refine ws_ret ?_
      walk_at "ge"
      exact hG
theorem sc__law_take : FnScope ["pot", "upto", "digit", "prime", "blend"] ["pot", "upto"] (defScope s_law_take) := ⟨rfl, rfl, rfl, by decide +kernel, rfl, by decide +kernel, by decide +kernel⟩
theorem c__law_take (T : Tx P K mg base) : Lw.Cal P w K mg base "_law_take" 1 ["pot", "upto"] (potSp K 1 1 Stk) := by
  obtain ⟨fd, F⟩ := Lh.def_of T.d 22 (d := ds_law_take)
  refine ⟨_, fd, T.glo "_law_take" 22, F.kp, F.bindsN (fun _ _ _ _ _ _ us hl => by
      match us, hl with
      | [_, _], _ => rfl), Lw.kbn_of F (fun _ _ _ _ _ _ j us ws hj h1 h2 => by
      match j, us, ws, hj, h1, h2 with
      | 0, [], [_, _], _, _, _ => rfl
      | 1, [_], [_], _, _, _ => rfl
      | 2, [_, _], [], _, _, _ => rfl), ?_⟩
  have nd := sc__law_take.nd
  refine Lw.fn_potO F sc__law_take rfl (by decide) fun cdv A outer s H E hr => ?_
  have hr65 := Lw.room65 hr
  refine ⟨_, (pss_cons (ps_if (pt_cmpR op_gt (pe_ix (ix_K K (hu_of hr)) (pv 0) pe_int (fun _ _ => rfl)) pe_int (nomark _)) (pss_cons (ps_set (i := 2) nd rfl (Or.inl rfl) (pe_op op_modN (pe_callTy call_intA (by rfl) (T.free "int" 54) (by decide +kernel) (pa_cons (pe_ix (ix_K K (hu_of hr)) (pv 0) pe_int (fun _ _ => rfl)) pa_nil)) (pv 1)))
      (pss_cons (ps_asg (pe_op op_fdivN (pe_ix (ix_K K (hu_of hr)) (pv 0) pe_int (fun _ _ => rfl)) (pv 1)) (pg_sub (pv 0) pe_int set_list))
      (pss_one (ps_ret (pv 2))))) pss_nil)
      (pss_cons (ps_asg (pe_op (op_addK K) (pe_ix (ix_K K (hu_of hr)) (pv 0) pe_int (fun _ _ => rfl)) pe_int) (pg_sub (pv 0) pe_int set_list))
      (pss_cons (ps_set (i := 3) nd rfl (Or.inl rfl) (pe_ix (ix_K K (hu_of hr)) (pe_lst (pa_cons pe_int (pa_cons pe_int (pa_cons pe_int (pa_cons pe_int (pa_cons pe_int pa_nil)))))) (pe_op op_modN (pe_callTy call_intA (by rfl) (T.free "int" 54) (by decide +kernel) (pa_cons (pe_ix (ix_K K (hu_of hr)) (pv 0) pe_int (fun _ _ => rfl)) pa_nil)) pe_int) (fun _ _ => rfl)))
      (pss_cons (ps_set (i := 4) nd rfl (Or.inl rfl) (pe_op op_modN (pe_callTy call_intA (by rfl) (T.free "int" 54) (by decide +kernel) (pa_cons (pe_op op_powA (pe_callTy call_intA (by rfl) (T.free "int" 54) (by decide +kernel) (pa_cons (pe_op (op_addK K) (pe_op (op_addK K) (pe_ix (ix_K K (hu_of hr)) (pv 0) pe_int (fun _ _ => rfl)) (pe_op op_mulA (pe_op op_mulA pe_int (pe_ix (ix_K K (hu_of hr)) (pv 0) pe_int (fun _ _ => rfl))) (pe_ix (ix_K K (hu_of hr)) (pv 0) pe_int (fun _ _ => rfl)))) pe_int) pa_nil)) pe_int) pa_nil)) (pv 3)))
      (pss_cons (ps_set (i := 4) nd rfl (Or.inl rfl) (pe_op op_modN (pe_callTy call_intA (by rfl) (T.free "int" 54) (by decide +kernel) (pa_cons (pe_op op_mulA (pv 4) (pe_op (op_addK K) (pe_op op_modN (pe_callTy call_intA (by rfl) (T.free "int" 54) (by decide +kernel) (pa_cons (pv 4) pa_nil)) pe_int) (pe_op op_mulA pe_int (pe_ix (ix_K K (hu_of hr)) (pv 0) pe_int (fun _ _ => rfl))))) pa_nil)) pe_int))
      (pss_one (ps_ret (pe_op op_modN (pe_callTy call_intA (by rfl) (T.free "int" 54) (by decide +kernel) (pa_cons (pe_op op_fdivN (pv 4) pe_int) pa_nil)) (pv 1))))))))), ?_⟩
  rintro m x y z ds G hm hx hy hy2 hz hz2 hl ⟨u, rfl, hu, hu2, hG⟩
  intro ex
  have lim : z ≤ 999999999 := by
    have h1 : m + 1 ≤ 1000000000 := hm
    omega
  refine ws_seq (ws_if (wt_test ?_))
  walk_at "ge"
  refine ⟨fun h => ?_, fun h => ?_⟩
  · refine ws_seq (ws_asg ?_)
    walk_at "ge"
    refine q_mod (by omega) ?_
    walk_at "ge"
    refine ws_seq (wg_setO (x := D.non) rfl (.inr rfl) _ rfl ?_)
    walk_at "ge"
    refine q_fdiv ⟨by omega, by omega⟩ ?_
    walk_at "ge"
    refine ⟨_, _, _, rfl, rfl, rfl, ?_⟩
    refine ws_ret ?_
    walk_at "ge"
    exact ⟨hG _ (Int.fmod_nonneg_of_pos _ hu) (Int.fmod_lt_of_pos _ hu), _, _, _, rfl, fdiv_nn hx hu, hy, hy2, hz, by omega⟩
  · refine ws_next (ws_seq (wg_setO (x := D.non) rfl (.inr rfl) _ rfl ?_))
    walk_at "ge"
    refine ⟨_, _, _, rfl, rfl, rfl, ?_⟩
    refine ws_seq (ws_asg ?_)
    walk_at "ge"
    refine q_mod (by decide) ?_
    obtain ⟨p, hp1, hp2, hp3⟩ := prime5 (k := (z + 1).fmod 5) (Int.fmod_nonneg_of_pos _ (by decide)) (Int.fmod_lt_of_pos _ (by decide))
    refine q_ixL hp1 ?_
    refine wg_name ?_
    have e1 : (z + 1) * (z + 1) ≤ 10 ^ 9 * 10 ^ 9 := Int.mul_le_mul (by omega) (by omega) (by omega) (by decide)
    have e0 : 0 ≤ (z + 1) * (z + 1) := Int.mul_nonneg (by omega) (by omega)
    have e2 : 112877 * (z + 1) * (z + 1) = 112877 * ((z + 1) * (z + 1)) := Int.mul_assoc _ _ _
    refine ws_seq (ws_asg ?_)
    walk_at "ge"
    refine q_pow (cpow 80 (by decide) (by rw [e2]; omega) (by decide)) ?_
    walk_at "ge"
    refine q_mod (by omega) ?_
    walk_at "ge"
    generalize hA : (y + 112877 * (z + 1) * (z + 1) + 4229) ^ (3 : Int).toNat = A
    have g1 := Int.fmod_nonneg_of_pos A hp2
    have g2 := Int.fmod_lt_of_pos A hp2
    refine ws_seq (ws_asg ?_)
    walk_at "ge"
    refine q_mod (by decide) ?_
    have g3 := Int.fmod_nonneg_of_pos (A.fmod p) (b := 23351) (by decide)
    have g4 := Int.fmod_lt_of_pos (A.fmod p) (b := 23351) (by decide)
    walk_at "ge"
    refine q_mod (by decide) ?_
    walk_at "ge"
    refine ws_ret ?_
    walk_at "ge"
    refine q_fdiv ⟨by decide, by decide⟩ ?_
    walk_at "ge"
    refine q_mod (by omega) ?_
    exact ⟨hG _ (Int.fmod_nonneg_of_pos _ hu) (Int.fmod_lt_of_pos _ hu), _, _, _, rfl, hx, hy, hy2, by omega, by omega⟩
theorem sc__law_text : FnScope ["wells", "name", "x", "y"] ["wells"] (defScope s_law_text) := ⟨rfl, rfl, rfl, by decide +kernel, rfl, by decide +kernel, by decide +kernel⟩
theorem c__law_text (T : Tx P K mg base) : Lw.Cal P w K mg base "_law_text" 1 ["wells"] (pureSp K 1 Stx2) := by
  obtain ⟨fd, F⟩ := Lh.def_of T.d 30 (d := ds_law_text)
  refine ⟨_, fd, T.glo "_law_text" 30, F.kp, F.bindsN (fun _ _ _ _ _ _ us hl => by
      match us, hl with
      | [_], _ => rfl), Lw.kbn_of F (fun _ _ _ _ _ _ j us ws hj h1 h2 => by
      match j, us, ws, hj, h1, h2 with
      | 0, [], [_], _, _, _ => rfl
      | 1, [_], [], _, _, _ => rfl), ?_⟩
  have nd := sc__law_text.nd
  refine Lw.fn_pure F sc__law_text rfl (by decide) fun cdv A outer s H E hr => ?_
  have hr65 := Lw.room65 hr
  refine ⟨_, (pss_one (ps_ret (pe_joinK K pe_str (pe_lc (own := [("name", 1), ("x", 2), ("y", 3)]) (by rfl) nd (pi_anyK K (pv 0)) (blkOk_by (N := ["wells", "name", "x", "y"]) (sc := defScope s_law_text) (by decide +kernel)) (fun _ _ _ _ _ => (pg_seqK (n := 3) K rfl (pgs_cons (pg_name (i := 1) nd rfl (.inl rfl)) (pgs_cons (pg_name (i := 2) nd rfl (.inl rfl)) (pgs_cons (pg_name (i := 3) nd rfl (.inl rfl)) pgs_nil))))) (fun _ _ _ _ _ => pts_nil) (fun _ _ _ _ _ => (pe_op (op_addK K) (pe_op (op_addK K) (pe_op (op_addK K) (pe_op (op_addK K) (pe_op (op_addK K) pe_str (pv 1)) pe_str) (pe_callTy call_str_int (by rfl) (T.free "str" 63) (by decide +kernel) (pa_cons (pv 2) pa_nil))) pe_str) (pe_callTy call_str_int (by rfl) (T.free "str" 63) (by decide +kernel) (pa_cons (pv 3) pa_nil)))))))), ?_⟩
  rintro ds G hl ⟨ws, x, rfl, hs, hw, hG⟩
  intro ex
  walk_at "go"
  walk_at "lc"
  refine wi_any (we_var rfl ?_)
  refine ⟨ws.map wellD, (by rcases hs with rfl | rfl <;> rfl), wells_len hw.len, lcI_map (ws := ws) (enc := wellD) (res := fun v => .str (lineOf v)) rfl (fun u hu => ?_) ?_⟩
  · have ho := hw.ok u hu
    have hx := ho.x
    have hy := ho.y
    have h2 := (name_len ho.name).2
    have h3 : (Str.ofString (toString u.2.1)).length ≤ 5 := by rw [len_tl, tl_numS]; exact numC_len (by decide : 0 < 4) (by omega)
    have h4 : (Str.ofString (toString u.2.2)).length ≤ 5 := by rw [len_tl, tl_numS]; exact numC_len (by decide : 0 < 4) (by omega)
    have k1 : (Str.ofString "well ").length = 5 := by decide +kernel
    have k2 : (Str.ofString " ").length = 1 := by decide +kernel
    have big : ∀ n : Nat, n ≤ 100 → n ≤ sizeLine := fun n h => Nat.le_trans h (by decide)
    walk_at "seq"
    walk_at "go"
    refine q_addS (big _ (by omega)) ?_
    walk_at "go"
    refine q_addS (big _ (by simp only [str_len]; omega)) ?_
    walk_at "go"
    refine q_str (log_small (k := 14) (by omega) (by decide) (by decide)) ?_
    refine q_addS (big _ (by simp only [str_len]; omega)) ?_
    walk_at "go"
    refine q_addS (big _ (by simp only [str_len]; omega)) ?_
    walk_at "go"
    refine q_str (log_small (k := 14) (by omega) (by decide) (by decide)) ?_
    refine q_addS (big _ (by simp only [str_len]; omega)) ?_
    exact ⟨congrArg D.str (line_eq u), rfl⟩
  · refine ⟨ws.map lineOf, .inl (by rw [List.map_map]; rfl), ?_, hG⟩
    have h1 : (Str.ofString "\n").length = 1 := by decide +kernel
    have h2 := lines_len hw.ok
    have h3 := hw.len
    rw [h1, List.length_map]
    omega
theorem sc_Field_names : FnScope ["self"] ["self"] (defScope sField_names) := ⟨rfl, rfl, rfl, by decide +kernel, rfl, by decide +kernel, by decide +kernel⟩
theorem p_Field_names_prop (T : Tx P K mg base) : Lw.Prp P w K mg base (He.ga K "Field") "names" 1 ["self"] (pureSp K 1 (Snms2 (FC K))) := by
  obtain ⟨fd, F⟩ := Lh.def_of T.d 44 (d := dsField_names)
  refine ⟨_, _, fd, T.cls "Field" 74, T.prop 1, F.bindsN (fun _ _ _ _ _ _ us hl => by
      match us, hl with
      | [_], _ => rfl), ?_⟩
  have nd := sc_Field_names.nd
  refine Lw.fn_pure F sc_Field_names rfl (by decide) fun cdv A outer s H E hr => ?_
  have hr65 := Lw.room65 hr
  refine ⟨_, (pss_one (ps_ret (pe_fldK K (pv 0)))), ?_⟩
  rintro ds G hl ⟨ws, rfl, hG⟩
  intro ex
  rcases hG with hG | hG
  · refine ws_ret (we_thaw ?_)
    walk_at "go"
    refine ⟨_, _, _, rfl, T.cls "Field" 74, T.noat "Field" "own_names" 77, rfl, ?_⟩
    exact ⟨_, rfl, hG⟩
  · walk_at "go"
    refine ⟨_, _, _, rfl, T.cls "Field" 74, T.noat "Field" "own_names" 77, rfl, ?_⟩
    exact hG
theorem sc_bend : FnScope ["one", "other", "third"] ["one", "other", "third"] (defScope sbend) := ⟨rfl, rfl, rfl, by decide +kernel, rfl, by decide +kernel, by decide +kernel⟩
theorem c_bend (T : Tx P K mg base) : Lw.Cal P w K mg base "bend" 1 ["one", "other", "third"] (pureSp K 3 (S3 fun a b c => .int (bendI a b c))) := by
  obtain ⟨fd, F⟩ := Lh.def_of T.d 10 (d := dsbend)
  refine ⟨_, fd, T.glo "bend" 10, F.kp, F.bindsN (fun _ _ _ _ _ _ us hl => by
      match us, hl with
      | [_, _, _], _ => rfl), Lw.kbn_of F (fun _ _ _ _ _ _ j us ws hj h1 h2 => by
      match j, us, ws, hj, h1, h2 with
      | 0, [], [_, _, _], _, _, _ => rfl
      | 1, [_], [_, _], _, _, _ => rfl
      | 2, [_, _], [_], _, _, _ => rfl
      | 3, [_, _, _], [], _, _, _ => rfl), ?_⟩
  have nd := sc_bend.nd
  refine Lw.fn_pure F sc_bend rfl (by decide) fun cdv A outer s H E hr => ?_
  have hr65 := Lw.room65 hr
  refine ⟨_, (pss_one (ps_ret (pe_op op_sub (pe_op op_mulA (pe_op op_sub (pe_ix (ix_K K (hu_of hr)) (pv 1) pe_int (fun _ _ => rfl)) (pe_ix (ix_K K (hu_of hr)) (pv 0) pe_int (fun _ _ => rfl))) (pe_op op_sub (pe_ix (ix_K K (hu_of hr)) (pv 2) pe_int (fun _ _ => rfl)) (pe_ix (ix_K K (hu_of hr)) (pv 0) pe_int (fun _ _ => rfl)))) (pe_op op_mulA (pe_op op_sub (pe_ix (ix_K K (hu_of hr)) (pv 1) pe_int (fun _ _ => rfl)) (pe_ix (ix_K K (hu_of hr)) (pv 0) pe_int (fun _ _ => rfl))) (pe_op op_sub (pe_ix (ix_K K (hu_of hr)) (pv 2) pe_int (fun _ _ => rfl)) (pe_ix (ix_K K (hu_of hr)) (pv 0) pe_int (fun _ _ => rfl))))))), ?_⟩
  rintro ds G hl ⟨a, b, c, rfl, ⟨a1, a2⟩, ⟨b1, b2⟩, ⟨c1, c2⟩, hG⟩
  intro ex
  walk_at "go"
  exact hG
theorem sc_check_field : FnScope ["field"] ["field"] (defScope scheck_field) := ⟨rfl, rfl, rfl, by decide +kernel, rfl, by decide +kernel, by decide +kernel⟩
theorem c_check_field (T : Tx P K mg base) : Lw.Cal P w K mg base "check_field" 3 ["field"] (pureSp K 1 (Scf (FC K))) := by
  obtain ⟨fd, F⟩ := Lh.def_of T.d 8 (d := dscheck_field)
  refine ⟨_, fd, T.glo "check_field" 8, F.kp, F.bindsN (fun _ _ _ _ _ _ us hl => by
      match us, hl with
      | [_], _ => rfl), Lw.kbn_of F (fun _ _ _ _ _ _ j us ws hj h1 h2 => by
      match j, us, ws, hj, h1, h2 with
      | 0, [], [_], _, _, _ => rfl
      | 1, [_], [], _, _, _ => rfl), ?_⟩
  have nd := sc_check_field.nd
  refine Lw.fn_pure F sc_check_field rfl (by decide) fun cdv A outer s H E hr => ?_
  have hr65 := Lw.room65 hr
  refine ⟨_, (pss_one (ps_if (pt_not (pt_val (pe_callB (call_isiQ K) (by rfl) (T.free "isinstance" 55) (by decide +kernel) (pa_cons (pv 0) (pa_cons (pe_gcls (T.glo "Field" 73)) pa_nil))))) (pss_one ps_never) pss_nil)), ?_⟩
  rintro ds G hl ⟨ws, rfl, hG⟩
  intro ex
  walk_at "go"
  refine ⟨(T.ins 0 (c := "Field")).1, _, _, rfl, (T.ins 0 (c := "Field")).2, ?_⟩
  walk_at "x1"
  refine ⟨(fun h => absurd h (by decide)), fun _ => ?_⟩
  walk_at "go"
  exact hG
theorem sc_Field_spots : FnScope ["self"] ["self"] (defScope sField_spots) := ⟨rfl, rfl, rfl, by decide +kernel, rfl, by decide +kernel, by decide +kernel⟩
theorem p_Field_spots_prop (T : Tx P K mg base) : Lw.Prp P w K mg base (He.ga K "Field") "spots" 1 ["self"] (pureSp K 1 (Sg1 (FC K) fun ws => .tup (ws.map fun v => spD v.2))) := by
  obtain ⟨fd, F⟩ := Lh.def_of T.d 45 (d := dsField_spots)
  refine ⟨_, _, fd, T.cls "Field" 74, T.prop 2, F.bindsN (fun _ _ _ _ _ _ us hl => by
      match us, hl with
      | [_], _ => rfl), ?_⟩
  have nd := sc_Field_spots.nd
  refine Lw.fn_pure F sc_Field_spots rfl (by decide) fun cdv A outer s H E hr => ?_
  have hr65 := Lw.room65 hr
  refine ⟨_, (pss_one (ps_ret (pe_fldK K (pv 0)))), ?_⟩
  rintro ds G hl ⟨ws, rfl, hG⟩
  intro ex
  walk_at "go"
  refine ⟨_, _, _, rfl, T.cls "Field" 74, T.noat "Field" "own_spots" 78, rfl, ?_⟩
  exact hG
theorem sc_spots_by : FnScope ["field"] ["field"] (defScope sspots_by) := ⟨rfl, rfl, rfl, by decide +kernel, rfl, by decide +kernel, by decide +kernel⟩
theorem c_spots_by (T : Tx P K mg base) : Lw.Cal P w K mg base "spots_by" 3 ["field"] (pureSp K 1 (Ssb (FC K))) := by
  obtain ⟨fd, F⟩ := Lh.def_of T.d 9 (d := dsspots_by)
  refine ⟨_, fd, T.glo "spots_by" 9, F.kp, F.bindsN (fun _ _ _ _ _ _ us hl => by
      match us, hl with
      | [_], _ => rfl), Lw.kbn_of F (fun _ _ _ _ _ _ j us ws hj h1 h2 => by
      match j, us, ws, hj, h1, h2 with
      | 0, [], [_], _, _, _ => rfl
      | 1, [_], [], _, _, _ => rfl), ?_⟩
  have nd := sc_spots_by.nd
  refine Lw.fn_pure F sc_spots_by rfl (by decide) fun cdv A outer s H E hr => ?_
  have hr65 := Lw.room65 hr
  refine ⟨_, (pss_one (ps_ret (pe_dictZip rfl (T.free "dict" 52) (T.free "zip" 67) (pa_cons (pe_propF (p_Field_names_prop (P := P) (w := w) (K := K) (mg := mg) (base := base) T) (hr.mono (by decide)) (pv 0)) (pa_cons (pe_propF (p_Field_spots_prop (P := P) (w := w) (K := K) (mg := mg) (base := base) T) (hr.mono (by decide)) (pv 0)) pa_nil))))), ?_⟩
  rintro ds G hl ⟨ws, rfl, hw, hG⟩
  intro ex
  walk_at "go"
  walk_at "cx"
  refine we_dictZip ?_
  walk_at "go"
  refine ⟨ws, rfl, .inl ?_⟩
  walk_at "go"
  refine ⟨ws, rfl, ?_⟩
  refine ⟨ws.map fun v => .inr v.1, ws.map fun v => spD v.2, by rw [List.map_map]; rfl, rfl, by rw [List.length_map, List.length_map], Nat.le_of_lt (wells_len hw.len), ?_⟩
  rw [zip_maps, mergeD_new (ds := []) ?_]
  · exact hG
  · rw [List.nil_append, List.pairwise_map]
    exact (List.pairwise_map.mp hw.names).imp fun h e => h (Sum.inr.inj e)
theorem sc_pairs_of : FnScope ["some", "found", "at", "one", "other"] ["some"] (defScope spairs_of) := ⟨rfl, rfl, rfl, by decide +kernel, rfl, by decide +kernel, by decide +kernel⟩
theorem c_pairs_of (T : Tx P K mg base) : Lw.Cal P w K mg base "pairs_of" 1 ["some"] (pureSp K 1 Spo) := by
  obtain ⟨fd, F⟩ := Lh.def_of T.d 15 (d := dspairs_of)
  refine ⟨_, fd, T.glo "pairs_of" 15, F.kp, F.bindsN (fun _ _ _ _ _ _ us hl => by
      match us, hl with
      | [_], _ => rfl), Lw.kbn_of F (fun _ _ _ _ _ _ j us ws hj h1 h2 => by
      match j, us, ws, hj, h1, h2 with
      | 0, [], [_], _, _, _ => rfl
      | 1, [_], [], _, _, _ => rfl), ?_⟩
  have nd := sc_pairs_of.nd
  refine Lw.fn_pure F sc_pairs_of rfl (by decide) fun cdv A outer s H E hr => ?_
  have hr65 := Lw.room65 hr
  refine ⟨_, (pss_cons (ps_set (i := 1) nd rfl (Or.inl rfl) (pe_lst pa_nil))
      (pss_cons (ps_for PassesOwn.never rfl (pi_enumA K (by rfl) (T.free "enumerate" 53) (pa_cons (pv 0) pa_nil)) (pg_seqK (n := 2) K rfl (pgs_cons (pg_name (i := 2) nd rfl (.inl rfl)) (pgs_cons (pg_name (i := 3) nd rfl (.inr rfl)) pgs_nil))) (pss_one (ps_expr (pe_bm PySem.F.plainAttrs_list PySem.F.slot_list_extend PySem.F.type_list_extend mt_extend (pv 1) (pa_cons (pe_lc (own := [("other", 4)]) (by rfl) nd (pi_anyK K (pe_slice (sl_K K) (pv 0) (po_some (pe_op (op_addK K) (pv 2) pe_int)) po_none)) (blkOk_by (N := ["some", "found", "at", "one", "other"]) (sc := defScope spairs_of) (by decide +kernel)) (fun _ _ _ _ _ => (pg_name (i := 4) nd rfl (.inl rfl))) (fun _ _ _ _ _ => pts_nil) (fun _ _ _ _ _ => (pe_tup (pa_cons (pv 3) (pa_cons (pv 4) pa_nil))))) pa_nil)))))
      (pss_one (ps_ret (pv 1))))), ?_⟩
  rintro ds G hl ⟨ns, rfl, h4, hG⟩
  intro ex
  have big : ∀ n : Nat, n ≤ 2000 → n ≤ sizeLine := fun n h => Nat.le_trans h (by decide)
  walk_at "cx"
  refine ws_seq (ws_own (wn_nil ?_))
  refine ws_seq (ws_for (wi_enumA (we_var rfl ?_)))
  refine ⟨_, rfl, fun i ρ => ∃ s2 s3, ρ = [.d (lotD ns), .ow ((pairsTo ns i).map fun p => .tup [.str p.1, .str p.2]), s2, s3, .un], ⟨_, _, rfl⟩, fun i ρi x hx ⟨s2, s3, hρ⟩ => ?_, fun ρ' ⟨s2, s3, hρ⟩ => ?_⟩
  · obtain ⟨v, hv, rfl⟩ := enumD_map hx
    have hi := (List.getElem?_eq_some_iff.mp hv).1
    subst hρ
    walk_at "seq"
    walk_at "go"
    refine we_extend (i := 1) rfl ?_
    walk_at "lc"
    refine wi_any ?_
    walk_at "ge"
    rw [show ((i : Int) + 1) = ((i + 1 : Nat) : Int) from rfl, cut_drop, ← List.map_drop]
    refine ⟨Nat.lt_of_le_of_lt (by rw [List.length_map, List.length_drop]; exact Nat.le_trans (Nat.sub_le _ _) h4 : _ ≤ 40) (by decide), lcI_map (ws := ns.drop (i + 1)) (enc := fun n => .str n) (res := fun n => .tup [.str v, .str n]) rfl (fun u hu => ?_) ?_⟩
    · walk_at "go"
      exact rfl
    · refine ⟨_, _, rfl, rfl, ?_, ?_⟩
      · rw [List.length_map, List.length_map, List.length_drop]
        have := pairsTo_len ns i
        have h5 : i * ns.length ≤ 40 * 40 := Nat.mul_le_mul (by omega) h4
        exact big _ (by omega)
      · exact ⟨_, _, congrArg (fun z => [SD.d (lotD ns), .ow z, _, _, .un]) (by rw [pairsTo_succ hv, List.map_append, List.map_map]; rfl)⟩
  · rw [enumD_len, List.length_map, pairsTo_all] at hρ
    subst hρ
    refine ws_ret (we_still (i := 1) rfl ?_)
    exact hG
theorem sc_threes_of : FnScope ["cell", "found", "at", "one", "pair"] ["cell"] (defScope sthrees_of) := ⟨rfl, rfl, rfl, by decide +kernel, rfl, by decide +kernel, by decide +kernel⟩
theorem c_threes_of (T : Tx P K mg base) : Lw.Cal P w K mg base "threes_of" 2 ["cell"] (pureSp K 1 Sth) := by
  obtain ⟨fd, F⟩ := Lh.def_of T.d 16 (d := dsthrees_of)
  refine ⟨_, fd, T.glo "threes_of" 16, F.kp, F.bindsN (fun _ _ _ _ _ _ us hl => by
      match us, hl with
      | [_], _ => rfl), Lw.kbn_of F (fun _ _ _ _ _ _ j us ws hj h1 h2 => by
      match j, us, ws, hj, h1, h2 with
      | 0, [], [_], _, _, _ => rfl
      | 1, [_], [], _, _, _ => rfl), ?_⟩
  have nd := sc_threes_of.nd
  refine Lw.fn_pure F sc_threes_of rfl (by decide) fun cdv A outer s H E hr => ?_
  have hr65 := Lw.room65 hr
  refine ⟨_, (pss_cons (ps_set (i := 1) nd rfl (Or.inl rfl) (pe_lst pa_nil))
      (pss_cons (ps_for PassesOwn.never rfl (pi_enumA K (by rfl) (T.free "enumerate" 53) (pa_cons (pv 0) pa_nil)) (pg_seqK (n := 2) K rfl (pgs_cons (pg_name (i := 2) nd rfl (.inl rfl)) (pgs_cons (pg_name (i := 3) nd rfl (.inr rfl)) pgs_nil))) (pss_one (ps_expr (pe_bm PySem.F.plainAttrs_list PySem.F.slot_list_extend PySem.F.type_list_extend mt_extend (pv 1) (pa_cons (pe_lc (own := [("pair", 4)]) (by rfl) nd (pi_anyK K (pe_callF (c_pairs_of (P := P) (w := w) (K := K) (mg := mg) (base := base) T) (hr.mono (by decide)) (pa_cons (pe_slice (sl_K K) (pv 0) (po_some (pe_op (op_addK K) (pv 2) pe_int)) po_none) pa_nil))) (blkOk_by (N := ["cell", "found", "at", "one", "pair"]) (sc := defScope sthrees_of) (by decide +kernel)) (fun _ _ _ _ _ => (pg_name (i := 4) nd rfl (.inl rfl))) (fun _ _ _ _ _ => pts_nil) (fun _ _ _ _ _ => (pe_tup (pa_cons (pv 3) (pa_starK K (pv 4) pa_nil))))) pa_nil)))))
      (pss_one (ps_ret (pv 1))))), ?_⟩
  rintro ds G hl ⟨ns, rfl, h4, hG⟩
  intro ex
  have big : ∀ n : Nat, n ≤ 70000 → n < sizeLine := fun n h => Nat.lt_of_le_of_lt h (by decide)
  walk_at "cx"
  refine ws_seq (ws_own (wn_nil ?_))
  refine ws_seq (ws_for (wi_enumA (we_var rfl ?_)))
  refine ⟨_, rfl, fun i ρ => ∃ s2 s3, ρ = [.d (lotD ns), .ow ((threesTo ns i).map fun t => lotD [t.1, t.2.1, t.2.2]), s2, s3, .un], ⟨_, _, rfl⟩, fun i ρi x hx ⟨s2, s3, hρ⟩ => ?_, fun ρ' ⟨s2, s3, hρ⟩ => ?_⟩
  · obtain ⟨v, hv, rfl⟩ := enumD_map hx
    have hi := (List.getElem?_eq_some_iff.mp hv).1
    subst hρ
    walk_at "seq"
    walk_at "go"
    refine we_extend (i := 1) rfl ?_
    walk_at "lc"
    refine wi_any ?_
    walk_at "ge"
    rw [show ((i : Int) + 1) = ((i + 1 : Nat) : Int) from rfl, cut_drop, ← List.map_drop]
    have ld : (ns.drop (i + 1)).length ≤ 40 := by rw [List.length_drop]; exact Nat.le_trans (Nat.sub_le _ _) h4
    have lp := pairsL_len (ns.drop (i + 1))
    have lp2 : (ns.drop (i + 1)).length * (ns.drop (i + 1)).length ≤ 40 * 40 := Nat.mul_le_mul ld ld
    refine ⟨ns.drop (i + 1), rfl, ld, ?_⟩
    refine ⟨_, rfl, by rw [List.length_map]; exact big _ (by omega), lcI_map (ws := pairsL (ns.drop (i + 1))) (enc := fun p => .tup [.str p.1, .str p.2]) (res := fun p => lotD [v, p.1, p.2]) rfl (fun u hu => ?_) ?_⟩
    · walk_at "ge"
      refine ⟨_, .inl rfl, ?_⟩
      walk_at "ge"
      exact rfl
    · refine ⟨_, _, rfl, rfl, ?_, ?_⟩
      · rw [List.length_map, List.length_map]
        have := threesTo_len ns i
        have h5 : i * (ns.length * ns.length) ≤ 40 * (40 * 40) := Nat.mul_le_mul (by omega) (Nat.mul_le_mul h4 h4)
        exact Nat.le_of_lt (big _ (by omega))
      · exact ⟨_, _, congrArg (fun z => [SD.d (lotD ns), .ow z, _, _, .un]) (by rw [threesTo_succ hv, List.map_append, List.map_map]; rfl)⟩
  · rw [enumD_len, List.length_map, threesTo_all] at hρ
    subst hρ
    refine ws_ret (we_still (i := 1) rfl ?_)
    exact hG
theorem sc_check_loose : FnScope ["field", "spots", "lot"] ["field"] (defScope scheck_loose) := ⟨rfl, rfl, rfl, by decide +kernel, rfl, by decide +kernel, by decide +kernel⟩
theorem c_check_loose (T : Tx P K mg base) : Lw.CalX P w K mg base "check_loose" 4 ["field"] (pureXSp K 1 (SclX K)) := by
  obtain ⟨fd, F⟩ := Lh.def_of T.d 17 (d := dscheck_loose)
  refine ⟨_, fd, T.glo "check_loose" 17, F.kp, F.bindsN (fun _ _ _ _ _ _ us hl => by
      match us, hl with
      | [_], _ => rfl), Lw.kbn_of F (fun _ _ _ _ _ _ j us ws hj h1 h2 => by
      match j, us, ws, hj, h1, h2 with
      | 0, [], [_], _, _, _ => rfl
      | 1, [_], [], _, _, _ => rfl), ?_⟩
  have nd := sc_check_loose.nd
  refine Lw.fn_pureX F sc_check_loose rfl (by decide) fun cdv A outer s H E hr => ?_
  have hr65 := Lw.room65 hr
  refine ⟨_, (pss_cons (ps_expr (pe_callF (c_check_field (P := P) (w := w) (K := K) (mg := mg) (base := base) T) (hr.mono (by decide)) (pa_cons (pv 0) pa_nil)))
      (pss_cons (ps_set (i := 1) nd rfl (Or.inl rfl) (pe_callF (c_spots_by (P := P) (w := w) (K := K) (mg := mg) (base := base) T) (hr.mono (by decide)) (pa_cons (pv 0) pa_nil)))
      (pss_one (ps_for (passes_of rfl) rfl (pi_anyK K (pe_callF (c_threes_of (P := P) (w := w) (K := K) (mg := mg) (base := base) T) (hr.mono (by decide)) (pa_cons (pe_propF (p_Field_names_prop (P := P) (w := w) (K := K) (mg := mg) (base := base) T) (hr.mono (by decide)) (pv 0)) pa_nil))) (pg_name (i := 2) nd rfl (.inl rfl)) (pss_one (ps_if (pt_cmpR (op_eqK K hr.units) (pe_callF (c_bend (P := P) (w := w) (K := K) (mg := mg) (base := base) T) (hr.mono (by decide)) (pa_cons (pe_ix (ix_K K (hu_of hr)) (pv 1) (pe_ix (ix_K K (hu_of hr)) (pv 2) pe_int (fun _ _ => rfl)) (fun _ _ => rfl)) (pa_cons (pe_ix (ix_K K (hu_of hr)) (pv 1) (pe_ix (ix_K K (hu_of hr)) (pv 2) pe_int (fun _ _ => rfl)) (fun _ _ => rfl)) (pa_cons (pe_ix (ix_K K (hu_of hr)) (pv 1) (pe_ix (ix_K K (hu_of hr)) (pv 2) pe_int (fun _ _ => rfl)) (fun _ _ => rfl)) pa_nil)))) pe_int (nomark _)) (pss_one (ps_raiseF (T.exm "OnOne" 72 4) (hr.mono (by decide)) rfl (takes_of rfl rfl rfl rfl) (pa_cons (pv 2) pa_nil))) pss_nil)))))), ?_⟩
  intro ds F' G hl ⟨ws, e, hw, hF, hG⟩
  letI ex := exnOf E G
  show WS K _ _ _
  subst e
  have big : ∀ n : Nat, n ≤ 70000 → n < sizeLine := fun n h => Nat.lt_of_le_of_lt h (by decide)
  walk_at "cx"
  walk_at "go"
  refine ⟨ws, rfl, ?_⟩
  walk_at "go"
  refine ⟨ws, rfl, hw, ?_⟩
  walk_at "go"
  refine ws_for (wi_any ?_)
  walk_at "ge"
  refine ⟨ws, rfl, .inl ?_⟩
  walk_at "ge"
  refine ⟨ws.map (·.1), by rw [names_lot], by rw [List.length_map]; exact hw.len, ?_⟩
  refine ⟨_, rfl, fun i ρ => ∃ s, ρ = [.d (fldD (FC K) ws), .d (sbD ws), s] ∧ ∀ t ∈ (threesL ws).take i, lineB t = false, ⟨_, rfl, fun t ht => by rw [List.take_zero] at ht; cases ht⟩, fun i ρi x hx ⟨s, hρ, hs⟩ => ?_, fun ρ' ⟨s, hρ, hs⟩ => ?_⟩
  · rw [threesL_map, List.map_map, List.getElem?_map] at hx
    cases hv : (threesL ws)[i]? with
    | none => rw [hv] at hx; cases hx
    | some t =>
      rw [hv] at hx
      cases hx
      subst hρ
      obtain ⟨p1, p2, p3⟩ := threesL_in (List.mem_of_getElem? hv)
      refine wg_name ?_
      refine ws_if (wt_test ?_)
      walk_at "ge"
      refine q_ixD (k := .inr t.1.1) rfl (look_sb hw.names p1) ?_
      walk_at "ge"
      refine q_ixD (k := .inr t.2.1.1) rfl (look_sb hw.names p2) ?_
      walk_at "ge"
      refine q_ixD (k := .inr t.2.2.1) rfl (look_sb hw.names p3) ?_
      walk_at "ge"
      refine ⟨t.1.2, t.2.1.2, t.2.2.2, rfl, hw.spot p1, hw.spot p2, hw.spot p3, ?_⟩
      walk_at "ge"
      refine ⟨fun h => ?_, fun h => ?_⟩
      · have hf := find_first (p := lineB) hs hv h
        refine ws_raise (fun _ _ _ _ h => h) (T.err 4 (c := "OnOne")).1 ?_
        walk_at "go"
        exact hG t hf
      · exact ws_next ⟨_, rfl, take_step hs hv h⟩
  · rw [List.length_map, threesL_map, List.length_map, List.take_length] at hs
    exact hF (find_never hs)
theorem sc_sign_of : FnScope ["number"] ["number"] (defScope ssign_of) := ⟨rfl, rfl, rfl, by decide +kernel, rfl, by decide +kernel, by decide +kernel⟩
theorem c_sign_of (T : Tx P K mg base) : Lw.Cal P w K mg base "sign_of" 1 ["number"] (pureSp K 1 Ssg) := by
  obtain ⟨fd, F⟩ := Lh.def_of T.d 11 (d := dssign_of)
  refine ⟨_, fd, T.glo "sign_of" 11, F.kp, F.bindsN (fun _ _ _ _ _ _ us hl => by
      match us, hl with
      | [_], _ => rfl), Lw.kbn_of F (fun _ _ _ _ _ _ j us ws hj h1 h2 => by
      match j, us, ws, hj, h1, h2 with
      | 0, [], [_], _, _, _ => rfl
      | 1, [_], [], _, _, _ => rfl), ?_⟩
  have nd := sc_sign_of.nd
  refine Lw.fn_pure F sc_sign_of rfl (by decide) fun cdv A outer s H E hr => ?_
  have hr65 := Lw.room65 hr
  refine ⟨_, (pss_one (ps_ret (pe_op op_sub (pe_callTy call_intA (by rfl) (T.free "int" 54) (by decide +kernel) (pa_cons (pe_cmpR op_gt (pv 0) pe_int (nomark _)) pa_nil)) (pe_callTy call_intA (by rfl) (T.free "int" 54) (by decide +kernel) (pa_cons (pe_cmpR op_lt (pv 0) pe_int (nomark _)) pa_nil))))), ?_⟩
  rintro ds G hl ⟨i, rfl, hG⟩
  intro ex
  walk_at "go"
  exact hG
theorem sc_on_sides : FnScope ["field", "one", "other", "spots", "turns", "spot"] ["field", "one", "other"] (defScope son_sides) := ⟨rfl, rfl, rfl, by decide +kernel, rfl, by decide +kernel, by decide +kernel⟩
theorem c_on_sides (T : Tx P K mg base) : Lw.Cal P w K mg base "on_sides" 4 ["field", "one", "other"] (pureSp K 3 (Sos (FC K))) := by
  obtain ⟨fd, F⟩ := Lh.def_of T.d 18 (d := dson_sides)
  refine ⟨_, fd, T.glo "on_sides" 18, F.kp, F.bindsN (fun _ _ _ _ _ _ us hl => by
      match us, hl with
      | [_, _, _], _ => rfl), Lw.kbn_of F (fun _ _ _ _ _ _ j us ws hj h1 h2 => by
      match j, us, ws, hj, h1, h2 with
      | 0, [], [_, _, _], _, _, _ => rfl
      | 1, [_], [_, _], _, _, _ => rfl
      | 2, [_, _], [_], _, _, _ => rfl
      | 3, [_, _, _], [], _, _, _ => rfl), ?_⟩
  have nd := sc_on_sides.nd
  refine Lw.fn_pure F sc_on_sides rfl (by decide) fun cdv A outer s H E hr => ?_
  have hr65 := Lw.room65 hr
  refine ⟨_, (pss_cons (ps_set (i := 3) nd rfl (Or.inr rfl) (pe_callF (c_spots_by (P := P) (w := w) (K := K) (mg := mg) (base := base) T) (hr.mono (by decide)) (pa_cons (pv 0) pa_nil)))
      (pss_cons (ps_setLc (i := 4) (own := [("spot", 5)]) (by rfl) nd rfl rfl (sw_true rfl rfl rfl (by decide +kernel)) (pi_anyK K (pe_propF (p_Field_spots_prop (P := P) (w := w) (K := K) (mg := mg) (base := base) T) (hr.mono (by decide)) (pv 0))) (blkOk_by (N := ["field", "one", "other", "spots", "turns", "spot"]) (sc := defScope son_sides) (by decide +kernel)) (fun _ _ _ _ _ => (pg_name (i := 5) nd rfl (.inl rfl))) (fun _ _ _ _ _ => pts_nil) (fun _ _ _ _ _ => (pe_callF (c_sign_of (P := P) (w := w) (K := K) (mg := mg) (base := base) T) (hr.mono (by decide)) (pa_cons (pe_callF (c_bend (P := P) (w := w) (K := K) (mg := mg) (base := base) T) (hr.mono (by decide)) (pa_cons (pe_ix (ix_K K (hu_of hr)) (pv 3) (pv 1) (fun _ _ => rfl)) (pa_cons (pe_ix (ix_K K (hu_of hr)) (pv 3) (pv 2) (fun _ _ => rfl)) (pa_cons (pv 5) pa_nil)))) pa_nil))))
      (pss_one (ps_ret (pe_tup (pa_cons (pe_bm PySem.F.plainAttrs_list PySem.F.slot_list_count PySem.F.type_list_count (mt_lCnt K) (pv 4) (pa_cons pe_int pa_nil)) (pa_cons (pe_bm PySem.F.plainAttrs_list PySem.F.slot_list_count PySem.F.type_list_count (mt_lCnt K) (pv 4) (pa_cons (pe_un un_neg pe_int) pa_nil)) pa_nil))))))), ?_⟩
  rintro ds G hl ⟨ws, a, b, rfl, hw, ha, hb, hG⟩
  intro ex
  walk_at "go"
  refine ⟨ws, rfl, hw, ?_⟩
  walk_at "go"
  walk_at "lc"
  refine wi_any ?_
  walk_at "ge"
  refine ⟨ws, rfl, ?_⟩
  refine ⟨_, rfl, wells_len hw.len, lcI_map (ws := ws) (enc := fun v => spD v.2) (res := fun v => .int (sgI (bendI a.2 b.2 v.2))) rfl (fun v hv => ?_) ?_⟩
  · walk_at "ge"
    refine q_ixD (k := .inr a.1) rfl (look_sb hw.names ha) ?_
    walk_at "ge"
    refine q_ixD (k := .inr b.1) rfl (look_sb hw.names hb) ?_
    walk_at "ge"
    refine ⟨a.2, b.2, v.2, rfl, hw.spot ha, hw.spot hb, hw.spot hv, ?_⟩
    walk_at "ge"
    exact ⟨_, rfl, rfl, rfl⟩
  · refine wg_name ?_
    refine ws_ret ?_
    walk_at "ge"
    refine we_lCnt ?_
    walk_at "ge"
    refine ⟨ws.map fun v => sgI (bendI a.2 b.2 v.2), by rw [List.map_map]; rfl, ?_⟩
    walk_at "ge"
    refine we_lCnt ?_
    walk_at "ge"
    refine ⟨ws.map fun v => sgI (bendI a.2 b.2 v.2), by rw [List.map_map]; rfl, ?_⟩
    walk_at "ge"
    rw [count_left, count_right]
    exact hG
theorem sc_crossings : FnScope ["field", "many", "rows", "one", "other", "fours", "left", "right"] ["field"] (defScope scrossings) := ⟨rfl, rfl, rfl, by decide +kernel, rfl, by decide +kernel, by decide +kernel⟩
theorem c_crossings (T : Tx P K mg base) : Lw.CalX P w K mg base "crossings" 5 ["field"] (pureXSp K 1 (ScrX K)) := by
  obtain ⟨fd, F⟩ := Lh.def_of T.d 20 (d := dscrossings)
  refine ⟨_, fd, T.glo "crossings" 20, F.kp, F.bindsN (fun _ _ _ _ _ _ us hl => by
      match us, hl with
      | [_], _ => rfl), Lw.kbn_of F (fun _ _ _ _ _ _ j us ws hj h1 h2 => by
      match j, us, ws, hj, h1, h2 with
      | 0, [], [_], _, _, _ => rfl
      | 1, [_], [], _, _, _ => rfl), ?_⟩
  have nd := sc_crossings.nd
  refine Lw.fn_pureX F sc_crossings rfl (by decide) fun cdv A outer s H E hr => ?_
  have hr65 := Lw.room65 hr
  refine ⟨_, (pss_cons (ps_expr (pe_callX (c_check_loose (P := P) (w := w) (K := K) (mg := mg) (base := base) T) (hr.mono (by decide)) (takes_of rfl rfl rfl rfl) (pa_cons (pv 0) pa_nil)))
      (pss_cons (ps_set (i := 1) nd rfl (Or.inl rfl) (pe_callB (call_lenK K) (by rfl) (T.free "len" 56) (by decide +kernel) (pa_cons (pe_propF (p_Field_names_prop (P := P) (w := w) (K := K) (mg := mg) (base := base) T) (hr.mono (by decide)) (pv 0)) pa_nil)))
      (pss_cons (ps_setLc (i := 2) (own := [("one", 3), ("other", 4)]) (by rfl) nd rfl rfl (sw_true rfl rfl rfl (by decide +kernel)) (pi_anyK K (pe_callF (c_pairs_of (P := P) (w := w) (K := K) (mg := mg) (base := base) T) (hr.mono (by decide)) (pa_cons (pe_propF (p_Field_names_prop (P := P) (w := w) (K := K) (mg := mg) (base := base) T) (hr.mono (by decide)) (pv 0)) pa_nil))) (blkOk_by (N := ["field", "many", "rows", "one", "other", "fours", "left", "right"]) (sc := defScope scrossings) (by decide +kernel)) (fun _ _ _ _ _ => (pg_seqK (n := 2) K rfl (pgs_cons (pg_name (i := 3) nd rfl (.inl rfl)) (pgs_cons (pg_name (i := 4) nd rfl (.inl rfl)) pgs_nil)))) (fun _ _ _ _ _ => pts_nil) (fun _ _ _ _ _ => (pe_callF (c_on_sides (P := P) (w := w) (K := K) (mg := mg) (base := base) T) (hr.mono (by decide)) (pa_cons (pv 0) (pa_cons (pv 3) (pa_cons (pv 4) pa_nil))))))
      (pss_cons (ps_set (i := 5) nd rfl (Or.inl rfl) (pe_op op_fdivN (pe_op op_mulA (pe_op op_mulA (pe_op op_mulA (pv 1) (pe_op op_sub (pv 1) pe_int)) (pe_op op_sub (pv 1) pe_int)) (pe_op op_sub (pv 1) pe_int)) pe_int))
      (pss_one (ps_ret (pe_op op_sub (pe_op op_mulA pe_int (pv 5)) (pe_callB (cr_sumK (K := K) rfl) (by rfl) (T.free "sum" 64) (by decide +kernel) (pa_cons (pe_lc (own := [("left", 6), ("right", 7)]) (by rfl) nd (pi_anyK K (pv 2)) (blkOk_by (N := ["field", "many", "rows", "one", "other", "fours", "left", "right"]) (sc := defScope scrossings) (by decide +kernel)) (fun _ _ _ _ _ => (pg_seqK (n := 2) K rfl (pgs_cons (pg_name (i := 6) nd rfl (.inl rfl)) (pgs_cons (pg_name (i := 7) nd rfl (.inl rfl)) pgs_nil)))) (fun _ _ _ _ _ => pts_nil) (fun _ _ _ _ _ => (pe_op op_mulA (pv 6) (pv 7)))) pa_nil))))))))), ?_⟩
  intro ds F' G hl ⟨ws, e, hw, hF, hG⟩
  letI ex := exnOf E G
  show WS K _ _ _
  subst e
  walk_at "cx"
  have big : ∀ n : Nat, n ≤ 70000 → n < sizeLine := fun n h => Nat.lt_of_le_of_lt h (by decide)
  have pl := pairsL_len ws
  have pl2 : ws.length * ws.length ≤ 40 * 40 := Nat.mul_le_mul hw.len hw.len
  refine ws_seq (ws_drop (we_callX (fun _ _ _ _ h => h) (wa_cons (we_var rfl (wa_nil ⟨rfl, ws, rfl, hw, fun h => ?_, hG⟩)))))
  have hF' := hF h
  refine ws_seq (ws_asg ?_)
  walk_at "ge"
  refine ⟨ws, rfl, .inl ?_⟩
  walk_at "ge"
  rw [List.length_map]
  refine ws_seq (ws_asg ?_)
  walk_at "lc"
  refine wi_any ?_
  walk_at "ge"
  refine ⟨ws, rfl, .inl ?_⟩
  walk_at "ge"
  refine ⟨ws.map (·.1), by rw [names_lot], by rw [List.length_map]; exact hw.len, ?_⟩
  rw [pairsL_map, List.map_map]
  refine ⟨_, rfl, by rw [List.length_map]; exact big _ (by omega), lcI_map (ws := pairsL ws) (enc := fun p => .tup [.str p.1.1, .str p.2.1]) (res := fun p => .tup [.int (leftN ws p.1.2 p.2.2 : Nat), .int (rightN ws p.1.2 p.2.2 : Nat)]) rfl (fun p hp => ?_) ?_⟩
  · obtain ⟨p1, p2⟩ := pairsL_in hp
    walk_at "seq"
    walk_at "ge"
    refine ⟨ws, p.1, p.2, rfl, hw, p1, p2, ?_⟩
    exact ⟨rfl, rfl⟩
  · refine wg_name ?_
    have key : ∀ n : Nat, n < 41 → ((n : Int) * ((n : Int) - 1)).natAbs ≤ 2000 ∧ ((n : Int) * ((n : Int) - 1) * ((n : Int) - 2)).natAbs ≤ 100000 ∧ ((n : Int) * ((n : Int) - 1) * ((n : Int) - 2) * ((n : Int) - 3)).natAbs ≤ 10000000 ∧ (c4 n).natAbs ≤ 10000000 := by decide
    obtain ⟨k1, k2, k3, k4⟩ := key ws.length (by have := hw.len; omega)
    have h40 := hw.len
    refine ws_seq (ws_asg ?_)
    walk_at "ge"
    refine q_fdiv (j := 24) ⟨by decide, by decide⟩ ?_
    refine wg_name ?_
    refine ws_ret ?_
    walk_at "ge"
    refine q_mul (mulA' (n := 10 ^ 20) (by decide) (by decide) (by show (c4 ws.length).natAbs ≤ 10 ^ 20; omega)) ?_
    refine we_sum ?_
    walk_at "lc"
    refine wi_any ?_
    walk_at "ge"
    refine ⟨by rw [List.length_map]; exact big _ (by omega), lcI_map (ws := pairsL ws) (enc := fun p => .tup [.int (leftN ws p.1.2 p.2.2 : Nat), .int (rightN ws p.1.2 p.2.2 : Nat)]) (res := fun p => .int ((leftN ws p.1.2 p.2.2 : Int) * (rightN ws p.1.2 p.2.2 : Int))) rfl (fun p hp => ?_) ?_⟩
    · have l1 : leftN ws p.1.2 p.2.2 ≤ ws.length := List.length_filter_le _ _
      have l2 : rightN ws p.1.2 p.2.2 ≤ ws.length := List.length_filter_le _ _
      have l3 := hw.len
      walk_at "seq"
      walk_at "ge"
      exact rfl
    · refine ⟨prodL ws, by unfold prodL; rw [List.map_map]; rfl, ?_⟩
      walk_at "ge"
      exact hF'
theorem sc_sides_of_pairs : FnScope ["field", "counts", "one", "other", "number"] ["field"] (defScope ssides_of_pairs) := ⟨rfl, rfl, rfl, by decide +kernel, rfl, by decide +kernel, by decide +kernel⟩
theorem c_sides_of_pairs (T : Tx P K mg base) : Lw.CalX P w K mg base "sides_of_pairs" 5 ["field"] (pureXSp K 1 (SspX K)) := by
  obtain ⟨fd, F⟩ := Lh.def_of T.d 19 (d := dssides_of_pairs)
  refine ⟨_, fd, T.glo "sides_of_pairs" 19, F.kp, F.bindsN (fun _ _ _ _ _ _ us hl => by
      match us, hl with
      | [_], _ => rfl), Lw.kbn_of F (fun _ _ _ _ _ _ j us ws hj h1 h2 => by
      match j, us, ws, hj, h1, h2 with
      | 0, [], [_], _, _, _ => rfl
      | 1, [_], [], _, _, _ => rfl), ?_⟩
  have nd := sc_sides_of_pairs.nd
  refine Lw.fn_pureX F sc_sides_of_pairs rfl (by decide) fun cdv A outer s H E hr => ?_
  have hr65 := Lw.room65 hr
  refine ⟨_, (pss_cons (ps_expr (pe_callX (c_check_loose (P := P) (w := w) (K := K) (mg := mg) (base := base) T) (hr.mono (by decide)) (takes_of rfl rfl rfl rfl) (pa_cons (pv 0) pa_nil)))
      (pss_cons (ps_set (i := 1) nd rfl (Or.inr rfl) (pe_lc (own := [("one", 2), ("other", 3)]) (by rfl) nd (pi_anyK K (pe_callF (c_pairs_of (P := P) (w := w) (K := K) (mg := mg) (base := base) T) (hr.mono (by decide)) (pa_cons (pe_propF (p_Field_names_prop (P := P) (w := w) (K := K) (mg := mg) (base := base) T) (hr.mono (by decide)) (pv 0)) pa_nil))) (blkOk_by (N := ["field", "counts", "one", "other", "number"]) (sc := defScope ssides_of_pairs) (by decide +kernel)) (fun _ _ _ _ _ => (pg_seqK (n := 2) K rfl (pgs_cons (pg_name (i := 2) nd rfl (.inl rfl)) (pgs_cons (pg_name (i := 3) nd rfl (.inl rfl)) pgs_nil)))) (fun _ _ _ _ _ => pts_nil) (fun _ _ _ _ _ => (pe_callB (by exact cr_minT (K := K) hr.units rfl) (by rfl) (T.free "min" 59) (by decide +kernel) (pa_cons (pe_callF (c_on_sides (P := P) (w := w) (K := K) (mg := mg) (base := base) T) (hr.mono (by decide)) (pa_cons (pv 0) (pa_cons (pv 2) (pa_cons (pv 3) pa_nil)))) pa_nil)))))
      (pss_one (ps_ret (pe_callTy (call_tupleK K) (by rfl) (T.free "tuple" 66) (by decide +kernel) (pa_cons (pe_lc (own := [("number", 4)]) (by rfl) nd (pi_range1 rfl (T.free "range" 61) (pa_cons (pe_op (op_addK K) (pe_op op_fdivN (pe_callB (call_max2 rfl) (by rfl) (T.free "max" 58) (by decide +kernel) (pa_cons pe_int (pa_cons (pe_op op_sub (pe_callB (call_lenK K) (by rfl) (T.free "len" 56) (by decide +kernel) (pa_cons (pe_propF (p_Field_names_prop (P := P) (w := w) (K := K) (mg := mg) (base := base) T) (hr.mono (by decide)) (pv 0)) pa_nil)) pe_int) pa_nil))) pe_int) pe_int) pa_nil)) (blkOk_by (N := ["field", "counts", "one", "other", "number"]) (sc := defScope ssides_of_pairs) (by decide +kernel)) (fun _ _ _ _ _ => (pg_name (i := 4) nd rfl (.inl rfl))) (fun _ _ _ _ _ => pts_nil) (fun _ _ _ _ _ => (pe_bmK K PySem.F.plainAttrs_list PySem.F.slot_list_count PySem.F.type_list_count (mt_lCnt K) (pv 1) (pa_cons (pv 4) pa_nil)))) pa_nil)))))), ?_⟩
  intro ds F' G hl ⟨ws, e, hw, hF, hG⟩
  letI ex := exnOf E G
  show WS K _ _ _
  subst e
  walk_at "cx"
  have big : ∀ n : Nat, n ≤ 70000 → n < sizeLine := fun n h => Nat.lt_of_le_of_lt h (by decide)
  have pl := pairsL_len ws
  have pl2 : ws.length * ws.length ≤ 40 * 40 := Nat.mul_le_mul hw.len hw.len
  refine ws_seq (ws_drop (we_callX (fun _ _ _ _ h => h) (wa_cons (we_var rfl (wa_nil ⟨rfl, ws, rfl, hw, fun h => ?_, hG⟩)))))
  have hF' := hF h
  refine ws_seq (ws_asg ?_)
  walk_at "lc"
  refine wi_any ?_
  walk_at "ge"
  refine ⟨ws, rfl, .inl ?_⟩
  walk_at "ge"
  refine ⟨ws.map (·.1), by rw [names_lot], by rw [List.length_map]; exact hw.len, ?_⟩
  rw [pairsL_map, List.map_map]
  refine ⟨_, rfl, by rw [List.length_map]; exact big _ (by omega), lcI_map (ws := pairsL ws) (enc := fun p => .tup [.str p.1.1, .str p.2.1]) (res := fun p => .int (minN ws p : Nat)) rfl (fun p hp => ?_) ?_⟩
  · obtain ⟨p1, p2⟩ := pairsL_in hp
    walk_at "seq"
    walk_at "ge"
    refine we_minT ?_
    walk_at "ge"
    refine ⟨ws, p.1, p.2, rfl, hw, p1, p2, ?_⟩
    refine ⟨_, _, rfl, ?_⟩
    unfold minN
    exact ⟨congrArg D.int (by omega), rfl⟩
  · refine wg_name ?_
    refine ws_ret (we_tuple ?_)
    walk_at "lc"
    refine wi_range1 ?_
    walk_at "ge"
    refine ⟨ws, rfl, .inl ?_⟩
    walk_at "ge"
    rw [List.length_map]
    have hl40 := hw.len
    have en : (if (ws.length : Int) - 2 > 0 then (ws.length : Int) - 2 else 0).fdiv 2 + 1 = (((ws.length - 2) / 2 + 1 : Nat) : Int) := by
      have f : ∀ n : Nat, n < 41 → (if (n : Int) - 2 > 0 then (n : Int) - 2 else 0).fdiv 2 + 1 = (((n - 2) / 2 + 1 : Nat) : Int) := by decide
      exact f _ (by omega)
    refine q_fdiv ⟨by decide, by decide⟩ ?_
    walk_at "ge"
    rw [en]
    refine ⟨by omega, by omega, by rw [rangeD_len]; exact Nat.lt_of_le_of_lt (by omega : _ ≤ 100) (by decide), lcI_map (ws := List.range ((ws.length - 2) / 2 + 1)) (enc := fun (m : Nat) => .int (0 + (m : Int))) (res := fun m => .int ((minsL ws).count m : Nat)) (by unfold rangeD; rw [show ((((ws.length - 2) / 2 + 1 : Nat) : Int) - 0).toNat = (ws.length - 2) / 2 + 1 by omega]) (fun m hm => ?_) ?_⟩
    · rw [Int.zero_add]
      refine wg_name ?_
      walk_at "ge"
      refine we_lCnt ?_
      walk_at "ge"
      refine ⟨(minsL ws).map fun k => ((k : Nat) : Int), by unfold minsL; rw [List.map_map, List.map_map]; rfl, ?_⟩
      walk_at "ge"
      rw [count_nat]
      exact ⟨rfl, rfl⟩
    · refine ⟨_, rfl, ?_⟩
      have e : D.tup ((List.range ((ws.length - 2) / 2 + 1)).map fun m => D.int ((minsL ws).count m : Nat)) = natsT (sidesL ws) := by
        unfold natsT sidesL sidesN
        rw [List.map_map]
        rfl
      rw [e]
      exact hF'
theorem sc__law_are_bows_right : FnScope ["pot", "many", "bow", "at", "field", "each", "number"] ["pot"] (defScope s_law_are_bows_right) := ⟨rfl, rfl, rfl, by decide +kernel, rfl, by decide +kernel, by decide +kernel⟩
theorem c__law_are_bows_right (T : Tx P K mg base) : Lw.CalG P w K mg base "_law_are_bows_right" 7 ["pot"] (potSp K 0 3 Srt) := by
  obtain ⟨fd, F⟩ := Lh.def_of T.d 39 (d := ds_law_are_bows_right)
  refine ⟨_, fd, T.glo "_law_are_bows_right" 39, F.kp, F.bindsN (fun _ _ _ _ _ _ us hl => by
      match us, hl with
      | [_], _ => rfl), ?_⟩
  have nd := sc__law_are_bows_right.nd
  refine Lw.fn_potG F sc__law_are_bows_right rfl (by decide) fun A outer s H E hg hr => ?_
  have hr65 := Lw.room65 hr
  refine ⟨_, (pss_cons (ps_set (i := 1) nd rfl (Or.inr rfl) (pe_op (op_addK K) pe_int (pe_callF (c__law_take (P := P) (w := w) (K := K) (mg := mg) (base := base) T) (hr.mono (by decide)) (pa_cons (pv 0) (pa_cons pe_int pa_nil)))))
      (pss_cons (ps_setLc (i := 2) (own := [("at", 3)]) (by rfl) nd rfl rfl (sw_true rfl rfl rfl (by decide +kernel)) (pi_range1 rfl (T.free "range" 61) (pa_cons (pv 1) pa_nil)) (blkOk_by (N := ["pot", "many", "bow", "at", "field", "each", "number"]) (sc := defScope s_law_are_bows_right) (by decide +kernel)) (fun _ _ _ _ _ => (pg_name (i := 3) nd rfl (.inl rfl))) (fun _ _ _ _ _ => pts_nil) (fun _ _ _ _ _ => (pe_tup (pa_cons (pe_op (op_addK K) pe_str (pe_callTy call_str_int (by rfl) (T.free "str" 63) (by decide +kernel) (pa_cons (pv 3) pa_nil))) (pa_cons (pe_op op_sub (pv 3) (pe_op op_fdivN (pv 1) pe_int)) (pa_cons (pe_op op_powA (pe_op op_sub (pv 3) (pe_op op_fdivN (pv 1) pe_int)) pe_int) pa_nil))))))
      (pss_cons (ps_set (i := 4) nd rfl (Or.inl rfl) (pe_makeF (m_Field (P := P) (w := w) (K := K) (mg := mg) (base := base) T) (hr.mono (by decide)) (pa_cons (pe_callF (c__law_text (P := P) (w := w) (K := K) (mg := mg) (base := base) T) (hr.mono (by decide)) (pa_cons (pv 2) pa_nil)) pa_nil)))
      (pss_cons (ps_if (PW.pt (pw_or (pt_cmpR (op_neK K hr.units) (pe_callX (c_crossings (P := P) (w := w) (K := K) (mg := mg) (base := base) T) (hr.mono (by decide)) LamX.takes0 (pa_cons (pv 4) pa_nil)) (pe_callF (c__law_choose (P := P) (w := w) (K := K) (mg := mg) (base := base) T) (hr.mono (by decide)) (pa_cons (pv 1) (pa_cons pe_int pa_nil))) (nomark _)) (pw_or1 (pt_not (pt_val (pe_callG (c__law_are_sides_right (P := P) (w := w) (K := K) (mg := mg) (base := base) T) hg (hr.mono (by decide)) (pa_cons (pv 2) (pa_cons (pe_callX (c_sides_of_pairs (P := P) (w := w) (K := K) (mg := mg) (base := base) T) (hr.mono (by decide)) LamX.takes0 (pa_cons (pv 4) pa_nil)) pa_nil)))))))) (pss_one (ps_ret pe_bl)) pss_nil)
      (pss_cons (ps_set (i := 5) nd rfl (Or.inl rfl) (pe_callX (c_sides_of_pairs (P := P) (w := w) (K := K) (mg := mg) (base := base) T) (hr.mono (by decide)) LamX.takes0 (pa_cons (pv 4) pa_nil)))
      (pss_one (ps_ret (pe_and (pe_cmpR (op_eqK K hr.units) (pe_ix (ix_K K (hu_of hr)) (pv 5) pe_int (fun _ _ => rfl)) (pv 1) (nomark _)) (pe_one (pe_callB (cr_allK K rfl) (by rfl) (T.free "all" 49) (by decide +kernel) (pa_cons (pe_lc (own := [("number", 6)]) (by rfl) nd (pi_anyK K (pe_slice (sl_K K) (pv 5) po_none (po_some (pe_op (op_addK K) (pe_op op_fdivN (pe_op op_sub (pv 1) pe_int) pe_int) pe_int)))) (blkOk_by (N := ["pot", "many", "bow", "at", "field", "each", "number"]) (sc := defScope s_law_are_bows_right) (by decide +kernel)) (fun _ _ _ _ _ => (pg_name (i := 6) nd rfl (.inl rfl))) (fun _ _ _ _ _ => pts_nil) (fun _ _ _ _ _ => (pe_cmpR (op_eqK K hr.units) (pv 6) (pv 1) (nomark _)))) pa_nil))))))))))), ?_⟩
  rintro m ds G hm hl ⟨rfl, hG⟩
  intro ex
  have hm' : m + 3 ≤ 1000000000 := hm
  refine ws_seq (ws_asg ?_)
  walk_at "ge"
  refine ⟨(by show m + 1 ≤ 1000000000; omega), rfl, 27, rfl, by decide, by decide, fun d d00 d01 => ?_⟩
  walk_at "ge"
  obtain ⟨n, en, n1, n2⟩ : ∃ n : Nat, 4 + d = (n : Int) ∧ 4 ≤ n ∧ n < 31 := ⟨(4 + d).toNat, by omega, by omega, by omega⟩
  rw [en]
  have hw := wsB_ok (bow_ok n n2 n1)
  have ho := bow_loose n
  have hs := bow_sides n2 n1
  have hc := bow_cross n2 n1
  have hS := bow_S n n2 n1
  have hl := bow_len n
  refine ws_seq (ws_asg ?_)
  walk_at "lc"
  refine wi_range1 ?_
  walk_at "ge"
  refine ⟨by omega, by omega, by rw [rangeD_len]; exact Nat.lt_of_le_of_lt (by omega : _ ≤ 100) (by decide), lcI_map (ws := List.range n) (enc := fun (y : Nat) => .int (0 + (y : Int))) (res := fun (y : Nat) => wellD (bowV n y)) (by unfold rangeD; rw [show ((n : Int) - 0).toNat = n by omega]) (fun y hy => ?_) ?_⟩
  · have hy2 := List.mem_range.mp hy
    rw [Int.zero_add]
    have z1 : (Str.ofString "b").length = 1 := by decide +kernel
    have z2 : (Str.ofString (toString (y : Int))).length ≤ 3 := by rw [len_tl, tl_numS]; exact numC_len (by decide : 0 < 2) (by omega)
    have hx : ((y : Int) - (n : Int).fdiv 2).natAbs ≤ 100 := by
      have f2 : ∀ n : Nat, n < 31 → (n : Int).fdiv 2 = ((n / 2 : Nat) : Int) := by decide
      have e := f2 n n2
      rw [e]
      omega
    walk_at "ge"
    refine q_str (log_small (k := 14) (by omega) (by decide) (by decide)) ?_
    refine q_addS (Nat.le_trans (m := 100) (by rw [z1]; omega) (by decide)) ?_
    walk_at "ge"
    refine q_fdiv ⟨by decide, by decide⟩ ?_
    walk_at "ge"
    refine q_fdiv ⟨by decide, by decide⟩ ?_
    walk_at "ge"
    refine q_pow (cpow 10 (by decide) (by omega) (by decide)) ?_
    walk_at "ge"
    exact rfl
  have er : D.lst ((List.range n).map fun (y : Nat) => wellD (bowV n y)) = .lst ((bowW n).map wellD) := by
    unfold bowW
    rw [List.map_map]
    rfl
  rw [er]
  generalize bowW n = ws at hw ho hs hc hl
  refine wg_name ?_
  refine ws_eq (show _ = [SD.pot (m + 1), .d (.int n), .d (.lst (ws.map wellD)), .un, .un, .un, .un] from rfl) ?_
  refine ws_seq (ws_asg ?_)
  walk_at "ge"
  refine ⟨ws, _, rfl, .inr rfl, hw, ?_⟩
  walk_at "ge"
  refine ⟨ws, rfl, hw, ?_⟩
  refine wg_name ?_
  refine ws_eq (show _ = [SD.pot (m + 1), .d (.int n), .d (.lst (ws.map wellD)), .un, .d (fldD (FC K) ws), .un, .un] from rfl) ?_
  refine ws_seq (ws_if (wt_or (wt_test ?_)))
  refine we_ne (we_callX0 (wa_cons (we_var rfl (wa_nil ⟨rfl, ws, rfl, hw, fun _ => ?_, fun t' h => by rw [ho] at h; cases h⟩))))
  walk_at "ge"
  refine ⟨n, 4, rfl, by omega, .inr rfl, ?_⟩
  rw [if_neg (by decide), hc]
  generalize ((n * (n - 1) * (n - 2) * (n - 3) / 24 : Nat) : Int) = cc
  show dEqB (.int cc) (.int cc) _
  walk_at "ge"
  rw [decide_eq_true rfl]
  refine ⟨fun _ => ?_, (fun h => nomatch h)⟩
  refine wt_not (wt_B (we_call (wa_cons (we_var rfl (wa_cons (we_callX0 (wa_cons (we_var rfl (wa_nil ⟨rfl, ws, rfl, hw, fun _ => ?_, fun t' h => by rw [ho] at h; cases h⟩))))))))) 
  refine wa_nil ⟨rfl, ws, _, rfl, .inr rfl, hw, by omega, left_right hw ho, few_ok hw ho, ?_⟩
  refine ⟨true, rfl, (fun z => by cases z), fun _ => ws_next ?_⟩
  refine ws_seq (ws_asg (we_callX0 (wa_cons (we_var rfl (wa_nil ⟨rfl, ws, rfl, hw, fun _ => ?_, fun t' h => by rw [ho] at h; cases h⟩)))))
  rw [hs]
  refine wg_name ?_
  refine ws_eq (show _ = [SD.pot (m + 1), .d (.int n), .d (.lst (ws.map wellD)), .un, .d (fldD (FC K) ws), .d (natsT (bowS n)), .un] from rfl) ?_
  refine ws_ret ?_
  walk_at "ge"
  refine q_ixT (xs := (bowS n).map fun (k : Nat) => D.int (k : Int)) (d := .int n) (atI_at (j := 0) (by rw [List.getElem?_map, hS.1]; rfl)) ?_
  walk_at "ge"
  rw [decide_eq_true rfl]
  refine ⟨fun _ => ?_, (fun h => nomatch h)⟩
  walk_at "ge"
  walk_at "lc"
  refine wi_any ?_
  walk_at "ge"
  refine q_fdiv ⟨by decide, by decide⟩ ?_
  walk_at "ge"
  have en2 : ((n : Int) - 3).fdiv 2 + 1 = (((n - 3) / 2 + 1 : Nat) : Int) := by
    have f : ∀ n : Nat, n < 31 → 4 ≤ n → ((n : Int) - 3).fdiv 2 + 1 = (((n - 3) / 2 + 1 : Nat) : Int) := by decide
    exact f n n2 n1
  rw [en2]
  refine q_slT (xs := (bowS n).map fun (k : Nat) => D.int (k : Int)) ?_
  rw [cut_take, ← List.map_take]
  refine ⟨_, rfl, by rw [List.length_map, List.length_take]; exact Nat.lt_of_le_of_lt (by omega : _ ≤ 100) (by decide), lcI_map (ws := (bowS n).take ((n - 3) / 2 + 1)) (enc := fun (k : Nat) => .int (k : Int)) (res := fun _ => .bl true) rfl (fun k hk => ?_) ?_⟩
  · have hk2 := hS.2 k hk
    subst hk2
    walk_at "ge"
    rw [decide_eq_true rfl]
    exact ⟨rfl, rfl⟩
  · refine q_bools (bs := ((bowS n).take ((n - 3) / 2 + 1)).map fun _ => true) (by rw [List.map_map]; rfl) ?_
    have ea : ((((bowS n).take ((n - 3) / 2 + 1)).map fun _ => true).all id) = true := by
      rw [List.all_map]
      exact List.all_eq_true.mpr fun _ _ => rfl
    rw [ea]
    exact ⟨hG, _, rfl, by omega⟩
theorem sc__law_cells : FnScope ["script", "most"] ["script", "most"] (defScope s_law_cells) := ⟨rfl, rfl, rfl, by decide +kernel, rfl, by decide +kernel, by decide +kernel⟩
theorem c__law_cells (T : Tx P K mg base) : Lw.Cal P w K mg base "_law_cells" 1 ["script", "most"] (pureSp K 2 Scl2) := by
  obtain ⟨fd, F⟩ := Lh.def_of T.d 24 (d := ds_law_cells)
  refine ⟨_, fd, T.glo "_law_cells" 24, F.kp, F.bindsN (fun _ _ _ _ _ _ us hl => by
      match us, hl with
      | [_, _], _ => rfl), Lw.kbn_of F (fun _ _ _ _ _ _ j us ws hj h1 h2 => by
      match j, us, ws, hj, h1, h2 with
      | 0, [], [_, _], _, _, _ => rfl
      | 1, [_], [_], _, _, _ => rfl
      | 2, [_, _], [], _, _, _ => rfl), ?_⟩
  have nd := sc__law_cells.nd
  refine Lw.fn_pure F sc__law_cells rfl (by decide) fun cdv A outer s H E hr => ?_
  have hr65 := Lw.room65 hr
  refine ⟨_, (pss_one (ps_ret (pe_listRg rfl (by rfl) (T.free "list" 57) (prg_1 (by rfl) (T.free "range" 61) (pe_callB (call_max2 rfl) (by rfl) (T.free "max" 58) (by decide +kernel) (pa_cons pe_int (pa_cons (pe_callB (call_min2 rfl) (by rfl) (T.free "min" 59) (by decide +kernel) (pa_cons (pv 1) (pa_cons (pe_callB (call_lenK K) (by rfl) (T.free "len" 56) (by decide +kernel) (pa_cons (pv 0) pa_nil)) pa_nil))) pa_nil))))))), ?_⟩
  rintro ds G hl ⟨sc, rfl, hG⟩
  intro ex
  walk_at "go"
  refine we_lstRg (wr_1 ?_)
  walk_at "go"
  generalize ((sc.length : Nat) : Int) = L
  obtain ⟨n, h1, h2, e⟩ : ∃ n : Nat, 1 ≤ n ∧ n ≤ 2 ∧ (if (if L < 2 then L else 2) > 1 then (if L < 2 then L else 2) else 1) = (n : Int) := by
    refine ⟨(if (if L < 2 then L else 2) > 1 then (if L < 2 then L else 2) else 1).toNat, ?_, ?_, ?_⟩ <;> split <;> split <;> omega
  rw [e]
  exact ⟨RgOk.of_le (by decide) (by omega) (by decide) (by omega), hG n h1 h2⟩
theorem sc__law_pot : FnScope ["script", "place", "cell", "own", "small"] ["script", "place"] (defScope s_law_pot) := ⟨rfl, rfl, rfl, by decide +kernel, rfl, by decide +kernel, by decide +kernel⟩
theorem c__law_pot (T : Tx P K mg base) : Lw.Cal P w K mg base "_law_pot" 1 ["script", "place"] (newSp K 2 Spt2) := by
  obtain ⟨fd, F⟩ := Lh.def_of T.d 21 (d := ds_law_pot)
  refine ⟨_, fd, T.glo "_law_pot" 21, F.kp, F.bindsN (fun _ _ _ _ _ _ us hl => by
      match us, hl with
      | [_, _], _ => rfl), Lw.kbn_of F (fun _ _ _ _ _ _ j us ws hj h1 h2 => by
      match j, us, ws, hj, h1, h2 with
      | 0, [], [_, _], _, _, _ => rfl
      | 1, [_], [_], _, _, _ => rfl
      | 2, [_, _], [], _, _, _ => rfl), ?_⟩
  have nd := sc__law_pot.nd
  refine Lw.fn_new F sc__law_pot rfl (by decide) fun cdv A outer s H E hr => ?_
  have hr65 := Lw.room65 hr
  refine ⟨_, (pss_cons (ps_set (i := 2) nd rfl (Or.inl rfl) (pe_ifExp (pt_cmpR op_lt (pv 1) (pe_callB (call_lenK K) (by rfl) (T.free "len" 56) (by decide +kernel) (pa_cons (pv 0) pa_nil)) (nomark _)) (pe_ix (ix_K K (hu_of hr)) (pv 0) (pv 1) (fun _ _ => rfl)) (pe_op (op_addK K) (pe_op (op_addK K) (pe_op op_modN (pe_callB (cr_sumK (K := K) rfl) (by rfl) (T.free "sum" 64) (by decide +kernel) (pa_cons (pe_slice (sl_K K) (pv 0) po_none (po_some pe_int)) pa_nil)) pe_int) (pe_op op_mulA pe_int (pv 1))) pe_int)))
      (pss_cons (ps_set (i := 3) nd rfl (Or.inl rfl) (pe_op op_mulA (pe_op op_modN (pe_callTy call_intA (by rfl) (T.free "int" 54) (by decide +kernel) (pa_cons (pe_callB call_abs (by rfl) (T.free "abs" 48) (by decide +kernel) (pa_cons (pv 2) pa_nil)) pa_nil)) (pe_op op_powA (pe_op op_powA pe_int pe_int) pe_int)) (pe_callTy call_intA (by rfl) (T.free "int" 54) (by decide +kernel) (pa_cons (pe_cmpR op_ge (pe_callB call_abs (by rfl) (T.free "abs" 48) (by decide +kernel) (pa_cons (pv 2) pa_nil)) (pe_op op_powA pe_int pe_int) (nomark _)) pa_nil))))
      (pss_cons (ps_set (i := 4) nd rfl (Or.inl rfl) (pe_op op_modN (pe_callTy call_intA (by rfl) (T.free "int" 54) (by decide +kernel) (pa_cons (pv 2) pa_nil)) pe_int))
      (pss_one (ps_ret (pe_lst (pa_cons (pv 3) (pa_cons (pe_op op_modN (pe_callTy call_intA (by rfl) (T.free "int" 54) (by decide +kernel) (pa_cons (pe_op (op_addK K) (pe_op (op_addK K) (pe_op op_mulA (pv 4) pe_int) (pe_op op_mulA (pe_op op_mulA pe_int (pv 1)) (pv 1))) pe_int) pa_nil)) pe_int) (pa_cons pe_int pa_nil))))))))), ?_⟩
  rintro ds G hl ⟨sc, pl, rfl, hp, hG⟩
  intro ex
  refine wsn_seq (ws_asg ?_)
  refine WE.mono (F := fun x ρ1 => ρ1 = rho ["script", "place", "cell", "own", "small"] [D.frl (sc.map D.int), .int pl] ∧ ∃ c : Int, x = .int c) ?_ (fun x ρ1 hx => ?_)
  · walk_at "ge"
    refine ⟨fun h => ?_, fun h => ?_⟩
    · have hl2 : pl < sc.length := by
        have := of_decide_eq_true h
        rw [List.length_map] at this
        omega
      walk_at "ge"
      refine q_ixF (d := .int (sc[pl])) (atI_at (by rw [List.getElem?_map, List.getElem?_eq_getElem hl2]; rfl)) ?_
      exact ⟨rfl, _, rfl⟩
    · walk_at "ge"
      refine we_sum ?_
      walk_at "ge"
      refine ⟨_, (cut_ints sc none (some 1)), ?_⟩
      walk_at "ge"
      refine q_mod (by decide) ?_
      walk_at "ge"
      exact ⟨_, rfl⟩
  · obtain ⟨rfl, c, rfl⟩ := hx
    have f1 := Int.fmod_nonneg_of_pos c (b := 2305843009213693951) (by decide)
    have f2 := Int.fmod_lt_of_pos c (b := 2305843009213693951) (by decide)
    refine wg_name ?_
    refine wsn_seq (ws_asg ?_)
    walk_at "ge"
    refine q_pow (cpow 4 (by decide) (by decide) (by decide)) ?_
    walk_at "ge"
    refine q_pow (cpow 240 (by decide) (by decide +kernel) (by decide)) ?_
    walk_at "ge"
    refine q_mod (by decide +kernel) ?_
    walk_at "ge"
    refine q_pow (cpow 4 (by decide) (by decide) (by decide)) ?_
    walk_at "ge"
    refine q_mul (.inl (.inr ⟨(b01 _).1, (b01 _).2.1⟩)) ?_
    walk_at "ge"
    refine wsn_seq (ws_asg ?_)
    walk_at "ge"
    refine q_mod (by decide) ?_
    walk_at "ge"
    refine wsn_ret (wn_lst ?_)
    walk_at "ge"
    refine q_mod (by decide) ?_
    walk_at "ge"
    refine hG _ _ ?_ (Int.fmod_nonneg_of_pos _ (by decide)) (Int.lt_trans (Int.fmod_lt_of_pos _ (by decide)) (by decide))
    refine Int.mul_nonneg (Int.fmod_nonneg_of_pos _ (by decide +kernel)) (b01 _).2.2
theorem sc__law_do_cross : FnScope ["one", "other", "first", "last", "sides"] ["one", "other", "first", "last"] (defScope s_law_do_cross) := ⟨rfl, rfl, rfl, by decide +kernel, rfl, by decide +kernel, by decide +kernel⟩
theorem c__law_do_cross (T : Tx P K mg base) : Lw.Cal P w K mg base "_law_do_cross" 2 ["one", "other", "first", "last"] (pureSp K 4 (S4 fun a b c d => .bl (crossB a b c d))) := by
  obtain ⟨fd, F⟩ := Lh.def_of T.d 33 (d := ds_law_do_cross)
  refine ⟨_, fd, T.glo "_law_do_cross" 33, F.kp, F.bindsN (fun _ _ _ _ _ _ us hl => by
      match us, hl with
      | [_, _, _, _], _ => rfl), Lw.kbn_of F (fun _ _ _ _ _ _ j us ws hj h1 h2 => by
      match j, us, ws, hj, h1, h2 with
      | 0, [], [_, _, _, _], _, _, _ => rfl
      | 1, [_], [_, _, _], _, _, _ => rfl
      | 2, [_, _], [_, _], _, _, _ => rfl
      | 3, [_, _, _], [_], _, _, _ => rfl
      | 4, [_, _, _, _], [], _, _, _ => rfl), ?_⟩
  have nd := sc__law_do_cross.nd
  refine Lw.fn_pure F sc__law_do_cross rfl (by decide) fun cdv A outer s H E hr => ?_
  have hr65 := Lw.room65 hr
  refine ⟨_, (pss_cons (ps_set (i := 4) nd rfl (Or.inl rfl) (pe_op op_mulA (pe_callF (c__law_bend (P := P) (w := w) (K := K) (mg := mg) (base := base) T) (hr.mono (by decide)) (pa_cons (pv 0) (pa_cons (pv 1) (pa_cons (pv 2) pa_nil)))) (pe_callF (c__law_bend (P := P) (w := w) (K := K) (mg := mg) (base := base) T) (hr.mono (by decide)) (pa_cons (pv 0) (pa_cons (pv 1) (pa_cons (pv 3) pa_nil))))))
      (pss_one (ps_ret (pe_and (pe_cmpR op_lt (pv 4) pe_int (nomark _)) (pe_one (pe_cmpR op_lt (pe_op op_mulA (pe_callF (c__law_bend (P := P) (w := w) (K := K) (mg := mg) (base := base) T) (hr.mono (by decide)) (pa_cons (pv 2) (pa_cons (pv 3) (pa_cons (pv 0) pa_nil)))) (pe_callF (c__law_bend (P := P) (w := w) (K := K) (mg := mg) (base := base) T) (hr.mono (by decide)) (pa_cons (pv 2) (pa_cons (pv 3) (pa_cons (pv 1) pa_nil))))) pe_int (nomark _))))))), ?_⟩
  rintro ds G hl ⟨a, b, c, d, rfl, ha, hb, hc, hd, hG⟩
  intro ex
  walk_at "go"
  refine ⟨a, b, c, rfl, ha, hb, hc, ?_⟩
  walk_at "go"
  refine ⟨a, b, d, rfl, ha, hb, hd, ?_⟩
  have m1 := bend_le ha hb hc
  have m2 := bend_le ha hb hd
  have m3 := bend_le hc hd ha
  have m4 := bend_le hc hd hb
  show dMul (.int (bendI a b c)) (.int (bendI a b d)) _
  walk_at "go"
  refine ⟨fun h1 => ?_, fun h1 => ?_⟩
  · walk_at "go"
    refine ⟨c, d, a, rfl, hc, hd, ha, ?_⟩
    walk_at "go"
    refine ⟨c, d, b, rfl, hc, hd, hb, ?_⟩
    show dMul (.int (bendI c d a)) (.int (bendI c d b)) _
    walk_at "go"
    have e : crossB a b c d = decide (bendI c d a * bendI c d b < 0) := by unfold crossB; rw [h1, Bool.true_and]
    rw [← e]
    exact hG
  · have e : crossB a b c d = false := by unfold crossB; rw [h1, Bool.false_and]
    have hg2 : G (.bl (crossB a b c d)) := hG
    rw [e] at hg2
    exact hg2
theorem sc__law_name : FnScope ["pot", "some", "letters", "figures", "word", "lap", "at"] ["pot", "some"] (defScope s_law_name) := ⟨rfl, rfl, rfl, by decide +kernel, rfl, by decide +kernel, by decide +kernel⟩
theorem c__law_name (T : Tx P K mg base) : Lw.Cal P w K mg base "_law_name" 2 ["pot", "some"] (potSp K 1 9 Snm1) := by
  obtain ⟨fd, F⟩ := Lh.def_of T.d 26 (d := ds_law_name)
  refine ⟨_, fd, T.glo "_law_name" 26, F.kp, F.bindsN (fun _ _ _ _ _ _ us hl => by
      match us, hl with
      | [_, _], _ => rfl), Lw.kbn_of F (fun _ _ _ _ _ _ j us ws hj h1 h2 => by
      match j, us, ws, hj, h1, h2 with
      | 0, [], [_, _], _, _, _ => rfl
      | 1, [_], [_], _, _, _ => rfl
      | 2, [_, _], [], _, _, _ => rfl), ?_⟩
  have nd := sc__law_name.nd
  refine Lw.fn_pot F sc__law_name rfl (by decide) fun cdv A outer s H E hr => ?_
  have hr65 := Lw.room65 hr
  refine ⟨_, (pss_cons (ps_asg (pe_tup (pa_cons pe_str (pa_cons pe_str pa_nil))) (pg_seqK (n := 2) K rfl (pgs_cons (pg_name (i := 2) nd rfl (.inl rfl)) (pgs_cons (pg_name (i := 3) nd rfl (.inl rfl)) pgs_nil))))
      (pss_cons (ps_set (i := 4) nd rfl (Or.inl rfl) (pe_ix (ix_K K (hu_of hr)) (pv 2) (pe_callF (c__law_take (P := P) (w := w) (K := K) (mg := mg) (base := base) T) (hr.mono (by decide)) (pa_cons (pv 0) (pa_cons pe_int pa_nil))) (fun _ _ => rfl)))
      (pss_cons (ps_for PassesOwn.never rfl (pi_range1 rfl (T.free "range" 61) (pa_cons (pe_callF (c__law_take (P := P) (w := w) (K := K) (mg := mg) (base := base) T) (hr.mono (by decide)) (pa_cons (pv 0) (pa_cons pe_int pa_nil))) pa_nil)) (pg_name (i := 5) nd rfl (.inl rfl)) (pss_one (ps_set (i := 4) nd rfl (Or.inl rfl) (pe_op (op_addK K) (pv 4) (pe_ix (ix_K K (hu_of hr)) (pe_op (op_addK K) (pv 2) (pv 3)) (pe_callF (c__law_take (P := P) (w := w) (K := K) (mg := mg) (base := base) T) (hr.mono (by decide)) (pa_cons (pv 0) (pa_cons pe_int pa_nil))) (fun _ _ => rfl))))))
      (pss_cons (ps_for PassesOwn.never rfl (pi_range1 rfl (T.free "range" 61) (pa_cons (pe_op (op_addK K) (pe_callB (call_lenK K) (by rfl) (T.free "len" 56) (by decide +kernel) (pa_cons (pv 1) pa_nil)) pe_int) pa_nil)) (pg_name (i := 6) nd rfl (.inl rfl)) (pss_one (ps_if (pt_cmpR (op_inK K w hr65) (pv 4) (pv 1) (by rfl)) (pss_one (ps_set (i := 4) nd rfl (Or.inl rfl) (pe_op (op_addK K) pe_str (pe_callTy call_str_int (by rfl) (T.free "str" 63) (by decide +kernel) (pa_cons (pe_callTy call_intA (by rfl) (T.free "int" 54) (by decide +kernel) (pa_cons (pv 6) pa_nil)) pa_nil))))) pss_nil)))
      (pss_one (ps_ret (pv 4))))))), ?_⟩
  rintro m ds G hm hl ⟨ns, rfl, h4, hG⟩
  intro ex
  have hm' : m + 9 ≤ 1000000000 := hm
  have L1 : (Str.ofString "abcdefghijklmnopqrstuvwxyz").length ≤ sizeLine := by decide +kernel
  have L2' : (Str.ofString "abcdefghijklmnopqrstuvwxyz0123456789").length ≤ sizeLine := by decide +kernel
  have L3 : (Str.ofString "abcdefghijklmnopqrstuvwxyz").length + (Str.ofString "0123456789").length ≤ sizeLine := by decide +kernel
  refine ws_seq (ws_asg ?_)
  walk_at "ge"
  walk_at "seq"
  walk_at "ge"
  refine ws_seq (ws_asg ?_)
  walk_at "ge"
  refine ⟨(by show m + 1 ≤ 1000000000; omega), rfl, 26, rfl, by decide, by decide, fun d d0 d1 => ?_⟩
  obtain ⟨c, hc1, hc2⟩ := let_at d0 d1
  refine q_ixS L1 hc1 ?_
  refine wg_name ?_
  refine ws_seq (ws_for (wi_range1 ?_))
  walk_at "ge"
  refine ⟨(by show m + 1 + 1 ≤ 1000000000; omega), rfl, 8, rfl, by decide, by decide, fun k k0 k1 => ?_⟩
  refine ⟨k, rfl, by omega, by omega, fun i ρ => ∃ (w : Str) (m' : Nat) (s6 : SD), ρ = [SD.pot m', .d (.lst (ns.map D.str)), .d (.str (Str.ofString "abcdefghijklmnopqrstuvwxyz")), .d (.str (Str.ofString "0123456789")), .d (.str w), s6, .un] ∧ nameB w = true ∧ w.length ≤ i + 1 ∧ m' ≤ m + 2 + i, ⟨⟨#[c]⟩, _, _, rfl, name_one hc2, Nat.le_refl _, Nat.le_refl _⟩, fun i ρi x hx ⟨w, m', s6, hρ, e1, e2, e3⟩ => ?_, fun ρ' ⟨w, m', s6, hρ, e1, e2, e3⟩ => ?_⟩
  · have hi := (rangeD_at hx).1
    subst hρ
    refine wg_name ?_
    refine ws_asg ?_
    walk_at "ge"
    rw [signs_cat]
    refine ⟨(by show m' + 1 ≤ 1000000000; omega), rfl, 36, rfl, by decide, by decide, fun d d0 d1 => ?_⟩
    obtain ⟨c2, hc3, hc4⟩ := sign_at d0 d1
    refine q_ixS L2' hc3 ?_
    have l1 : (⟨#[c2]⟩ : Str).length = 1 := rfl
    refine q_addS (Nat.le_trans (m := 100) (by rw [l1]; omega) (by decide)) ?_
    refine wg_name ?_
    refine ⟨w ++ (⟨#[c2]⟩ : Str), m' + 1, _, rfl, name_snoc e1 (by omega) hc4, ?_, by omega⟩
    rw [str_len, l1]
    omega
  · rw [rangeD_len] at e3
    have k8 : k.toNat ≤ 7 := by omega
    subst hρ
    refine ws_seq (ws_for (wi_range1 ?_))
    walk_at "ge"
    rw [List.length_map]
    refine ⟨by omega, by omega, fun i ρ => ∃ (w : Str) (s6 s7 : SD), ρ = [SD.pot m', .d (.lst (ns.map D.str)), .d (.str (Str.ofString "abcdefghijklmnopqrstuvwxyz")), .d (.str (Str.ofString "0123456789")), .d (.str w), s6, s7] ∧ nameB w = true ∧ (w ∉ ns ∨ Stuck ns i w), ⟨w, _, _, rfl, e1, .inr ⟨fun k hk => absurd hk (Nat.not_lt_zero _), fun h => absurd h (Nat.lt_irrefl _)⟩⟩, fun i ρi x hx ⟨w, s6, s7, hρ, g1, g2⟩ => ?_, fun ρ' ⟨w, s6, s7, hρ, g1, g2⟩ => ?_⟩
    · obtain ⟨hi, rfl⟩ := rangeD_at hx
      subst hρ
      refine wg_name ?_
      refine ws_if (wt_test ?_)
      walk_at "ge"
      refine .inl ⟨_, rfl, rfl, flat_strs (f := fun v : Str => v), ?_⟩
      rw [inF_str]
      walk_at "x1"
      refine ⟨fun hb => ?_, fun hb => ?_⟩
      · have hw := of_decide_eq_true hb
        refine ws_asg ?_
        walk_at "ge"
        refine q_str (log_small (k := 14) (by omega) (by decide) (by decide)) ?_
        have z1 : (Str.ofString "g").length = 1 := by decide +kernel
        have z2 : (Str.ofString (toString (i : Int))).length ≤ 3 := by rw [len_tl, tl_numS]; exact numC_len (by decide : 0 < 2) (by omega)
        refine q_addS (Nat.le_trans (m := 100) (by rw [z1]; omega) (by decide)) ?_
        refine wg_name ?_
        exact ⟨gN i, _, _, rfl, gN_name i (by omega), .inr (stuck_step (g2.resolve_left (fun z => z hw)) hw)⟩
      · exact ws_next ⟨w, _, _, rfl, g1, .inl (of_decide_eq_false hb)⟩
    · rw [rangeD_len] at g2
      have en : ((ns.length : Int) + 1).toNat = ns.length + 1 := by omega
      rw [en] at g2
      subst hρ
      have hw : w ∉ ns := g2.elim id stuck_end
      walk_at "go"
      exact ⟨hG w g1 hw, _, rfl, by omega⟩
theorem sc__law_some : FnScope ["pot", "pool", "many", "rest", "found", "lap"] ["pot", "pool", "many"] (defScope s_law_some) := ⟨rfl, rfl, rfl, by decide +kernel, rfl, by decide +kernel, by decide +kernel⟩
theorem c__law_some (T : Tx P K mg base) : Lw.Cal P w K mg base "_law_some" 2 ["pot", "pool", "many"] (potNSp K 2 40 SsmN) := by
  obtain ⟨fd, F⟩ := Lh.def_of T.d 25 (d := ds_law_some)
  refine ⟨_, fd, T.glo "_law_some" 25, F.kp, F.bindsN (fun _ _ _ _ _ _ us hl => by
      match us, hl with
      | [_, _, _], _ => rfl), Lw.kbn_of F (fun _ _ _ _ _ _ j us ws hj h1 h2 => by
      match j, us, ws, hj, h1, h2 with
      | 0, [], [_, _, _], _, _, _ => rfl
      | 1, [_], [_, _], _, _, _ => rfl
      | 2, [_, _], [_], _, _, _ => rfl
      | 3, [_, _, _], [], _, _, _ => rfl), ?_⟩
  have nd := sc__law_some.nd
  refine Lw.fn_potN F sc__law_some rfl (by decide) fun cdv A outer s H E hr => ?_
  have hr65 := Lw.room65 hr
  refine ⟨_, (pss_cons (ps_par (i := 3) (j := 4) (by rfl) nd rfl rfl (by decide) rfl rfl (pa_cons (pe_callTy (call_listK K) (by rfl) (T.free "list" 57) (by decide +kernel) (pa_cons (pv 1) pa_nil)) (pa_cons (pe_lst pa_nil) pa_nil)) (by rfl))
      (pss_cons (ps_for PassesOwn.never rfl (pi_range1 rfl (T.free "range" 61) (pa_cons (pv 2) pa_nil)) (pg_name (i := 5) nd rfl (.inl rfl)) (pss_one (ps_expr (pe_bm PySem.F.plainAttrs_list PySem.F.slot_list_append PySem.F.type_list_append mt_append (pv 4) (pa_cons (pe_bm PySem.F.plainAttrs_list PySem.F.slot_list_pop PySem.F.type_list_pop mt_popAt (pv 3) (pa_cons (pe_callF (c__law_take (P := P) (w := w) (K := K) (mg := mg) (base := base) T) (hr.mono (by decide)) (pa_cons (pv 0) (pa_cons (pe_callB (call_lenK K) (by rfl) (T.free "len" 56) (by decide +kernel) (pa_cons (pv 3) pa_nil)) pa_nil))) pa_nil)) pa_nil)))))
      (pss_one (ps_ret (pv 4))))), ?_⟩
  rintro m ds G hm hl ⟨xs, a, rfl, h1, h2, h3, hG⟩
  intro ex pa
  have hm' : m + 40 ≤ 1000000000 := hm
  refine wsq_seq (ws_parNN (by decide) (wn_list ?_))
  walk_at "ge"
  walk_at "cx"
  refine wsq_seq (ws_for (wi_range1 ?_))
  walk_at "ge"
  refine ⟨by omega, by omega, fun i ρ => ∃ ys rest m' s, ρ = [SD.pot m', .d (.lst (xs.map D.str)), .d (.int a), .ow (rest.map D.str), .ow (ys.map D.str), s] ∧ ys.length = i ∧ (ys ++ rest).Perm xs ∧ m' ≤ m + i, ⟨[], xs, m, _, rfl, rfl, List.Perm.refl _, Nat.le_refl _⟩, fun i ρi x hx ⟨ys, rest, m', s, hρ, e1, e2, e3⟩ => ?_, fun ρ' ⟨ys, rest, m', s, hρ, e1, e2, e3⟩ => ?_⟩
  · have hi : i < a := by
      obtain ⟨hi, -⟩ := List.getElem?_eq_some_iff.mp hx
      rw [rangeD_len] at hi
      omega
    have hl3 := e2.length_eq
    rw [List.length_append] at hl3
    subst hρ
    refine wg_name ?_
    refine ws_drop (we_append (i := 4) rfl (we_popAt (i := 3) rfl (we_callP (i := 0) rfl (wa_cons (we_lenO (i := 3) rfl (.inl rfl) (wa_nil ?_))))))
    refine ⟨m', rfl, (by show m' + 1 ≤ 1000000000; omega), rfl, _, rfl, (by rw [List.length_map]; omega), (by rw [List.length_map]; omega), fun d h0 h4 => ?_⟩
    rw [List.length_map] at h4
    have hd : d.toNat < rest.length := by omega
    refine ⟨_, d.toNat, .str rest[d.toNat], (by rw [Int.toNat_of_nonneg h0]), rfl, (by rw [List.getElem?_map, List.getElem?_eq_getElem hd]; rfl), (by omega), ?_⟩
    refine ⟨_, rfl, (by rw [List.length_map]; exact Nat.lt_of_le_of_lt (by omega : ys.length ≤ 100) (by decide)), ?_⟩
    refine ⟨ys ++ [rest[d.toNat]], rest.eraseIdx d.toNat, m' + 1, _, (by rw [List.map_append, erase_map]; rfl), (by rw [List.length_append, e1]; rfl), ?_, by omega⟩
    rw [List.append_assoc]
    exact ((erase_perm hd).append_left ys).trans e2
  · rw [rangeD_len] at e1 e3
    subst hρ
    exact wsq_own (m := m') rfl (by decide) rfl ⟨hG ys rest (by omega) e2, _, rfl, by omega⟩
theorem sc__law_names : FnScope ["pot", "many", "found", "lap"] ["pot", "many"] (defScope s_law_names) := ⟨rfl, rfl, rfl, by decide +kernel, rfl, by decide +kernel, by decide +kernel⟩
theorem c__law_names (T : Tx P K mg base) : Lw.Cal P w K mg base "_law_names" 3 ["pot", "many"] (potSp K 1 200 Snm9) := by
  obtain ⟨fd, F⟩ := Lh.def_of T.d 27 (d := ds_law_names)
  refine ⟨_, fd, T.glo "_law_names" 27, F.kp, F.bindsN (fun _ _ _ _ _ _ us hl => by
      match us, hl with
      | [_, _], _ => rfl), Lw.kbn_of F (fun _ _ _ _ _ _ j us ws hj h1 h2 => by
      match j, us, ws, hj, h1, h2 with
      | 0, [], [_, _], _, _, _ => rfl
      | 1, [_], [_], _, _, _ => rfl
      | 2, [_, _], [], _, _, _ => rfl), ?_⟩
  have nd := sc__law_names.nd
  refine Lw.fn_pot F sc__law_names rfl (by decide) fun cdv A outer s H E hr => ?_
  have hr65 := Lw.room65 hr
  refine ⟨_, (pss_cons (ps_set (i := 2) nd rfl (Or.inl rfl) (pe_callF (c__law_some (P := P) (w := w) (K := K) (mg := mg) (base := base) T) (hr.mono (by decide)) (pa_cons (pv 0) (pa_cons (pe_lst (pa_cons pe_str (pa_cons pe_str (pa_cons pe_str (pa_cons pe_str (pa_cons pe_str (pa_cons pe_str pa_nil))))))) (pa_cons (pe_callB (call_min2 rfl) (by rfl) (T.free "min" 59) (by decide +kernel) (pa_cons (pv 1) (pa_cons (pe_callF (c__law_take (P := P) (w := w) (K := K) (mg := mg) (base := base) T) (hr.mono (by decide)) (pa_cons (pv 0) (pa_cons pe_int pa_nil))) pa_nil))) pa_nil)))))
      (pss_cons (ps_for PassesOwn.never rfl (pi_range1 rfl (T.free "range" 61) (pa_cons (pe_op op_sub (pv 1) (pe_callB (call_lenK K) (by rfl) (T.free "len" 56) (by decide +kernel) (pa_cons (pv 2) pa_nil))) pa_nil)) (pg_name (i := 3) nd rfl (.inl rfl)) (pss_one (ps_expr (pe_bm PySem.F.plainAttrs_list PySem.F.slot_list_append PySem.F.type_list_append mt_append (pv 2) (pa_cons (pe_callF (c__law_name (P := P) (w := w) (K := K) (mg := mg) (base := base) T) (hr.mono (by decide)) (pa_cons (pv 0) (pa_cons (pv 2) pa_nil))) pa_nil)))))
      (pss_one (ps_ret (pe_callTy (call_tupleK K) (by rfl) (T.free "tuple" 66) (by decide +kernel) (pa_cons (pe_callF (c__law_some (P := P) (w := w) (K := K) (mg := mg) (base := base) T) (hr.mono (by decide)) (pa_cons (pv 0) (pa_cons (pv 2) (pa_cons (pv 1) pa_nil)))) pa_nil)))))), ?_⟩
  rintro m ds G hm hl ⟨m1, rfl, h1, h2, hG⟩
  intro ex
  have hm' : m + 200 ≤ 1000000000 := hm
  refine ws_seq (ws_own (wn_callP (i := 0) rfl ?_))
  walk_at "ge"
  refine ⟨(by show m + 1 ≤ 1000000000; omega), rfl, 5, rfl, by decide, by decide, fun d d0 d5 => ?_⟩
  obtain ⟨a, ha, ha1, ha2⟩ : ∃ a : Nat, (if d < (m1 : Int) then d else (m1 : Int)) = (a : Int) ∧ a ≤ 4 ∧ a ≤ m1 := ⟨(if d < (m1 : Int) then d else (m1 : Int)).toNat, by split <;> omega, by split <;> omega, by split <;> omega⟩
  walk_at "ge"
  rw [ha]
  walk_at "ge"
  refine ⟨(by show m + 1 + 40 ≤ 1000000000; omega), rfl, pool6, a, rfl, (by show a ≤ 6; omega), by omega, by decide, fun ys zs hy hp => ?_⟩
  have ny : ∀ n ∈ ys, nameB n = true := fun n hn => pool6_ok.1 n (hp.subset (List.mem_append_left _ hn))
  have dy : ys.Nodup := (hp.nodup_iff.mpr pool6_ok.2).sublist (List.sublist_append_left _ _)
  refine ws_seq (ws_for (wi_range1 (we_sub (we_var rfl (we_lenO (i := 2) rfl (.inl rfl) ?_)))))
  walk_at "ge"
  rw [List.length_map, hy]
  refine ⟨by omega, by omega, fun i ρ => ∃ (ns : List Str) (m' : Nat) (s3 : SD), ρ = [SD.pot m', .d (.int m1), .ow (ns.map D.str), s3] ∧ s3.mu = false ∧ ns.length = a + i ∧ ns.Nodup ∧ (∀ n ∈ ns, nameB n = true) ∧ m' ≤ m + 41 + 9 * i, ⟨ys, _, _, rfl, rfl, hy, dy, ny, Nat.le_refl _⟩, fun i ρi x hx ⟨ns, m', s3, hρ, e0, e1, e2, e3, e4⟩ => ?_, fun ρ' ⟨ns, m', s3, hρ, e0, e1, e2, e3, e4⟩ => ?_⟩
  · obtain ⟨hi, rfl⟩ := rangeD_at hx
    subst hρ
    refine wg_name ?_
    refine ws_drop (we_append (i := 2) rfl (we_peekP (i := 2) rfl ?_))
    refine we_callP (i := 0) rfl (wa_cons (we_var rfl (wa_nil ?_)))
    refine ⟨m', rfl, (by show m' + 9 ≤ 1000000000; omega), rfl, ns, rfl, by omega, fun w w1 w2 => ?_⟩
    refine ⟨rfl, rfl, fun j s h => ?_, ns.map D.str, rfl, ?_, ?_⟩
    · match j, h with
      | 0, h => cases h; exact .inr (.inl ⟨_, rfl⟩)
      | 1, h => cases h; exact .inr (.inr ⟨rfl, rfl⟩)
      | 2, h => exact .inl rfl
      | 3, h => cases h; exact .inr (.inr ⟨rfl, rfl⟩)
      | j + 4, h => cases h
    · rw [List.length_map]
      exact Nat.lt_of_le_of_lt (by omega : ns.length ≤ 100) (by decide)
    · refine ⟨ns ++ [w], m' + 9, _, congrArg (fun z => [SD.pot (m' + 9), .d (.int m1), .ow z, _]) (by rw [List.map_append]; rfl), rfl, by rw [List.length_append]; show ns.length + 1 = _; omega, ?_, fun n hn => ?_, by omega⟩
      · rw [List.nodup_append]
        refine ⟨e2, by simp, fun a ha b hb e => ?_⟩
        rw [List.mem_singleton] at hb
        subst hb
        subst e
        exact w2 ha
      · rcases List.mem_append.mp hn with hn | hn
        · exact e3 n hn
        · rw [List.mem_singleton.mp hn]; exact w1
  · rw [rangeD_len] at e1 e4
    subst hρ
    have l1 : ns.length = m1 := by omega
    refine ws_ret (we_tuple (we_ofN (wn_callP (i := 0) rfl (wa_cons (we_still (i := 2) rfl (wa_cons (we_var rfl (wa_nil ?_))))))))
    refine ⟨m', rfl, (by show m' + 40 ≤ 1000000000; omega), rfl, ns, m1, rfl, by omega, by omega, by omega, fun ys2 zs2 hy2 hp2 => ?_⟩
    refine ⟨_, rfl, hG ys2 hy2 ((hp2.nodup_iff.mpr e2).sublist (List.sublist_append_left _ _)) (fun n hn => e3 n (hp2.subset (List.mem_append_left _ hn))), _, rfl, by omega⟩
theorem sc__law_spot : FnScope ["pot", "way", "wide", "one", "other"] ["pot", "way", "wide"] (defScope s_law_spot) := ⟨rfl, rfl, rfl, by decide +kernel, rfl, by decide +kernel, by decide +kernel⟩
theorem c__law_spot (T : Tx P K mg base) : Lw.Cal P w K mg base "_law_spot" 2 ["pot", "way", "wide"] (potSp K 2 2 Ssp5) := by
  obtain ⟨fd, F⟩ := Lh.def_of T.d 28 (d := ds_law_spot)
  refine ⟨_, fd, T.glo "_law_spot" 28, F.kp, F.bindsN (fun _ _ _ _ _ _ us hl => by
      match us, hl with
      | [_, _, _], _ => rfl), Lw.kbn_of F (fun _ _ _ _ _ _ j us ws hj h1 h2 => by
      match j, us, ws, hj, h1, h2 with
      | 0, [], [_, _, _], _, _, _ => rfl
      | 1, [_], [_, _], _, _, _ => rfl
      | 2, [_, _], [_], _, _, _ => rfl
      | 3, [_, _, _], [], _, _, _ => rfl), ?_⟩
  have nd := sc__law_spot.nd
  refine Lw.fn_pot F sc__law_spot rfl (by decide) fun cdv A outer s H E hr => ?_
  have hr65 := Lw.room65 hr
  refine ⟨_, (pss_cons (ps_par (i := 3) (j := 4) (by rfl) nd rfl rfl (by decide) rfl rfl (pa_cons (pe_op op_sub (pe_callF (c__law_take (P := P) (w := w) (K := K) (mg := mg) (base := base) T) (hr.mono (by decide)) (pa_cons (pv 0) (pa_cons (pe_op (op_addK K) (pe_op op_mulA pe_int (pv 2)) pe_int) pa_nil))) (pv 2)) (pa_cons (pe_op op_sub (pe_callF (c__law_take (P := P) (w := w) (K := K) (mg := mg) (base := base) T) (hr.mono (by decide)) (pa_cons (pv 0) (pa_cons (pe_op (op_addK K) (pe_op op_mulA pe_int (pv 2)) pe_int) pa_nil))) (pv 2)) pa_nil)) (by rfl))
      (pss_cons (ps_if (pt_cmpR (op_eqK K hr.units) (pv 1) pe_int (nomark _)) (pss_one (ps_ret (pe_tup (pa_cons (pe_callTy call_intA (by rfl) (T.free "int" 54) (by decide +kernel) (pa_cons (pv 3) pa_nil)) (pa_cons (pe_callTy call_intA (by rfl) (T.free "int" 54) (by decide +kernel) (pa_cons (pe_op op_mulA pe_int (pv 3)) pa_nil)) pa_nil))))) pss_nil)
      (pss_cons (ps_if (pt_cmpR (op_eqK K hr.units) (pv 1) pe_int (nomark _)) (pss_one (ps_ret (pe_tup (pa_cons (pe_callTy call_intA (by rfl) (T.free "int" 54) (by decide +kernel) (pa_cons (pe_op op_modN (pv 3) pe_int) pa_nil)) (pa_cons (pe_callTy call_intA (by rfl) (T.free "int" 54) (by decide +kernel) (pa_cons (pe_op op_modN (pv 4) pe_int) pa_nil)) pa_nil))))) pss_nil)
      (pss_cons (ps_if (pt_cmpR (op_eqK K hr.units) (pv 1) pe_int (nomark _)) (pss_one (ps_ret (pe_tup (pa_cons (pe_callTy call_intA (by rfl) (T.free "int" 54) (by decide +kernel) (pa_cons (pe_op op_sub (pe_op op_modN (pv 3) pe_int) pe_int) pa_nil)) (pa_cons (pe_callTy call_intA (by rfl) (T.free "int" 54) (by decide +kernel) (pa_cons (pe_op op_powA (pe_op op_sub (pe_op op_modN (pv 3) pe_int) pe_int) pe_int) pa_nil)) pa_nil))))) pss_nil)
      (pss_one (ps_ret (pe_tup (pa_cons (pe_callTy call_intA (by rfl) (T.free "int" 54) (by decide +kernel) (pa_cons (pv 3) pa_nil)) (pa_cons (pe_callTy call_intA (by rfl) (T.free "int" 54) (by decide +kernel) (pa_cons (pv 4) pa_nil)) pa_nil))))))))), ?_⟩
  rintro m ds G hm hl ⟨a, b, rfl, h1, h2, hG⟩
  intro ex
  have hm' : m + 2 ≤ 1000000000 := hm
  have fin : ∀ x y : Int, x.natAbs ≤ 8000 → y.natAbs ≤ 8000 → G (.tup [.int x, .int y]) := fun x y hx hy => hG (x, y) hx hy
  refine ws_seq (ws_par ?_)
  walk_at "ge"
  refine ⟨(by show m + 1 ≤ 1000000000; omega), rfl, 2 * b + 1, rfl, by omega, by omega, fun p p0 p1 => ?_⟩
  walk_at "ge"
  refine ⟨(by show m + 1 + 1 ≤ 1000000000; omega), rfl, 2 * b + 1, rfl, by omega, by omega, fun q q0 q1 => ?_⟩
  walk_at "ge"
  have f1 := Int.fmod_nonneg_of_pos (p - b) (b := 4) (by decide)
  have f2 := Int.fmod_lt_of_pos (p - b) (b := 4) (by decide)
  have f3 := Int.fmod_nonneg_of_pos (q - b) (b := 4) (by decide)
  have f4 := Int.fmod_lt_of_pos (q - b) (b := 4) (by decide)
  have f5 := Int.fmod_nonneg_of_pos (p - b) (b := 15) (by decide)
  have f6 := Int.fmod_lt_of_pos (p - b) (b := 15) (by decide)
  refine ws_seq (ws_if (wt_test ?_))
  walk_at "ge"
  refine ⟨fun h => ?_, fun h => ?_⟩
  · walk_at "go"
    exact ⟨fin _ _ (by omega) (by omega), _, rfl, by omega⟩
  refine ws_next (ws_seq (ws_if (wt_test ?_)))
  walk_at "ge"
  refine ⟨fun h => ?_, fun h => ?_⟩
  · walk_at "go"
    refine q_mod (by decide) ?_
    walk_at "go"
    refine q_mod (by decide) ?_
    walk_at "go"
    exact ⟨fin _ _ (by omega) (by omega), _, rfl, by omega⟩
  refine ws_next (ws_seq (ws_if (wt_test ?_)))
  walk_at "ge"
  refine ⟨fun h => ?_, fun h => ?_⟩
  · walk_at "go"
    refine q_mod (by decide) ?_
    walk_at "go"
    refine q_mod (by decide) ?_
    walk_at "go"
    refine q_pow (cpow 10 (by decide) (by omega) (by decide)) ?_
    walk_at "go"
    have hs : (((p - b).fmod 15 - 7) ^ (2 : Int).toNat).natAbs ≤ 8000 := by
      rw [Int.natAbs_pow]
      exact Nat.le_trans (Nat.pow_le_pow_left (by omega : ((p - b).fmod 15 - 7).natAbs ≤ 8) _) (by decide)
    exact ⟨fin _ _ (by omega) hs, _, rfl, by omega⟩
  walk_at "go"
  exact ⟨fin _ _ (by omega) (by omega), _, rfl, by omega⟩
theorem sc__law_field : FnScope ["pot", "many", "wide", "way", "spots", "lap", "spot", "name", "x", "y"] ["pot", "many", "wide"] (defScope s_law_field) := ⟨rfl, rfl, rfl, by decide +kernel, rfl, by decide +kernel, by decide +kernel⟩
theorem c__law_field (T : Tx P K mg base) : Lw.Cal P w K mg base "_law_field" 4 ["pot", "many", "wide"] (potSp K 2 300 Sfd5) := by
  obtain ⟨fd, F⟩ := Lh.def_of T.d 29 (d := ds_law_field)
  refine ⟨_, fd, T.glo "_law_field" 29, F.kp, F.bindsN (fun _ _ _ _ _ _ us hl => by
      match us, hl with
      | [_, _, _], _ => rfl), Lw.kbn_of F (fun _ _ _ _ _ _ j us ws hj h1 h2 => by
      match j, us, ws, hj, h1, h2 with
      | 0, [], [_, _, _], _, _, _ => rfl
      | 1, [_], [_, _], _, _, _ => rfl
      | 2, [_, _], [_], _, _, _ => rfl
      | 3, [_, _, _], [], _, _, _ => rfl), ?_⟩
  have nd := sc__law_field.nd
  refine Lw.fn_pot F sc__law_field rfl (by decide) fun cdv A outer s H E hr => ?_
  have hr65 := Lw.room65 hr
  refine ⟨_, (pss_cons (ps_par (i := 3) (j := 4) (by rfl) nd rfl rfl (by decide) rfl rfl (pa_cons (pe_callF (c__law_take (P := P) (w := w) (K := K) (mg := mg) (base := base) T) (hr.mono (by decide)) (pa_cons (pv 0) (pa_cons pe_int pa_nil))) (pa_cons (pe_lst pa_nil) pa_nil)) (by rfl))
      (pss_cons (ps_for PassesOwn.never rfl (pi_range1 rfl (T.free "range" 61) (pa_cons (pe_op op_mulA pe_int (pv 1)) pa_nil)) (pg_name (i := 5) nd rfl (.inl rfl)) (pss_cons (ps_set (i := 6) nd rfl (Or.inl rfl) (pe_callF (c__law_spot (P := P) (w := w) (K := K) (mg := mg) (base := base) T) (hr.mono (by decide)) (pa_cons (pv 0) (pa_cons (pv 3) (pa_cons (pv 2) pa_nil)))))
      (pss_one (ps_expr (pe_bm PySem.F.plainAttrs_list PySem.F.slot_list_extend PySem.F.type_list_extend mt_extend (pv 4) (pa_cons (pe_ifExp (PW.pt (pw_and (pt_cmpR (op_notInK K w hr65) (pv 6) (pv 4) (by rfl)) (pw_and1 (pt_cmpR op_lt (pe_callB (call_lenK K) (by rfl) (T.free "len" 56) (by decide +kernel) (pa_cons (pv 4) pa_nil)) (pv 1) (nomark _))))) (pe_lst (pa_cons (pv 6) pa_nil)) (pe_lst pa_nil)) pa_nil))))))
      (pss_one (ps_ret (pe_callTy (call_tupleK K) (by rfl) (T.free "tuple" 66) (by decide +kernel) (pa_cons (pe_lc (own := [("name", 7), ("x", 8), ("y", 9)]) (by rfl) nd (pi_zipM K (by rfl) (T.free "zip" 67) (pa_cons (pe_callF (c__law_names (P := P) (w := w) (K := K) (mg := mg) (base := base) T) (hr.mono (by decide)) (pa_cons (pv 0) (pa_cons (pe_callB (call_lenK K) (by rfl) (T.free "len" 56) (by decide +kernel) (pa_cons (pv 4) pa_nil)) pa_nil))) (pa_cons (pv 4) pa_nil))) (blkOk_by (N := ["pot", "many", "wide", "way", "spots", "lap", "spot", "name", "x", "y"]) (sc := defScope s_law_field) (by decide +kernel)) (fun _ _ _ _ _ => (pg_seqK (n := 2) K rfl (pgs_cons (pg_name (i := 7) nd rfl (.inl rfl)) (pgs_cons (pg_seqK (n := 2) K rfl (pgs_cons (pg_name (i := 8) nd rfl (.inl rfl)) (pgs_cons (pg_name (i := 9) nd rfl (.inl rfl)) pgs_nil))) pgs_nil)))) (fun _ _ _ _ _ => pts_nil) (fun _ _ _ _ _ => (pe_tup (pa_cons (pv 7) (pa_cons (pv 8) (pa_cons (pv 9) pa_nil)))))) pa_nil)))))), ?_⟩
  rintro m ds G hm hl ⟨m1, b, rfl, h1, h2, h3, h4, hG⟩
  intro ex
  have hm' : m + 300 ≤ 1000000000 := hm
  refine ws_seq (ws_parN (i := 3) (j := 4) (by decide) ?_)
  walk_at "ge"
  refine ⟨(by show m + 1 ≤ 1000000000; omega), rfl, 6, rfl, by decide, by decide, fun way y0 y6 => ?_⟩
  refine ws_seq (ws_for (wi_range1 ?_))
  walk_at "ge"
  refine ⟨by omega, by omega, fun i ρ => ∃ (fs : List Spot) (m' : Nat) (s5 s6 : SD), ρ = [SD.pot m', .d (.int m1), .d (.int b), .d (.int way), .ow (fs.map spD), s5, s6, .un, .un, .un] ∧ (0 < i → 1 ≤ fs.length) ∧ (fs.length : Int) ≤ m1 ∧ fs.Nodup ∧ (∀ p ∈ fs, p.1.natAbs ≤ 8000 ∧ p.2.natAbs ≤ 8000) ∧ m' ≤ m + 1 + 2 * i, ⟨[], _, _, _, rfl, (fun h => by omega), (by show (0 : Int) ≤ m1; omega), List.nodup_nil, (fun p hp => nomatch hp), Nat.le_refl _⟩, fun i ρi x hx ⟨fs, m', s5, s6, hρ, e1, e2, e3, e4, e5⟩ => ?_, fun ρ' ⟨fs, m', s5, s6, hρ, e1, e2, e3, e4, e5⟩ => ?_⟩
  · obtain ⟨hi, rfl⟩ := rangeD_at hx
    subst hρ
    refine wg_name ?_
    refine ws_seq (ws_asg ?_)
    walk_at "ge"
    refine ⟨(by show m' + 2 ≤ 1000000000; omega), rfl, way, b, rfl, h3, h4, fun sp g1 g2 => ?_⟩
    refine wg_name ?_
    have stay : (0 < i + 1 → 1 ≤ fs.length) → ∃ (fs' : List Spot) (m3 : Nat) (s5 s6 : SD), [SD.pot (m' + 2), .d (.int m1), .d (.int b), .d (.int way), .ow (fs.map spD ++ []), .d (.int i), .d (spD sp), .un, .un, .un] = [SD.pot m3, .d (.int m1), .d (.int b), .d (.int way), .ow (fs'.map spD), s5, s6, .un, .un, .un] ∧ (0 < i + 1 → 1 ≤ fs'.length) ∧ (fs'.length : Int) ≤ m1 ∧ fs'.Nodup ∧ (∀ p ∈ fs', p.1.natAbs ≤ 8000 ∧ p.2.natAbs ≤ 8000) ∧ m3 ≤ m + 1 + 2 * (i + 1) := fun h =>
      ⟨fs, _, _, _, by rw [List.append_nil], h, e2, e3, e4, by omega⟩
    have small : fs.length + 1 ≤ sizeLine := Nat.le_trans (by omega : fs.length + 1 ≤ 100) (by decide)
    refine ws_drop (we_extend (i := 4) rfl ?_)
    refine we_if (wt_and (wt_test (we_opR (we_var rfl ⟨_, _, rfl, .inl rfl, opd_notIn (.inr (.inl ⟨_, rfl, rfl, pl_spots, ?_⟩))⟩))))
    rw [any_spots]
    refine ⟨rfl, ?_⟩
    walk_at "x1"
    refine ⟨fun h => ?_, fun h => ?_⟩
    · refine wt_test (we_cmp (we_lenO (i := 4) rfl (.inl rfl) ?_))
      walk_at "ge"
      rw [List.length_map]
      refine ⟨fun h5 => ?_, fun h5 => ?_⟩
      · walk_at "ge"
        refine ⟨_, _, rfl, rfl, (by rw [List.length_map]; exact small), ?_⟩
        have nm : sp ∉ fs := by simpa using h
        refine ⟨fs ++ [sp], m' + 2, _, _, (by rw [List.map_append]; rfl), (fun _ => by rw [List.length_append]; exact Nat.le_add_left 1 _), (by have := of_decide_eq_true h5; rw [List.length_append]; show ((fs.length + 1 : Nat) : Int) ≤ m1; omega), ?_, (fun r hr => ?_), by omega⟩
        · rw [List.nodup_append]
          refine ⟨e3, by simp, fun a ha b hb e => ?_⟩
          rw [List.mem_singleton] at hb
          subst hb
          subst e
          exact nm ha
        · rcases List.mem_append.mp hr with hr | hr
          · exact e4 r hr
          · rw [List.mem_singleton.mp hr]; exact ⟨g1, g2⟩
      · walk_at "ge"
        refine ⟨_, _, rfl, rfl, (by rw [List.length_map]; exact Nat.le_of_succ_le small), ?_⟩
        exact stay fun _ => by have := of_decide_eq_false h5; omega
    · refine ⟨(fun z => by cases z), fun _ => ?_⟩
      walk_at "ge"
      refine ⟨_, _, rfl, rfl, (by rw [List.length_map]; exact Nat.le_of_succ_le small), ?_⟩
      have mem : sp ∈ fs := by simpa using h
      exact stay fun _ => List.length_pos_of_mem mem
  · rw [rangeD_len] at e1 e5
    have f1 : 1 ≤ fs.length := e1 (by omega)
    subst hρ
    refine ws_ret (we_tuple ?_)
    walk_at "lc"
    refine wi_zipM ?_
    refine we_callP (i := 0) rfl (wa_cons (we_lenO (i := 4) rfl (.inl rfl) (wa_nil ?_)))
    rw [List.length_map]
    refine ⟨m', rfl, (by show m' + 200 ≤ 1000000000; omega), rfl, fs.length, rfl, f1, by omega, fun ns n1 n2 n3 => ?_⟩
    refine we_still (i := 4) rfl ?_
    refine ⟨_, _, rfl, rfl, by rw [List.length_map, List.length_map]; exact n1, ?_⟩
    have ez : zipD (ns.map D.str) (fs.map spD) = (ns.zip fs).map fun p => .tup [.str p.1, spD p.2] := by
      unfold zipD
      rw [List.zip_map, List.map_map]
      rfl
    have m1' : (ns.zip fs).map (·.1) = ns := List.map_fst_zip (by omega)
    have m2' : (ns.zip fs).map (·.2) = fs := List.map_snd_zip (by omega)
    have ln : (ns.zip fs).length = fs.length := by rw [List.length_zip]; omega
    have ok : ∀ v ∈ ns.zip fs, v.1 ∈ ns ∧ v.2 ∈ fs := fun v hv => List.of_mem_zip hv
    rw [ez]
    refine ⟨by rw [List.length_map, ln]; exact Nat.lt_of_le_of_lt (by omega : fs.length ≤ 40) (by decide), lcI_map (ws := ns.zip fs) (enc := fun p => .tup [.str p.1, spD p.2]) (res := wellD) rfl (fun u hu => ?_) ?_⟩
    · walk_at "seq"
      walk_at "go"
      walk_at "seq"
      walk_at "go"
      exact rfl
    · refine ⟨_, rfl, hG _ ⟨fun e => ?_, by omega, fun v hv => ⟨n3 _ (ok v hv).1, Nat.le_trans (e4 _ (ok v hv).2).1 (by decide), Nat.le_trans (e4 _ (ok v hv).2).2 (by decide)⟩, by rw [m1']; exact n2, by rw [m2']; exact e3⟩ (by omega) (fun v hv => e4 _ (ok v hv).2), _, rfl, by omega⟩
      rw [e] at ln
      simp only [List.length_nil] at ln
      omega
theorem sc__law_first_line : FnScope ["wells", "at", "one", "a", "b", "to", "third", "c", "d"] ["wells"] (defScope s_law_first_line) := ⟨rfl, rfl, rfl, by decide +kernel, rfl, by decide +kernel, by decide +kernel⟩
theorem c__law_first_line (T : Tx P K mg base) : Lw.Cal P w K mg base "_law_first_line" 2 ["wells"] (pureSp K 1 Sfl) := by
  obtain ⟨fd, F⟩ := Lh.def_of T.d 34 (d := ds_law_first_line)
  refine ⟨_, fd, T.glo "_law_first_line" 34, F.kp, F.bindsN (fun _ _ _ _ _ _ us hl => by
      match us, hl with
      | [_], _ => rfl), Lw.kbn_of F (fun _ _ _ _ _ _ j us ws hj h1 h2 => by
      match j, us, ws, hj, h1, h2 with
      | 0, [], [_], _, _, _ => rfl
      | 1, [_], [], _, _, _ => rfl), ?_⟩
  have nd := sc__law_first_line.nd
  refine Lw.fn_pure F sc__law_first_line rfl (by decide) fun cdv A outer s H E hr => ?_
  have hr65 := Lw.room65 hr
  refine ⟨_, (pss_cons (ps_for PassesOwn.never rfl (pi_enumA K (by rfl) (T.free "enumerate" 53) (pa_cons (pv 0) pa_nil)) (pg_seqK (n := 2) K rfl (pgs_cons (pg_name (i := 1) nd rfl (.inl rfl)) (pgs_cons (pg_seqK (n := 3) K rfl (pgs_cons (pg_name (i := 2) nd rfl (.inl rfl)) (pgs_cons (pg_name (i := 3) nd rfl (.inl rfl)) (pgs_cons (pg_name (i := 4) nd rfl (.inl rfl)) pgs_nil)))) pgs_nil))) (pss_one (ps_for PassesOwn.never rfl (pi_range2 rfl (T.free "range" 61) (pa_cons (pe_op (op_addK K) (pv 1) pe_int) (pa_cons (pe_callB (call_lenK K) (by rfl) (T.free "len" 56) (by decide +kernel) (pa_cons (pv 0) pa_nil)) pa_nil))) (pg_name (i := 5) nd rfl (.inl rfl)) (pss_one (ps_for PassesOwn.never rfl (pi_anyK K (pe_slice (sl_K K) (pv 0) (po_some (pe_op (op_addK K) (pv 5) pe_int)) po_none)) (pg_seqK (n := 3) K rfl (pgs_cons (pg_name (i := 6) nd rfl (.inl rfl)) (pgs_cons (pg_name (i := 7) nd rfl (.inl rfl)) (pgs_cons (pg_name (i := 8) nd rfl (.inl rfl)) pgs_nil)))) (pss_one (ps_if (pt_cmpR (op_eqK K hr.units) (pe_callF (c__law_bend (P := P) (w := w) (K := K) (mg := mg) (base := base) T) (hr.mono (by decide)) (pa_cons (pe_tup (pa_cons (pv 3) (pa_cons (pv 4) pa_nil))) (pa_cons (pe_slice (sl_K K) (pe_ix (ix_K K (hu_of hr)) (pv 0) (pv 5) (fun _ _ => rfl)) (po_some pe_int) po_none) (pa_cons (pe_tup (pa_cons (pv 7) (pa_cons (pv 8) pa_nil))) pa_nil)))) pe_int (nomark _)) (pss_one (ps_ret (pe_tup (pa_cons (pv 2) (pa_cons (pe_ix (ix_K K (hu_of hr)) (pe_ix (ix_K K (hu_of hr)) (pv 0) (pv 5) (fun _ _ => rfl)) pe_int (fun _ _ => rfl)) (pa_cons (pv 6) pa_nil)))))) pss_nil)))))))
      (pss_one (ps_ret pe_non))), ?_⟩
  rintro ds G hl ⟨ws, rfl, hw, hF, hG⟩
  intro ex
  walk_at "cx"
  refine ws_seq (ws_for (wi_enumA (we_var rfl ?_)))
  refine ⟨_, rfl, fun i ρ => ∃ s1 s2 s3 s4 s5 s6 s7 s8, ρ = [.d (.tup (ws.map wellD)), s1, s2, s3, s4, s5, s6, s7, s8] ∧ ∀ t ∈ threesTo ws i, lineB t = false, ⟨_, _, _, _, _, _, _, _, rfl, fun t ht => by unfold threesTo at ht; simp at ht⟩, fun i ρi x hx ⟨s1, s2, s3, s4, s5, s6, s7, s8, hρ, hs⟩ => ?_, fun ρ' ⟨s1, s2, s3, s4, s5, s6, s7, s8, hρ, hs⟩ => ?_⟩
  · obtain ⟨v, hv, rfl⟩ := enumD_map hx
    subst hρ
    walk_at "seq"
    walk_at "go"
    refine wg_seq ⟨_, .inl rfl, rfl, ?_⟩
    walk_at "go"
    refine ws_for (wi_range2 ?_)
    have hi := (List.getElem?_eq_some_iff.mp hv).1
    have h40 := hw.len
    walk_at "ge"
    rw [List.length_map]
    refine ⟨_, _, rfl, rfl, by omega, fun j ρ => ∃ s5 s6 s7 s8, ρ = [.d (.tup (ws.map wellD)), .d (.int i), .d (.str v.1), .d (.int v.2.1), .d (.int v.2.2), s5, s6, s7, s8] ∧ ∀ q ∈ pairsTo (ws.drop (i + 1)) j, lineB (v, q.1, q.2) = false, ⟨_, _, _, _, rfl, fun t ht => by unfold pairsTo at ht; simp at ht⟩, fun j ρi x hx ⟨s5, s6, s7, s8, hρ, hs2⟩ => ?_, fun ρ' ⟨s5, s6, s7, s8, hρ, hs2⟩ => ?_⟩
    · obtain ⟨hj, rfl⟩ := range2_at hx
      subst hρ
      obtain ⟨w, hwj⟩ : ∃ w, ws[i + 1 + j]? = some w := ⟨_, List.getElem?_eq_getElem (by omega)⟩
      have hwj2 : (ws.drop (i + 1))[j]? = some w := by rw [List.getElem?_drop]; exact hwj
      have ei : ((i : Int) + 1 + (j : Int)) = ((i + 1 + j : Nat) : Int) := by omega
      rw [ei]
      have ixw : atI (ws.map wellD) ((i + 1 + j : Nat) : Int) = some (wellD w) := atI_at (by rw [List.getElem?_map, hwj]; rfl)
      refine wg_name ?_
      refine ws_for (wi_any ?_)
      walk_at "ge"
      rw [show (((i + 1 + j : Nat) : Int) + 1) = ((i + 1 + j + 1 : Nat) : Int) from rfl, cut_drop, ← List.map_drop, show ws.drop (i + 1 + j + 1) = (ws.drop (i + 1)).drop (j + 1) by rw [List.drop_drop]; exact congrArg (fun n => ws.drop n) (by omega)]
      refine ⟨fun k ρ => ∃ s6 s7 s8, ρ = [.d (.tup (ws.map wellD)), .d (.int i), .d (.str v.1), .d (.int v.2.1), .d (.int v.2.2), .d (.int ((i + 1 + j : Nat) : Int)), s6, s7, s8] ∧ ∀ x ∈ ((ws.drop (i + 1)).drop (j + 1)).take k, lineB (v, w, x) = false, ⟨_, _, _, rfl, fun t ht => by rw [List.take_zero] at ht; cases ht⟩, fun k ρi x hx2 ⟨s6, s7, s8, hρ, hs3⟩ => ?_, fun ρ' ⟨s6, s7, s8, hρ, hs3⟩ => ?_⟩
      · rw [List.getElem?_map] at hx2
        cases hu : ((ws.drop (i + 1)).drop (j + 1))[k]? with
        | none => rw [hu] at hx2; cases hx2
        | some u =>
          rw [hu] at hx2
          cases hx2
          subst hρ
          have mu : u ∈ ws := List.mem_of_mem_drop (List.mem_of_mem_drop (List.mem_of_getElem? hu))
          have mw : w ∈ ws := List.mem_of_getElem? hwj
          have mv : v ∈ ws := List.mem_of_getElem? hv
          walk_at "seq"
          walk_at "go"
          refine q_ixT ixw ?_
          walk_at "ge"
          refine ⟨v.2, w.2, u.2, rfl, hw.spot mv, hw.spot mw, hw.spot mu, ?_⟩
          walk_at "ge"
          refine ⟨fun h => ?_, fun h => ?_⟩
          · refine ws_ret ?_
            walk_at "ge"
            refine q_ixT ixw ?_
            walk_at "ge"
            exact hG _ (first_at hv hwj2 hu hs hs2 hs3 h)
          · exact ws_next ⟨_, _, _, rfl, take_step (p := fun x => lineB (v, w, x)) hs3 hu h⟩
      · subst hρ
        rw [List.length_map, List.take_length] at hs3
        refine ⟨_, _, _, _, rfl, fun q hq => ?_⟩
        rw [pairsTo_succ hwj2] at hq
        rcases List.mem_append.mp hq with hq | hq
        · exact hs2 q hq
        · obtain ⟨x, hx3, rfl⟩ := List.mem_map.mp hq
          exact hs3 x hx3
    · subst hρ
      rw [range2_len, show ((ws.length : Int) - ((i : Int) + 1)).toNat = (ws.drop (i + 1)).length by rw [List.length_drop]; omega, pairsTo_all] at hs2
      refine ⟨_, _, _, _, _, _, _, _, rfl, fun t ht => ?_⟩
      rw [threesTo_succ hv] at ht
      rcases List.mem_append.mp ht with ht | ht
      · exact hs t ht
      · obtain ⟨q, hq, rfl⟩ := List.mem_map.mp ht
        exact hs2 q hq
  · subst hρ
    rw [enumD_len, List.length_map, threesTo_all] at hs
    refine ws_ret ?_
    walk_at "ge"
    exact hF (find_never hs)
theorem sc__law_of : FnScope ["pot", "some"] ["pot", "some"] (defScope s_law_of) := ⟨rfl, rfl, rfl, by decide +kernel, rfl, by decide +kernel, by decide +kernel⟩
theorem c__law_of (T : Tx P K mg base) : Lw.Cal P w K mg base "_law_of" 2 ["pot", "some"] (potSp K 1 1 Sof) := by
  obtain ⟨fd, F⟩ := Lh.def_of T.d 23 (d := ds_law_of)
  refine ⟨_, fd, T.glo "_law_of" 23, F.kp, F.bindsN (fun _ _ _ _ _ _ us hl => by
      match us, hl with
      | [_, _], _ => rfl), Lw.kbn_of F (fun _ _ _ _ _ _ j us ws hj h1 h2 => by
      match j, us, ws, hj, h1, h2 with
      | 0, [], [_, _], _, _, _ => rfl
      | 1, [_], [_], _, _, _ => rfl
      | 2, [_, _], [], _, _, _ => rfl), ?_⟩
  have nd := sc__law_of.nd
  refine Lw.fn_pot F sc__law_of rfl (by decide) fun cdv A outer s H E hr => ?_
  have hr65 := Lw.room65 hr
  refine ⟨_, (pss_one (ps_ret (pe_ix (ix_K K (hu_of hr)) (pv 1) (pe_callF (c__law_take (P := P) (w := w) (K := K) (mg := mg) (base := base) T) (hr.mono (by decide)) (pa_cons (pv 0) (pa_cons (pe_callB (call_lenK K) (by rfl) (T.free "len" 56) (by decide +kernel) (pa_cons (pv 1) pa_nil)) pa_nil))) (fun _ _ => rfl)))), ?_⟩
  rintro m ds G hm hl ⟨xs, rfl, hn, hn2, hG⟩
  intro ex
  walk_at "go"
  refine ⟨hm, rfl, (xs.length : Int), rfl, by omega, by omega, fun d h0 h1 => ?_⟩
  have hd : d.toNat < xs.length := by omega
  refine q_ixL (d := xs[d.toNat]) ?_ ?_
  · have e := atI_at (xs := xs) (List.getElem?_eq_getElem hd)
    rw [Int.toNat_of_nonneg h0] at e
    exact e
  · exact ⟨hG _ (List.getElem_mem _), _, rfl, Nat.le_refl _⟩
theorem sc_Field_told_wells : FnScope ["self", "name", "x", "y"] ["self"] (defScope sField_told_wells) := ⟨rfl, rfl, rfl, by decide +kernel, rfl, by decide +kernel, by decide +kernel⟩
theorem m_Field_told_wells (T : Tx P K mg base) : Lw.Met P w K mg base (He.ga K "Field") "told_wells" 1 ["self"] (newSp K 1 (StwN (FC K))) := by
  obtain ⟨fd, F⟩ := Lh.def_of T.d 46 (d := dsField_told_wells)
  refine ⟨_, fd, T.cls "Field" 74, T.meth "Field" "told_wells" 81, F.bindsN (fun _ _ _ _ _ _ us hl => by
      match us, hl with
      | [_], _ => rfl), ?_⟩
  have nd := sc_Field_told_wells.nd
  refine Lw.fn_new F sc_Field_told_wells rfl (by decide) fun cdv A outer s H E hr => ?_
  have hr65 := Lw.room65 hr
  refine ⟨_, (pss_one (ps_ret (pe_lc (own := [("name", 1), ("x", 2), ("y", 3)]) (by rfl) nd (pi_zipK K (by rfl) (T.free "zip" 67) (pa_cons (pe_fldK K (pv 0)) (pa_cons (pe_fldK K (pv 0)) pa_nil))) (blkOk_by (N := ["self", "name", "x", "y"]) (sc := defScope sField_told_wells) (by decide +kernel)) (fun _ _ _ _ _ => (pg_seqK (n := 2) K rfl (pgs_cons (pg_name (i := 1) nd rfl (.inl rfl)) (pgs_cons (pg_seqK (n := 2) K rfl (pgs_cons (pg_name (i := 2) nd rfl (.inl rfl)) (pgs_cons (pg_name (i := 3) nd rfl (.inl rfl)) pgs_nil))) pgs_nil)))) (fun _ _ _ _ _ => pts_nil) (fun _ _ _ _ _ => (pe_tup (pa_cons (pv 1) (pa_cons (pv 2) (pa_cons (pv 3) pa_nil)))))))), ?_⟩
  rintro ds G hl ⟨ws, rfl, h4, hG⟩
  intro ex
  refine wsn_ret (wn_lc (by walk_at "gin") (by walk_at "gin") ?_)
  refine wi_zip (we_thaw ?_)
  walk_at "go"
  refine ⟨_, _, _, rfl, T.cls "Field" 74, T.noat "Field" "own_names" 77, rfl, ?_⟩
  refine ⟨_, rfl, ?_⟩
  walk_at "go"
  refine ⟨_, _, _, rfl, T.cls "Field" 74, T.noat "Field" "own_spots" 78, rfl, ?_⟩
  refine ⟨_, _, .inr ⟨rfl, rfl⟩, ?_⟩
  rw [zipD_map]
  refine ⟨?_, lcI_map (ws := ws) (enc := fun v => .tup [.str v.1, spD v.2]) (res := wellD) rfl (fun u hu => ?_) ?_⟩
  · rw [List.length_map]
    exact Nat.lt_of_le_of_lt h4 (by decide)
  · walk_at "seq"
    walk_at "go"
    walk_at "seq"
    walk_at "go"
    exact rfl
  · intro xs e
    cases e
    exact hG
theorem sc_field_of : FnScope ["wells", "name", "x", "y"] ["wells"] (defScope sfield_of) := ⟨rfl, rfl, rfl, by decide +kernel, rfl, by decide +kernel, by decide +kernel⟩
theorem c_field_of (T : Tx P K mg base) : Lw.Cal P w K mg base "field_of" 7 ["wells"] (pureSp K 1 (Sfo (FC K))) := by
  obtain ⟨fd, F⟩ := Lh.def_of T.d 7 (d := dsfield_of)
  refine ⟨_, fd, T.glo "field_of" 7, F.kp, F.bindsN (fun _ _ _ _ _ _ us hl => by
      match us, hl with
      | [_], _ => rfl), Lw.kbn_of F (fun _ _ _ _ _ _ j us ws hj h1 h2 => by
      match j, us, ws, hj, h1, h2 with
      | 0, [], [_], _, _, _ => rfl
      | 1, [_], [], _, _, _ => rfl), ?_⟩
  have nd := sc_field_of.nd
  refine Lw.fn_pure F sc_field_of rfl (by decide) fun cdv A outer s H E hr => ?_
  have hr65 := Lw.room65 hr
  refine ⟨_, (pss_one (ps_ret (pe_makeF (m_Field (P := P) (w := w) (K := K) (mg := mg) (base := base) T) (hr.mono (by decide)) (pa_cons (pe_joinK K pe_str (pe_lc (own := [("name", 1), ("x", 2), ("y", 3)]) (by rfl) nd (pi_anyK K (pv 0)) (blkOk_by (N := ["wells", "name", "x", "y"]) (sc := defScope sfield_of) (by decide +kernel)) (fun _ _ _ _ _ => (pg_seqK (n := 3) K rfl (pgs_cons (pg_name (i := 1) nd rfl (.inl rfl)) (pgs_cons (pg_name (i := 2) nd rfl (.inl rfl)) (pgs_cons (pg_name (i := 3) nd rfl (.inl rfl)) pgs_nil))))) (fun _ _ _ _ _ => pts_nil) (fun _ _ _ _ _ => (pe_joinK K pe_str (pe_lst (pa_cons (pe_gstr (T.str "WELL" 44)) (pa_cons (pv 1) (pa_cons (pe_callTy call_str_int (by rfl) (T.free "str" 63) (by decide +kernel) (pa_cons (pv 2) pa_nil)) (pa_cons (pe_callTy call_str_int (by rfl) (T.free "str" 63) (by decide +kernel) (pa_cons (pv 3) pa_nil)) pa_nil))))))))) pa_nil)))), ?_⟩
  rintro ds G hl ⟨ws, rfl, hw, hG⟩
  intro ex
  walk_at "go"
  walk_at "lc"
  refine wi_any ?_
  walk_at "go"
  refine ⟨wells_len hw.len, lcI_map (ws := ws) (enc := wellD) (res := fun v => .str (lineOf v)) rfl (fun u hu => ?_) ?_⟩
  · have ho := hw.ok u hu
    have hx := ho.x
    have hy := ho.y
    walk_at "seq"
    walk_at "go"
    refine q_str (log_small (k := 14) (by omega) (by decide) (by decide)) ?_
    walk_at "go"
    refine q_str (log_small (k := 14) (by omega) (by decide) (by decide)) ?_
    walk_at "go"
    refine ⟨["well", u.1, numS u.2.1, numS u.2.2], .inl rfl, ?_, rfl, rfl⟩
    have h0 : (Str.ofString "well").length = 4 := by decide +kernel
    have h1 : (Str.ofString " ").length = 1 := by decide +kernel
    have h2 := (name_len ho.name).2
    have h3 : (numS u.2.1).length ≤ 5 := by rw [len_tl, tl_numS]; exact numC_len (by decide : 0 < 4) (by omega)
    have h4 : (numS u.2.2).length ≤ 5 := by rw [len_tl, tl_numS]; exact numC_len (by decide : 0 < 4) (by omega)
    simp only [List.map_cons, List.map_nil, List.sum_cons, List.sum_nil, List.length_cons, List.length_nil, h0, h1]
    omega
  · refine ⟨ws.map lineOf, .inl (by rw [List.map_map]; rfl), ?_, ?_⟩
    · have h1 : (Str.ofString "\n").length = 1 := by decide +kernel
      have h2 := lines_len hw.ok
      have h3 := hw.len
      rw [h1, List.length_map]
      omega
    · walk_at "go"
      exact ⟨ws, rfl, hw, hG⟩
theorem sc_mirrored : FnScope ["field", "name", "x", "y"] ["field"] (defScope smirrored) := ⟨rfl, rfl, rfl, by decide +kernel, rfl, by decide +kernel, by decide +kernel⟩
theorem c_mirrored (T : Tx P K mg base) : Lw.Cal P w K mg base "mirrored" 8 ["field"] (pureSp K 1 (Sfn (FC K) fun p => (0 - p.1, p.2))) := by
  obtain ⟨fd, F⟩ := Lh.def_of T.d 14 (d := dsmirrored)
  refine ⟨_, fd, T.glo "mirrored" 14, F.kp, F.bindsN (fun _ _ _ _ _ _ us hl => by
      match us, hl with
      | [_], _ => rfl), Lw.kbn_of F (fun _ _ _ _ _ _ j us ws hj h1 h2 => by
      match j, us, ws, hj, h1, h2 with
      | 0, [], [_], _, _, _ => rfl
      | 1, [_], [], _, _, _ => rfl), ?_⟩
  have nd := sc_mirrored.nd
  refine Lw.fn_pure F sc_mirrored rfl (by decide) fun cdv A outer s H E hr => ?_
  have hr65 := Lw.room65 hr
  refine ⟨_, (pss_cons (ps_expr (pe_callF (c_check_field (P := P) (w := w) (K := K) (mg := mg) (base := base) T) (hr.mono (by decide)) (pa_cons (pv 0) pa_nil)))
      (pss_one (ps_ret (pe_callF (c_field_of (P := P) (w := w) (K := K) (mg := mg) (base := base) T) (hr.mono (by decide)) (pa_cons (pe_lc (own := [("name", 1), ("x", 2), ("y", 3)]) (by rfl) nd (pi_anyK K (pe_methF0 (m_Field_told_wells (P := P) (w := w) (K := K) (mg := mg) (base := base) T) (hr.mono (by decide)) (pv 0))) (blkOk_by (N := ["field", "name", "x", "y"]) (sc := defScope smirrored) (by decide +kernel)) (fun _ _ _ _ _ => (pg_seqK (n := 3) K rfl (pgs_cons (pg_name (i := 1) nd rfl (.inl rfl)) (pgs_cons (pg_name (i := 2) nd rfl (.inl rfl)) (pgs_cons (pg_name (i := 3) nd rfl (.inl rfl)) pgs_nil))))) (fun _ _ _ _ _ => pts_nil) (fun _ _ _ _ _ => (pe_tup (pa_cons (pv 1) (pa_cons (pe_op op_sub pe_int (pv 2)) (pa_cons (pv 3) pa_nil)))))) pa_nil))))), ?_⟩
  rintro ds G hl ⟨ws, rfl, hw, hG⟩
  intro ex
  walk_at "go"
  refine ⟨ws, rfl, ?_⟩
  walk_at "go"
  walk_at "lc"
  refine wi_any (we_ofN (wn_meth ?_))
  walk_at "go"
  refine ⟨ws, rfl, hw.len, _, rfl, wells_len hw.len, lcI_map (ws := ws) (enc := wellD) (res := fun v => wellD (v.1, (0 - v.2.1, v.2.2))) rfl (fun u hu => ?_) ?_⟩
  · walk_at "seq"
    walk_at "go"
    exact rfl
  · walk_at "go"
    refine ⟨mapW (fun p => (0 - p.1, p.2)) ws, ?_, ?_, hG⟩
    · unfold mapW
      rw [List.map_map]
      rfl
    · exact wsOk_mirrored hw
theorem sc_moved : FnScope ["field", "right", "up", "number", "part", "spot", "name", "x", "y"] ["field", "right", "up"] (defScope smoved) := ⟨rfl, rfl, rfl, by decide +kernel, rfl, by decide +kernel, by decide +kernel⟩
theorem c_moved (T : Tx P K mg base) : Lw.Cal P w K mg base "moved" 8 ["field", "right", "up"] (pureSp K 3 (Smv (FC K))) := by
  obtain ⟨fd, F⟩ := Lh.def_of T.d 12 (d := dsmoved)
  refine ⟨_, fd, T.glo "moved" 12, F.kp, F.bindsN (fun _ _ _ _ _ _ us hl => by
      match us, hl with
      | [_, _, _], _ => rfl), Lw.kbn_of F (fun _ _ _ _ _ _ j us ws hj h1 h2 => by
      match j, us, ws, hj, h1, h2 with
      | 0, [], [_, _, _], _, _, _ => rfl
      | 1, [_], [_, _], _, _, _ => rfl
      | 2, [_, _], [_], _, _, _ => rfl
      | 3, [_, _, _], [], _, _, _ => rfl), ?_⟩
  have nd := sc_moved.nd
  refine Lw.fn_pure F sc_moved rfl (by decide) fun cdv A outer s H E hr => ?_
  have hr65 := Lw.room65 hr
  refine ⟨_, (pss_cons (ps_expr (pe_callF (c_check_field (P := P) (w := w) (K := K) (mg := mg) (base := base) T) (hr.mono (by decide)) (pa_cons (pv 0) pa_nil)))
      (pss_cons (ps_for PassesOwn.never rfl (pi_anyK K (pe_tup (pa_cons (pe_tup (pa_cons (pv 1) (pa_cons pe_int pa_nil))) (pa_cons (pe_tup (pa_cons (pv 2) (pa_cons pe_int pa_nil))) pa_nil)))) (pg_seqK (n := 2) K rfl (pgs_cons (pg_name (i := 3) nd rfl (.inr rfl)) (pgs_cons (pg_name (i := 4) nd rfl (.inr rfl)) pgs_nil))) (pss_cons (ps_if (pt_not (pt_val (pe_callF (c_is_integer (P := P) (w := w) (K := K) (mg := mg) (base := base) T) (hr.mono (by decide)) (pa_cons (pv 3) pa_nil)))) (pss_one ps_never) pss_nil)
      (pss_one (ps_if (pt_not (pt_val (pe_callB (cr_allK K rfl) (by rfl) (T.free "all" 49) (by decide +kernel) (pa_cons (pe_lc (own := [("spot", 5)]) (by rfl) nd (pi_anyK K (pe_propF (p_Field_spots_prop (P := P) (w := w) (K := K) (mg := mg) (base := base) T) (hr.mono (by decide)) (pv 0))) (blkOk_by (N := ["field", "right", "up", "number", "part", "spot", "name", "x", "y"]) (sc := defScope smoved) (by decide +kernel)) (fun _ _ _ _ _ => (pg_name (i := 5) nd rfl (.inl rfl))) (fun _ _ _ _ _ => pts_nil) (fun _ _ _ _ _ => (pe_callF (c_is_between (P := P) (w := w) (K := K) (mg := mg) (base := base) T) (hr.mono (by decide)) (pa_cons (pe_op (op_addK K) (pe_ix (ix_K K (hu_of hr)) (pv 5) (pv 4) (fun _ _ => rfl)) (pv 3)) (pa_cons (pe_op op_sub pe_int (pe_gint (T.int "MOST_SPOT" 46))) (pa_cons (pe_gint (T.int "MOST_SPOT" 46)) pa_nil)))))) pa_nil)))) (pss_one ps_never) pss_nil))))
      (pss_one (ps_ret (pe_callF (c_field_of (P := P) (w := w) (K := K) (mg := mg) (base := base) T) (hr.mono (by decide)) (pa_cons (pe_lc (own := [("name", 6), ("x", 7), ("y", 8)]) (by rfl) nd (pi_anyK K (pe_methF0 (m_Field_told_wells (P := P) (w := w) (K := K) (mg := mg) (base := base) T) (hr.mono (by decide)) (pv 0))) (blkOk_by (N := ["field", "right", "up", "number", "part", "spot", "name", "x", "y"]) (sc := defScope smoved) (by decide +kernel)) (fun _ _ _ _ _ => (pg_seqK (n := 3) K rfl (pgs_cons (pg_name (i := 6) nd rfl (.inl rfl)) (pgs_cons (pg_name (i := 7) nd rfl (.inl rfl)) (pgs_cons (pg_name (i := 8) nd rfl (.inl rfl)) pgs_nil))))) (fun _ _ _ _ _ => pts_nil) (fun _ _ _ _ _ => (pe_tup (pa_cons (pv 6) (pa_cons (pe_op (op_addK K) (pv 7) (pv 1)) (pa_cons (pe_op (op_addK K) (pv 8) (pv 2)) pa_nil)))))) pa_nil)))))), ?_⟩
  rintro ds G hl ⟨ws, i, j, rfl, hw, hu, hG⟩
  intro ex
  have mm : ∀ u ∈ ws, (u.2.1 + i).natAbs ≤ 9999 ∧ (u.2.2 + j).natAbs ≤ 9999 := fun u hm => by
    have q := hu.ok (u.1, (u.2.1 + i, u.2.2 + j)) (List.mem_map.mpr ⟨u, hm, rfl⟩)
    exact ⟨q.x, q.y⟩
  walk_at "go"
  refine ⟨ws, rfl, ?_⟩
  refine ws_seq (ws_for (wi_any ?_))
  walk_at "go"
  refine ⟨fun n ρ => ∃ s3 s4 s5, ρ = [SD.d (fldD (FC K) ws), .d (.int i), .d (.int j), s3, s4, s5, .un, .un, .un], ⟨_, _, _, rfl⟩, fun n ρi x hx ⟨s3, s4, s5, hρ⟩ => ?_, fun ρ' ⟨s3, s4, s5, hρ⟩ => ?_⟩
  · have hx2 : ∃ v k, x = .tup [.int v, .int k] ∧ ∀ u ∈ ws, ∃ q, atI [D.int u.2.1, D.int u.2.2] k = some (.int q) ∧ (q + v).natAbs ≤ 9999 := by
      match n, hx with
      | 0, hx =>
        cases hx
        exact ⟨i, 0, rfl, fun u hm => ⟨u.2.1, rfl, (mm u hm).1⟩⟩
      | 1, hx =>
        cases hx
        exact ⟨j, 1, rfl, fun u hm => ⟨u.2.2, rfl, (mm u hm).2⟩⟩
      | n + 2, hx => cases hx
    obtain ⟨v, k, rfl, hq⟩ := hx2
    subst hρ
    walk_at "seq"
    walk_at "go"
    refine ⟨.int v, rfl, rfl, ?_⟩
    walk_at "x1"
    refine ⟨(fun h => by cases h), fun _ => ?_⟩
    walk_at "go"
    walk_at "lc"
    refine wi_any ?_
    walk_at "go"
    refine ⟨ws, rfl, _, rfl, wells_len hw.len, lcI_map (ws := ws) (enc := fun u => spD u.2) (res := fun _ => .bl true) rfl (fun u hm => ?_) ?_⟩
    · obtain ⟨q, hq1, hq2⟩ := hq u hm
      walk_at "go"
      refine q_ixT hq1 ?_
      walk_at "go"
      refine ⟨_, _, _, rfl, ?_⟩
      have e : (decide (0 - 9999 ≤ q + v) && decide (q + v ≤ 9999)) = true := by simp; omega
      rw [e]
      exact ⟨rfl, rfl⟩
    · refine q_bools (bs := ws.map fun _ => true) (by rw [List.map_map]; rfl) ?_
      have ea : ((ws.map fun _ => true).all id) = true := by
        rw [List.all_map]
        exact List.all_eq_true.mpr fun _ _ => rfl
      rw [ea]
      walk_at "x1"
      refine ⟨(fun h => absurd h (by decide)), fun _ => ?_⟩
      walk_at "go"
      exact ⟨_, _, _, rfl⟩
  · subst hρ
    walk_at "go"
    walk_at "lc"
    refine wi_any (we_ofN (wn_meth ?_))
    walk_at "go"
    refine ⟨ws, rfl, hw.len, _, rfl, wells_len hw.len, lcI_map (ws := ws) (enc := wellD) (res := fun v => wellD (v.1, (v.2.1 + i, v.2.2 + j))) rfl (fun u hm => ?_) ?_⟩
    · walk_at "seq"
      walk_at "go"
      exact rfl
    · walk_at "go"
      refine ⟨mapW (fun p => (p.1 + i, p.2 + j)) ws, ?_, hu, hG⟩
      unfold mapW
      rw [List.map_map]
      rfl
theorem sc_turned : FnScope ["field", "name", "x", "y"] ["field"] (defScope sturned) := ⟨rfl, rfl, rfl, by decide +kernel, rfl, by decide +kernel, by decide +kernel⟩
theorem c_turned (T : Tx P K mg base) : Lw.Cal P w K mg base "turned" 8 ["field"] (pureSp K 1 (Sfn (FC K) fun p => (0 - p.2, p.1))) := by
  obtain ⟨fd, F⟩ := Lh.def_of T.d 13 (d := dsturned)
  refine ⟨_, fd, T.glo "turned" 13, F.kp, F.bindsN (fun _ _ _ _ _ _ us hl => by
      match us, hl with
      | [_], _ => rfl), Lw.kbn_of F (fun _ _ _ _ _ _ j us ws hj h1 h2 => by
      match j, us, ws, hj, h1, h2 with
      | 0, [], [_], _, _, _ => rfl
      | 1, [_], [], _, _, _ => rfl), ?_⟩
  have nd := sc_turned.nd
  refine Lw.fn_pure F sc_turned rfl (by decide) fun cdv A outer s H E hr => ?_
  have hr65 := Lw.room65 hr
  refine ⟨_, (pss_cons (ps_expr (pe_callF (c_check_field (P := P) (w := w) (K := K) (mg := mg) (base := base) T) (hr.mono (by decide)) (pa_cons (pv 0) pa_nil)))
      (pss_one (ps_ret (pe_callF (c_field_of (P := P) (w := w) (K := K) (mg := mg) (base := base) T) (hr.mono (by decide)) (pa_cons (pe_lc (own := [("name", 1), ("x", 2), ("y", 3)]) (by rfl) nd (pi_anyK K (pe_methF0 (m_Field_told_wells (P := P) (w := w) (K := K) (mg := mg) (base := base) T) (hr.mono (by decide)) (pv 0))) (blkOk_by (N := ["field", "name", "x", "y"]) (sc := defScope sturned) (by decide +kernel)) (fun _ _ _ _ _ => (pg_seqK (n := 3) K rfl (pgs_cons (pg_name (i := 1) nd rfl (.inl rfl)) (pgs_cons (pg_name (i := 2) nd rfl (.inl rfl)) (pgs_cons (pg_name (i := 3) nd rfl (.inl rfl)) pgs_nil))))) (fun _ _ _ _ _ => pts_nil) (fun _ _ _ _ _ => (pe_tup (pa_cons (pv 1) (pa_cons (pe_op op_sub pe_int (pv 3)) (pa_cons (pv 2) pa_nil)))))) pa_nil))))), ?_⟩
  rintro ds G hl ⟨ws, rfl, hw, hG⟩
  intro ex
  walk_at "go"
  refine ⟨ws, rfl, ?_⟩
  walk_at "go"
  walk_at "lc"
  refine wi_any (we_ofN (wn_meth ?_))
  walk_at "go"
  refine ⟨ws, rfl, hw.len, _, rfl, wells_len hw.len, lcI_map (ws := ws) (enc := wellD) (res := fun v => wellD (v.1, (0 - v.2.2, v.2.1))) rfl (fun u hu => ?_) ?_⟩
  · walk_at "seq"
    walk_at "go"
    exact rfl
  · walk_at "go"
    refine ⟨mapW (fun p => (0 - p.2, p.1)) ws, ?_, ?_, hG⟩
    · unfold mapW
      rw [List.map_map]
      rfl
    · exact wsOk_turned hw
theorem sc__law_right : FnScope ["pot", "wells", "field", "first", "caught", "told", "other", "its", "words", "one", "spots", "name", "x", "y", "due", "two", "third", "last", "many", "total", "number", "pairs", "there"] ["pot"] (defScope s_law_right) := ⟨rfl, rfl, rfl, by decide +kernel, rfl, by decide +kernel, by decide +kernel⟩
theorem c__law_right (T : Tx P K mg base) : Lw.CalG P w K mg base "_law_right" 9 ["pot"] (potSp K 0 400 Srt) := by
  obtain ⟨fd, F⟩ := Lh.def_of T.d 38 (d := ds_law_right)
  refine ⟨_, fd, T.glo "_law_right" 38, F.kp, F.bindsN (fun _ _ _ _ _ _ us hl => by
      match us, hl with
      | [_], _ => rfl), ?_⟩
  have nd := sc__law_right.nd
  refine Lw.fn_potG F sc__law_right rfl (by decide) fun A outer s H E hg hr => ?_
  have hr65 := Lw.room65 hr
  refine ⟨_, (pss_cons (ps_set (i := 1) nd rfl (Or.inl rfl) (pe_callF (c__law_field (P := P) (w := w) (K := K) (mg := mg) (base := base) T) (hr.mono (by decide)) (pa_cons (pv 0) (pa_cons (pe_op (op_addK K) pe_int (pe_callF (c__law_take (P := P) (w := w) (K := K) (mg := mg) (base := base) T) (hr.mono (by decide)) (pa_cons (pv 0) (pa_cons pe_int pa_nil)))) (pa_cons (pe_callF (c__law_of (P := P) (w := w) (K := K) (mg := mg) (base := base) T) (hr.mono (by decide)) (pa_cons (pv 0) (pa_cons (pe_lst (pa_cons pe_int (pa_cons pe_int (pa_cons pe_int pa_nil)))) pa_nil))) pa_nil)))))
      (pss_cons (ps_asg (pe_tup (pa_cons (pe_makeF (m_Field (P := P) (w := w) (K := K) (mg := mg) (base := base) T) (hr.mono (by decide)) (pa_cons (pe_callF (c__law_text (P := P) (w := w) (K := K) (mg := mg) (base := base) T) (hr.mono (by decide)) (pa_cons (pv 1) pa_nil)) pa_nil)) (pa_cons (pe_callF (c__law_first_line (P := P) (w := w) (K := K) (mg := mg) (base := base) T) (hr.mono (by decide)) (pa_cons (pv 1) pa_nil)) pa_nil))) (pg_seqK (n := 2) K rfl (pgs_cons (pg_name (i := 2) nd rfl (.inr rfl)) (pgs_cons (pg_name (i := 3) nd rfl (.inr rfl)) pgs_nil))))
      (pss_cons (ps_asg (pe_heard (k := 5) (c__law_heard (P := P) (w := w) (K := K) (mg := mg) (base := base) T) (T.tb 0).1 (T.tb 0).2.1 (T.tb 0).2.2.1 rfl (by first | rfl | kernel_rfl) (hr.mono (by decide)) (LamX.lamS_by (by first | rfl | kernel_rfl)) rfl (fun _ _ _ _ _ => rfl) (fun A outer s H E f c' hr2 => (pe_callXk0 (c_crossings (P := P) (w := w) (K := K) (mg := mg) (base := base) T) (hr2.mono (by decide)) (takes_of rfl rfl rfl rfl) (pk_cons (pv 2) pk_nil)))) (pg_seqK (n := 2) K rfl (pgs_cons (pg_name (i := 4) nd rfl (.inl rfl)) (pgs_cons (pg_name (i := 5) nd rfl (.inl rfl)) pgs_nil))))
      (pss_cons (ps_asg (pe_heard (k := 5) (c__law_heard (P := P) (w := w) (K := K) (mg := mg) (base := base) T) (T.tb 0).1 (T.tb 0).2.1 (T.tb 0).2.2.1 rfl (by first | rfl | kernel_rfl) (hr.mono (by decide)) (LamX.lamS_by (by first | rfl | kernel_rfl)) rfl (fun _ _ _ _ _ => rfl) (fun A outer s H E f c' hr2 => (pe_callXk0 (c_sides_of_pairs (P := P) (w := w) (K := K) (mg := mg) (base := base) T) (hr2.mono (by decide)) (takes_of rfl rfl rfl rfl) (pk_cons (pv 2) pk_nil)))) (pg_seqK (n := 2) K rfl (pgs_cons (pg_name (i := 6) nd rfl (.inl rfl)) (pgs_cons (pg_name (i := 7) nd rfl (.inl rfl)) pgs_nil))))
      (pss_cons (ps_if (pt_cmpR op_notN (pv 3) pe_non (nomark _)) (pss_cons (ps_setLc (i := 8) (own := [("one", 9)]) (by rfl) nd rfl rfl (sw_true rfl rfl rfl (by decide +kernel)) (pi_anyK K (pe_tup (pa_cons (pv 4) (pa_cons (pv 6) pa_nil)))) (blkOk_by (N := ["pot", "wells", "field", "first", "caught", "told", "other", "its", "words", "one", "spots", "name", "x", "y", "due", "two", "third", "last", "many", "total", "number", "pairs", "there"]) (sc := defScope s_law_right) (by decide +kernel)) (fun _ _ _ _ _ => (pg_name (i := 9) nd rfl (.inl rfl))) (fun _ _ _ _ _ => pts_nil) (fun _ _ _ _ _ => (pe_and (pe_callB (call_isiQ K) (by rfl) (T.free "isinstance" 55) (by decide +kernel) (pa_cons (pv 9) (pa_cons (pe_gcls (T.glo "OnOne" 72)) pa_nil))) (pe_one (pe_cmpR (op_eqK K hr.units) (pe_callB (call_reprG (K := K) hg (Lw.room70 hr)) (by rfl) (T.free "repr" 62) (by decide +kernel) (pa_cons (pe_fldEK K (pv 9)) pa_nil)) (pe_callB (call_reprG (K := K) hg (Lw.room70 hr)) (by rfl) (T.free "repr" 62) (by decide +kernel) (pa_cons (pv 3) pa_nil)) (nomark _))))))
      (pss_one (ps_ret (pe_cmpR (op_eqK K hr.units) (pv 8) (pe_lst (pa_cons pe_bl (pa_cons pe_bl pa_nil))) (nomark _))))) pss_nil)
      (pss_cons (ps_setLc (i := 10) (own := [("name", 11), ("x", 12), ("y", 13)]) (by rfl) nd rfl rfl (sw_true rfl rfl rfl (by decide +kernel)) (pi_anyK K (pv 1)) (blkOk_by (N := ["pot", "wells", "field", "first", "caught", "told", "other", "its", "words", "one", "spots", "name", "x", "y", "due", "two", "third", "last", "many", "total", "number", "pairs", "there"]) (sc := defScope s_law_right) (by decide +kernel)) (fun _ _ _ _ _ => (pg_seqK (n := 3) K rfl (pgs_cons (pg_name (i := 11) nd rfl (.inl rfl)) (pgs_cons (pg_name (i := 12) nd rfl (.inl rfl)) (pgs_cons (pg_name (i := 13) nd rfl (.inl rfl)) pgs_nil))))) (fun _ _ _ _ _ => pts_nil) (fun _ _ _ _ _ => (pe_tup (pa_cons (pv 12) (pa_cons (pv 13) pa_nil)))))
      (pss_cons (ps_set (i := 14) nd rfl (Or.inl rfl) pe_int)
      (pss_cons (ps_for PassesOwn.never rfl (pi_anyK K (pe_callF (c__law_pairs (P := P) (w := w) (K := K) (mg := mg) (base := base) T) (hr.mono (by decide)) (pa_cons (pe_callF (c__law_pairs (P := P) (w := w) (K := K) (mg := mg) (base := base) T) (hr.mono (by decide)) (pa_cons (pv 10) pa_nil)) pa_nil))) (pg_seqK (n := 2) K rfl (pgs_cons (pg_seqK (n := 2) K rfl (pgs_cons (pg_name (i := 9) nd rfl (.inl rfl)) (pgs_cons (pg_name (i := 15) nd rfl (.inl rfl)) pgs_nil))) (pgs_cons (pg_seqK (n := 2) K rfl (pgs_cons (pg_name (i := 16) nd rfl (.inl rfl)) (pgs_cons (pg_name (i := 17) nd rfl (.inl rfl)) pgs_nil))) pgs_nil))) (pss_one (ps_set (i := 14) nd rfl (Or.inl rfl) (pe_op (op_addK K) (pv 14) (pe_callTy call_intA (by rfl) (T.free "int" 54) (by decide +kernel) (pa_cons (pe_callF (c__law_do_cross (P := P) (w := w) (K := K) (mg := mg) (base := base) T) (hr.mono (by decide)) (pa_cons (pv 9) (pa_cons (pv 15) (pa_cons (pv 16) (pa_cons (pv 17) pa_nil))))) pa_nil))))))
      (pss_cons (ps_if (PW.pt (pw_or (pt_cmpR op_notN (pv 4) pe_non (nomark _)) (pw_or (pt_cmpR (op_neK K hr.units) (pe_callB (call_reprG (K := K) hg (Lw.room70 hr)) (by rfl) (T.free "repr" 62) (by decide +kernel) (pa_cons (pv 5) pa_nil)) (pe_callB (call_reprG (K := K) hg (Lw.room70 hr)) (by rfl) (T.free "repr" 62) (by decide +kernel) (pa_cons (pv 14) pa_nil)) (nomark _)) (pw_or1 (PW.pt (pw_and (pt_cmpR op_gt (pe_callB (call_lenK K) (by rfl) (T.free "len" 56) (by decide +kernel) (pa_cons (pv 1) pa_nil)) pe_int (nomark _)) (pw_and1 (pt_not (pt_val (pe_callG (c__law_are_sides_right (P := P) (w := w) (K := K) (mg := mg) (base := base) T) hg (hr.mono (by decide)) (pa_cons (pv 1) (pa_cons (pv 7) pa_nil)))))))))))) (pss_one (ps_ret pe_bl)) pss_nil)
      (pss_cons (ps_par (i := 18) (j := 19) (by rfl) nd rfl rfl (by decide) rfl rfl (pa_cons (pe_callB (call_lenK K) (by rfl) (T.free "len" 56) (by decide +kernel) (pa_cons (pv 1) pa_nil)) (pa_cons pe_int pa_nil)) (by rfl))
      (pss_cons (ps_for PassesOwn.never rfl (pi_enumA K (by rfl) (T.free "enumerate" 53) (pa_cons (pv 7) pa_nil)) (pg_seqK (n := 2) K rfl (pgs_cons (pg_name (i := 20) nd rfl (.inl rfl)) (pgs_cons (pg_name (i := 21) nd rfl (.inl rfl)) pgs_nil))) (pss_one (ps_set (i := 19) nd rfl (Or.inl rfl) (pe_op (op_addK K) (pv 19) (pe_op op_mulA (pe_op op_mulA (pv 21) (pv 20)) (pe_op op_sub (pe_op op_sub (pv 18) pe_int) (pv 20)))))))
      (pss_cons (ps_if (pt_cmpR (op_neK K hr.units) (pv 5) (pe_op op_sub (pe_op op_mulA pe_int (pe_callF (c__law_choose (P := P) (w := w) (K := K) (mg := mg) (base := base) T) (hr.mono (by decide)) (pa_cons (pv 18) (pa_cons pe_int pa_nil)))) (pv 19)) (nomark _)) (pss_one (ps_ret pe_bl)) pss_nil)
      (pss_cons (ps_for PassesOwn.never rfl (pi_anyK K (pe_tup (pa_cons (pe_callF (c_moved (P := P) (w := w) (K := K) (mg := mg) (base := base) T) (hr.mono (by decide)) (pa_cons (pv 2) (pa_cons (pe_un un_neg pe_int) (pa_cons pe_int pa_nil)))) (pa_cons (pe_callF (c_turned (P := P) (w := w) (K := K) (mg := mg) (base := base) T) (hr.mono (by decide)) (pa_cons (pv 2) pa_nil)) (pa_cons (pe_callF (c_mirrored (P := P) (w := w) (K := K) (mg := mg) (base := base) T) (hr.mono (by decide)) (pa_cons (pv 2) pa_nil)) pa_nil))))) (pg_name (i := 22) nd rfl (.inl rfl)) (pss_one (ps_if (PW.pt (pw_or (pt_cmpR (op_neK K hr.units) (pe_callX (c_crossings (P := P) (w := w) (K := K) (mg := mg) (base := base) T) (hr.mono (by decide)) LamX.takes0 (pa_cons (pv 22) pa_nil)) (pv 5) (nomark _)) (pw_or1 (pt_cmpR (op_neK K hr.units) (pe_callX (c_sides_of_pairs (P := P) (w := w) (K := K) (mg := mg) (base := base) T) (hr.mono (by decide)) LamX.takes0 (pa_cons (pv 22) pa_nil)) (pv 7) (nomark _))))) (pss_one (ps_ret pe_bl)) pss_nil)))
      (pss_one (ps_ret pe_bl))))))))))))))), ?_⟩
  rintro m ds G hm hl ⟨rfl, hG⟩
  intro ex
  have hm' : m + 400 ≤ 1000000000 := hm
  have tb := (T.tb 0).2.2.2
  refine ws_seq (ws_asg ?_)
  walk_at "ge"
  refine ⟨(by show m + 1 ≤ 1000000000; omega), rfl, 8, rfl, by decide, by decide, fun d0 d00 d01 => ?_⟩
  walk_at "ge"
  refine ⟨(by show m + 1 + 1 ≤ 1000000000; omega), rfl, [.int 4, .int 30, .int 4000], rfl, by decide, by decide, fun w hw0 => ?_⟩
  obtain ⟨b, rfl, b1, b2⟩ : ∃ b : Int, w = .int b ∧ 1 ≤ b ∧ b ≤ 4000 := by
    rcases List.mem_cons.mp hw0 with rfl | hw0
    · exact ⟨_, rfl, by decide, by decide⟩
    rcases List.mem_cons.mp hw0 with rfl | hw0
    · exact ⟨_, rfl, by decide, by decide⟩
    rcases List.mem_cons.mp hw0 with rfl | hw0
    · exact ⟨_, rfl, by decide, by decide⟩
    · cases hw0
  walk_at "ge"
  refine ⟨(by show m + 1 + 1 + 300 ≤ 1000000000; omega), rfl, 2 + d0, b, rfl, by omega, by omega, b1, b2, fun ws hw hw12 hs => ?_⟩
  refine wg_name ?_
  refine ws_eq (show _ = [SD.pot (m + 1 + 1 + 300), .d (.tup (ws.map wellD)), .un, .un, .un, .un, .un, .un, .un, .un, .un, .un, .un, .un, .un, .un, .un, .un, .un, .un, .un, .un, .un] from rfl) ?_
  refine ws_seq (ws_asg ?_)
  walk_at "ge"
  refine ⟨ws, _, rfl, .inl rfl, hw, ?_⟩
  walk_at "ge"
  refine ⟨ws, rfl, hw, ?_⟩
  walk_at "ge"
  cases ht : firstT ws with
  | some t =>
    have tn : ∀ n ∈ tripL t, nameB n = true := fun n hn => by
      obtain ⟨t1, t2, t3⟩ := threesL_in (List.mem_of_find?_eq_some ht)
      rcases List.mem_cons.mp hn with rfl | hn
      · exact (hw.ok _ t1).name
      rcases List.mem_cons.mp hn with rfl | hn
      · exact (hw.ok _ t2).name
      rcases List.mem_cons.mp hn with rfl | hn
      · exact (hw.ok _ t3).name
      · cases hn
    refine ⟨ws, rfl, hw, (fun h => by rw [ht] at h; cases h), fun t' h => ?_⟩
    rw [ht] at h
    cases h
    walk_at "ge"
    walk_at "seq"
    refine wgs_cons (wg_name (wgs_cons (wg_name (wgs_nil ?_))))
    refine ws_eq (show _ = [SD.pot (m + 1 + 1 + 300), .d (.tup (ws.map wellD)), .d (fldD (FC K) ws), .d (lotD (tripL t)), .un, .un, .un, .un, .un, .un, .un, .un, .un, .un, .un, .un, .un, .un, .un, .un, .un, .un, .un] from rfl) ?_
    refine ws_seq (ws_asg (we_heard tb (Fd := fun d => False) (Xc := fun C y => C = He.ga K "OnOne" ∧ y = lotD (tripL t)) (fun E => ?_) (fun d hd => hd.elim) (fun C y h => ?_)))
    · letI ex3 := exnOf E (fun C y => C = He.ga K "OnOne" ∧ y = lotD (tripL t))
      refine we_callXNG (G := fun _ C y => C = He.ga K "OnOne" ∧ y = lotD (tripL t)) (fun _ _ _ _ _ _ _ h => ⟨h, id⟩) ?_
      refine wa_nil (wa_cons (we_var rfl (wa_nil ⟨rfl, rfl, rfl, ws, rfl, hw, fun h => ?_, fun t' h => ?_⟩)))
      · rw [ht] at h; cases h
      · rw [ht] at h; cases h; exact ⟨rfl, rfl⟩
    · obtain ⟨rfl, rfl⟩ := h
      refine ⟨(T.err 4 (c := "OnOne")).2.1.exm, ?_⟩
      walk_at "seq"
      refine wgs_cons (wg_name (wgs_cons (wg_name (wgs_nil ?_))))
      refine ws_eq (show _ = [SD.pot (m + 1 + 1 + 300), .d (.tup (ws.map wellD)), .d (fldD (FC K) ws), .d (lotD (tripL t)), .d (.exc (He.ga K "OnOne") (lotD (tripL t))), .d .non, .un, .un, .un, .un, .un, .un, .un, .un, .un, .un, .un, .un, .un, .un, .un, .un, .un] from rfl) ?_
      refine ws_seq (ws_asg (we_heard tb (Fd := fun d => False) (Xc := fun C y => C = He.ga K "OnOne" ∧ y = lotD (tripL t)) (fun E => ?_) (fun d hd => hd.elim) (fun C y h => ?_)))
      · letI ex3 := exnOf E (fun C y => C = He.ga K "OnOne" ∧ y = lotD (tripL t))
        refine we_callXNG (G := fun _ C y => C = He.ga K "OnOne" ∧ y = lotD (tripL t)) (fun _ _ _ _ _ _ _ h => ⟨h, id⟩) ?_
        refine wa_nil (wa_cons (we_var rfl (wa_nil ⟨rfl, rfl, rfl, ws, rfl, hw, fun h => ?_, fun t' h => ?_⟩)))
        · rw [ht] at h; cases h
        · rw [ht] at h; cases h; exact ⟨rfl, rfl⟩
      · obtain ⟨rfl, rfl⟩ := h
        refine ⟨(T.err 4 (c := "OnOne")).2.1.exm, ?_⟩
        walk_at "seq"
        refine wgs_cons (wg_name (wgs_cons (wg_name (wgs_nil ?_))))
        refine ws_eq (show _ = [SD.pot (m + 1 + 1 + 300), .d (.tup (ws.map wellD)), .d (fldD (FC K) ws), .d (lotD (tripL t)), .d (.exc (He.ga K "OnOne") (lotD (tripL t))), .d .non, .d (.exc (He.ga K "OnOne") (lotD (tripL t))), .d .non, .un, .un, .un, .un, .un, .un, .un, .un, .un, .un, .un, .un, .un, .un, .un] from rfl) ?_
        refine ws_seq (ws_if (wt_test ?_))
        walk_at "ge"
        refine ⟨fun _ => ?_, (fun h => nomatch h)⟩
        refine ws_seq (ws_asg ?_)
        walk_at "lc"
        refine wi_any ?_
        walk_at "ge"
        refine lcI_map (ws := [true, true]) (enc := fun _ => .exc (He.ga K "OnOne") (lotD (tripL t))) (res := fun _ => .bl true) rfl (fun v hv => ?_) ?_
        · walk_at "ge"
          refine ⟨(T.err 4 (c := "OnOne")).2.1.is, _, _, rfl, T.kit 66 (a := .cl "OnOne") (b := .cl "OnOne") (r := true), ?_⟩
          walk_at "ge"
          refine ⟨fun _ => ?_, (fun h => by cases h)⟩
          walk_at "ge"
          refine we_fldE (we_var rfl ?_)
          refine ⟨_, _, rfl, rfl, (T.err 4 (c := "OnOne")).2.1.fld, (T.err 4 (c := "OnOne")).2.1.no, ?_⟩
          refine repr_lot (ns := tripL t) (show 3 ≤ 40 by decide) tn ?_
          generalize hS1 : (lotD (tripL t)).pr.shown = S1
          walk_at "ge"
          refine repr_lot (ns := tripL t) (show 3 ≤ 40 by decide) tn ?_
          rw [hS1]
          refine q_eqS ?_
          rw [decide_eq_true rfl]
          exact ⟨rfl, rfl⟩
        · refine wg_name ?_
          refine ws_ret ?_
          walk_at "ge"
          refine q_eqL rfl rfl ?_
          exact ⟨hG, _, rfl, by omega⟩
  | none =>
    refine ⟨ws, rfl, hw, (fun _ => ?_), fun t' h => by rw [ht] at h; cases h⟩
    walk_at "ge"
    walk_at "seq"
    refine wgs_cons (wg_name (wgs_cons (wg_name (wgs_nil ?_))))
    refine ws_eq (show _ = [SD.pot (m + 1 + 1 + 300), .d (.tup (ws.map wellD)), .d (fldD (FC K) ws), .d .non, .un, .un, .un, .un, .un, .un, .un, .un, .un, .un, .un, .un, .un, .un, .un, .un, .un, .un, .un] from rfl) ?_
    refine ws_seq (ws_asg (we_heard tb (Fd := fun d => d = .int (crossI ws)) (Xc := fun _ _ => False) (fun E => ?_) (fun d hd => ?_) (fun _ _ h => h.elim)))
    · letI ex3 := exnOf E (fun _ _ => False)
      refine we_callXNG (G := fun _ _ _ => False) (fun _ _ _ _ _ _ _ h => h.elim) ?_
      refine wa_nil (wa_cons (we_var rfl (wa_nil ⟨rfl, rfl, rfl, ws, rfl, hw, fun h => rfl, fun t' h => ?_⟩)))
      rw [ht] at h; cases h
    · subst hd
      walk_at "seq"
      refine wgs_cons (wg_name (wgs_cons (wg_name (wgs_nil ?_))))
      refine ws_eq (show _ = [SD.pot (m + 1 + 1 + 300), .d (.tup (ws.map wellD)), .d (fldD (FC K) ws), .d .non, .d .non, .d (.int (crossI ws)), .un, .un, .un, .un, .un, .un, .un, .un, .un, .un, .un, .un, .un, .un, .un, .un, .un] from rfl) ?_
      refine ws_seq (ws_asg (we_heard tb (Fd := fun d => d = natsT (sidesL ws)) (Xc := fun _ _ => False) (fun E => ?_) (fun d hd => ?_) (fun _ _ h => h.elim)))
      · letI ex3 := exnOf E (fun _ _ => False)
        refine we_callXNG (G := fun _ _ _ => False) (fun _ _ _ _ _ _ _ h => h.elim) ?_
        refine wa_nil (wa_cons (we_var rfl (wa_nil ⟨rfl, rfl, rfl, ws, rfl, hw, fun h => rfl, fun t' h => ?_⟩)))
        rw [ht] at h; cases h
      · subst hd
        walk_at "seq"
        refine wgs_cons (wg_name (wgs_cons (wg_name (wgs_nil ?_))))
        refine ws_eq (show _ = [SD.pot (m + 1 + 1 + 300), .d (.tup (ws.map wellD)), .d (fldD (FC K) ws), .d .non, .d .non, .d (.int (crossI ws)), .d .non, .d (natsT (sidesL ws)), .un, .un, .un, .un, .un, .un, .un, .un, .un, .un, .un, .un, .un, .un, .un] from rfl) ?_
        refine ws_seq (ws_if (wt_test ?_))
        walk_at "ge"
        refine ⟨(fun h => nomatch h), fun _ => ws_next ?_⟩
        have hl12 := hw12
        have pl := pairsL_len ws
        have pl2 : ws.length * ws.length ≤ 12 * 12 := Nat.mul_le_mul hw12 hw12
        have ql := pairsL_len (pairsL ws)
        have ql2 : (pairsL ws).length * (pairsL ws).length ≤ 144 * 144 := Nat.mul_le_mul (by omega) (by omega)
        refine ws_seq (ws_asg ?_)
        walk_at "lc"
        refine wi_any ?_
        walk_at "ge"
        refine ⟨wells_len hw.len, lcI_map (ws := ws) (enc := wellD) (res := fun v => spD v.2) rfl (fun v hv => ?_) ?_⟩
        · walk_at "seq"
          walk_at "ge"
          exact rfl
        refine wg_name ?_
        refine ws_seq (ws_asg ?_)
        walk_at "ge"
        refine ws_eq (show _ = [SD.pot (m + 1 + 1 + 300), .d (.tup (ws.map wellD)), .d (fldD (FC K) ws), .d .non, .d .non, .d (.int (crossI ws)), .d .non, .d (natsT (sidesL ws)), .un, .un, .d (.lst (ws.map fun (v : Well) => spD v.2)), .un, .un, .un, .d (.int 0), .un, .un, .un, .un, .un, .un, .un, .un] from rfl) ?_
        refine ws_seq (ws_for (wi_any ?_))
        walk_at "ge"
        refine ⟨ws.map fun v => spD v.2, rfl, by rw [List.length_map]; omega, ?_⟩
        walk_at "ge"
        rw [pairsL_map, List.map_map]
        refine ⟨_, rfl, by rw [List.length_map]; omega, ?_⟩
        rw [pairsL_map, List.map_map]
        refine ⟨_, rfl, fun i ρ => ∃ s9 s15 s16 s17, ρ = [SD.pot (m + 1 + 1 + 300), .d (.tup (ws.map wellD)), .d (fldD (FC K) ws), .d .non, .d .non, .d (.int (crossI ws)), .d .non, .d (natsT (sidesL ws)), .un, s9, .d (.lst (ws.map fun (v : Well) => spD v.2)), .un, .un, .un, .d (.int (crossN ((pairsL (pairsL ws)).take i) : Nat)), s15, s16, s17, .un, .un, .un, .un, .un], ⟨_, _, _, _, rfl⟩, fun i ρi y hy ⟨s9, s15, s16, s17, hρ⟩ => ?_, fun ρ' ⟨s9, s15, s16, s17, hρ⟩ => ?_⟩
        · rw [List.getElem?_map] at hy
          cases hv : (pairsL (pairsL ws))[i]? with
          | none => rw [hv] at hy; cases hy
          | some q =>
            rw [hv] at hy
            cases hy
            subst hρ
            obtain ⟨q1, q2⟩ := pairsL_in (List.mem_of_getElem? hv)
            obtain ⟨q3, q4⟩ := pairsL_in q1
            obtain ⟨q5, q6⟩ := pairsL_in q2
            walk_at "seq"
            refine wgs_cons (wg_seq ⟨_, .inl rfl, rfl, ?_⟩)
            refine wgs_cons (wg_name (wgs_cons (wg_name (wgs_nil ?_))))
            refine wgs_cons (wg_seq ⟨_, .inl rfl, rfl, ?_⟩)
            refine wgs_cons (wg_name (wgs_cons (wg_name (wgs_nil (wgs_nil ?_)))))
            refine ws_asg ?_
            walk_at "ge"
            refine ⟨q.1.1.2, q.1.2.2, q.2.1.2, q.2.2.2, rfl, hw.spot q3, hw.spot q4, hw.spot q5, hw.spot q6, ?_⟩
            walk_at "ge"
            exact ⟨_, _, _, _, congrArg (fun (z : Int) => [SD.pot (m + 1 + 1 + 300), .d (.tup (ws.map wellD)), .d (fldD (FC K) ws), .d .non, .d .non, .d (.int (crossI ws)), .d .non, .d (natsT (sidesL ws)), .un, .d (spD q.1.1.2), .d (.lst (ws.map fun (v : Well) => spD v.2)), .un, .un, .un, .d (.int z), .d (spD q.1.2.2), .d (spD q.2.1.2), .d (spD q.2.2.2), .un, .un, .un, .un, .un]) (crossN_step hv)⟩
        · rw [List.length_map, List.take_length] at hρ
          obtain ⟨N, hN, hNl⟩ : ∃ N : Nat, crossN (pairsL (pairsL ws)) = N ∧ N ≤ 30000 := ⟨_, rfl, by unfold crossN; have := List.length_filter_le crossQ (pairsL (pairsL ws)); omega⟩
          have hcr := due_cross hw ht
          rw [hN] at hρ hcr
          rw [hcr] at hρ
          subst hρ
          have sl : (sidesL ws).length = (ws.length - 2) / 2 + 1 := sidesN_len _ _
          have lm : (minsL ws).length ≤ 144 := by unfold minsL; rw [List.length_map]; omega
          have small : ∀ k ∈ sidesL ws, k ≤ 144 := fun k hk => by have := sidesN_small hk; omega
          refine ws_fall (F := fun ρ1 => ρ1 = [SD.pot (m + 1 + 1 + 300), .d (.tup (ws.map wellD)), .d (fldD (FC K) ws), .d .non, .d .non, .d (.int (N : Nat)), .d .non, .d (natsT (sidesL ws)), .un, s9, .d (.lst (ws.map fun (v : Well) => spD v.2)), .un, .un, .un, .d (.int (N : Nat)), s15, s16, s17, .un, .un, .un, .un, .un]) ?_ ?_
          · refine ws_if (wt_or (wt_test ?_))
            walk_at "ge"
            refine ⟨fun _ => ?_, (fun h => nomatch h)⟩
            refine wt_or (wt_test ?_)
            walk_at "ge"
            refine repr_nat (by omega) ?_
            generalize hS1 : (D.int (N : Int)).pr.shown = S1
            walk_at "ge"
            refine repr_nat (by omega) ?_
            rw [hS1]
            refine q_eqS ?_
            rw [decide_eq_true rfl]
            walk_at "x1"
            refine ⟨fun _ => ?_, (fun h => nomatch h)⟩
            refine wt_and (wt_test ?_)
            walk_at "ge"
            rw [List.length_map]
            refine ⟨fun h1 => ?_, fun h1 => ?_⟩
            · have h2 := of_decide_eq_true h1
              walk_at "ge"
              refine ⟨ws, _, rfl, .inl rfl, hw, by omega, left_right hw ht, few_ok hw ht, ?_⟩
              walk_at "x1"
              exact ⟨(fun h => nomatch h), fun _ => ws_next rfl⟩
            · exact ⟨(fun h => nomatch h), fun _ => ws_next rfl⟩
          rintro _ rfl
          refine ws_seq (ws_par ?_)
          walk_at "ge"
          rw [List.length_map]
          refine ws_eq (show _ = [SD.pot (m + 1 + 1 + 300), .d (.tup (ws.map wellD)), .d (fldD (FC K) ws), .d .non, .d .non, .d (.int (N : Nat)), .d .non, .d (natsT (sidesL ws)), .un, s9, .d (.lst (ws.map fun (v : Well) => spD v.2)), .un, .un, .un, .d (.int (N : Nat)), s15, s16, s17, .d (.int ws.length), .d (.int (totI ws 0)), .un, .un, .un] from rfl) ?_
          refine ws_seq (ws_for (wi_enumA ?_))
          walk_at "ge"
          refine ⟨fun i ρ => ∃ s20 s21, ρ = [SD.pot (m + 1 + 1 + 300), .d (.tup (ws.map wellD)), .d (fldD (FC K) ws), .d .non, .d .non, .d (.int (N : Nat)), .d .non, .d (natsT (sidesL ws)), .un, s9, .d (.lst (ws.map fun (v : Well) => spD v.2)), .un, .un, .un, .d (.int (N : Nat)), s15, s16, s17, .d (.int ws.length), .d (.int (totI ws i)), s20, s21, .un], ⟨_, _, rfl⟩, fun i ρi y hy ⟨s20, s21, hρ⟩ => ?_, fun ρ' ⟨s20, s21, hρ⟩ => ?_⟩
          · obtain ⟨k, hv, rfl⟩ := enumD_map hy
            have hi := (List.getElem?_eq_some_iff.mp hv).1
            have hk := small k (List.mem_of_getElem? hv)
            subst hρ
            walk_at "seq"
            refine wgs_cons (wg_name (wgs_cons (wg_name (wgs_nil ?_))))
            refine ws_asg ?_
            walk_at "ge"
            have kb : ((k : Int) * (i : Int)).natAbs ≤ 144 * 20 := by
              rw [Int.natAbs_mul]
              exact Nat.mul_le_mul (by omega) (by omega)
            refine q_mul (mulA' (n := 10 ^ 20) (by decide) (by omega) (by omega)) ?_
            walk_at "ge"
            exact ⟨_, _, congrArg (fun (z : Int) => [SD.pot (m + 1 + 1 + 300), .d (.tup (ws.map wellD)), .d (fldD (FC K) ws), .d .non, .d .non, .d (.int (N : Nat)), .d .non, .d (natsT (sidesL ws)), .un, s9, .d (.lst (ws.map fun (v : Well) => spD v.2)), .un, .un, .un, .d (.int (N : Nat)), s15, s16, s17, .d (.int ws.length), .d (.int (z)), .d (.int (i : Nat)), .d (.int (k : Nat)), .un]) (totI_step hv)⟩
          · rw [enumD_len, List.length_map, tot_all hw ht] at hρ
            subst hρ
            have key : ∀ n : Nat, n < 41 → (c4 n).natAbs ≤ 10000000 := by decide
            have k4 := key ws.length (by omega)
            refine ws_seq (ws_if (wt_test ?_))
            walk_at "ge"
            refine ⟨ws.length, 4, rfl, by omega, .inr rfl, ?_⟩
            rw [if_neg (by decide), c4_choose _ (by omega)]
            refine q_mul (mulA' (n := 10 ^ 20) (by decide) (by omega) (by omega)) ?_
            walk_at "ge"
            have ee : decide ((N : Int) = 3 * c4 ws.length - (prodL ws).sum) = true := decide_eq_true (hcr.symm.trans (by unfold crossI; rfl))
            rw [ee]
            refine ⟨(fun h => nomatch h), fun _ => ws_next ?_⟩
            have hmv : WsOk (mapW (fun p => (p.1 + -9, p.2 + 4)) ws) := hw.map (fun p q e => by
              have e1 := congrArg Prod.fst e
              have e2 := congrArg Prod.snd e
              simp only at e1 e2
              exact Prod.ext (by omega) (by omega)) fun v hv => by
                have := hs v hv
                refine ⟨?_, ?_⟩ <;> (simp only; omega)
            refine ws_seq (ws_for (wi_any ?_))
            walk_at "ge"
            refine ⟨ws, -9, 4, rfl, hw, hmv, ?_⟩
            walk_at "ge"
            refine ⟨ws, rfl, hw, ?_⟩
            walk_at "ge"
            refine ⟨ws, rfl, hw, ?_⟩
            walk_at "ge"
            refine ⟨fun i ρ => ∃ s22, ρ = [SD.pot (m + 1 + 1 + 300), .d (.tup (ws.map wellD)), .d (fldD (FC K) ws), .d .non, .d .non, .d (.int (N : Nat)), .d .non, .d (natsT (sidesL ws)), .un, s9, .d (.lst (ws.map fun (v : Well) => spD v.2)), .un, .un, .un, .d (.int (N : Nat)), s15, s16, s17, .d (.int ws.length), .d (.int ((prodL ws).sum)), s20, s21, s22], ⟨_, rfl⟩, fun i ρi y hy ⟨s22, hρ⟩ => ?_, fun ρ' ⟨s22, hρ⟩ => ?_⟩
            · obtain ⟨us, rfl, hu, u1, u2, u3⟩ : ∃ us, y = fldD (FC K) us ∧ WsOk us ∧ firstT us = none ∧ crossI us = crossI ws ∧ sidesL us = sidesL ws := by
                match i, hy with
                | 0, hy => cases hy; exact ⟨_, rfl, hmv, same_by (.inl fun a b c => bend_move a b c (-9) 4) ht⟩
                | 1, hy => cases hy; exact ⟨_, rfl, wsOk_turned hw, same_by (.inl bend_turn) ht⟩
                | 2, hy => cases hy; exact ⟨_, rfl, wsOk_mirrored hw, same_by (.inr bend_glass) ht⟩
                | i + 3, hy => cases hy
              rw [hcr] at u2
              subst hρ
              refine wg_name ?_
              refine ws_if (wt_or (wt_test ?_))
              refine we_ne (we_callX0 (wa_cons (we_var rfl (wa_nil ⟨rfl, us, rfl, hu, fun _ => ?_, fun t' h => by rw [u1] at h; cases h⟩))))
              rw [u2]
              walk_at "ge"
              rw [decide_eq_true rfl]
              refine ⟨fun _ => ?_, (fun h => nomatch h)⟩
              refine wt_test (we_ne (we_callX0 (wa_cons (we_var rfl (wa_nil ⟨rfl, us, rfl, hu, fun _ => ?_, fun t' h => by rw [u1] at h; cases h⟩)))))
              rw [u3]
              walk_at "ge"
              refine q_eqT (xs := (sidesL ws).map fun (k : Nat) => D.int (k : Int)) (ys := (sidesL ws).map fun (k : Nat) => D.int (k : Int)) (ok_natsT _) (ok_natsT _) ?_
              rw [show D.eqb (.tup ((sidesL ws).map fun (k : Nat) => D.int (k : Int))) (.tup ((sidesL ws).map fun (k : Nat) => D.int (k : Int))) = true from eqb_natsT _]
              walk_at "x1"
              exact ⟨(fun h => nomatch h), fun _ => ws_next ⟨_, rfl⟩⟩
            · subst hρ
              refine ws_ret ?_
              walk_at "ge"
              exact ⟨hG, _, rfl, by omega⟩
theorem sc_law : FnScope ["script", "place", "pot", "lap"] ["script"] (defScope slaw) := ⟨rfl, rfl, rfl, by decide +kernel, rfl, by decide +kernel, by decide +kernel⟩
theorem g_law (kin : ∃ h : Heap, K.In h ∧ h.Ns mainGlobals mg) (d : Lh.obsP exB fnL K = Lh.dueP fnL) : ∃ (f : Addr) (fd : FuncData), mg ("law" : Str) = some (.ref f) ∧ (∀ (s : Shared) (v : Value), BindsTo s fd ⟨[v], []⟩ [("script", v)]) ∧ ∀ base : Heap, Tx P K mg base → FnG P w K mg base 10 f fd ["script"] (pureSp K 1 Slaw2) := by
  obtain ⟨fd, F⟩ := Lh.def_of d 40 (d := dslaw)
  have b := FunD.bindsA (ps := ["script"]) F fun _ _ _ _ _ _ us hl => match us, hl with | [_], _ => rfl
  have fa : (He.Fa.glo "law").ok K = true := by
    have q := Lh.more_of d
    unfold exB at q
    rw [Bool.and_eq_true] at q
    exact List.all_eq_true.mp q.1 _ (List.mem_of_getElem? (show faL[40]? = some (.glo "law") from rfl))
  obtain ⟨hp, k1, k2⟩ := kin
  refine ⟨_, fd, He.glo_ok k1 k2 fa, fun s v => b s [v] rfl, fun base T => ?_⟩
  have nd := sc_law.nd
  refine Lw.fn_pureG F sc_law rfl (by decide) fun A outer s H E hg hr => ?_
  have hr65 := Lw.room65 hr
  refine ⟨_, (pss_cons (ps_for PassesOwn.never rfl (pi_anyK K (pe_callF (c__law_cells (P := P) (w := w) (K := K) (mg := mg) (base := base) T) (hr.mono (by decide)) (pa_cons (pv 0) (pa_cons pe_int pa_nil)))) (pg_name (i := 1) nd rfl (.inl rfl)) (pss_cons (ps_set (i := 2) nd rfl (Or.inr rfl) (pe_callF (c__law_pot (P := P) (w := w) (K := K) (mg := mg) (base := base) T) (hr.mono (by decide)) (pa_cons (pv 0) (pa_cons (pv 1) pa_nil))))
      (pss_one (ps_if (PW.pt (pw_or (pt_not (pt_val (pe_callB (cr_allK K rfl) (by rfl) (T.free "all" 49) (by decide +kernel) (pa_cons (pe_lc (own := [("lap", 3)]) (by rfl) nd (pi_range1 rfl (T.free "range" 61) (pa_cons pe_int pa_nil)) (blkOk_by (N := ["script", "place", "pot", "lap"]) (sc := defScope slaw) (by decide +kernel)) (fun _ _ _ _ _ => (pg_name (i := 3) nd rfl (.inl rfl))) (fun _ _ _ _ _ => pts_nil) (fun _ _ _ _ _ => (pe_callG (c__law_right (P := P) (w := w) (K := K) (mg := mg) (base := base) T) hg (hr.mono (by decide)) (pa_cons (pv 2) pa_nil)))) pa_nil)))) (pw_or1 (pt_not (pt_val (pe_callG (c__law_are_bows_right (P := P) (w := w) (K := K) (mg := mg) (base := base) T) hg (hr.mono (by decide)) (pa_cons (pv 2) pa_nil))))))) (pss_one (ps_ret pe_bl)) pss_nil))))
      (pss_one (ps_ret pe_bl))), ?_⟩
  rintro ds G hl ⟨sc, rfl, hG⟩
  intro ex
  walk_at "cx"
  refine ws_seq (ws_for (wi_any ?_))
  walk_at "ge"
  refine ⟨sc.map D.int, rfl, fun n n1 n3 => ?_⟩
  refine ⟨_, rfl, fun i ρ => ∃ s1 s2 s3, ρ = [SD.d (.frl (sc.map D.int)), s1, s2, s3], ⟨_, _, _, rfl⟩, fun i ρi x hx ⟨s1, s2, s3, hρ⟩ => ?_, fun ρ' ⟨s1, s2, s3, hρ⟩ => ?_⟩
  · obtain ⟨hi, rfl⟩ := rangeD_at (a := n) hx
    subst hρ
    refine wg_name ?_
    refine ws_seq (ws_own (wn_call ?_))
    walk_at "ge"
    refine ⟨sc, i, rfl, by omega, fun a b a0 b0 b1 => ?_⟩
    refine ws_if (wt_or (wt_not (wt_B (we_all ?_))))
    walk_at "lc"
    refine wi_range1 ?_
    walk_at "ge"
    refine ⟨by decide, by decide, by rw [rangeD_len]; decide, fun k acc ρ' => ∃ a b c, PotI a b c (400 * k) ∧ ρ' = [SD.d (.frl (sc.map D.int)), .d (.int i), .ow [.int a, .int b, .int c], .un] ∧ acc = List.replicate k (.bl true), ?_, ?_, ?_, ?_⟩
    · exact ⟨a, b, 0, ⟨a0, b0, b1, by decide, by decide⟩, rfl, rfl⟩
    · rintro k acc ρ' ⟨a, b, c, p, rfl, _⟩
      exact ⟨rfl, rfl⟩
    · rintro k acc ρi x hx hl2 ⟨a, b, c, p, rfl, rfl⟩
      have hk := (rangeD_at hx).1
      refine wg_name ?_
      refine wt_yes ⟨fun _ => ?_, (fun z => by cases z)⟩
      refine we_callPO (i := 2) rfl (wa_nil ?_)
      refine ⟨a, b, c, 400 * k, rfl, p, (by show 400 * k + 400 ≤ 1000000000; omega), rfl, rfl, fun a' b' c' p' => ?_⟩
      exact ⟨a', b', c', p', rfl, by rw [List.replicate_succ']⟩
    · rintro acc ρ' ⟨a, b, c, p, rfl, rfl⟩
      refine q_bools (bs := [true, true, true]) rfl ?_
      walk_at "x1"
      refine ⟨fun _ => ?_, (fun z => by cases z)⟩
      refine wt_not (wt_B (we_callPO (i := 2) rfl (wa_nil ?_)))
      refine ⟨a, b, c, _, rfl, p, (by show 400 * 3 + 3 ≤ 1000000000; decide), rfl, rfl, fun a' b' c' p' => ?_⟩
      refine ⟨true, rfl, (fun z => by cases z), fun _ => ws_next ⟨_, _, _, rfl⟩⟩
  · subst hρ
    walk_at "go"
    exact hG
end
end Law
open PySem PySem.W PySem.Calls PyProof.Rows
theorem PySem.Challenge.cw_whosewell_k50_whole_crossings_by_all_pie_holds : PySem.Challenge.rw_whosewell_k50_whole_crossings_by_all_pie.Holds := by
  w_on; o_law
  refine HandSHeadRun.head_any (r := Law.Rw) (q := view Law.Rw.prog [59]) (H := Law.hk) (ob := Law.ob) (M := 6000) (loose := Law.looseL) (d := HandSHeadRun.topDef Law.Rw.prog 59) (kwd := []) Law.ob_eq
    (by kernel_rfl) (fun s => by kernel_rfl) Law.run (by kernel_rfl) (by kernel_rfl) (by kernel_rfl) (by rfl) (by first | assumption | decide +kernel) (by decide +kernel) ⟨rfl, rfl, rfl, rfl, rfl, by decide +kernel⟩ ?hw ?hc
  case hw => w_witness2
  case hc =>
    refine Lw.endG (l := PySem.Challenge.rw_whosewell_k50_whole_crossings_by_all_pie) (n := 63) (k := 10) (x := "script") rfl (by decide) (by kernel_rfl) ⟨rfl, by decide, by decide⟩ ?F
    intro w mg fa h Y G hmg0
    obtain ⟨K, KX, c⟩ := Y
    letI tb0 : Lw.Tabl := ⟨Lh.tabT Law.tlL K⟩
    have hmg : mg ("law" : PySem.Str) = some (.ref fa) := by
      have e : (HandSHeadRun.topDef Law.Rw.prog 59).name = ("law" : PySem.Str) := by kernel_rfl
      rw [← e]
      exact hmg0
    obtain ⟨f, fd, e, hb, hF⟩ := Law.g_law (P := (PySem.Challenge.rw_whosewell_k50_whole_crossings_by_all_pie).prog) (w := w) ⟨h, KX, G⟩ c.d
    have e2 := hmg.symm.trans e
    cases e2
    have pp : ∀ p ∈ Lh.csOf Law.tlL K, ∃ t ∈ Law.tlL, p = (t.c K, t.p K) := fun p hp => by
      obtain ⟨t, ht, z⟩ := List.mem_map.mp hp
      exact ⟨t, ht, z.symm⟩
    refine ⟨K, fd, Lh.csOf Law.tlL K, _, KX, ?q1, ?q2, ?q3, hb, ?q4, fun base kb nb tab => hF base ⟨⟨base, kb, nb⟩, c.d, rfl, c.nd, fun t ht => tab _ (List.mem_map.mpr ⟨t, ht, rfl⟩), by kernel_rfl, by kernel_rfl⟩⟩
    case q1 => intro p hp; obtain ⟨t, ht, rfl⟩ := pp p hp; exact c.empty t ht
    case q2 => intro p hp; obtain ⟨t, ht, rfl⟩ := pp p hp; exact c.out t ht
    case q3 => intro p hp; obtain ⟨t, ht, rfl⟩ := pp p hp; exact codeHd_of_K KX (c.hd t ht)
    case q4 =>
      intro H a ns hl hT hS
      have hT2 : ∀ b, Lw.Tb b → H b = some (.tbl #[]) := by
        rintro b ⟨p, hp, rfl⟩
        obtain ⟨t, ht, rfl⟩ := List.mem_map.mp (show p ∈ Lh.tabT Law.tlL K from hp)
        exact hT _ (List.mem_map.mpr ⟨t, ht, rfl⟩)
      obtain ⟨B, b1, b2, b3⟩ := Law.seq_start hT2 hS
      refine ⟨B, _, _, b1, b2, .cons (.frl b3 (Law.ints_ra ns)) .nil, rfl, ⟨ns, rfl, rfl⟩, fun v d B' H' hd _ hr => ?_⟩
      subst hd
      exact Lw.rbl hr
