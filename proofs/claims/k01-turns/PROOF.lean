import PyProof.Rows.All
import Wide.All
import OpenK.AllK
import Wide.FinOn
import KE.KStateDown
import HandS.ForMost
import HandS.IsInst
import HandS.Property
import HandS.Defaults
import HandS.HeadEnd
import HandS.Head2
import HandS.HeadHook2
import HandS.Evl
import HandS.Deep
import HandS.TupAny
import HandS.Walk
import HandS.Zip
import HandS.Conv
import HandS.NoneIn
import HandS.Wide
import HandS.MakeKwOnly
import HandS.RaiseMore
import HandS.OwnEq
import HandS.TupSets
import HandS.Style
import KE.KDictKeyed
import KE.KDictZip
import KE.GoesZip
import KE.GoesMore
import PySem.Challenge.RW_whosewell_k01_whole_turns_and_meetings
set_option Elab.async false
set_option linter.all false
set_option maxRecDepth 100000
set_option maxHeartbeats 4000000
namespace Lh
open PySem PySem.Spec PyProof.Rows L2
abbrev Fg := PySem.W.Frag
/-- a def by the way to its address -/
structure DP where
  ad : Fg → Addr
  name : Str
  qual : Str
  params : Arguments
  body : List Stmt
  scope : Scope
def DP.okB (K : Fg) (d : DP) : Bool :=
  PySem.W.keepIn K (.ref (d.ad K)) && (match K.lookup (d.ad K) with
    | some ⟨_, _, .func fd, _⟩ => PySem.W.codeIn K fd.code d.qual && He.dflB K fd.defaults []
    | _ => false)
def seen (K : Fg) (a : Addr) : He.FnW :=
  match K.lookup a with
  | some ⟨_, _, .func fd, _⟩ => some (fd.name, fd.qualname, fd.params, fd.body, fd.scope, fd.globals, fd.closure, fd.builtins)
  | _ => none
def DP.due (d : DP) : He.FnW := some (d.name, d.qual, d.params, .stmts d.body, d.scope, mainGlobals, [], builtinsNs)
theorem DP.fun_ {K : Fg} {d : DP} (e : seen K (d.ad K) = d.due) (c : d.okB K = true) :
    ∃ fd, FunD K d.name d.qual d.params d.body d.scope [] [] (d.ad K) fd := by
  have c0 := (Bool.and_eq_true_iff.mp c).1
  have c1 := (Bool.and_eq_true_iff.mp c).2
  unfold seen at e
  generalize hq : K.lookup (d.ad K) = q at c1 e
  rcases q with _ | ⟨oc, od, dt, osl⟩
  · cases c1
  · cases dt <;> try (cases c1; done)
    rename_i fd
    have c2 := (Bool.and_eq_true_iff.mp c1).1
    have c3 := (Bool.and_eq_true_iff.mp c1).2
    obtain ⟨n1, n2, n3, n4, n5, n6, n7, n8, n9, n10, n11, n12, n13, n14, n15⟩ := fd
    unfold DP.due at e
    simp only [Option.some.injEq, Prod.mk.injEq] at e
    obtain ⟨g1, g2, g3, g4, g5, g6, g7, g8⟩ := e
    subst g1 g2 g3 g4 g5 g6 g7 g8
    exact ⟨_, ⟨oc, od, n8, n9, n10, n11, n12, n13, n14, osl, rfl, hq, c2, He.dflB_ok c3, .inl rfl⟩, c0⟩
/-- what the hook sees -/
abbrev Sees : Type := Bool × List He.FnW
def obsP (ex : Fg → Bool) (fn : List DP) (K : Fg) : Sees := (ex K && fn.all (fun d => d.okB K), fn.map (fun d => seen K (d.ad K)))
def dueP (fn : List DP) : Sees := (true, fn.map DP.due)
def obsPG (n : Nat) (ex : Fg → Bool) (fn : List DP) (g : Addr → Option Obj) : Sees := obsP ex fn (He.frG g (He.asD g n))
def hookP (n : Nat) (ex : Fg → Bool) (fn : List DP) : PySem.W.Hook :=
  { α := Sees
    obs := fun s => obsPG n ex fn s.heap.get?
    val := fun _ => dueP fn
    says := fun _ h => ∃ K : Fg, K.In h ∧ obsP ex fn K = dueP fn
    of := fun _ s e => ⟨He.frG s.heap.get? (He.asD s.heap.get? n), He.frG_in, e⟩
    keeps := fun _ _ _ z k => z.elim fun K q => ⟨K, PySem.W.Frag.In.keeps q.1 k, q.2⟩ }
theorem obsPG_eq {n : Nat} {ex : Fg → Bool} {fn : List DP} {g : Addr → Option Obj} {s : Shared} (h : ∀ a, g a = s.heap.get? a) :
    obsPG n ex fn g = (hookP n ex fn).obs s := by
  obtain rfl : g = s.heap.get? := funext h
  rfl
section
variable {ex : Fg → Bool} {fn : List DP} {K : Fg}
theorem more_of (c : obsP ex fn K = dueP fn) : ex K = true :=
  (Bool.and_eq_true_iff.mp (congrArg Prod.fst c)).1
theorem def_of (c : obsP ex fn K = dueP fn) (i : Nat) {d : DP} (h : fn[i]? = some d := by rfl) :
    ∃ fd, FunD K d.name d.qual d.params d.body d.scope [] [] (d.ad K) fd := by
  have c1 := (Bool.and_eq_true_iff.mp (congrArg Prod.fst c)).2
  have c2 : fn.map (fun d => seen K (d.ad K)) = fn.map DP.due := congrArg Prod.snd c
  have c3 : (fn.map (fun d => seen K (d.ad K)))[i]? = (fn.map DP.due)[i]? := by rw [c2]
  rw [List.getElem?_map, List.getElem?_map, h] at c3
  exact DP.fun_ (Option.some.inj c3) (List.all_eq_true.mp c1 d (List.mem_of_getElem? h))
end
/-! ### properties -/
def prG (K : Fg) (C f : Str) : Addr := match PySem.W.recIn K (He.ma K (He.ga K C) f) "property" with
  | some (.ref g :: _) => g
  | _ => 0
def propB (K : Fg) (C f : Str) : Bool :=
  He.eqO (PySem.W.findIn K (.ref (He.ga K C)) f) (some (some (.ref (He.ma K (He.ga K C) f)))) &&
  (He.eqO (PySem.W.specialIn K (.ref (He.ma K (He.ga K C) f)) "__get__") (some (some (.builtin "property.__get__"))) &&
  (decide (PySem.W.takesIn K (.ref (He.ma K (He.ga K C) f)) = some true) &&
  (match PySem.W.recIn K (He.ma K (He.ga K C) f) "property" with
   | some (.ref _ :: _) => true
   | _ => false)))
theorem prop_of {K : Fg} {C f : Str} (h : propB K C f = true) : PropOf K (He.ga K C) f (He.ma K (He.ga K C) f) (prG K C f) := by
  unfold propB at h
  simp only [Bool.and_eq_true] at h
  obtain ⟨a, b, c, d⟩ := h
  refine ⟨He.eqO_ok a, He.eqO_ok b, of_decide_eq_true c, ?_⟩
  unfold prG
  generalize hq : PySem.W.recIn K (He.ma K (He.ga K C) f) "property" = q at d
  rcases q with _ | l
  · cases d
  · rcases l with _ | ⟨v, r⟩
    · cases d
    · cases v <;> try (cases d; done)
      exact ⟨r, rfl⟩
end Lh

set_option Elab.async false
set_option linter.all false
set_option maxRecDepth 100000
set_option maxHeartbeats 4000000
namespace Lw
open PySem PySem.Spec PyProof.Rows L2
abbrev Fg := PySem.W.Frag
/-! ### data -/
inductive D where
  | non | bl (b : Bool) | int (i : Int) | str (s : Str)
  | tup (xs : List D) | lst (xs : List D) | frl (xs : List D) | dct (kvs : List (Key × D)) | obj (C : Addr) (fs : List (Str × D)) | ty (n : String) | cls (C : Addr)
mutual
inductive R (K : Fg) (H : Hp) : V → D → Prop
  | non : R K H .non .non
  | bl (b : Bool) : R K H (.bl b) (.bl b)
  | int (i : Int) : R K H (.int i) (.int i)
  | str (s : Str) : R K H (.str s) (.str s)
  | ty (n : String) : R K H (.ty n) (.ty n)
  | cls (C : Addr) : R K H (.ref C) (.cls C)
  | tup {a : Addr} {xs : List V} {ds : List D} : SqT K H a xs → RA K H xs ds → R K H (.ref a) (.tup ds)
  | lst {a : Addr} {xs : List V} {ds : List D} : H a = some (.lst xs) → RA K H xs ds → R K H (.ref a) (.lst ds)
  | frl {a : Addr} {xs : List V} {ds : List D} : SqL K H a xs → RA K H xs ds → R K H (.ref a) (.frl ds)
  | dct {a : Addr} {kvs : List (Key × V)} {ds : List (Key × D)} : H a = some (.dK kvs) → RK K H kvs ds → R K H (.ref a) (.dct ds)
  | obj {a C dx : Addr} {fs : List (Str × V)} {ds : List (Str × D)} : H a = some (.ins C dx fs) → RF K H fs ds → R K H (.ref a) (.obj C ds)
inductive RA (K : Fg) (H : Hp) : List V → List D → Prop
  | nil : RA K H [] []
  | cons {v : V} {d : D} {vs : List V} {ds : List D} : R K H v d → RA K H vs ds → RA K H (v :: vs) (d :: ds)
inductive RK (K : Fg) (H : Hp) : List (Key × V) → List (Key × D) → Prop
  | nil : RK K H [] []
  | cons {k : Key} {v : V} {d : D} {vs : List (Key × V)} {ds : List (Key × D)} : R K H v d → RK K H vs ds → RK K H ((k, v) :: vs) ((k, d) :: ds)
inductive RF (K : Fg) (H : Hp) : List (Str × V) → List (Str × D) → Prop
  | nil : RF K H [] []
  | cons {k : Str} {v : V} {d : D} {vs : List (Str × V)} {ds : List (Str × D)} : R K H v d → RF K H vs ds → RF K H ((k, v) :: vs) ((k, d) :: ds)
end
theorem same_rd {H H' : Hp} {a : Addr} {u : HO} (e : Same H H') (h : Rd H a u) : Rd H' a u := by
  rcases h with h | ⟨o, h⟩
  · exact .inl (e _ _ h)
  · exact .inr ⟨o, e _ _ h⟩
theorem same_t {K : Fg} {H H' : Hp} {a : Addr} {xs : List V} (e : Same H H') (h : SqT K H a xs) : SqT K H' a xs := by
  rcases h with h | h
  · exact .inl (same_rd e h)
  · exact .inr h
theorem same_l {K : Fg} {H H' : Hp} {a : Addr} {xs : List V} (e : Same H H') (h : SqL K H a xs) : SqL K H' a xs := e.seq h
mutual
theorem R.mono {K : Fg} {H H' : Hp} (e : Same H H') : ∀ {v : V} {d : D}, R K H v d → R K H' v d
  | _, _, .non => .non
  | _, _, .bl b => .bl b
  | _, _, .int i => .int i
  | _, _, .str s => .str s
  | _, _, .ty s => .ty s
  | _, _, .cls s => .cls s
  | _, _, .tup h q => .tup (same_t e h) (RA.mono e q)
  | _, _, .lst h q => .lst (e _ _ h) (RA.mono e q)
  | _, _, .frl h q => .frl (same_l e h) (RA.mono e q)
  | _, _, .dct h q => .dct (e _ _ h) (RK.mono e q)
  | _, _, .obj h q => .obj (e _ _ h) (RF.mono e q)
theorem RA.mono {K : Fg} {H H' : Hp} (e : Same H H') : ∀ {v : List V} {d : List D}, RA K H v d → RA K H' v d
  | _, _, .nil => .nil
  | _, _, .cons h q => .cons (R.mono e h) (RA.mono e q)
theorem RK.mono {K : Fg} {H H' : Hp} (e : Same H H') : ∀ {v : List (Key × V)} {d : List (Key × D)}, RK K H v d → RK K H' v d
  | _, _, .nil => .nil
  | _, _, .cons h q => .cons (R.mono e h) (RK.mono e q)
theorem RF.mono {K : Fg} {H H' : Hp} (e : Same H H') : ∀ {v : List (Str × V)} {d : List (Str × D)}, RF K H v d → RF K H' v d
  | _, _, .nil => .nil
  | _, _, .cons h q => .cons (R.mono e h) (RF.mono e q)
end
theorem RA.length {K : Fg} {H : Hp} : ∀ {vs : List V} {ds : List D}, RA K H vs ds → vs.length = ds.length
  | _, _, .nil => rfl
  | _, _, .cons _ q => by simp [RA.length q]
theorem RA.get {K : Fg} {H : Hp} : ∀ {vs : List V} {ds : List D}, RA K H vs ds → ∀ {i : Nat} {d : D}, ds[i]? = some d → ∃ v, vs[i]? = some v ∧ R K H v d
  | _, _, .nil, i, d, e => by simp at e
  | _, _, .cons (v := v) h q, 0, d, e => by
    simp at e; subst e; exact ⟨v, rfl, h⟩
  | _, _, .cons h q, i + 1, d, e => by
    obtain ⟨v, e1, e2⟩ := RA.get q (i := i) (d := d) (by simpa using e)
    exact ⟨v, by simpa using e1, e2⟩
theorem RA.getV {K : Fg} {H : Hp} : ∀ {vs : List V} {ds : List D}, RA K H vs ds → ∀ {i : Nat} {v : V}, vs[i]? = some v → ∃ d, ds[i]? = some d ∧ R K H v d
  | _, _, .nil, i, d, e => by simp at e
  | _, _, .cons (d := d) h q, 0, _, e => by
    simp at e; subst e; exact ⟨d, rfl, h⟩
  | _, _, .cons h q, i + 1, d, e => by
    obtain ⟨v, e1, e2⟩ := RA.getV q (i := i) (v := d) (by simpa using e)
    exact ⟨v, by simpa using e1, e2⟩
theorem RA.append {K : Fg} {H : Hp} : ∀ {vs ws : List V} {ds es : List D}, RA K H vs ds → RA K H ws es → RA K H (vs ++ ws) (ds ++ es)
  | _, _, _, _, .nil, q => q
  | _, _, _, _, .cons h p, q => .cons h (RA.append p q)
theorem RA.drop {K : Fg} {H : Hp} : ∀ (n : Nat) {vs : List V} {ds : List D}, RA K H vs ds → RA K H (vs.drop n) (ds.drop n)
  | 0, _, _, q => q
  | _ + 1, _, _, .nil => .nil
  | n + 1, _, _, .cons _ q => RA.drop n q
theorem RA.take {K : Fg} {H : Hp} : ∀ (n : Nat) {vs : List V} {ds : List D}, RA K H vs ds → RA K H (vs.take n) (ds.take n)
  | 0, _, _, _ => .nil
  | _ + 1, _, _, .nil => .nil
  | n + 1, _, _, .cons h q => .cons h (RA.take n q)
theorem RA.eraseIdx {K : Fg} {H : Hp} : ∀ (n : Nat) {vs : List V} {ds : List D}, RA K H vs ds → RA K H (vs.eraseIdx n) (ds.eraseIdx n)
  | 0, _, _, .nil => .nil
  | 0, _, _, .cons _ q => q
  | _ + 1, _, _, .nil => .nil
  | n + 1, _, _, .cons h q => .cons h (RA.eraseIdx n q)
theorem RA.reverse {K : Fg} {H : Hp} : ∀ {vs : List V} {ds : List D}, RA K H vs ds → RA K H vs.reverse ds.reverse
  | _, _, .nil => .nil
  | _, _, .cons h q => by
    rw [List.reverse_cons, List.reverse_cons]
    exact RA.append (RA.reverse q) (.cons h .nil)
theorem RA.dropLast {K : Fg} {H : Hp} {vs : List V} {ds : List D} (q : RA K H vs ds) : RA K H vs.dropLast ds.dropLast := by
  rw [List.dropLast_eq_take, List.dropLast_eq_take, q.length]
  exact RA.take _ q
theorem RA.set {K : Fg} {H : Hp} {v : V} {d : D} (h : R K H v d) : ∀ (n : Nat) {vs : List V} {ds : List D}, RA K H vs ds → RA K H (vs.set n v) (ds.set n d)
  | _, _, _, .nil => .nil
  | 0, _, _, .cons _ q => .cons h q
  | n + 1, _, _, .cons p q => .cons p (RA.set h n q)
/-- the values of ints, of texts -/
theorem RA.ints {K : Fg} {H : Hp} : ∀ {ns : List Int} {vs : List V}, RA K H vs (ns.map D.int) → vs = ns.map V.int
  | [], _, .nil => rfl
  | _ :: _, _, .cons (.int i) q => by rw [List.map_cons, RA.ints q]
theorem RA.strs {K : Fg} {H : Hp} : ∀ {ns : List Str} {vs : List V}, RA K H vs (ns.map D.str) → vs = ns.map V.str
  | [], _, .nil => rfl
  | _ :: _, _, .cons (.str i) q => by rw [List.map_cons, RA.strs q]
theorem RA.bls {K : Fg} {H : Hp} : ∀ {ns : List Bool} {vs : List V}, RA K H vs (ns.map D.bl) → vs = ns.map V.bl
  | [], _, .nil => rfl
  | _ :: _, _, .cons (.bl i) q => by rw [List.map_cons, RA.bls q]
/-! ### growth -/
abbrev Non : Addr → Prop := fun _ => False
abbrev One (a : Addr) : Addr → Prop := fun b => b = a
/-- the heap H became H', all but what stands at P as it was; B' tells what B told, and new things -/
structure Gr (P : Addr → Prop) (B H B' H' : Hp) : Prop where
  hh : ∀ b o, ¬ P b → H b = some o → H' b = some o
  bb : Same B B'
  le : Same B' H'
  fr : ∀ b o, B' b = some o → B b = some o ∨ H b = none ∨ P b
  pt : ∀ b, P b → H b ≠ none → H' b ≠ none
theorem Gr.refl {P : Addr → Prop} {B H : Hp} (h : Same B H) : Gr P B H B H :=
  ⟨fun _ _ _ e => e, Same.refl _, h, fun _ _ e => .inl e, fun _ _ e => e⟩
theorem Gr.trans {P : Addr → Prop} {B H B1 H1 B2 H2 : Hp} (a : Gr P B H B1 H1) (b : Gr P B1 H1 B2 H2) : Gr P B H B2 H2 where
  hh := fun c o n e => b.hh c o n (a.hh c o n e)
  bb := a.bb.trans b.bb
  le := b.le
  fr := fun c o e => by
    rcases b.fr c o e with e | e | e
    · exact a.fr c o e
    · right
      cases q : H c with
      | none => exact .inl rfl
      | some u =>
        by_cases n : P c
        · exact .inr n
        · rw [a.hh c u n q] at e; cases e
    · exact .inr (.inr e)
  pt := fun c n e => b.pt c n (a.pt c n e)
theorem Gr.weak {P P' : Addr → Prop} {B H B' H' : Hp} (a : Gr P' B H B' H') (h : ∀ b, P' b → P b) : Gr P B H B' H' where
  hh := fun c o n e => a.hh c o (fun z => n (h c z)) e
  bb := a.bb
  le := a.le
  fr := fun c o e => by
    rcases a.fr c o e with e | e | e
    · exact .inl e
    · exact .inr (.inl e)
    · exact .inr (.inr (h c e))
  pt := fun c n e => by
    by_cases z : P' c
    · exact a.pt c z e
    · cases q : H c with
      | none => exact absurd q e
      | some u =>
        rw [a.hh c u z q]
        exact fun z => nomatch z
theorem Gr.weak0 {P : Addr → Prop} {B H B' H' : Hp} (a : Gr Non B H B' H') : Gr P B H B' H' := a.weak fun _ z => z.elim
theorem Gr.same {B H B' H' : Hp} (a : Gr Non B H B' H') : Same H H' := fun b o e => a.hh b o (fun z => z) e
theorem same_none {H H' : Hp} {p : Addr} (e : Same H H') (h : H' p = none) : H p = none := e.free h
theorem same_new {B : Hp} {p : Addr} {o : HO} (h : B p = none) : Same B (upd B p o) := fun c u e => by
  rw [upd_ne (ne_of_none e h)]; exact e
theorem Gr.new {P : Addr → Prop} {B H B' H' : Hp} {p : Addr} {o : HO} (a : Gr P B H B' H') (h : H' p = none) (hH : H p = none) : Gr P B H (upd B' p o) (upd H' p o) where
  hh := fun c u n e => by
    rw [upd_ne (ne_of_none e hH)]; exact a.hh c u n e
  bb := fun c u e => by
    have q := a.bb c u e
    rw [upd_ne (ne_of_none (a.le _ _ q) h)]; exact q
  le := fun c u e => by
    by_cases z : c = p
    · subst z; rw [upd_same] at e ⊢; exact e
    · rw [upd_ne z] at e ⊢; exact a.le c u e
  fr := fun c u e => by
    by_cases z : c = p
    · subst z; exact .inr (.inl hH)
    · rw [upd_ne z] at e; exact a.fr c u e
  pt := fun c n e => by
    have q := a.pt c n e
    by_cases z : c = p
    · subst z; rw [upd_same]; exact fun y => nomatch y
    · rw [upd_ne z]; exact q
/-- what B does not tell may change: at a place of P, or a new one -/
theorem Gr.mut {P : Addr → Prop} {B H B' H' : Hp} {p : Addr} {o : HO} (a : Gr P B H B' H') (hb : B' p = none) (hp : P p ∨ H p = none) : Gr P B H B' (upd H' p o) where
  hh := fun c u n e => by
    have ne : c ≠ p := fun z => by
      subst z
      rcases hp with h | h
      · exact n h
      · rw [h] at e; cases e
    rw [upd_ne ne]; exact a.hh c u n e
  bb := a.bb
  le := fun c u e => by
    rw [upd_ne (ne_of_none e hb)]; exact a.le c u e
  fr := a.fr
  pt := fun c n e => by
    by_cases z : c = p
    · subst z; rw [upd_same]; exact fun y => nomatch y
    · rw [upd_ne z]; exact a.pt c n e
/-! ### the state -/
/-- the draws of a cell: what is left of it, the mixed number, how many were drawn (n at most) -/
def PotAt (H : Hp) (a : Addr) (n : Nat) : Prop :=
  ∃ x y z : Int, H a = some (.lst [.int x, .int y, .int z]) ∧ 0 ≤ x ∧ 0 ≤ y ∧ y < 2305843009213693951 ∧ 0 ≤ z ∧ z ≤ n
theorem PotAt.mono {H : Hp} {a : Addr} {n m : Nat} (h : PotAt H a n) (e : n ≤ m) : PotAt H a m := by
  obtain ⟨x, y, z, h1, h2, h3, h4, h5, h6⟩ := h
  exact ⟨x, y, z, h1, h2, h3, h4, h5, by omega⟩
theorem PotAt.some {H : Hp} {a : Addr} {n : Nat} (h : PotAt H a n) : H a ≠ none := by
  obtain ⟨x, y, z, h1, _⟩ := h
  rw [h1]; exact fun z => nomatch z
theorem PotAt.keep {H H' : Hp} {a : Addr} {n : Nat} (h : PotAt H a n) (e : ∀ o, H a = .some o → H' a = .some o) : PotAt H' a n := by
  obtain ⟨x, y, z, h1, h2⟩ := h
  exact ⟨x, y, z, e _ h1, h2⟩
/-- what a slot holds: nothing known, a datum, a new list that may grow, the pot, an instance of a class that may change -/
inductive SD where
  | un | d (x : D) | ow (xs : List D) | pl (xs : List D) | pot (n : Nat) | ins (C dx : Addr) (fs : List (Str × D))
def SD.mu : SD → Bool
  | .ow _ => true
  | .pl _ => true
  | .pot _ => true
  | .ins _ _ _ => true
  | _ => false
def Sl (K : Fg) (P : Addr → Prop) (H0 B H : Hp) (o : Option V) : SD → Prop
  | .un => True
  | .d x => ∃ v, o = some v ∧ R K B v x
  | .ow xs => ∃ a vs, o = some (.ref a) ∧ (H0 a = none ∨ P a) ∧ B a = none ∧ H a = some (.lst vs) ∧ RA K B vs xs
  | .pl xs => ∃ a vs, o = some (.ref a) ∧ P a ∧ B a = none ∧ H a = some (.lst vs) ∧ RA K B vs xs
  | .pot n => ∃ a, o = some (.ref a) ∧ P a ∧ B a = none ∧ PotAt H a n
  | .ins C dx fs => ∃ a vs, o = some (.ref a) ∧ P a ∧ B a = none ∧ H a = some (.ins C dx vs) ∧ RF K B vs fs
theorem Sl.step {K : Fg} {P : Addr → Prop} {H0 B H B' H' : Hp} {o : Option V} {s : SD} (h : Sl K P H0 B H o s) (bb : Same B B') (hk : ∀ a u, s.mu = true → o = some (.ref a) → B a = none → H a = some u → H' a = some u ∧ B' a = none) : Sl K P H0 B' H' o s := by
  cases s with
  | un => trivial
  | d x => obtain ⟨v, e, r⟩ := h; exact ⟨v, e, r.mono bb⟩
  | ow xs =>
    obtain ⟨a, vs, e, h0, hb, hh, r⟩ := h
    obtain ⟨k1, k2⟩ := hk a _ rfl e hb hh
    exact ⟨a, vs, e, h0, k2, k1, r.mono bb⟩
  | pl xs =>
    obtain ⟨a, vs, e, h0, hb, hh, r⟩ := h
    obtain ⟨k1, k2⟩ := hk a _ rfl e hb hh
    exact ⟨a, vs, e, h0, k2, k1, r.mono bb⟩
  | pot n =>
    obtain ⟨a, e, hp, hb, x, y, z, h1, h2⟩ := h
    obtain ⟨k1, k2⟩ := hk a _ rfl e hb h1
    exact ⟨a, e, hp, k2, x, y, z, k1, h2⟩
  | ins C dx fs =>
    obtain ⟨a, vs, e, h0, hb, hh, r⟩ := h
    obtain ⟨k1, k2⟩ := hk a _ rfl e hb hh
    exact ⟨a, vs, e, h0, k2, k1, r.mono bb⟩
/-- a slot of a thing that may change: its place -/
theorem Sl.at_ {K : Fg} {P : Addr → Prop} {H0 B H : Hp} {o : Option V} {s : SD} (h : Sl K P H0 B H o s) (m : s.mu = true) : ∃ a, o = some (.ref a) ∧ (H0 a = none ∨ P a) ∧ B a = none ∧ H a ≠ none := by
  cases s with
  | un => cases m
  | d x => cases m
  | ow xs =>
    obtain ⟨a, vs, e, h0, hb, hh, r⟩ := h
    exact ⟨a, e, h0, hb, by rw [hh]; exact fun z => nomatch z⟩
  | pl xs =>
    obtain ⟨a, vs, e, h0, hb, hh, r⟩ := h
    exact ⟨a, e, .inr h0, hb, by rw [hh]; exact fun z => nomatch z⟩
  | pot n =>
    obtain ⟨a, e, hp, hb, q⟩ := h
    exact ⟨a, e, .inr hp, hb, q.some⟩
  | ins C dx fs =>
    obtain ⟨a, vs, e, h0, hb, hh, r⟩ := h
    exact ⟨a, e, .inr h0, hb, by rw [hh]; exact fun z => nomatch z⟩
structure ST (K : Fg) (P : Addr → Prop) (B0 H0 : Hp) (ρ : List SD) (B H : Hp) (σ : L2.St) : Prop where
  len : σ.length = ρ.length
  gr : Gr P B0 H0 B H
  sl : ∀ (i : Nat) s, ρ[i]? = some s → Sl K P H0 B H (σ[i]?.getD none) s
  dis : ∀ (i j : Nat) s t, ρ[i]? = some s → ρ[j]? = some t → s.mu = true → t.mu = true → σ[i]? = σ[j]? → i = j
section
variable {K : Fg} {P : Addr → Prop} {B0 H0 : Hp} {ρ : List SD} {B H : Hp} {σ : L2.St}
theorem ST.le (S : ST K P B0 H0 ρ B H σ) : Same B H := S.gr.le
theorem ST.slot (S : ST K P B0 H0 ρ B H σ) {i : Nat} {s : SD} (h : ρ[i]? = some s) : ∃ o, σ[i]? = some o ∧ Sl K P H0 B H o s := by
  have hi : i < ρ.length := (List.getElem?_eq_some_iff.mp h).1
  have q : i < σ.length := by rw [S.len]; exact hi
  have e : σ[i]? = some σ[i] := List.getElem?_eq_getElem q
  refine ⟨σ[i], e, ?_⟩
  have z := S.sl i s h
  rw [e] at z
  exact z
theorem ST.var (S : ST K P B0 H0 ρ B H σ) {i : Nat} {x : D} (h : ρ[i]? = some (.d x)) : ∃ v, σ[i]? = some (some v) ∧ R K B v x := by
  obtain ⟨o, e, v, rfl, r⟩ := S.slot h
  exact ⟨v, e, r⟩
/-- a pure step -/
theorem ST.step {B' H' : Hp} (S : ST K P B0 H0 ρ B H σ) (g : Gr Non B H B' H') : ST K P B0 H0 ρ B' H' σ where
  len := S.len
  gr := S.gr.trans g.weak0
  sl := fun i s h => (S.sl i s h).step g.bb fun a u _ _ hb hh => ⟨g.same _ _ hh, by
    cases q : B' a with
    | none => rfl
    | some u =>
      rcases g.fr a u q with z | z | z
      · rw [hb] at z; cases z
      · rw [hh] at z; cases z
      · exact z.elim⟩
  dis := S.dis
theorem ST.new (S : ST K P B0 H0 ρ B H σ) {p : Addr} (o : HO) (h : H p = none) : ST K P B0 H0 ρ (upd B p o) (upd H p o) σ :=
  S.step ((Gr.refl S.le).new h h)
theorem ST.bfree (S : ST K P B0 H0 ρ B H σ) {p : Addr} (h : H p = none) : B p = none := same_none S.le h
theorem get_set_ne {α : Type} {l : List α} {i j : Nat} {x : α} (h : i ≠ j) : (l.set i x)[j]? = l[j]? := List.getElem?_set_ne h
theorem set_same_of {α : Type} {l : List α} {i : Nat} {x y : α} (h : (l.set i x)[i]? = some y) : y = x ∧ i < l.length := by
  have hi : i < l.length := by
    have := (List.getElem?_eq_some_iff.mp h).1
    rwa [List.length_set] at this
  rw [List.getElem?_set_self hi] at h
  exact ⟨(Option.some.inj h).symm, hi⟩
/-- a slot stored: a datum -/
theorem ST.put (S : ST K P B0 H0 ρ B H σ) {i : Nat} {v : V} {x : D} (r : R K B v x) : ST K P B0 H0 (ρ.set i (.d x)) B H (σ.set i (some v)) where
  len := by rw [List.length_set, List.length_set, S.len]
  gr := S.gr
  sl := fun j s h => by
    by_cases e : i = j
    · subst e
      obtain ⟨e2, hi⟩ := set_same_of h
      subst e2
      rw [List.getElem?_set_self (by rw [S.len]; exact hi)]
      exact ⟨v, rfl, r⟩
    · rw [get_set_ne e] at h
      rw [get_set_ne e]
      exact S.sl j s h
  dis := fun j k s t h1 h2 m1 m2 h3 => by
    have n1 : i ≠ j := fun e => by
      subst e
      obtain ⟨e2, _⟩ := set_same_of h1
      rw [e2] at m1; cases m1
    have n2 : i ≠ k := fun e => by
      subst e
      obtain ⟨e2, _⟩ := set_same_of h2
      rw [e2] at m2; cases m2
    rw [get_set_ne n1] at h1 h3
    rw [get_set_ne n2] at h2 h3
    exact S.dis j k s t h1 h2 m1 m2 h3
/-- what may change has changed, at the place of the slot i -/
theorem ST.chg {a : Addr} {o : HO} {i : Nat} {s s' : SD} (S : ST K P B0 H0 ρ B H σ) (hi : ρ[i]? = some s) (hm : s.mu = true) (hm' : s'.mu = true) (ha : σ[i]? = some (some (.ref a))) (hn : Sl K P H0 B (upd H a o) (some (.ref a)) s') :
    ST K P B0 H0 (ρ.set i s') B (upd H a o) σ where
  len := by rw [List.length_set, S.len]
  gr := by
    obtain ⟨w, e1, z⟩ := S.slot hi
    obtain ⟨b, e2, h0, hb, _⟩ := z.at_ hm
    rw [ha] at e1
    cases e1
    cases e2
    exact S.gr.mut hb h0.symm
  sl := fun j t h => by
    by_cases e : i = j
    · subst e
      obtain ⟨e2, _⟩ := set_same_of h
      subst e2
      rw [ha]
      exact hn
    · rw [get_set_ne e] at h
      refine (S.sl j t h).step (Same.refl _) fun b u m eb hb hh => ⟨?_, hb⟩
      have ne : b ≠ a := fun q => by
        subst q
        refine e (S.dis i j s t hi h hm m ?_)
        obtain ⟨w, e1, _⟩ := S.slot h
        rw [e1] at eb ⊢
        rw [ha]
        have eb' : w = some (V.ref b) := eb
        rw [eb']
      rw [upd_ne ne]
      exact hh
  dis := fun j k s1 t1 h1 h2 m1 m2 h3 => by
    have q : ∀ {l : Nat} {u : SD}, (ρ.set i s')[l]? = some u → u.mu = true → ∃ u', ρ[l]? = some u' ∧ u'.mu = true := fun {l u} h m => by
      by_cases e : i = l
      · subst e; exact ⟨s, hi, hm⟩
      · rw [get_set_ne e] at h; exact ⟨u, h, m⟩
    obtain ⟨u1, a1, b1⟩ := q h1 m1
    obtain ⟨u2, a2, b2⟩ := q h2 m2
    exact S.dis j k u1 u2 a1 a2 b1 b2 h3
/-- less is known -/
theorem ST.forget (S : ST K P B0 H0 ρ B H σ) {σ' : L2.St} {ρ' : List SD} (hl : σ'.length = ρ'.length)
    (h : ∀ (i : Nat) s, ρ'[i]? = some s → s = .un ∨ (ρ[i]? = some s ∧ σ'[i]? = σ[i]?)) : ST K P B0 H0 ρ' B H σ' where
  len := hl
  gr := S.gr
  sl := fun i s e => by
    rcases h i s e with rfl | ⟨e1, e2⟩
    · trivial
    · rw [e2]; exact S.sl i s e1
  dis := fun i j s t e1 e2 m1 m2 e3 => by
    rcases h i _ e1 with z | ⟨a1, b1⟩
    · subst z; cases m1
    · rcases h j _ e2 with z | ⟨a2, b2⟩
      · subst z; cases m2
      · rw [b1, b2] at e3
        exact S.dis i j s t a1 a2 m1 m2 e3
/-- a new list that will grow: the slot i is its only holder -/
theorem ST.own (S : ST K P B0 H0 ρ B H σ) {p : Addr} {i : Nat} {vs : List V} {xs : List D} (h : H p = none) (h0 : H0 p = none) (r : RA K B vs xs) : ST K P B0 H0 (ρ.set i (.ow xs)) B (upd H p (.lst vs)) (σ.set i (some (.ref p))) where
  len := by rw [List.length_set, List.length_set, S.len]
  gr := S.gr.mut (S.bfree h) (.inr h0)
  sl := fun j s q => by
    by_cases e : i = j
    · subst e
      obtain ⟨e2, hi⟩ := set_same_of q
      subst e2
      rw [List.getElem?_set_self (by rw [S.len]; exact hi)]
      exact ⟨p, vs, rfl, .inl h0, S.bfree h, upd_same, r⟩
    · rw [get_set_ne e] at q
      rw [get_set_ne e]
      refine (S.sl j s q).step (Same.refl _) fun b u m eb hb hh => ⟨?_, hb⟩
      rw [upd_ne (ne_of_none hh h)]
      exact hh
  dis := fun j k s t h1 h2 m1 m2 h3 => by
    have old : ∀ {l : Nat} {u : SD}, i ≠ l → (ρ.set i (.ow xs))[l]? = some u → u.mu = true → σ[l]? ≠ some (some (.ref p)) := fun {l u} n e m z => by
      rw [get_set_ne n] at e
      obtain ⟨w, e1, y⟩ := S.slot e
      obtain ⟨b, e2, _, _, e5⟩ := y.at_ m
      rw [e1] at z
      rw [e2] at z
      cases z
      exact e5 h
    have here : ∀ {l : Nat} {u : SD}, (ρ.set i (.ow xs))[l]? = some u → i = l → (σ.set i (some (.ref p)))[l]? = some (some (.ref p)) := fun {l u} e q => by
      subst q
      obtain ⟨_, hi⟩ := set_same_of e
      exact List.getElem?_set_self (by rw [S.len]; exact hi)
    by_cases n1 : i = j
    · by_cases n2 : i = k
      · rw [← n1, ← n2]
      · rw [here h1 n1, get_set_ne n2] at h3
        exact absurd h3.symm (old n2 h2 m2)
    · by_cases n2 : i = k
      · rw [here h2 n2, get_set_ne n1] at h3
        exact absurd h3 (old n1 h1 m1)
      · rw [get_set_ne n1] at h1 h3
        rw [get_set_ne n2] at h2 h3
        exact S.dis j k s t h1 h2 m1 m2 h3
/-- a list that has grown is a datum from now on -/
theorem ST.still (S : ST K P B0 H0 ρ B H σ) {i : Nat} {xs : List D} (hi : ρ[i]? = some (.ow xs)) : ∃ B', ST K P B0 H0 (ρ.set i (.d (.lst xs))) B' H σ ∧ Same B B' ∧ ∀ c u, B' c = some u → B c = some u ∨ σ[i]? = some (some (.ref c)) := by
  obtain ⟨o, e1, a, vs, rfl, h0, hb, hh, r⟩ := S.slot hi
  have h0' := h0
  have sb : Same B (upd B a (.lst vs)) := same_new hb
  refine ⟨upd B a (.lst vs), ⟨by rw [List.length_set, S.len], ⟨S.gr.hh, S.gr.bb.trans sb, fun c u e => ?_, fun c u e => ?_, S.gr.pt⟩, fun j s h => ?_, fun j k s t h1 h2 m1 m2 h3 => ?_⟩, sb, fun c u e => ?_⟩
  · by_cases z : c = a
    · subst z; rw [upd_same] at e; rw [hh]; exact e
    · rw [upd_ne z] at e; exact S.le c u e
  · by_cases z : c = a
    · subst z; exact .inr h0'
    · rw [upd_ne z] at e; exact S.gr.fr c u e
  · by_cases e : i = j
    · subst e
      obtain ⟨e2, hl⟩ := set_same_of h
      subst e2
      rw [e1]
      exact ⟨.ref a, rfl, .lst upd_same (r.mono sb)⟩
    · rw [get_set_ne e] at h
      refine (S.sl j s h).step sb fun b u m eb hb' hh' => ⟨hh', ?_⟩
      have ne : b ≠ a := fun q => by
        subst q
        refine e (S.dis i j _ s hi h rfl m ?_)
        obtain ⟨w, e3, _⟩ := S.slot h
        rw [e3] at eb ⊢
        rw [e1]
        have eb' : w = some (V.ref b) := eb
        rw [eb']
      rw [upd_ne ne]
      exact hb'
  · have n1 : i ≠ j := fun e => by
      subst e
      obtain ⟨e2, _⟩ := set_same_of h1
      rw [e2] at m1; cases m1
    have n2 : i ≠ k := fun e => by
      subst e
      obtain ⟨e2, _⟩ := set_same_of h2
      rw [e2] at m2; cases m2
    rw [get_set_ne n1] at h1
    rw [get_set_ne n2] at h2
    exact S.dis j k s t h1 h2 m1 m2 h3
  · by_cases z : c = a
    · subst z; exact .inr e1
    · rw [upd_ne z] at e; exact .inl e
/-- where the things stand that the slots may change -/
def Mus (ρ : List SD) (σ : L2.St) : Addr → Prop := fun a => ∃ (j : Nat) (s : SD), ρ[j]? = some s ∧ s.mu = true ∧ σ[j]? = some (some (.ref a))
/-- no slot has become one that may change -/
def Sh (ρ ρ' : List SD) : Prop := ∀ (j : Nat) s', ρ'[j]? = some s' → s'.mu = true → ∃ s, ρ[j]? = some s ∧ s.mu = true
theorem Sh.refl (ρ : List SD) : Sh ρ ρ := fun j s h m => ⟨s, h, m⟩
theorem Sh.trans {ρ1 ρ2 ρ3 : List SD} (a : Sh ρ1 ρ2) (b : Sh ρ2 ρ3) : Sh ρ1 ρ3 := fun j s h m => let ⟨s', h', m'⟩ := b j s h m; a j s' h' m'
theorem Sh.mus {ρ ρ' : List SD} (a : Sh ρ ρ') {σ : L2.St} {b : Addr} (h : Mus ρ' σ b) : Mus ρ σ b := by
  obtain ⟨j, s, e, m, q⟩ := h
  obtain ⟨s', e', m'⟩ := a j s e m
  exact ⟨j, s', e', m', q⟩
/-- how an expression leaves things -/
structure Ev (ρ : List SD) (σ : L2.St) (B H : Hp) (ρ' : List SD) (B' H' : Hp) : Prop where
  gr : Gr (Mus ρ σ) B H B' H'
  sh : Sh ρ ρ'
theorem Ev.bb {ρ ρ' : List SD} {σ : L2.St} {B H B' H' : Hp} (a : Ev ρ σ B H ρ' B' H') : Same B B' := a.gr.bb
theorem Ev.refl {ρ : List SD} {σ : L2.St} {B H : Hp} (h : Same B H) : Ev ρ σ B H ρ B H := ⟨Gr.refl h, Sh.refl _⟩
theorem Ev.trans {ρ ρ1 ρ2 : List SD} {σ : L2.St} {B H B1 H1 B2 H2 : Hp} (a : Ev ρ σ B H ρ1 B1 H1) (b : Ev ρ1 σ B1 H1 ρ2 B2 H2) : Ev ρ σ B H ρ2 B2 H2 :=
  ⟨a.gr.trans (b.gr.weak fun _ q => a.sh.mus q), a.sh.trans b.sh⟩
theorem Ev.pure {ρ : List SD} {σ : L2.St} {B H B' H' : Hp} (g : Gr Non B H B' H') : Ev ρ σ B H ρ B' H' := ⟨g.weak0, Sh.refl _⟩
theorem Ev.new {ρ : List SD} {σ : L2.St} {B H : Hp} {p : Addr} {o : HO} (s : Same B H) (h : H p = none) : Ev ρ σ B H ρ (upd B p o) (upd H p o) := Ev.pure ((Gr.refl s).new h h)
end
end Lw

set_option Elab.async false
set_option linter.all false
set_option maxRecDepth 100000
set_option maxHeartbeats 4000000
namespace Lw
open PySem PySem.Spec PyProof.Rows L2
/-! ### judgements over data -/
def WE (K : Fg) (te : TE) (ρ : List SD) (F : D → List SD → Prop) : Prop :=
  ∀ P B0 H0 B H σ, ST K P B0 H0 ρ B H σ → ∀ Q : VK,
    (∀ v d ρ' B' H', F d ρ' → ST K P B0 H0 ρ' B' H' σ → Ev ρ σ B H ρ' B' H' → R K B' v d → Q v H') → te σ H Q
def WA (K : Fg) (ta : TA) (ρ : List SD) (F : List D → List SD → Prop) : Prop :=
  ∀ P B0 H0 B H σ, ST K P B0 H0 ρ B H σ → ∀ Q : List V → Hp → Prop,
    (∀ vs ds ρ' B' H', F ds ρ' → ST K P B0 H0 ρ' B' H' σ → Ev ρ σ B H ρ' B' H' → RA K B' vs ds → Q vs H') → ta σ H Q
def WT (K : Fg) (tt : TT) (ρ : List SD) (F : Bool → List SD → Prop) : Prop :=
  ∀ P B0 H0 B H σ, ST K P B0 H0 ρ B H σ → ∀ Q : Bool → Hp → Prop,
    (∀ b ρ' B' H', F b ρ' → ST K P B0 H0 ρ' B' H' σ → Ev ρ σ B H ρ' B' H' → Q b H') → tt σ H Q
def WO (K : Fg) (to : TO) (ρ : List SD) (F : Option Int → List SD → Prop) : Prop :=
  ∀ P B0 H0 B H σ, ST K P B0 H0 ρ B H σ → ∀ Q : Option Int → Hp → Prop,
    (∀ b ρ' B' H', F b ρ' → ST K P B0 H0 ρ' B' H' σ → Ev ρ σ B H ρ' B' H' → Q b H') → to σ H Q
structure Out where
  nx : List SD → Prop
  rt : D → List SD → Prop
  bk : List SD → Prop := fun _ => False
  ct : List SD → Prop := fun _ => False
def WS (K : Fg) (ts : TS) (ρ : List SD) (E : Out) : Prop :=
  ∀ P B0 H0 B H σ, ST K P B0 H0 ρ B H σ → ∀ D : Ends,
    (∀ ρ' B' H' σ', E.nx ρ' → ST K P B0 H0 ρ' B' H' σ' → Same B B' → D.nx σ' H') →
    (∀ v d ρ' B' H' σ', E.rt d ρ' → ST K P B0 H0 ρ' B' H' σ' → Same B B' → R K B' v d → D.rt v H') →
    (∀ ρ' B' H' σ', E.bk ρ' → ST K P B0 H0 ρ' B' H' σ' → Same B B' → D.bk σ' H') →
    (∀ ρ' B' H' σ', E.ct ρ' → ST K P B0 H0 ρ' B' H' σ' → Same B B' → D.ct σ' H') → ts D σ H
section
variable {K : Fg} {ρ : List SD}
theorem WE.mono {te : TE} {F G : D → List SD → Prop} (h : WE K te ρ F) (q : ∀ d ρ', F d ρ' → G d ρ') : WE K te ρ G :=
  fun P B0 H0 B H σ S Q k => h P B0 H0 B H σ S Q fun v d ρ' B' H' f => k v d ρ' B' H' (q _ _ f)
theorem WS.mono {ts : TS} {E G : Out} (h : WS K ts ρ E) (q1 : ∀ ρ', E.nx ρ' → G.nx ρ') (q2 : ∀ d ρ', E.rt d ρ' → G.rt d ρ') (q3 : ∀ ρ', E.bk ρ' → G.bk ρ') (q4 : ∀ ρ', E.ct ρ' → G.ct ρ') : WS K ts ρ G :=
  fun P B0 H0 B H σ S D k1 k2 k3 k4 => h P B0 H0 B H σ S D (fun _ _ _ _ f => k1 _ _ _ _ (q1 _ f)) (fun _ _ _ _ _ _ f => k2 _ _ _ _ _ _ (q2 _ _ f)) (fun _ _ _ _ f => k3 _ _ _ _ (q3 _ f)) (fun _ _ _ _ f => k4 _ _ _ _ (q4 _ f))
/-! ### names, constants -/
theorem we_var {i : Nat} {x : D} {F : D → List SD → Prop} (h : ρ[i]? = some (.d x)) (q : F x ρ) : WE K (tVar i) ρ F := fun P B0 H0 B H σ S Q k => by
  obtain ⟨v, e, r⟩ := S.var h
  exact ⟨v, e, k v x ρ B H q S (Ev.refl S.le) r⟩
theorem we_int {i : Int} {F : D → List SD → Prop} (q : F (.int i) ρ) : WE K (tC (.int i)) ρ F := fun P B0 H0 B H σ S Q k => k _ _ ρ B H q S (Ev.refl S.le) (.int i)
theorem we_str {i : Str} {F : D → List SD → Prop} (q : F (.str i) ρ) : WE K (tC (.str i)) ρ F := fun P B0 H0 B H σ S Q k => k _ _ ρ B H q S (Ev.refl S.le) (.str i)
theorem we_bl {i : Bool} {F : D → List SD → Prop} (q : F (.bl i) ρ) : WE K (tC (.bl i)) ρ F := fun P B0 H0 B H σ S Q k => k _ _ ρ B H q S (Ev.refl S.le) (.bl i)
theorem we_non {F : D → List SD → Prop} (q : F .non ρ) : WE K (tC .non) ρ F := fun P B0 H0 B H σ S Q k => k _ _ ρ B H q S (Ev.refl S.le) .non
/-! ### operators: what a relation on values does to data -/
def OpD (K : Fg) (r : R2) (x y : D) (F : D → Prop) : Prop :=
  ∀ B H v u, Same B H → R K B v x → R K B u y → ∀ Q : VK, (∀ w d B' H', F d → Gr Non B H B' H' → R K B' w d → Q w H') → r v u H Q
theorem we_op {r : R2} {ta tb : TE} {F : D → List SD → Prop} (h : WE K ta ρ fun x ρ1 => WE K tb ρ1 fun y ρ2 => OpD K r x y fun d => F d ρ2) : WE K (tOp r ta tb) ρ F :=
  fun P B0 H0 B H σ S Q k => h P B0 H0 B H σ S _ fun v x ρ1 B1 H1 h1 S1 s1 r1 => h1 P B0 H0 B1 H1 σ S1 _ fun u y ρ2 B2 H2 h2 S2 s2 r2 =>
    h2 B2 H2 v u S2.le (r1.mono s2.bb) r2 Q fun w d B3 H3 f g r3 => k w d ρ2 B3 H3 f (S2.step g) ((s1.trans s2).trans (Ev.pure g)) r3
def UnD (K : Fg) (r : V → Hp → VK → Prop) (x : D) (F : D → Prop) : Prop :=
  ∀ B H v, Same B H → R K B v x → ∀ Q : VK, (∀ w d B' H', F d → Gr Non B H B' H' → R K B' w d → Q w H') → r v H Q
theorem we_un {r : V → Hp → VK → Prop} {ta : TE} {F : D → List SD → Prop} (h : WE K ta ρ fun x ρ1 => UnD K r x fun d => F d ρ1) : WE K (tUn r ta) ρ F :=
  fun P B0 H0 B H σ S Q k => h P B0 H0 B H σ S _ fun v x ρ1 B1 H1 h1 S1 s1 r1 => h1 B1 H1 v S1.le r1 Q fun w d B3 H3 f g r3 => k w d ρ1 B3 H3 f (S1.step g) (s1.trans (Ev.pure g)) r3
/-- the answer needs no object -/
theorem OpD.flat {r : R2} {x y z : D} {F : D → Prop} (f : F z) (h : ∀ B H v u, Same B H → R K B v x → R K B u y → ∃ w, (∀ B', R K B' w z) ∧ ∀ Q : VK, Q w H → r v u H Q) : OpD K r x y F :=
  fun B H v u s r1 r2 Q k => by
    obtain ⟨w, hw, q⟩ := h B H v u s r1 r2
    exact q Q (k w z B H f (Gr.refl s) (hw B))
theorem rint {B : Hp} {v : V} {i : Int} (h : R K B v (.int i)) : v = .int i := by cases h; rfl
theorem rstr {B : Hp} {v : V} {i : Str} (h : R K B v (.str i)) : v = .str i := by cases h; rfl
theorem rbl {B : Hp} {v : V} {i : Bool} (h : R K B v (.bl i)) : v = .bl i := by cases h; rfl
theorem rnon {B : Hp} {v : V} (h : R K B v .non) : v = .non := by cases h; rfl
theorem op_I0 {g : Int → Int → V} {z : D} {i j : Int} {F : D → Prop} (hz : ∀ B, R K B (g i j) z) (f : F z) : OpD K (rI0 g) (.int i) (.int j) F :=
  OpD.flat f fun B H v u s r1 r2 => by
    rw [rint r1, rint r2]
    exact ⟨_, hz, fun Q q => ⟨i, j, rfl, rfl, q⟩⟩
theorem op_IC {C : Int → Int → Prop} {g : Int → Int → V} {z : D} {i j : Int} {F : D → Prop} (hz : ∀ B, R K B (g i j) z) (hc : C i j) (f : F z) : OpD K (rI C g) (.int i) (.int j) F :=
  OpD.flat f fun B H v u s r1 r2 => by
    rw [rint r1, rint r2]
    exact ⟨_, hz, fun Q q => ⟨i, j, rfl, rfl, hc, q⟩⟩
theorem OpD.inl {r r' : R2} {x y : D} {F : D → Prop} (h : OpD K r x y F) : OpD K (fun x y H Q => r x y H Q ∨ r' x y H Q) x y F :=
  fun B H v u s r1 r2 Q k => .inl (h B H v u s r1 r2 Q k)
theorem OpD.inr {r r' : R2} {x y : D} {F : D → Prop} (h : OpD K r' x y F) : OpD K (fun x y H Q => r x y H Q ∨ r' x y H Q) x y F :=
  fun B H v u s r1 r2 Q k => .inr (h B H v u s r1 r2 Q k)
/-! ### + -/
def rAddA (K : Fg) : R2 := fun x y H Q => (rI0 fun i j => .int (i + j)) x y H Q ∨ ((fun x y H Q => ∃ i j, x = V.str i ∧ y = .str j ∧ i.length + j.length ≤ sizeLine ∧ Q (.str (i ++ j)) H) x y H Q ∨ (rCat x y H Q ∨ rCatA K x y H Q))
theorem op_addA {X : Cx} : OpR X (binaryOp .Add) (rAddA X.K) := op_add.or (op_add_str.or (op_cat.or op_catA))
def dAdd (x y : D) (F : D → Prop) : Prop := match x, y with
  | .int i, .int j => F (.int (i + j))
  | .str i, .str j => i.length + j.length ≤ sizeLine ∧ F (.str (i ++ j))
  | .lst xs, .lst ys => xs.length + ys.length ≤ sizeLine ∧ F (.lst (xs ++ ys))
  | .tup xs, .tup ys => xs.length + ys.length ≤ sizeLine ∧ F (.tup (xs ++ ys))
  | _, _ => False
theorem opd_add {x y : D} {F : D → Prop} (h : dAdd x y F) : OpD K (rAddA K) x y F := by
  unfold dAdd at h
  split at h
  · exact (op_I0 (fun _ => .int _) h).inl
  · rename_i i j
    exact OpD.inr (OpD.inl (OpD.flat h.2 fun B H v u s r1 r2 => by
      rw [rstr r1, rstr r2]
      exact ⟨_, fun _ => .str _, fun Q q => ⟨i, j, rfl, rfl, h.1, q⟩⟩))
  · rename_i xs ys
    refine OpD.inr (OpD.inr (OpD.inl fun B H v u s r1 r2 Q k => ?_))
    cases r1 with
    | lst h1 a1 =>
      cases r2 with
      | lst h2 a2 =>
        refine ⟨_, _, _, _, rfl, rfl, s _ _ h1, s _ _ h2, by rw [a1.length, a2.length]; exact h.1, fun p hp => ?_⟩
        have hb := same_none s hp
        exact k _ _ (upd B p _) _ h.2 ((Gr.refl s).new hp hp) (.lst upd_same ((RA.append a1 a2).mono (same_new hb)))
  · rename_i xs ys
    refine OpD.inr (OpD.inr (OpD.inr fun B H v u s r1 r2 Q k => ?_))
    cases r1 with
    | tup h1 a1 =>
      rename_i a vs
      cases r2 with
      | tup h2 a2 =>
        rename_i b us
        refine ⟨_, _, _, _, rfl, rfl, same_t s h1, same_t s h2, by rw [a1.length, a2.length]; exact h.1, fun e => ?_, fun e1 e2 => ?_, fun e1 e2 p hp => ?_⟩
        · subst e
          cases a1
          exact k _ _ B H h.2 (Gr.refl s) (.tup h2 a2)
        · subst e2
          cases a2
          refine k _ _ B H h.2 (Gr.refl s) ?_
          rw [List.append_nil]
          exact .tup h1 a1
        · have hb := same_none s hp
          exact k _ _ (upd B p _) _ h.2 ((Gr.refl s).new hp hp) (.tup (SqT.of upd_same) ((RA.append a1 a2).mono (same_new hb)))
  · exact h.elim
theorem we_add {ta tb : TE} {F : D → List SD → Prop} (h : WE K ta ρ fun x ρ1 => WE K tb ρ1 fun y ρ2 => dAdd x y fun d => F d ρ2) : WE K (tOp (rAddA K) ta tb) ρ F :=
  we_op (h.mono fun _ _ q => q.mono fun _ _ q => opd_add q)
/-! ### - * // % ** -/
abbrev rSubI : R2 := rI0 fun i j => .int (i - j)
def dSub (x y : D) (F : D → Prop) : Prop := match x, y with
  | .int i, .int j => F (.int (i - j))
  | _, _ => False
theorem we_sub {ta tb : TE} {F : D → List SD → Prop} (h : WE K ta ρ fun x ρ1 => WE K tb ρ1 fun y ρ2 => dSub x y fun d => F d ρ2) : WE K (tOp (rI0 fun i j => .int (i - j)) ta tb) ρ F :=
  we_op (h.mono fun x _ q => q.mono fun y _ q => by
    unfold dSub at q
    split at q
    · exact op_I0 (fun _ => .int _) q
    · exact q.elim)
def CMulA (i j : Int) : Prop := CMul i j ∨ (i.natAbs < 2 ^ 400000 ∧ j.natAbs < 2 ^ 400000)
theorem CMulA.ok {i j : Int} (h : CMulA i j) : IntMulOk i j := by
  rcases h with h | ⟨h1, h2⟩
  · exact h.ok
  · exact (wide_mul h1 h2 (by decide) (by decide) (by decide)).ok
theorem op_mulA {X : Cx} : OpR X (binaryOp .Mult) (rI CMulA fun i j => .int (i * j)) := opI fun _ _ _ _ _ _ _ hc q => mul_int q hc.ok
def dMul (x y : D) (F : D → Prop) : Prop := match x, y with
  | .int i, .int j => CMulA i j ∧ F (.int (i * j))
  | _, _ => False
theorem we_mul {ta tb : TE} {F : D → List SD → Prop} (h : WE K ta ρ fun x ρ1 => WE K tb ρ1 fun y ρ2 => dMul x y fun d => F d ρ2) : WE K (tOp (rI CMulA fun i j => .int (i * j)) ta tb) ρ F :=
  we_op (h.mono fun x _ q => q.mono fun y _ q => by
    unfold dMul at q
    split at q
    · exact op_IC (fun _ => .int _) q.1 q.2
    · exact q.elim)
def dFdiv (x y : D) (F : D → Prop) : Prop := match x, y with
  | .int i, .int j => CDivN i j ∧ F (.int (i.fdiv j))
  | _, _ => False
theorem we_fdiv {ta tb : TE} {F : D → List SD → Prop} (h : WE K ta ρ fun x ρ1 => WE K tb ρ1 fun y ρ2 => dFdiv x y fun d => F d ρ2) : WE K (tOp (rI CDivN fun i j => .int (i.fdiv j)) ta tb) ρ F :=
  we_op (h.mono fun x _ q => q.mono fun y _ q => by
    unfold dFdiv at q
    split at q
    · exact op_IC (fun _ => .int _) q.1 q.2
    · exact q.elim)
def dMod (x y : D) (F : D → Prop) : Prop := match x, y with
  | .int i, .int j => j ≠ 0 ∧ F (.int (i.fmod j))
  | _, _ => False
theorem we_mod {ta tb : TE} {F : D → List SD → Prop} (h : WE K ta ρ fun x ρ1 => WE K tb ρ1 fun y ρ2 => dMod x y fun d => F d ρ2) : WE K (tOp (rI (fun _ j => j ≠ 0) fun i j => .int (i.fmod j)) ta tb) ρ F :=
  we_op (h.mono fun x _ q => q.mono fun y _ q => by
    unfold dMod at q
    split at q
    · exact op_IC (C := fun _ j => j ≠ 0) (fun _ => .int _) q.1 q.2
    · exact q.elim)
def CPowA (i j : Int) : Prop := 0 ≤ j ∧ (Builtin.Int.intBits i : Int) * j ≤ 2 ^ 27
theorem op_powA {X : Cx} : OpR X (binaryOp .Pow) (rI CPowA fun i j => .int (i ^ j.toNat)) := opI fun _ _ _ _ _ _ _ hc q => pow_int hc.1 hc.2 q
def dPow (x y : D) (F : D → Prop) : Prop := match x, y with
  | .int i, .int j => CPowA i j ∧ F (.int (i ^ j.toNat))
  | _, _ => False
theorem we_pow {ta tb : TE} {F : D → List SD → Prop} (h : WE K ta ρ fun x ρ1 => WE K tb ρ1 fun y ρ2 => dPow x y fun d => F d ρ2) : WE K (tOp (rI CPowA fun i j => .int (i ^ j.toNat)) ta tb) ρ F :=
  we_op (h.mono fun x _ q => q.mono fun y _ q => by
    unfold dPow at q
    split at q
    · exact op_IC (fun _ => .int _) q.1 q.2
    · exact q.elim)
def dNeg (x : D) (F : D → Prop) : Prop := match x with
  | .int i => F (.int (-i))
  | _ => False
theorem und_neg {x : D} {F : D → Prop} (q : dNeg x F) : UnD K (rU fun i => .int (-i)) x F := by
  cases x with
  | int i =>
    intro B H v s r1 Q k
    rw [rint r1]
    exact ⟨i, rfl, k _ _ B H q (Gr.refl s) (.int _)⟩
  | _ => exact q.elim
theorem we_neg {ta : TE} {F : D → List SD → Prop} (h : WE K ta ρ fun x ρ1 => dNeg x fun d => F d ρ1) : WE K (tUn (rU fun i => .int (-i)) ta) ρ F :=
  we_un (h.mono fun x ρ1 q => und_neg q)
/-! ### comparisons of ints -/
def dCmp (p : Int → Int → Bool) (x y : D) (F : D → Prop) : Prop := match x, y with
  | .int i, .int j => F (.bl (p i j))
  | _, _ => False
theorem we_cmp {p : Int → Int → Bool} {ta tb : TE} {F : D → List SD → Prop} (h : WE K ta ρ fun x ρ1 => WE K tb ρ1 fun y ρ2 => dCmp p x y fun d => F d ρ2) : WE K (tOp (rI0 fun i j => .bl (p i j)) ta tb) ρ F :=
  we_op (h.mono fun x _ q => q.mono fun y _ q => by
    unfold dCmp at q
    split at q
    · exact op_I0 (fun _ => .bl _) q
    · exact q.elim)
theorem opd_cmp {p : Int → Int → Bool} {x y : D} {F : D → Prop} (q : dCmp p x y F) : OpD K (rI0 fun i j => .bl (p i j)) x y F := by
  unfold dCmp at q
  split at q
  · exact op_I0 (fun _ => .bl _) q
  · exact q.elim
/-- is None -/
def D.isN : D → Bool
  | .non => true
  | _ => false
theorem isN_of {B : Hp} {v : V} {x : D} (h : R K B v x) : decide (v = V.non) = x.isN := by
  cases h <;> rfl
theorem we_isN {ta : TE} {F : D → List SD → Prop} (h : WE K ta ρ fun x ρ1 => F (.bl x.isN) ρ1) : WE K (tOp (fun x y H Q => y = V.non ∧ Q (.bl (decide (x = .non))) H) ta (tC .non)) ρ F :=
  we_op (h.mono fun x ρ1 q => we_non fun B H v u s r1 r2 Q k => ⟨rnon r2, by rw [isN_of r1]; exact k _ _ B H q (Gr.refl s) (.bl _)⟩)
theorem we_notN {ta : TE} {F : D → List SD → Prop} (h : WE K ta ρ fun x ρ1 => F (.bl (!x.isN)) ρ1) : WE K (tOp (fun x y H Q => y = V.non ∧ Q (.bl (!decide (x = .non))) H) ta (tC .non)) ρ F :=
  we_op (h.mono fun x ρ1 q => we_non fun B H v u s r1 r2 Q k => ⟨rnon r2, by rw [isN_of r1]; exact k _ _ B H q (Gr.refl s) (.bl _)⟩)
/-! ### chains -/
theorem we_chain {r r' : R2} {ta tb tc : TE} {F : D → List SD → Prop}
    (h : WE K ta ρ fun x ρ1 => WE K tb ρ1 fun y ρ2 => OpD K r x y fun d => ∃ b, d = .bl b ∧ (b = true → WE K tc ρ2 fun z ρ3 => OpD K r' y z fun e => F e ρ3) ∧ (b = false → F (.bl false) ρ2)) : WE K (tChain r r' ta tb tc) ρ F :=
  fun P B0 H0 B H σ S Q k => h P B0 H0 B H σ S _ fun v x ρ1 B1 H1 h1 S1 s1 r1 => h1 P B0 H0 B1 H1 σ S1 _ fun u y ρ2 B2 H2 h2 S2 s2 r2 => by
    refine h2 B2 H2 v u S2.le (r1.mono s2.bb) r2 _ fun w d B3 H3 ⟨b, e, f1, f2⟩ g r3 => ?_
    subst e
    refine ⟨b, rbl r3, ?_⟩
    have S3 := S2.step g
    cases b with
    | true =>
      refine iteT (f1 rfl P B0 H0 B3 H3 σ S3 _ fun w2 z ρ3 B4 H4 h4 S4 s4 r4 => ?_)
      exact h4 B4 H4 u w2 S4.le ((r2.mono g.bb).mono s4.bb) r4 Q fun w5 e5 B5 H5 f5 g5 r5 => k w5 e5 ρ3 B5 H5 f5 (S4.step g5) ((((s1.trans s2).trans (Ev.pure g)).trans s4).trans (Ev.pure g5)) r5
    | false => exact iteF (k _ _ ρ2 B3 H3 (f2 rfl) S3 ((s1.trans s2).trans (Ev.pure g)) (.bl false))
/-! ### tests -/
theorem wt_test {te : TE} {F : Bool → List SD → Prop} (h : WE K te ρ fun x ρ1 => ∃ b, x = .bl b ∧ F b ρ1) : WT K (tTest te) ρ F :=
  fun P B0 H0 B H σ S Q k => h P B0 H0 B H σ S _ fun v d ρ' B' H' ⟨b, e, f⟩ S' s r => by
    subst e
    exact ⟨b, rbl r, k b ρ' B' H' f S' s⟩
theorem wt_B {te : TE} {F : Bool → List SD → Prop} (h : WE K te ρ fun x ρ1 => ∃ b, x = .bl b ∧ F b ρ1) : WT K (tB te) ρ F :=
  fun P B0 H0 B H σ S Q k => h P B0 H0 B H σ S _ fun v d ρ' B' H' ⟨b, e, f⟩ S' s r => by
    subst e
    exact ⟨b, rbl r, k b ρ' B' H' f S' s⟩
theorem wt_and {t u : TT} {F : Bool → List SD → Prop} (h : WT K t ρ fun b ρ1 => (b = true → WT K u ρ1 F) ∧ (b = false → F false ρ1)) : WT K (tAnd t u) ρ F :=
  fun P B0 H0 B H σ S Q k => h P B0 H0 B H σ S _ fun b ρ' B' H' ⟨f1, f2⟩ S' s => by
    cases b with
    | true => exact iteT (f1 rfl P B0 H0 B' H' σ S' Q fun b ρ2 B2 H2 f S2 s2 => k b ρ2 B2 H2 f S2 (s.trans s2))
    | false => exact iteF (k false ρ' B' H' (f2 rfl) S' s)
theorem wt_or {t u : TT} {F : Bool → List SD → Prop} (h : WT K t ρ fun b ρ1 => (b = false → WT K u ρ1 F) ∧ (b = true → F true ρ1)) : WT K (tOr t u) ρ F :=
  fun P B0 H0 B H σ S Q k => h P B0 H0 B H σ S _ fun b ρ' B' H' ⟨f1, f2⟩ S' s => by
    cases b with
    | false => exact iteF (f1 rfl P B0 H0 B' H' σ S' Q fun b ρ2 B2 H2 f S2 s2 => k b ρ2 B2 H2 f S2 (s.trans s2))
    | true => exact iteT (k true ρ' B' H' (f2 rfl) S' s)
theorem wt_not {t : TT} {F : Bool → List SD → Prop} (h : WT K t ρ fun b ρ1 => F (!b) ρ1) : WT K (tNot t) ρ F :=
  fun P B0 H0 B H σ S Q k => h P B0 H0 B H σ S _ fun b ρ' B' H' f S' s => k _ ρ' B' H' f S' s
theorem WT.mono {t : TT} {F G : Bool → List SD → Prop} (h : WT K t ρ F) (q : ∀ d ρ', F d ρ' → G d ρ') : WT K t ρ G :=
  fun P B0 H0 B H σ S Q k => h P B0 H0 B H σ S Q fun d ρ' B' H' f => k d ρ' B' H' (q _ _ f)
theorem we_if {t : TT} {ta tb : TE} {F : D → List SD → Prop} (h : WT K t ρ fun b ρ1 => (b = true → WE K ta ρ1 F) ∧ (b = false → WE K tb ρ1 F)) : WE K (tIf t ta tb) ρ F :=
  fun P B0 H0 B H σ S Q k => h P B0 H0 B H σ S _ fun b ρ' B' H' ⟨f1, f2⟩ S' s => by
    cases b with
    | true => exact iteT (f1 rfl P B0 H0 B' H' σ S' Q fun v d ρ2 B2 H2 f S2 s2 => k v d ρ2 B2 H2 f S2 (s.trans s2))
    | false => exact iteF (f2 rfl P B0 H0 B' H' σ S' Q fun v d ρ2 B2 H2 f S2 s2 => k v d ρ2 B2 H2 f S2 (s.trans s2))
theorem we_andV {ta tb : TE} {F : D → List SD → Prop} (h : WE K ta ρ fun x ρ1 => ∃ b, x = .bl b ∧ (b = true → WE K tb ρ1 F) ∧ (b = false → F (.bl false) ρ1)) : WE K (tAndV ta tb) ρ F :=
  fun P B0 H0 B H σ S Q k => h P B0 H0 B H σ S _ fun v x ρ' B' H' ⟨b, e, f1, f2⟩ S' s r => by
    subst e
    refine ⟨b, rbl r, ?_⟩
    cases b with
    | true => exact iteT (f1 rfl P B0 H0 B' H' σ S' Q fun v d ρ2 B2 H2 f S2 s2 => k v d ρ2 B2 H2 f S2 (s.trans s2))
    | false => exact iteF (k _ _ ρ' B' H' (f2 rfl) S' s (.bl false))
theorem we_orV {ta tb : TE} {F : D → List SD → Prop} (h : WE K ta ρ fun x ρ1 => ∃ b, x = .bl b ∧ (b = true → F (.bl true) ρ1) ∧ (b = false → WE K tb ρ1 F)) : WE K (tOrV ta tb) ρ F :=
  fun P B0 H0 B H σ S Q k => h P B0 H0 B H σ S _ fun v x ρ' B' H' ⟨b, e, f1, f2⟩ S' s r => by
    subst e
    refine ⟨b, rbl r, ?_⟩
    cases b with
    | false => exact iteF (f2 rfl P B0 H0 B' H' σ S' Q fun v d ρ2 B2 H2 f S2 s2 => k v d ρ2 B2 H2 f S2 (s.trans s2))
    | true => exact iteT (k _ _ ρ' B' H' (f1 rfl) S' s (.bl true))
theorem we_notV {ta : TE} {F : D → List SD → Prop} (h : WE K ta ρ fun x ρ1 => ∃ b, x = .bl b ∧ F (.bl (!b)) ρ1) : WE K (tNotV ta) ρ F :=
  fun P B0 H0 B H σ S Q k => h P B0 H0 B H σ S _ fun v x ρ' B' H' ⟨b, e, f⟩ S' s r => by
    subst e
    exact ⟨b, rbl r, k _ _ ρ' B' H' f S' s (.bl _)⟩
/-! ### arguments, displays -/
theorem wa_nil {F : List D → List SD → Prop} (q : F [] ρ) : WA K tNil ρ F := fun P B0 H0 B H σ S Q k => k [] [] ρ B H q S (Ev.refl S.le) .nil
theorem wa_cons {te : TE} {ta : TA} {F : List D → List SD → Prop} (h : WE K te ρ fun x ρ1 => WA K ta ρ1 fun xs ρ2 => F (x :: xs) ρ2) : WA K (tCons te ta) ρ F :=
  fun P B0 H0 B H σ S Q k => h P B0 H0 B H σ S _ fun v x ρ1 B1 H1 h1 S1 s1 r1 => h1 P B0 H0 B1 H1 σ S1 _ fun vs xs ρ2 B2 H2 h2 S2 s2 r2 =>
    k _ _ ρ2 B2 H2 h2 S2 (s1.trans s2) (.cons (r1.mono s2.bb) r2)
theorem WA.mono {ta : TA} {F G : List D → List SD → Prop} (h : WA K ta ρ F) (q : ∀ d ρ', F d ρ' → G d ρ') : WA K ta ρ G :=
  fun P B0 H0 B H σ S Q k => h P B0 H0 B H σ S Q fun v d ρ' B' H' f => k v d ρ' B' H' (q _ _ f)
theorem we_tup {ta : TA} {F : D → List SD → Prop} (h : WA K ta ρ fun xs ρ1 => xs.length ≤ sizeLine ∧ F (.tup xs) ρ1) : WE K (tTup ta) ρ F :=
  fun P B0 H0 B H σ S Q k => h P B0 H0 B H σ S _ fun vs xs ρ1 B1 H1 h1 S1 s1 r1 => by
    refine ⟨by rw [r1.length]; exact h1.1, fun p hp => ?_⟩
    have hb := S1.bfree hp
    exact k _ _ ρ1 (upd B1 p _) _ h1.2 (S1.new _ hp) (s1.trans (Ev.new S1.le hp)) (.tup (SqT.of upd_same) (r1.mono (same_new hb)))
theorem we_lst {ta : TA} {F : D → List SD → Prop} (h : WA K ta ρ fun xs ρ1 => xs.length ≤ sizeLine ∧ F (.lst xs) ρ1) : WE K (tLst ta) ρ F :=
  fun P B0 H0 B H σ S Q k => h P B0 H0 B H σ S _ fun vs xs ρ1 B1 H1 h1 S1 s1 r1 => by
    refine ⟨by rw [r1.length]; exact h1.1, fun p hp => ?_⟩
    have hb := S1.bfree hp
    exact k _ _ ρ1 (upd B1 p _) _ h1.2 (S1.new _ hp) (s1.trans (Ev.new S1.le hp)) (.lst upd_same (r1.mono (same_new hb)))
/-! ### statements -/
theorem ws_next {E : Out} (q : E.nx ρ) : WS K tNext ρ E := fun P B0 H0 B H σ S D k1 k2 k3 k4 => k1 ρ B H σ q S (Same.refl _)
theorem ws_never {E : Out} (q : False) : WS K tNever ρ E := q.elim
theorem ws_seq {t u : TS} {E : Out} (h : WS K t ρ { E with nx := fun ρ1 => WS K u ρ1 E }) : WS K (tSeq t u) ρ E :=
  fun P B0 H0 B H σ S D k1 k2 k3 k4 => h P B0 H0 B H σ S { D with nx := u D }
    (fun ρ1 B1 H1 σ1 h1 S1 s1 => h1 P B0 H0 B1 H1 σ1 S1 D (fun ρ' B' H' σ' f S' s => k1 ρ' B' H' σ' f S' (s1.trans s)) (fun v d ρ' B' H' σ' f S' s r => k2 v d ρ' B' H' σ' f S' (s1.trans s) r)
      (fun ρ' B' H' σ' f S' s => k3 ρ' B' H' σ' f S' (s1.trans s)) (fun ρ' B' H' σ' f S' s => k4 ρ' B' H' σ' f S' (s1.trans s))) k2 k3 k4
theorem ws_ret {te : TE} {E : Out} (h : WE K te ρ E.rt) : WS K (tRet te) ρ E :=
  fun P B0 H0 B H σ S D k1 k2 k3 k4 => h P B0 H0 B H σ S _ fun v d ρ' B' H' f S' s r => k2 v d ρ' B' H' σ f S' s.bb r
theorem ws_retN {E : Out} (h : E.rt .non ρ) : WS K tRetN ρ E :=
  fun P B0 H0 B H σ S D k1 k2 k3 k4 => k2 _ _ ρ B H σ h S (Same.refl _) .non
theorem ws_break {E : Out} (h : E.bk ρ) : WS K tBreak ρ E := fun P B0 H0 B H σ S D k1 k2 k3 k4 => k3 ρ B H σ h S (Same.refl _)
theorem ws_cont {E : Out} (h : E.ct ρ) : WS K tCont ρ E := fun P B0 H0 B H σ S D k1 k2 k3 k4 => k4 ρ B H σ h S (Same.refl _)
theorem ws_drop {te : TE} {E : Out} (h : WE K te ρ fun _ ρ1 => E.nx ρ1) : WS K (tDrop te) ρ E :=
  fun P B0 H0 B H σ S D k1 k2 k3 k4 => h P B0 H0 B H σ S _ fun v d ρ' B' H' f S' s r => k1 ρ' B' H' σ f S' s.bb
theorem ws_if {t : TT} {ts us : TS} {E : Out} (h : WT K t ρ fun b ρ1 => (b = true → WS K ts ρ1 E) ∧ (b = false → WS K us ρ1 E)) : WS K (tIfS t ts us) ρ E :=
  fun P B0 H0 B H σ S D k1 k2 k3 k4 => h P B0 H0 B H σ S _ fun b ρ1 B1 H1 ⟨f1, f2⟩ S1 s1 => by
    cases b with
    | true => exact iteT (f1 rfl P B0 H0 B1 H1 σ S1 D (fun ρ' B' H' σ' f S' s => k1 ρ' B' H' σ' f S' (s1.bb.trans s)) (fun v d ρ' B' H' σ' f S' s r => k2 v d ρ' B' H' σ' f S' (s1.bb.trans s) r)
      (fun ρ' B' H' σ' f S' s => k3 ρ' B' H' σ' f S' (s1.bb.trans s)) (fun ρ' B' H' σ' f S' s => k4 ρ' B' H' σ' f S' (s1.bb.trans s)))
    | false => exact iteF (f2 rfl P B0 H0 B1 H1 σ S1 D (fun ρ' B' H' σ' f S' s => k1 ρ' B' H' σ' f S' (s1.bb.trans s)) (fun v d ρ' B' H' σ' f S' s r => k2 v d ρ' B' H' σ' f S' (s1.bb.trans s) r)
      (fun ρ' B' H' σ' f S' s => k3 ρ' B' H' σ' f S' (s1.bb.trans s)) (fun ρ' B' H' σ' f S' s => k4 ρ' B' H' σ' f S' (s1.bb.trans s)))
/-! ### targets -/
/-- a store: no slot has become one that may change, those that may hold what they held -/
def ShG (ρ : List SD) (σ : L2.St) (ρ' : List SD) (σ' : L2.St) : Prop := ∀ (j : Nat) s', ρ'[j]? = some s' → s'.mu = true → ρ[j]? = some s' ∧ σ'[j]? = σ[j]?
theorem ShG.refl (ρ : List SD) (σ : L2.St) : ShG ρ σ ρ σ := fun j s h m => ⟨h, rfl⟩
theorem ShG.trans {ρ ρ1 ρ2 : List SD} {σ σ1 σ2 : L2.St} (a : ShG ρ σ ρ1 σ1) (b : ShG ρ1 σ1 ρ2 σ2) : ShG ρ σ ρ2 σ2 := fun j s h m => by
  obtain ⟨h1, e1⟩ := b j s h m
  obtain ⟨h2, e2⟩ := a j s h1 m
  exact ⟨h2, e1.trans e2⟩
theorem ShG.put {i : Nat} {x : D} {v : Option V} {σ : L2.St} : ShG ρ σ (ρ.set i (.d x)) (σ.set i v) := fun j s h m => by
  have n : i ≠ j := fun e => by
    subst e
    obtain ⟨e2, _⟩ := set_same_of h
    rw [e2] at m; cases m
  rw [get_set_ne n] at h
  exact ⟨h, get_set_ne n⟩
theorem ShG.mus {ρ' : List SD} {σ σ' : L2.St} (a : ShG ρ σ ρ' σ') {b : Addr} (h : Mus ρ' σ' b) : Mus ρ σ b := by
  obtain ⟨j, s, e, m, q⟩ := h
  obtain ⟨e', q'⟩ := a j s e m
  exact ⟨j, s, e', m, q' ▸ q⟩
/-- g stores a datum x -/
def WG (K : Fg) (g : TG) (x : D) (ρ : List SD) (F : List SD → Prop) : Prop :=
  ∀ P B0 H0 B H σ v, ST K P B0 H0 ρ B H σ → R K B v x → ∀ Q : L2.St → Hp → Prop, (∀ ρ' σ', F ρ' → ST K P B0 H0 ρ' B H σ' → ShG ρ σ ρ' σ' → Q σ' H) → g v σ H Q
def WGs (K : Fg) (g : TGs) (xs : List D) (ρ : List SD) (F : List SD → Prop) : Prop :=
  ∀ P B0 H0 B H σ vs, ST K P B0 H0 ρ B H σ → RA K B vs xs → ∀ Q : L2.St → Hp → Prop, (∀ ρ' σ', F ρ' → ST K P B0 H0 ρ' B H σ' → ShG ρ σ ρ' σ' → Q σ' H) → g vs σ H Q
theorem wg_name {i : Nat} {x : D} {F : List SD → Prop} (q : F (ρ.set i (.d x))) : WG K (gName i) x ρ F := fun P B0 H0 B H σ v S r Q k => k _ _ q (S.put r) ShG.put
theorem wgs_nil {F : List SD → Prop} (q : F ρ) : WGs K gNil [] ρ F := fun P B0 H0 B H σ vs S r Q k => by
  cases r
  exact ⟨rfl, k ρ σ q S (ShG.refl _ _)⟩
theorem wgs_cons {g : TG} {gs : TGs} {x : D} {xs : List D} {F : List SD → Prop} (h : WG K g x ρ fun ρ1 => WGs K gs xs ρ1 F) : WGs K (gCons g gs) (x :: xs) ρ F := fun P B0 H0 B H σ vs S r Q k => by
  cases r with
  | cons r1 r2 => exact ⟨_, _, rfl, h P B0 H0 B H σ _ S r1 _ fun ρ1 σ1 h1 S1 g1 => h1 P B0 H0 B H σ1 _ S1 r2 Q fun ρ2 σ2 h2 S2 g2 => k ρ2 σ2 h2 S2 (g1.trans g2)⟩
theorem wg_tup {n : Nat} {gs : TGs} {xs : List D} {F : List SD → Prop} (e : xs.length = n) (h : WGs K gs xs ρ F) : WG K (gTup K n gs) (.tup xs) ρ F := fun P B0 H0 B H σ v S r Q k => by
  cases r with
  | tup h1 a1 => exact ⟨_, _, rfl, same_t S.le h1, by rw [a1.length]; exact e, h P B0 H0 B H σ _ S a1 Q k⟩
theorem wg_unl {n : Nat} {gs : TGs} {xs : List D} {F : List SD → Prop} (e : xs.length = n) (h : WGs K gs xs ρ F) : WG K (gUnl K n gs) (.lst xs) ρ F := fun P B0 H0 B H σ v S r Q k => by
  cases r with
  | lst h1 a1 => exact ⟨_, _, rfl, SqL.of (S.le _ _ h1), by rw [a1.length]; exact e, h P B0 H0 B H σ _ S a1 Q k⟩
theorem ws_asg {te : TE} {g : TG} {E : Out} (h : WE K te ρ fun x ρ1 => WG K g x ρ1 E.nx) : WS K (tAsg te g) ρ E :=
  fun P B0 H0 B H σ S D k1 k2 k3 k4 => h P B0 H0 B H σ S _ fun v x ρ1 B1 H1 h1 S1 s1 r1 => h1 P B0 H0 B1 H1 σ v S1 r1 _ fun ρ' σ' f S' _ => k1 ρ' B1 H1 σ' f S' s1.bb
/-- a, b = .. -/
theorem ws_par {i j : Nat} {ta : TA} {E : Out} (h : WA K ta ρ fun xs ρ1 => ∃ x y, xs = [x, y] ∧ E.nx ((ρ1.set i (.d x)).set j (.d y))) : WS K (tPar i j ta) ρ E :=
  fun P B0 H0 B H σ S D k1 k2 k3 k4 => h P B0 H0 B H σ S _ fun vs xs ρ1 B1 H1 ⟨x, y, e, f⟩ S1 s1 r1 => by
    subst e
    cases r1 with
    | cons r1 r2 =>
      cases r2 with
      | cons r2 r3 =>
        cases r3
        exact ⟨_, _, rfl, k1 _ B1 H1 _ f ((S1.put r1).put r2) s1.bb⟩
/-- a, b, c = .. -/
theorem ws_par3 {i j l : Nat} {ta : TA} {E : Out} (h : WA K ta ρ fun xs ρ1 => ∃ x y z, xs = [x, y, z] ∧ E.nx (((ρ1.set i (.d x)).set j (.d y)).set l (.d z))) : WS K (tPar3 i j l ta) ρ E :=
  fun P B0 H0 B H σ S D k1 k2 k3 k4 => h P B0 H0 B H σ S _ fun vs xs ρ1 B1 H1 ⟨x, y, z, e, f⟩ S1 s1 r1 => by
    subst e
    cases r1 with
    | cons r1 r2 =>
      cases r2 with
      | cons r2 r3 =>
        cases r3 with
        | cons r3 r4 =>
          cases r4
          exact ⟨_, _, _, rfl, k1 _ B1 H1 _ f (((S1.put r1).put r2).put r3) s1.bb⟩
end
end Lw

set_option Elab.async false
set_option linter.all false
set_option maxRecDepth 100000
set_option maxHeartbeats 4000000
namespace Lw
open PySem PySem.Spec PyProof.Rows L2
/-! ### defs: what they promise -/
/-- a def of n arguments that changes nothing: S tells, of the data of the arguments, what may be wanted of the answer -/
def pureSp (K : Fg) (n : Nat) (S : List D → (D → Prop) → Prop) : Sp := fun vs H Q _ =>
  ∃ B ds F, Same B H ∧ RA K B vs ds ∧ ds.length = n ∧ S ds F ∧ ∀ v d B' H', F d → Gr Non B H B' H' → R K B' v d → Q v H'
abbrev LIM : Nat := 1000000000
/-- a def that draws of the pot, its first argument, c times at most -/
def potSp (K : Fg) (n c : Nat) (S : List D → (D → Prop) → Prop) : Sp := fun vs H Q _ =>
  ∃ a ws B ds F m, vs = .ref a :: ws ∧ Same B H ∧ B a = none ∧ PotAt H a m ∧ m + c ≤ LIM ∧ RA K B ws ds ∧ ds.length = n ∧ S ds F ∧
    ∀ v d B' H', F d → Gr (One a) B H B' H' → B' a = none → PotAt H' a (m + c) → R K B' v d → Q v H'
/-- the name x stands for a def that keeps its promise -/
def Cal (P : Program) (w : World) (K : Fg) (mg : Str → Option Value) (base : Heap) (x : Str) (k : Nat) (ps : List Str) (sp : Sp) : Prop :=
  ∃ f fd, mg x = some (.ref f) ∧ PySem.W.keepIn K (.ref f) = true ∧ Binds K fd ps [] ∧ (∀ (j : Nat) (ks : List Str), j ≤ ps.length → ps.drop j = ks → KBn K fd ps (ps.take j).length ks (fun us ws => us ++ ws) (fun vs zs => vs ++ zs)) ∧ FnOk P w K mg base CX0 k f fd ps sp
section
variable {X : Cx} {x : Str} {k : Nat} {ps : List Str} {sp : Sp} {e : Expr} {es : List Expr} {t tk : TA} {p pos : Pos} {kws : List Keyword}
theorem pe_callF (G : Cal X.prog X.w X.K X.mg X.base x k ps sp) (hr : Room k X.A) (ha : PA X (e :: es) t) (hg : Gl X x := by rfl) (hdb : (x == ("__debug__" : Str)) = false := by decide)
    (he : starEach (e :: es) X.env = (false, eval e X.env) :: starEach es X.env := by rfl) (hpl : (backTo pos (starEach es X.env)).any (·.1) = false := by rfl) : PE X (.Call (.Name x p) (e :: es) [] pos) (tCall sp [] E0 t) := by
  obtain ⟨f, fd, hm, hk, hb, _, F⟩ := G
  exact pe_call F hr hg hm hk hb .nil pass0 ha hdb he hpl
theorem pe_callF0 (G : Cal X.prog X.w X.K X.mg X.base x k ps sp) (hr : Room k X.A) (hg : Gl X x := by rfl) (hdb : (x == ("__debug__" : Str)) = false := by decide) : PE X (.Call (.Name x p) [] [] pos) (tCall sp [] E0 tNil) := by
  obtain ⟨f, fd, hm, hk, hb, _, F⟩ := G
  exact pe_call0 F hr hg hm hk hb .nil pass0 hdb
/-- f(.., k = v, ..), the keywords the last parameters, as they stand -/
theorem pe_callFk (j : Nat) (hj : j ≤ ps.length) (G : Cal X.prog X.w X.K X.mg X.base x k ps sp) (hr : Room k X.A) (ha : PA X (e :: es) t) (hkw : PK X kws tk) (hg : Gl X x := by rfl)
    (hall : (backToKw pos (keywordEach kws X.env)).all (·.1.isSome) = true := by rfl) (hks : (backToKw pos (keywordEach kws X.env)).filterMap (·.1) = ps.drop j := by rfl)
    (hdb : (x == ("__debug__" : Str)) = false := by decide) (he : starEach (e :: es) X.env = (false, eval e X.env) :: starEach es X.env := by rfl)
    (hpl : ((backTo pos (starEach (e :: es) X.env)).any (·.1) || (backToKw pos (keywordEach kws X.env)).any (·.1.isNone)) = false := by rfl) :
    PE X (.Call (.Name x p) (e :: es) kws pos) (tCallN (ps.take j).length (ps.drop j).length sp (fun vs zs => vs ++ zs) E0 t tk) := by
  obtain ⟨f, fd, hm, hk, _, hb, F⟩ := G
  exact pe_callN F hr hg hm hk (hb j _ hj rfl) pass0 ha hkw hall hks hdb he hpl
theorem pe_callFk0 (G : Cal X.prog X.w X.K X.mg X.base x k ps sp) (hr : Room k X.A) (hkw : PK X kws tk) (hg : Gl X x := by rfl)
    (hall : (backToKw pos (keywordEach kws X.env)).all (·.1.isSome) = true := by rfl) (hks : (backToKw pos (keywordEach kws X.env)).filterMap (·.1) = ps := by rfl)
    (hdb : (x == ("__debug__" : Str)) = false := by decide)
    (hpl : ((backTo pos (starEach [] X.env)).any (·.1) || (backToKw pos (keywordEach kws X.env)).any (·.1.isNone)) = false := by rfl) :
    PE X (.Call (.Name x p) [] kws pos) (tCallN 0 ps.length sp (fun vs zs => vs ++ zs) E0 tNil tk) := by
  obtain ⟨f, fd, hm, hk, _, hb, F⟩ := G
  refine ⟨fun pins s σ H Q I h => wpAny_Call_Name_kw (ld_glob I hg hm ?_ hdb)⟩
  refine PySem.W.callWith_KW0 (h₀ := X.base) I.ok.mod.kin hk hall (thn (hkw.run pos pins s σ H _ I h) fun ws s2 q2 => ?_) hpl
  obtain ⟨zs, H2, I2, rz, l1, l2, q3⟩ := q2
  refine ⟨I2.kIn, ?_⟩
  rw [hks]
  exact run_fnN (us := []) (vs := []) F hr (hb 0 ps (Nat.zero_le _) rfl) pass0 I2 .nil rz rfl l2 q3
end
section
variable {P : Program} {w : World} {K : Fg} {mg : Str → Option Value} {base : Heap}
/-- how keywords bind: all parameters plain -/
theorem kbn_of {x qual : Str} {params : Arguments} {body : List Stmt} {scope : Scope} {f : Addr} {fd : FuncData} {ps : List Str} (F : FunD K x qual params body scope [] [] f fd)
    (h : ∀ (kV doc pm : Value) (an : Option Addr) (cdv ct : Value) (j : Nat) (us ws : List Value), j ≤ ps.length → us.length = (ps.take j).length → ws.length = (ps.drop j).length →
      bindArgs (PySem.W.fnOf x qual params body scope .none kV doc pm an cdv ct) ⟨us, (ps.drop j).zip ws⟩ = pure (ps.zip (us ++ ws))) :
    ∀ (j : Nat) (ks : List Str), j ≤ ps.length → ps.drop j = ks → KBn K fd ps (ps.take j).length ks (fun us ws => us ++ ws) (fun vs zs => vs ++ zs) := by
  obtain ⟨oc, od, dV, kV, doc, pm, an, cdv, ct, osl, rfl, lk, hcd, hD, hK⟩ := F.ex
  rcases hD with ⟨_, rfl⟩ | ⟨e, _⟩
  · intro j ks hj e
    subst e
    exact ⟨fun s us ws X l1 l2 => .of_eq (h kV doc pm an cdv ct j us ws hj l1 l2), fun a b => a.append b⟩
  · exact absurd rfl e
/-- the slots at the start -/
def rho (N : List Str) (ds : List D) : List SD := ds.map .d ++ List.replicate (N.length - ds.length) .un
def rhoP (N : List Str) (m : Nat) (ds : List D) : List SD := .pot m :: (ds.map .d ++ List.replicate (N.length - (ds.length + 1)) .un)
theorem start_get {N : List Str} {vs : List V} {i : Nat} : (start N vs)[i]? = if i < vs.length then (vs[i]?).map some else if i < N.length then some none else none := by
  unfold L2.start
  by_cases h : i < vs.length
  · rw [if_pos h, List.getElem?_append_left (by simpa using h), List.getElem?_map]
  · rw [if_neg h, List.getElem?_append_right (by simpa using h)]
    rw [List.getElem?_replicate]
    simp only [List.length_map]
    by_cases h2 : i < N.length
    · rw [if_pos h2, if_pos (by omega)]
    · rw [if_neg h2, if_neg (by omega)]
theorem start_len {N : List Str} {vs : List V} (h : vs.length ≤ N.length) : (start N vs).length = N.length := by
  unfold L2.start
  simp; omega
theorem rho_get {N : List Str} {ds : List D} {i : Nat} {s : SD} (h : (rho N ds)[i]? = some s) : (∃ d, ds[i]? = some d ∧ s = .d d) ∨ s = .un := by
  unfold rho at h
  by_cases hi : i < ds.length
  · rw [List.getElem?_append_left (by simpa using hi), List.getElem?_map] at h
    left
    cases e : ds[i]? with
    | none => rw [e] at h; cases h
    | some d => rw [e] at h; exact ⟨d, rfl, (Option.some.inj h).symm⟩
  · rw [List.getElem?_append_right (by simpa using hi), List.getElem?_replicate] at h
    right
    split at h
    · exact (Option.some.inj h).symm
    · cases h
theorem rho_len {N : List Str} {ds : List D} (h : ds.length ≤ N.length) : (rho N ds).length = N.length := by
  unfold rho; simp; omega
theorem st_start {N : List Str} {B H : Hp} {vs : List V} {ds : List D} (s : Same B H) (r : RA K B vs ds) (hl : ds.length ≤ N.length) : ST K Non B H (rho N ds) B H (start N vs) where
  len := by rw [start_len (by rw [r.length]; exact hl), rho_len hl]
  gr := Gr.refl s
  sl := fun i z h => by
    rcases rho_get h with ⟨d, e, rfl⟩ | rfl
    · obtain ⟨v, e1, r1⟩ := r.get e
      refine ⟨v, ?_, r1⟩
      rw [start_get, if_pos (List.getElem?_eq_some_iff.mp e1).1, e1]
      rfl
    · trivial
  dis := fun i j s t h1 h2 m1 => by
    rcases rho_get h1 with ⟨d, e, q⟩ | q <;> (subst q; cases m1)
theorem rhoP_get {N : List Str} {m : Nat} {ds : List D} {i : Nat} {s : SD} (h : (rhoP N m ds)[i]? = some s) : (i = 0 ∧ s = .pot m) ∨ (∃ j d, i = j + 1 ∧ ds[j]? = some d ∧ s = .d d) ∨ s = .un := by
  unfold rhoP at h
  cases i with
  | zero => left; exact ⟨rfl, (Option.some.inj (by simpa using h)).symm⟩
  | succ j =>
    right
    rw [List.getElem?_cons_succ] at h
    by_cases hi : j < ds.length
    · rw [List.getElem?_append_left (by simpa using hi), List.getElem?_map] at h
      left
      cases e : ds[j]? with
      | none => rw [e] at h; cases h
      | some d => rw [e] at h; exact ⟨j, d, rfl, e, (Option.some.inj h).symm⟩
    · rw [List.getElem?_append_right (by simpa using hi), List.getElem?_replicate] at h
      right
      split at h
      · exact (Option.some.inj h).symm
      · cases h
theorem st_startP {N : List Str} {B H : Hp} {a : Addr} {m : Nat} {vs : List V} {ds : List D} (s : Same B H) (hb : B a = none) (hp : PotAt H a m) (r : RA K B vs ds) (hl : ds.length + 1 ≤ N.length) : ST K (One a) B H (rhoP N m ds) B H (start N (.ref a :: vs)) where
  len := by
    rw [start_len (by simp only [List.length_cons]; rw [r.length]; exact hl)]
    unfold rhoP; simp; omega
  gr := Gr.refl s
  sl := fun i z h => by
    rcases rhoP_get h with ⟨rfl, rfl⟩ | ⟨j, d, rfl, e, rfl⟩ | rfl
    · exact ⟨a, rfl, rfl, hb, hp⟩
    · obtain ⟨v, e1, r1⟩ := r.get e
      refine ⟨v, ?_, r1⟩
      rw [start_get, if_pos (by simpa using (List.getElem?_eq_some_iff.mp e1).1), List.getElem?_cons_succ, e1]
      rfl
    · trivial
  dis := fun i j s t h1 h2 m1 m2 _ => by
    have q : ∀ {l : Nat} {u : SD}, (rhoP N m ds)[l]? = some u → u.mu = true → l = 0 := fun {l u} h m1 => by
      rcases rhoP_get h with ⟨z, _⟩ | ⟨_, _, _, _, z⟩ | z
      · exact z
      · subst z; cases m1
      · subst z; cases m1
    rw [q h1 m1, q h2 m2]
/-- what stands behind a pure def's body -/
abbrev outP (F : D → Prop) : Out := { nx := fun _ => F .non, rt := fun d _ => F d }
abbrev outQ (F : D → Prop) (i n : Nat) : Out := { nx := fun ρ => F .non ∧ ∃ m, ρ[i]? = some (.pot m) ∧ m ≤ n, rt := fun d ρ => F d ∧ ∃ m, ρ[i]? = some (.pot m) ∧ m ≤ n }
theorem fn_pure {name qual : Str} {params : Arguments} {body : List Stmt} {scope : Scope} {f : Addr} {fd : FuncData} {N ps : List Str} {k n : Nat} {S : List D → (D → Prop) → Prop}
    (F : FunD K name qual params body scope [] [] f fd) (sc : FnScope N ps scope) (hn : n = ps.length) (hN : n ≤ N.length)
    (hb : ∀ (cdv : Value) (A : Around) (outer : List Env) (s : Shared) (H : Hp) (E : XK), Room k (A.deeper (envOfC qual scope s.heap.objs.size f cdv)) →
      ∃ t, PSs (cxOf CX0 P w K mg base N qual scope f cdv A outer s H E).nox body t ∧ ∀ ds G, ds.length = n → S ds G → WS K t (rho N ds) (outP G)) :
    FnOk P w K mg base CX0 (k + 1) f fd ps (pureSp K n S) := by
  refine F.ok sc (fun vs H Q E h => ?_) (fun cdv A outer s H vs Q E hr h => ?_)
  · obtain ⟨B, ds, G, h1, h2, h3, _⟩ := h
    rw [h2.length, h3, hn]
  · obtain ⟨t, hp, hw⟩ := hb cdv A outer s H E hr
    refine ⟨t, hp.nox, ?_⟩
    obtain ⟨B, ds, G, h1, h2, h3, h4, h5⟩ := h
    refine hw ds G h3 h4 Non B H B H (start N vs) (st_start h1 h2 (by rw [h3]; exact hN)) _ (fun ρ' B' H' σ' f S' s' => ?_) (fun v d ρ' B' H' σ' f S' s' r => ?_) (fun _ _ _ _ z => z.elim) (fun _ _ _ _ z => z.elim)
    · exact h5 _ _ B' H' f S'.gr .non
    · exact h5 v d B' H' f S'.gr r
theorem fn_pot {name qual : Str} {params : Arguments} {body : List Stmt} {scope : Scope} {f : Addr} {fd : FuncData} {N ps : List Str} {k n c : Nat} {S : List D → (D → Prop) → Prop}
    (F : FunD K name qual params body scope [] [] f fd) (sc : FnScope N ps scope) (hn : n + 1 = ps.length) (hN : n + 1 ≤ N.length)
    (hb : ∀ (cdv : Value) (A : Around) (outer : List Env) (s : Shared) (H : Hp) (E : XK), Room k (A.deeper (envOfC qual scope s.heap.objs.size f cdv)) →
      ∃ t, PSs (cxOf CX0 P w K mg base N qual scope f cdv A outer s H E).nox body t ∧ ∀ m ds G, m + c ≤ LIM → ds.length = n → S ds G → WS K t (rhoP N m ds) (outQ G 0 (m + c))) :
    FnOk P w K mg base CX0 (k + 1) f fd ps (potSp K n c S) := by
  refine F.ok sc (fun vs H Q E h => ?_) (fun cdv A outer s H vs Q E hr h => ?_)
  · obtain ⟨a, ws, B, ds, G, m, rfl, h1, h2, h3, h4, h5, h6, _⟩ := h
    rw [List.length_cons, h5.length, h6, hn]
  · obtain ⟨t, hp, hw⟩ := hb cdv A outer s H E hr
    refine ⟨t, hp.nox, ?_⟩
    obtain ⟨a, ws, B, ds, G, m, rfl, h1, h2, h3, h4, h5, h6, h7, h8⟩ := h
    have key : ∀ {v : V} {d : D} {ρ' : List SD} {B' H' : Hp} {σ' : L2.St}, G d → (∃ m', ρ'[0]? = some (SD.pot m') ∧ m' ≤ m + c) → ST K (One a) B H ρ' B' H' σ' → R K B' v d → Q v H' := fun g z S' r => by
      obtain ⟨m', e, hm⟩ := z
      obtain ⟨o, _, a', _, e3, e4, e5⟩ := S'.slot e
      cases e3
      exact h8 _ _ _ _ g S'.gr e4 (e5.mono hm) r
    refine hw m ds G h4 h6 h7 (One a) B H B H (start N (.ref a :: ws)) (st_startP h1 h2 h3 h5 (by rw [h6]; exact hN)) _ (fun ρ' B' H' σ' f S' s' => ?_) (fun v d ρ' B' H' σ' f S' s' r => ?_) (fun _ _ _ _ z => z.elim) (fun _ _ _ _ z => z.elim)
    · exact key f.1 f.2 S' .non
    · exact key f.1 f.2 S' r
end
/-! ### calls -/
section
variable {K : Fg} {ρ : List SD}
theorem we_call {n : Nat} {S : List D → (D → Prop) → Prop} {t : TA} {F : D → List SD → Prop} (h : WA K t ρ fun ds ρ1 => ds.length = n ∧ S ds fun d => F d ρ1) : WE K (tCall (pureSp K n S) [] E0 t) ρ F :=
  fun P B0 H0 B H σ Z Q k => h P B0 H0 B H σ Z _ fun vs ds ρ1 B1 H1 ⟨l, f⟩ S1 s1 r1 => by
    refine ⟨B1, ds, _, S1.le, by rw [List.append_nil]; exact r1, l, f, fun v d B2 H2 g q r => k v d ρ1 B2 H2 g (S1.step q) (s1.trans (Ev.pure q)) r⟩
theorem we_callN {n a b : Nat} {S : List D → (D → Prop) → Prop} {t tk : TA} {F : D → List SD → Prop} (h : WA K t ρ fun ds ρ1 => WA K tk ρ1 fun es ρ2 => ds.length = a ∧ es.length = b ∧ (ds ++ es).length = n ∧ S (ds ++ es) fun d => F d ρ2) :
    WE K (tCallN a b (pureSp K n S) (fun vs zs => vs ++ zs) E0 t tk) ρ F :=
  fun P B0 H0 B H σ Z Q k => h P B0 H0 B H σ Z _ fun vs ds ρ1 B1 H1 h1 S1 s1 r1 => h1 P B0 H0 B1 H1 σ S1 _ fun us es ρ2 B2 H2 ⟨l1, l2, l, f⟩ S2 s2 r2 => by
    refine ⟨by rw [r1.length]; exact l1, by rw [r2.length]; exact l2, B2, ds ++ es, _, S2.le, (r1.mono s2.bb).append r2, l, f, fun v d B3 H3 g q r => k v d ρ2 B3 H3 g (S2.step q) ((s1.trans s2).trans (Ev.pure q)) r⟩
/-- what stands at a, in the slot i, has changed by a call -/
theorem ST.called {a : Addr} {P : Addr → Prop} {B0 H0 B H B' H' : Hp} {σ : L2.St} {i : Nat} {s s' : SD} (S : ST K P B0 H0 ρ B H σ) (hi : ρ[i]? = some s) (hm : s.mu = true) (hm' : s'.mu = true) (ha : σ[i]? = some (some (.ref a))) (g : Gr (One a) B H B' H') (hb : B' a = none)
    (hn : Sl K P H0 B' H' (some (.ref a)) s') : ST K P B0 H0 (ρ.set i s') B' H' σ where
  len := by rw [List.length_set, S.len]
  gr := by
    obtain ⟨w, e1, z⟩ := S.slot hi
    obtain ⟨b, e2, h0, hb1, hh⟩ := z.at_ hm
    rw [ha] at e1
    cases e1
    cases e2
    rcases h0 with h0 | h0
    · refine ⟨fun c o n e => g.hh c o (fun q => ?_) (S.gr.hh c o n e), S.gr.bb.trans g.bb, g.le, fun c o e => ?_, fun c n e => ?_⟩
      · rw [q] at e; rw [h0] at e; cases e
      · rcases g.fr c o e with q | q | q
        · exact S.gr.fr c o q
        · right
          cases q2 : H0 c with
          | none => exact .inl rfl
          | some u =>
            by_cases n : P c
            · exact .inr n
            · rw [S.gr.hh c u n q2] at q; cases q
        · rw [q] at e; rw [hb] at e; cases e
      · by_cases z : c = a
        · exact g.pt c z (S.gr.pt c n e)
        · have q := S.gr.pt c n e
          cases q2 : H c with
          | none => exact absurd q2 q
          | some u => rw [g.hh c u z q2]; exact fun z => nomatch z
    · exact S.gr.trans (g.weak fun c q => by rw [q]; exact h0)
  sl := fun j t h => by
    by_cases e : i = j
    · subst e
      obtain ⟨e2, _⟩ := set_same_of h
      subst e2
      rw [ha]
      exact hn
    · rw [get_set_ne e] at h
      refine (S.sl j t h).step g.bb fun b u m eb hb1 hh => ?_
      have ne : b ≠ a := fun q => by
        subst q
        refine e (S.dis i j s t hi h hm m ?_)
        obtain ⟨w, e1, _⟩ := S.slot h
        rw [e1] at eb ⊢
        rw [ha]
        have eb' : w = some (V.ref b) := eb
        rw [eb']
      refine ⟨g.hh b u ne hh, ?_⟩
      cases q : B' b with
      | none => rfl
      | some u =>
        rcases g.fr b u q with z | z | z
        · rw [hb1] at z; cases z
        · rw [hh] at z; cases z
        · exact absurd z ne
  dis := fun j k s1 t1 h1 h2 m1 m2 h3 => by
    have q : ∀ {l : Nat} {u : SD}, (ρ.set i s')[l]? = some u → u.mu = true → ∃ u', ρ[l]? = some u' ∧ u'.mu = true := fun {l u} h m => by
      by_cases e : i = l
      · subst e; exact ⟨s, hi, hm⟩
      · rw [get_set_ne e] at h; exact ⟨u, h, m⟩
    obtain ⟨u1, a1, b1⟩ := q h1 m1
    obtain ⟨u2, a2, b2⟩ := q h2 m2
    exact S.dis j k u1 u2 a1 a2 b1 b2 h3
theorem Ev.called {a : Addr} {B H B' H' : Hp} {σ : L2.St} {i : Nat} {s s' : SD} (hi : ρ[i]? = some s) (hm : s.mu = true) (ha : σ[i]? = some (some (.ref a))) (g : Gr (One a) B H B' H') : Ev ρ σ B H (ρ.set i s') B' H' :=
  ⟨g.weak fun b q => by rw [q]; exact ⟨i, s, hi, hm, ha⟩, fun j t h m => by
    by_cases e : i = j
    · subst e; exact ⟨s, hi, hm⟩
    · rw [get_set_ne e] at h; exact ⟨t, h, m⟩⟩
theorem we_callP {n c i : Nat} {S : List D → (D → Prop) → Prop} {t : TA} {F : D → List SD → Prop} {m0 : Nat} (h0 : ρ[i]? = some (.pot m0))
    (h : WA K t ρ fun ds ρ1 => ∃ m, ρ1[i]? = some (.pot m) ∧ m + c ≤ LIM ∧ ds.length = n ∧ S ds fun d => F d (ρ1.set i (.pot (m + c)))) : WE K (tCall (potSp K n c S) [] E0 (tCons (tVar i) t)) ρ F :=
  fun P B0 H0 B H σ Z Q k => by
    obtain ⟨o, e0, a, rfl, pa, ea, ep⟩ := Z.slot h0
    refine ⟨.ref a, e0, ?_⟩
    refine h _ B0 H0 B H σ Z _ fun vs ds ρ1 B1 H1 ⟨m, h1, hm, l, f⟩ S1 s1 r1 => ?_
    obtain ⟨o1, e1, a1, q1, q2, q3, q4⟩ := S1.slot h1
    rw [e0] at e1
    cases e1
    cases q1
    refine ⟨a, vs, B1, ds, _, m, by rw [List.append_nil], S1.le, q3, q4, hm, r1, l, f, fun v d B2 H2 g q hb hp r => ?_⟩
    exact k v d _ B2 H2 g (S1.called h1 rfl rfl e0 q hb ⟨a, rfl, q2, hb, hp⟩) (s1.trans (Ev.called h1 rfl e0 q)) r
end
end Lw

set_option Elab.async false
set_option linter.all false
set_option maxRecDepth 100000
set_option maxHeartbeats 4000000
namespace Lw
open PySem PySem.Spec PyProof.Rows L2
/-! ### data as plain data -/
mutual
def D.py : D → PyData
  | .non => .none
  | .bl b => .bool b
  | .int i => .int i
  | .str s => .str s
  | .tup xs => .tuple (D.pys xs)
  | .lst xs => .list (D.pys xs)
  | .frl xs => .list (D.pys xs)
  | .dct _ => .none
  | .obj _ _ => .none
  | .ty _ => .none
  | .cls _ => .none
def D.pys : List D → List PyData
  | [] => []
  | x :: xs => D.py x :: D.pys xs
end
mutual
def D.pl : D → Bool
  | .non => true
  | .bl _ => true
  | .int _ => true
  | .str _ => true
  | .tup xs => D.pls xs
  | .lst xs => D.pls xs
  | .frl xs => D.pls xs
  | .dct _ => false
  | .obj _ _ => false
  | .ty _ => false
  | .cls _ => false
def D.pls : List D → Bool
  | [] => true
  | x :: xs => D.pl x && D.pls xs
end
mutual
theorem R.dp {K : Fg} {H : Hp} : ∀ {v : V} {d : D}, R K H v d → d.pl = true → Dp K H v d.py
  | _, _, .non, _ => .non
  | _, _, .bl b, _ => .bl b
  | _, _, .int i, _ => .int i
  | _, _, .str s, _ => .str s
  | _, _, .ty s, h => by simp [D.pl] at h
  | _, _, .cls s, h => by simp [D.pl] at h
  | _, _, .tup (ds := ds) h q, e => Dp.tup h (RA.dp q (by simpa [D.pl] using e))
  | _, _, .lst (ds := ds) h q, e => Dp.lst (SqL.of h) (RA.dp q (by simpa [D.pl] using e))
  | _, _, .frl (ds := ds) h q, e => Dp.lst h (RA.dp q (by simpa [D.pl] using e))
  | _, _, .dct h q, e => by simp [D.pl] at e
  | _, _, .obj h q, e => by simp [D.pl] at e
theorem RA.dp {K : Fg} {H : Hp} : ∀ {v : List V} {d : List D}, RA K H v d → D.pls d = true → DpAll K H v (D.pys d)
  | _, _, .nil, _ => .nil
  | _, _, .cons h q, e => by
    simp only [D.pls, Bool.and_eq_true] at e
    exact .cons (R.dp h e.1) (RA.dp q e.2)
end
theorem pys_map (xs : List D) : D.pys xs = xs.map D.py := by
  induction xs with
  | nil => rfl
  | cons x xs ih => simp [D.pys, ih]
theorem pls_all (xs : List D) : D.pls xs = xs.all D.pl := by
  induction xs with
  | nil => rfl
  | cons x xs ih => simp [D.pls, ih]
/-- plain, and fit to be compared -/
def D.ok (x : D) : Bool := x.pl && SeqAt.shaped x.py
def D.eqb (x y : D) : Bool := PyData.eqv x.py y.py
section
variable {K : Fg} {ρ : List SD}
/-! ### == -/
def rEqA (K : Fg) : R2 := fun x y H Q => rEq x y H Q ∨ rEqD K x y H Q
def rNeA (K : Fg) : R2 := fun x y H Q => rNe x y H Q ∨ rNeD K x y H Q
theorem op_eqA {X : Cx} (hu : X.A.units + 64 < cLine) : OpR X (compareOp .Eq) (rEqA X.K) := op_eq.or (op_eqD hu)
theorem op_neA {X : Cx} (hu : X.A.units + 64 < cLine) : OpR X (compareOp .NotEq) (rNeA X.K) := op_ne.or (op_neD hu)
/-- the answer of x == y, for what the rules compare -/
def dEqB (x y : D) (F : Bool → Prop) : Prop := match x, y with
  | .int i, .int j => F (decide (i = j))
  | .str i, .str j => F (decide (i = j))
  | .bl i, .bl j => F (decide (i = j))
  | .non, .non => F true
  | .non, .int _ => F false
  | .non, .str _ => F false
  | .int _, .non => F false
  | .str _, .non => F false
  | .int _, .str _ => F false
  | .str _, .int _ => F false
  | x, y => x.ok = true ∧ y.ok = true ∧ F (D.eqb x y)
theorem opd_eqB {r : R2} {g : Bool → Bool} {x y : D} {F : D → Prop} (h1 : ∀ {v u : V} {H : Hp} {Q : VK}, scal v u = true → Q (.bl (g (decide (v = u)))) H → r v u H Q)
    (h2 : ∀ {v u : V} {H : Hp} {Q : VK} {d e : PyData}, Dp K H v d → Dp K H u e → SeqAt.shaped d = true → SeqAt.shaped e = true → Q (.bl (g (PyData.eqv d e))) H → r v u H Q)
    (h : dEqB x y fun b => F (.bl (g b))) : OpD K r x y F := by
  have fl : ∀ {b : Bool} {p q : V}, F (.bl (g b)) → (∀ B, R K B p x → True) → scal p q = true → (∀ {B v}, R K B v x → v = p) → (∀ {B v}, R K B v y → v = q) → decide (p = q) = b → OpD K r x y F := by
    intro b p q f _ hs e1 e2 eb
    refine OpD.flat f fun B H v u s r1 r2 => ?_
    rw [e1 r1, e2 r2]
    exact ⟨.bl (g b), fun _ => .bl _, fun Q z => h1 hs (by rw [eb]; exact z)⟩
  have dp : x.ok = true → y.ok = true → F (.bl (g (D.eqb x y))) → OpD K r x y F := by
    intro a b f
    unfold D.ok at a b
    rw [Bool.and_eq_true] at a b
    exact OpD.flat f fun B H v u s r1 r2 => ⟨.bl _, fun _ => .bl _, fun Q z => h2 ((r1.mono s).dp a.1) ((r2.mono s).dp b.1) a.2 b.2 z⟩
  unfold dEqB at h
  split at h
  · exact fl h (fun _ _ => trivial) rfl rint rint (by simp)
  · exact fl h (fun _ _ => trivial) rfl rstr rstr (by simp)
  · exact fl h (fun _ _ => trivial) rfl rbl rbl (by simp)
  · exact fl h (fun _ _ => trivial) rfl rnon rnon (by simp)
  · exact fl h (fun _ _ => trivial) rfl rnon rint (by simp)
  · exact fl h (fun _ _ => trivial) rfl rnon rstr (by simp)
  · exact fl h (fun _ _ => trivial) rfl rint rnon (by simp)
  · exact fl h (fun _ _ => trivial) rfl rstr rnon (by simp)
  · exact fl h (fun _ _ => trivial) rfl rint rstr (by simp)
  · exact fl h (fun _ _ => trivial) rfl rstr rint (by simp)
  · exact dp h.1 h.2.1 h.2.2
theorem opd_eq {x y : D} {F : D → Prop} (h : dEqB x y fun b => F (.bl b)) : OpD K (rEqA K) x y F :=
  opd_eqB (g := id) (fun a b => .inl ⟨a, b⟩) (fun a b c d e => .inr ⟨_, _, a, b, c, d, e⟩) h
theorem opd_ne {x y : D} {F : D → Prop} (h : dEqB x y fun b => F (.bl (!b))) : OpD K (rNeA K) x y F :=
  opd_eqB (g := not) (fun a b => .inl ⟨a, b⟩) (fun a b c d e => .inr ⟨_, _, a, b, c, d, e⟩) h
theorem we_eq {ta tb : TE} {F : D → List SD → Prop} (h : WE K ta ρ fun x ρ1 => WE K tb ρ1 fun y ρ2 => dEqB x y fun b => F (.bl b) ρ2) : WE K (tOp (rEqA K) ta tb) ρ F :=
  we_op (h.mono fun _ _ q => q.mono fun _ _ q => opd_eq q)
theorem we_ne {ta tb : TE} {F : D → List SD → Prop} (h : WE K ta ρ fun x ρ1 => WE K tb ρ1 fun y ρ2 => dEqB x y fun b => F (.bl (!b)) ρ2) : WE K (tOp (rNeA K) ta tb) ρ F :=
  we_op (h.mono fun _ _ q => q.mono fun _ _ q => opd_ne q)
/-! ### in -/
def D.flat : D → Bool
  | .non => true
  | .bl _ => true
  | .int _ => true
  | .str _ => true
  | _ => false
/-- the items of a list, a tuple -/
def D.items : D → Option (List D)
  | .tup xs => some xs
  | .lst xs => some xs
  | .frl xs => some xs
  | _ => none
def D.fv : D → V
  | .bl b => .bl b
  | .int i => .int i
  | .str s => .str s
  | _ => .non
theorem rflat {B : Hp} {v : V} {x : D} (h : R K B v x) (f : x.flat = true) : v = x.fv := by
  cases h <;> first | rfl | cases f
theorem flatV_fv {x : D} (f : x.flat = true) : flatV x.fv = true := by
  cases x <;> first | rfl | cases f
theorem RA.flat {B : Hp} : ∀ {vs : List V} {xs : List D}, RA K B vs xs → xs.all D.flat = true → vs = xs.map D.fv
  | _, _, .nil, _ => rfl
  | _, _, .cons h q, f => by
    simp only [List.all_cons, Bool.and_eq_true] at f
    rw [List.map_cons, ← rflat h f.1, ← RA.flat q f.2]
theorem R.seq {B : Hp} {v : V} {y : D} {ys : List D} (h : R K B v y) (e : y.items = some ys) : ∃ p vs, v = .ref p ∧ (SqL K B p vs ∨ SqT K B p vs) ∧ RA K B vs ys := by
  cases h with
  | tup h q => cases e; exact ⟨_, _, rfl, .inr h, q⟩
  | lst h q => cases e; exact ⟨_, _, rfl, .inl (SqL.of h), q⟩
  | frl h q => cases e; exact ⟨_, _, rfl, .inl h, q⟩
  | _ => cases e
def inF (x : D) (ys : List D) : Bool := inV x.fv (ys.map D.fv)
def rInA (K : Fg) (w : World) : R2 := fun x y H Q => rIn K false x y H Q ∨ (rInD K x y H Q ∨ ((fun x y H Q => ∃ (c : Nat) (z : Str), x = V.str ⟨#[c]⟩ ∧ y = .str z ∧ Q (.bl (decide (c ∈ z.cps.toList))) H) x y H Q))
def rNotInA (K : Fg) (w : World) : R2 := fun x y H Q => rIn K true x y H Q ∨ (rNotInD K x y H Q ∨ ((fun x y H Q => ∃ (c : Nat) (z : Str), x = V.str ⟨#[c]⟩ ∧ y = .str z ∧ Q (.bl (!decide (c ∈ z.cps.toList))) H) x y H Q))
theorem op_inA {X : Cx} (hu : X.A.units + 65 < cLine) : OpR X (compareOp .In) (rInA X.K X.w) := op_in_seq.or ((op_inD hu).or op_in_sign)
theorem op_notInA {X : Cx} (hu : X.A.units + 65 < cLine) : OpR X (compareOp .NotIn) (rNotInA X.K X.w) := op_notIn_seq.or ((op_notInD hu).or op_notIn_sign)
/-- x in y: flat things; plain data in a list; a sign in a text -/
def dInB (x y : D) (F : Bool → Prop) : Prop :=
  (∃ ys, y.items = some ys ∧ x.flat = true ∧ ys.all D.flat = true ∧ F (inF x ys)) ∨
  (∃ ys, y = .lst ys ∧ x.ok = true ∧ y.ok = true ∧ F (ys.any fun z => D.eqb z x)) ∨
  (∃ c z, x = .str ⟨#[c]⟩ ∧ y = .str z ∧ F (decide (c ∈ z.cps.toList)))
theorem opd_in {w : World} {x y : D} {F : D → Prop} (h : dInB x y fun b => F (.bl b)) : OpD K (rInA K w) x y F := by
  rcases h with ⟨ys, e, f1, f2, q⟩ | ⟨ys, rfl, o1, o2, q⟩ | ⟨c, z, rfl, rfl, q⟩
  · refine OpD.inl (OpD.flat q fun B H v u s r1 r2 => ?_)
    obtain ⟨p, vs, rfl, hs, ra⟩ := (r2.mono s).seq e
    rw [rflat r1 f1]
    rw [ra.flat f2] at hs
    refine ⟨.bl _, fun _ => .bl _, fun Q z => ⟨p, _, rfl, hs, flatV_fv f1, ?_, z⟩⟩
    rw [List.all_eq_true] at f2 ⊢
    intro v hv
    obtain ⟨d, hd, rfl⟩ := List.mem_map.mp hv
    exact flatV_fv (f2 d hd)
  · refine OpD.inr (OpD.inl (OpD.flat q fun B H v u s r1 r2 => ?_))
    unfold D.ok at o1 o2
    rw [Bool.and_eq_true] at o1 o2
    refine ⟨.bl _, fun _ => .bl _, fun Q z => ⟨x.py, D.pys ys, (r1.mono s).dp o1.1, (r2.mono s).dp o2.1, o1.2, o2.2, ?_⟩⟩
    rw [pys_map, List.any_map]
    exact z
  · refine OpD.inr (OpD.inr (OpD.flat q fun B H v u s r1 r2 => ?_))
    rw [rstr r1, rstr r2]
    exact ⟨.bl _, fun _ => .bl _, fun Q k => ⟨c, z, rfl, rfl, k⟩⟩
theorem opd_notIn {w : World} {x y : D} {F : D → Prop} (h : dInB x y fun b => F (.bl (!b))) : OpD K (rNotInA K w) x y F := by
  rcases h with ⟨ys, e, f1, f2, q⟩ | ⟨ys, rfl, o1, o2, q⟩ | ⟨c, z, rfl, rfl, q⟩
  · refine OpD.inl (OpD.flat q fun B H v u s r1 r2 => ?_)
    obtain ⟨p, vs, rfl, hs, ra⟩ := (r2.mono s).seq e
    rw [rflat r1 f1]
    rw [ra.flat f2] at hs
    refine ⟨.bl _, fun _ => .bl _, fun Q z => ⟨p, _, rfl, hs, flatV_fv f1, ?_, z⟩⟩
    rw [List.all_eq_true] at f2 ⊢
    intro v hv
    obtain ⟨d, hd, rfl⟩ := List.mem_map.mp hv
    exact flatV_fv (f2 d hd)
  · refine OpD.inr (OpD.inl (OpD.flat q fun B H v u s r1 r2 => ?_))
    unfold D.ok at o1 o2
    rw [Bool.and_eq_true] at o1 o2
    refine ⟨.bl _, fun _ => .bl _, fun Q z => ⟨x.py, D.pys ys, (r1.mono s).dp o1.1, (r2.mono s).dp o2.1, o1.2, o2.2, ?_⟩⟩
    rw [pys_map, List.any_map]
    exact z
  · refine OpD.inr (OpD.inr (OpD.flat q fun B H v u s r1 r2 => ?_))
    rw [rstr r1, rstr r2]
    exact ⟨.bl _, fun _ => .bl _, fun Q k => ⟨c, z, rfl, rfl, k⟩⟩
theorem we_in {w : World} {ta tb : TE} {F : D → List SD → Prop} (h : WE K ta ρ fun x ρ1 => WE K tb ρ1 fun y ρ2 => dInB x y fun b => F (.bl b) ρ2) : WE K (tOp (rInA K w) ta tb) ρ F :=
  we_op (h.mono fun _ _ q => q.mono fun _ _ q => opd_in q)
theorem we_notIn {w : World} {ta tb : TE} {F : D → List SD → Prop} (h : WE K ta ρ fun x ρ1 => WE K tb ρ1 fun y ρ2 => dInB x y fun b => F (.bl (!b)) ρ2) : WE K (tOp (rNotInA K w) ta tb) ρ F :=
  we_op (h.mono fun _ _ q => q.mono fun _ _ q => opd_notIn q)
/-! ### subscripts -/
theorem ix_dict {X : Cx} (hu : X.A.units + 1 < cLine) : IxR X (fun x y H Q => ∃ a v, x = .ref a ∧ DGet H a y (some v) ∧ Q v H) := by
  intro value slice pins s σ H x y v u Q I rx ry h hs
  obtain ⟨a, z, rfl, g, q⟩ := h
  obtain rfl : v = Value.ref a := rx
  exact tail_any (dict_typeIs I g) PySem.F.slot_dict_getitem.lookup (d_getItem hu I g ry fun w2 s3 I3 rw' => ⟨z, H, I3, rw', q⟩) hs
def rIxA (K : Fg) : R2 := fun x y H Q => rIx K x y H Q ∨ (∃ a v, x = .ref a ∧ DGet H a y (some v) ∧ Q v H)
theorem ix_any {X : Cx} (hu : X.A.units + 1 < cLine) : IxR X (rIxA X.K) := ix_seq.or (ix_dict hu)
/-- what a dict's entries hold at a key -/
def lookD (ds : List (Key × D)) (k : Key) : Option D := (ds.find? fun kv => decide (kv.1 = k)).map (·.2)
theorem RK.get {B : Hp} {k : Key} : ∀ {vs : List (Key × V)} {ds : List (Key × D)} {d : D}, RK K B vs ds → lookD ds k = some d → ∃ v, valV vs k = some v ∧ R K B v d
  | _, _, d, .nil, e => by simp [lookD] at e
  | _, _, d, .cons (k := k') (v := v) (d := d') (vs := vs) (ds := ds) h q, e => by
    by_cases z : k' = k
    · subst z
      have e' : d' = d := by simpa [lookD] using e
      subst e'
      exact ⟨v, by simp [valV], h⟩
    · have e' : lookD ds k = some d := by simpa [lookD, z] using e
      obtain ⟨v', h1, h2⟩ := RK.get q e'
      exact ⟨v', by simpa [valV, z] using h1, h2⟩
def keyD : D → Option Key
  | .int i => some (.inl i)
  | .str s => some (.inr s)
  | _ => none
theorem rkey {B : Hp} {v : V} {x : D} {k : Key} (h : R K B v x) (e : keyD x = some k) : v = kV k := by
  cases h <;> first | (cases e; rfl) | cases e
/-- x[y] -/
def dIx (x y : D) (F : D → Prop) : Prop := match x with
  | .str z => ∃ i c, y = .int i ∧ z.length ≤ sizeLine ∧ atI z.cps.toList i = some c ∧ F (.str ⟨#[c]⟩)
  | .dct ds => ∃ k d, keyD y = some k ∧ lookD ds k = some d ∧ F d
  | x => ∃ xs i d, x.items = some xs ∧ y = .int i ∧ atI xs i = some d ∧ F d
theorem RA.at_ {B : Hp} {vs : List V} {xs : List D} {i : Int} {d : D} (h : RA K B vs xs) (e : atI xs i = some d) : ∃ v, atI vs i = some v ∧ R K B v d := by
  unfold atI at e ⊢
  rw [h.length]
  cases q : ixN xs.length i with
  | none => rw [q] at e; cases e
  | some j =>
    rw [q] at e
    exact h.get e
theorem opd_ix {x y : D} {F : D → Prop} (h : dIx x y F) : OpD K (rIxA K) x y F := by
  unfold dIx at h
  split at h
  · rename_i z
    obtain ⟨i, c, rfl, hl, ha, q⟩ := h
    refine OpD.inl (OpD.flat q fun B H v u s r1 r2 => ?_)
    rw [rstr r1, rint r2]
    exact ⟨_, fun _ => .str _, fun Q k => .inr (.inr ⟨z, i, c, rfl, rfl, hl, ha, k⟩)⟩
  · rename_i ds
    obtain ⟨k, d, hk, hl, q⟩ := h
    refine OpD.inr fun B H v u s r1 r2 Q w => ?_
    cases r1 with
    | dct h1 rk =>
      obtain ⟨v', e1, r3⟩ := rk.get hl
      refine ⟨_, v', rfl, ?_, w v' d B H q (Gr.refl s) r3⟩
      rw [rkey r2 hk, ← e1]
      exact DGet.k (s _ _ h1)
  · obtain ⟨xs, i, d, hx, rfl, ha, q⟩ := h
    refine OpD.inl fun B H v u s r1 r2 Q w => ?_
    obtain ⟨p, vs, rfl, hs, ra⟩ := r1.seq hx
    obtain ⟨v', e1, r3⟩ := ra.at_ ha
    rw [rint r2]
    rcases hs with hs | hs
    · exact .inl ⟨p, vs, i, v', rfl, rfl, same_l s hs, e1, w v' d B H q (Gr.refl s) r3⟩
    · exact .inr (.inl ⟨p, vs, i, v', rfl, rfl, same_t s hs, e1, w v' d B H q (Gr.refl s) r3⟩)
theorem we_ix {ta tb : TE} {F : D → List SD → Prop} (h : WE K ta ρ fun x ρ1 => WE K tb ρ1 fun y ρ2 => dIx x y fun d => F d ρ2) : WE K (tOp (rIxA K) ta tb) ρ F :=
  we_op (h.mono fun _ _ q => q.mono fun _ _ q => opd_ix q)
/-! ### slices -/
theorem wo_none {F : Option Int → List SD → Prop} (q : F none ρ) : WO K tNoPart ρ F := fun P B0 H0 B H σ S Q k => k none ρ B H q S (Ev.refl S.le)
theorem wo_some {te : TE} {F : Option Int → List SD → Prop} (h : WE K te ρ fun x ρ1 => ∃ i, x = .int i ∧ F (some i) ρ1) : WO K (tPart te) ρ F :=
  fun P B0 H0 B H σ S Q k => h P B0 H0 B H σ S _ fun v d ρ' B' H' ⟨i, e, f⟩ S' s r => by
    subst e
    exact ⟨i, rint r, k _ ρ' B' H' f S' s⟩
def rSlAny (K : Fg) : V → Option Int → Option Int → Hp → VK → Prop := fun x lo hi H Q => rSlL K x lo hi H Q ∨ (rSlA K x lo hi H Q ∨ rSlS x lo hi H Q)
theorem sl_any {X : Cx} : SlR X (rSlAny X.K) := sl_list.or (sl_tupA.or sl_str)
def cutD (xs : List D) (lo hi : Option Int) : List D := (xs.drop (HT.sIx xs.length 0 lo)).take (HT.sIx xs.length xs.length hi - HT.sIx xs.length 0 lo)
theorem RA.cut {B : Hp} {vs : List V} {xs : List D} {lo hi : Option Int} (h : RA K B vs xs) : RA K B (cutV vs lo hi) (cutD xs lo hi) := by
  unfold cutV cutD
  rw [h.length]
  exact RA.take _ (RA.drop _ h)
def dSl (x : D) (lo hi : Option Int) (F : D → Prop) : Prop := match x with
  | .str z => z.length ≤ sizeLine ∧ F (.str (cutS z lo hi))
  | .lst xs => F (.lst (cutD xs lo hi))
  | .frl xs => F (.lst (cutD xs lo hi))
  | .tup xs => F (.tup (cutD xs lo hi))
  | _ => False
theorem cutD_whole {xs : List D} {lo hi : Option Int} (h : HT.sIx xs.length 0 lo = 0 ∧ HT.sIx xs.length xs.length hi = xs.length) : cutD xs lo hi = xs := by
  unfold cutD
  rw [h.1, h.2]
  simp
theorem we_slice {te : TE} {tl th : TO} {F : D → List SD → Prop} (h : WE K te ρ fun x ρ1 => WO K tl ρ1 fun lo ρ2 => WO K th ρ2 fun hi ρ3 => dSl x lo hi fun d => F d ρ3) : WE K (tSl (rSlAny K) te tl th) ρ F :=
  fun P B0 H0 B H σ S Q k => h P B0 H0 B H σ S _ fun v x ρ1 B1 H1 h1 S1 s1 r1 => h1 P B0 H0 B1 H1 σ S1 _ fun lo ρ2 B2 H2 h2 S2 s2 => h2 P B0 H0 B2 H2 σ S2 _ fun hi ρ3 B3 H3 h3 S3 s3 => by
    have r3 := (r1.mono s2.bb).mono s3.bb
    have ss := (s1.trans s2).trans s3
    unfold dSl at h3
    split at h3
    · rw [rstr r3]
      exact .inr (.inr ⟨_, rfl, h3.1, k _ _ ρ3 B3 H3 h3.2 S3 ss (.str _)⟩)
    · cases r3 with
      | lst h4 a4 =>
        refine .inl ⟨_, _, rfl, SqL.of (S3.le _ _ h4), fun p hp => ?_⟩
        have hb := S3.bfree hp
        exact k _ _ ρ3 (upd B3 p _) _ h3 (S3.new _ hp) (ss.trans (Ev.new S3.le hp)) (.lst upd_same (a4.cut.mono (same_new hb)))
    · cases r3 with
      | frl h4 a4 =>
        refine .inl ⟨_, _, rfl, same_l S3.le h4, fun p hp => ?_⟩
        have hb := S3.bfree hp
        exact k _ _ ρ3 (upd B3 p _) _ h3 (S3.new _ hp) (ss.trans (Ev.new S3.le hp)) (.lst upd_same (a4.cut.mono (same_new hb)))
    · cases r3 with
      | tup h4 a4 =>
        refine .inr (.inl ⟨_, _, rfl, same_t S3.le h4, fun e => ?_, fun e p hp => ?_⟩)
        · rw [a4.length] at e
          rw [cutD_whole e] at h3
          exact k _ _ ρ3 B3 H3 h3 S3 ss (.tup h4 a4)
        · have hb := S3.bfree hp
          exact k _ _ ρ3 (upd B3 p _) _ h3 (S3.new _ hp) (ss.trans (Ev.new S3.le hp)) (.tup (SqT.of upd_same) (a4.cut.mono (same_new hb)))
    · exact h3.elim
/-! ### calls of built-ins -/
def CallD (K : Fg) (r : List V → Hp → VK → Prop) (xs : List D) (F : D → Prop) : Prop :=
  ∀ B H vs, Same B H → RA K B vs xs → ∀ Q : VK, (∀ w d B' H', F d → Gr Non B H B' H' → R K B' w d → Q w H') → r vs H Q
theorem we_cb {r : List V → Hp → VK → Prop} {t : TA} {F : D → List SD → Prop} (h : WA K t ρ fun xs ρ1 => CallD K r xs fun d => F d ρ1) : WE K (tCB r t) ρ F :=
  fun P B0 H0 B H σ S Q k => h P B0 H0 B H σ S _ fun vs xs ρ1 B1 H1 h1 S1 s1 r1 => h1 B1 H1 vs S1.le r1 Q fun w d B3 H3 f g r3 => k w d ρ1 B3 H3 f (S1.step g) (s1.trans (Ev.pure g)) r3
theorem ra1 {B : Hp} {vs : List V} {x : D} (h : RA K B vs [x]) : ∃ v, vs = [v] ∧ R K B v x := by
  cases h with
  | cons h q => cases q; exact ⟨_, rfl, h⟩
theorem ra2 {B : Hp} {vs : List V} {x y : D} (h : RA K B vs [x, y]) : ∃ v u, vs = [v, u] ∧ R K B v x ∧ R K B u y := by
  cases h with
  | cons h q =>
    obtain ⟨u, rfl, r⟩ := ra1 q
    exact ⟨_, _, rfl, h, r⟩
theorem CallD.inl {r r' : List V → Hp → VK → Prop} {xs : List D} {F : D → Prop} (h : CallD K r xs F) : CallD K (fun xs H Q => r xs H Q ∨ r' xs H Q) xs F :=
  fun B H vs s r1 Q k => .inl (h B H vs s r1 Q k)
theorem CallD.inr {r r' : List V → Hp → VK → Prop} {xs : List D} {F : D → Prop} (h : CallD K r' xs F) : CallD K (fun xs H Q => r xs H Q ∨ r' xs H Q) xs F :=
  fun B H vs s r1 Q k => .inr (h B H vs s r1 Q k)
/-- len -/
def rLenA (K : Fg) : List V → Hp → VK → Prop := fun xs H Q => (fun xs H Q => ∃ x n, xs = [x] ∧ LenV K x H n ∧ Q (.int n) H) xs H Q ∨ (fun xs H Q => ∃ a kvs, xs = [V.ref a] ∧ H a = some (.dK kvs) ∧ Q (.int kvs.length) H) xs H Q
theorem call_lenA {X : Cx} : CallR X (.builtin "len") (rLenA X.K) := call_len.or call_lenD
theorem RK.length {B : Hp} : ∀ {vs : List (Key × V)} {ds : List (Key × D)}, RK K B vs ds → vs.length = ds.length
  | _, _, .nil => rfl
  | _, _, .cons _ q => by simp [RK.length q]
def dLen (x : D) (F : D → Prop) : Prop := match x with
  | .str z => z.length ≤ sizeLine ∧ F (.int z.length)
  | .lst xs => F (.int xs.length)
  | .frl xs => F (.int xs.length)
  | .tup xs => F (.int xs.length)
  | .dct ds => F (.int ds.length)
  | _ => False
theorem cd_len {x : D} {F : D → Prop} (h : dLen x F) : CallD K (rLenA K) [x] F := by
  intro B H vs s r Q k
  obtain ⟨v, rfl, r1⟩ := ra1 r
  unfold dLen at h
  split at h
  · rw [rstr r1]
    exact .inl ⟨_, _, rfl, ⟨h.1, rfl⟩, k _ _ B H h.2 (Gr.refl s) (.int _)⟩
  · cases r1 with
    | lst h1 a1 => exact .inl ⟨_, _, rfl, .inl ⟨_, SqL.of (s _ _ h1), rfl⟩, by rw [a1.length]; exact k _ _ B H h (Gr.refl s) (.int _)⟩
  · cases r1 with
    | frl h1 a1 => exact .inl ⟨_, _, rfl, .inl ⟨_, same_l s h1, rfl⟩, by rw [a1.length]; exact k _ _ B H h (Gr.refl s) (.int _)⟩
  · cases r1 with
    | tup h1 a1 => exact .inl ⟨_, _, rfl, .inr ⟨_, same_t s h1, rfl⟩, by rw [a1.length]; exact k _ _ B H h (Gr.refl s) (.int _)⟩
  · cases r1 with
    | dct h1 a1 => exact .inr ⟨_, _, rfl, s _ _ h1, by rw [a1.length]; exact k _ _ B H h (Gr.refl s) (.int _)⟩
  · exact h.elim
theorem we_len {te : TE} {F : D → List SD → Prop} (h : WE K te ρ fun x ρ1 => dLen x fun d => F d ρ1) : WE K (tCB (rLenA K) (tCons te tNil)) ρ F :=
  we_cb (wa_cons (h.mono fun _ _ q => wa_nil (cd_len q)))
/-- a call of one argument, two, the answer flat -/
theorem we_cb1 {r : List V → Hp → VK → Prop} {te : TE} {F : D → List SD → Prop} (h : WE K te ρ fun x ρ1 => CallD K r [x] fun d => F d ρ1) : WE K (tCB r (tCons te tNil)) ρ F :=
  we_cb (wa_cons (h.mono fun _ _ q => wa_nil q))
theorem we_cb2 {r : List V → Hp → VK → Prop} {te tf : TE} {F : D → List SD → Prop} (h : WE K te ρ fun x ρ1 => WE K tf ρ1 fun y ρ2 => CallD K r [x, y] fun d => F d ρ2) : WE K (tCB r (tCons te (tCons tf tNil))) ρ F :=
  we_cb (wa_cons (h.mono fun _ _ q => wa_cons (q.mono fun _ _ q => wa_nil q)))
def dInt (x : D) (F : D → Prop) : Prop := match x with
  | .int i => F (.int i)
  | .bl b => F (.int (if b then 1 else 0))
  | .str z => ∃ n, PySem.intText? z = some n ∧ z.length ≤ 640 ∧ F (.int n)
  | _ => False
def rIntA : List V → Hp → VK → Prop := fun xs H Q => (fun xs H Q => (∃ i, xs = [V.int i] ∧ Q (.int i) H) ∨ ∃ k, xs = [.bl k] ∧ Q (.int (if k then 1 else 0)) H) xs H Q ∨ (fun xs H Q => ∃ a n, xs = [V.str a] ∧ PySem.intText? a = some n ∧ a.length ≤ 640 ∧ Q (.int n) H) xs H Q
theorem call_intA {X : Cx} : CallR X (.type "int") rIntA := call_int1.or call_int_str
theorem cd_int {x : D} {F : D → Prop} (h : dInt x F) : CallD K rIntA [x] F := by
  intro B H vs s r Q k
  obtain ⟨v, rfl, r1⟩ := ra1 r
  unfold dInt at h
  split at h
  · rw [rint r1]
    exact .inl (.inl ⟨_, rfl, k _ _ B H h (Gr.refl s) (.int _)⟩)
  · rw [rbl r1]
    exact .inl (.inr ⟨_, rfl, k _ _ B H h (Gr.refl s) (.int _)⟩)
  · obtain ⟨n, h1, h2, h3⟩ := h
    rw [rstr r1]
    exact .inr ⟨_, n, rfl, h1, h2, k _ _ B H h3 (Gr.refl s) (.int _)⟩
  · exact h.elim
theorem we_intc {te : TE} {F : D → List SD → Prop} (h : WE K te ρ fun x ρ1 => dInt x fun d => F d ρ1) : WE K (tCB rIntA (tCons te tNil)) ρ F := we_cb1 (h.mono fun _ _ q => cd_int q)
def dAbs (x : D) (F : D → Prop) : Prop := match x with
  | .int i => F (.int (if i < 0 then -i else i))
  | _ => False
theorem we_abs {te : TE} {F : D → List SD → Prop} (h : WE K te ρ fun x ρ1 => dAbs x fun d => F d ρ1) : WE K (tCB (fun xs H Q => ∃ i, xs = [V.int i] ∧ Q (.int (if i < 0 then -i else i)) H) (tCons te tNil)) ρ F :=
  we_cb1 (h.mono fun x _ q => fun B H vs s r Q k => by
    obtain ⟨v, rfl, r1⟩ := ra1 r
    unfold dAbs at q
    split at q
    · rw [rint r1]
      exact ⟨_, rfl, k _ _ B H q (Gr.refl s) (.int _)⟩
    · exact q.elim)
def dStr (x : D) (F : D → Prop) : Prop := match x with
  | .int i => i.natAbs.log2 < 1920 ∧ F (.str (toString i))
  | _ => False
theorem we_strc {te : TE} {F : D → List SD → Prop} (h : WE K te ρ fun x ρ1 => dStr x fun d => F d ρ1) : WE K (tCB (fun xs H Q => ∃ i, xs = [V.int i] ∧ i.natAbs.log2 < 1920 ∧ Q (.str (toString i)) H) (tCons te tNil)) ρ F :=
  we_cb1 (h.mono fun x _ q => fun B H vs s r Q k => by
    obtain ⟨v, rfl, r1⟩ := ra1 r
    unfold dStr at q
    split at q
    · rw [rint r1]
      exact ⟨_, rfl, q.1, k _ _ B H q.2 (Gr.refl s) (.str _)⟩
    · exact q.elim)
def d2I (g : Int → Int → Int) (x y : D) (F : D → Prop) : Prop := match x, y with
  | .int i, .int j => F (.int (g i j))
  | _, _ => False
theorem we_2I {g : Int → Int → Int} {te tf : TE} {F : D → List SD → Prop} (h : WE K te ρ fun x ρ1 => WE K tf ρ1 fun y ρ2 => d2I g x y fun d => F d ρ2) : WE K (tCB (fun xs H Q => ∃ i j, xs = [V.int i, .int j] ∧ Q (.int (g i j)) H) (tCons te (tCons tf tNil))) ρ F :=
  we_cb2 (h.mono fun x _ q => q.mono fun y _ q => fun B H vs s r Q k => by
    obtain ⟨v, u, rfl, r1, r2⟩ := ra2 r
    unfold d2I at q
    split at q
    · rw [rint r1, rint r2]
      exact ⟨_, _, rfl, k _ _ B H q (Gr.refl s) (.int _)⟩
    · exact q.elim)
/-- all, any -/
def dBools (g : List Bool → Bool) (x : D) (F : D → Prop) : Prop := ∃ bs : List Bool, x = .lst (bs.map D.bl) ∧ F (.bl (g bs))
theorem we_all {te : TE} {F : D → List SD → Prop} (h : WE K te ρ fun x ρ1 => dBools (fun bs => bs.all id) x fun d => F d ρ1) : WE K (tCB (rAll K) (tCons te tNil)) ρ F :=
  we_cb1 (h.mono fun x _ q => fun B H vs s r Q k => by
    obtain ⟨v, rfl, r1⟩ := ra1 r
    obtain ⟨bs, rfl, f⟩ := q
    cases r1 with
    | lst h1 a1 => exact ⟨_, bs, rfl, by rw [← a1.bls]; exact SqL.of (s _ _ h1), k _ _ B H f (Gr.refl s) (.bl _)⟩)
theorem we_any {te : TE} {F : D → List SD → Prop} (h : WE K te ρ fun x ρ1 => dBools (fun bs => bs.any id) x fun d => F d ρ1) : WE K (tCB (rAny K) (tCons te tNil)) ρ F :=
  we_cb1 (h.mono fun x _ q => fun B H vs s r Q k => by
    obtain ⟨v, rfl, r1⟩ := ra1 r
    obtain ⟨bs, rfl, f⟩ := q
    cases r1 with
    | lst h1 a1 => exact ⟨_, bs, rfl, by rw [← a1.bls]; exact SqL.of (s _ _ h1), k _ _ B H f (Gr.refl s) (.bl _)⟩)
/-- list(x), tuple(x) -/
def dList (x : D) (F : D → Prop) : Prop := ∃ xs, x.items = some xs ∧ F (.lst xs)
theorem we_list {te : TE} {F : D → List SD → Prop} (h : WE K te ρ fun x ρ1 => dList x fun d => F d ρ1) : WE K (tCB (fun xs H Q => ∃ p ys, xs = [V.ref p] ∧ (SqL K H p ys ∨ SqT K H p ys) ∧ ∀ l, H l = none → Q (.ref l) (upd H l (.lst ys))) (tCons te tNil)) ρ F :=
  we_cb1 (h.mono fun x _ q => fun B H vs s r Q k => by
    obtain ⟨v, rfl, r1⟩ := ra1 r
    obtain ⟨xs, e, f⟩ := q
    obtain ⟨p, ys, rfl, hs, ra⟩ := r1.seq e
    refine ⟨p, ys, rfl, hs.imp (same_l s) (same_t s), fun l hl => ?_⟩
    have hb := same_none s hl
    exact k _ _ (upd B l _) _ f ((Gr.refl s).new hl hl) (.lst upd_same (ra.mono (same_new hb))))
def dTuple (x : D) (F : D → Prop) : Prop := ∃ xs, x.items = some xs ∧ F (.tup xs)
theorem we_tuple {te : TE} {F : D → List SD → Prop} (h : WE K te ρ fun x ρ1 => dTuple x fun d => F d ρ1) : WE K (tCB (fun xs H Q => ∃ p ys, xs = [V.ref p] ∧ ((SqL K H p ys ∧ ∀ l, H l = none → Q (.ref l) (upd H l (.tup ys))) ∨ (SqT K H p ys ∧ Q (.ref p) H))) (tCons te tNil)) ρ F :=
  we_cb1 (h.mono fun x _ q => fun B H vs s r Q k => by
    obtain ⟨v, rfl, r1⟩ := ra1 r
    obtain ⟨xs, e, f⟩ := q
    obtain ⟨p, ys, rfl, hs, ra⟩ := r1.seq e
    rcases hs with hs | hs
    · refine ⟨p, ys, rfl, .inl ⟨same_l s hs, fun l hl => ?_⟩⟩
      have hb := same_none s hl
      exact k _ _ (upd B l _) _ f ((Gr.refl s).new hl hl) (.tup (SqT.of upd_same) (ra.mono (same_new hb)))
    · exact ⟨p, ys, rfl, .inr ⟨same_t s hs, k _ _ B H f (Gr.refl s) (.tup hs ra)⟩⟩)
/-- list(range(n)) -/
def WR (K : Fg) (te : L2.St → Hp → (Int → Int → Hp → Prop) → Prop) (ρ : List SD) (F : Int → Int → List SD → Prop) : Prop :=
  ∀ P B0 H0 B H σ, ST K P B0 H0 ρ B H σ → ∀ Q : Int → Int → Hp → Prop, (∀ a b ρ' B' H', F a b ρ' → ST K P B0 H0 ρ' B' H' σ → Ev ρ σ B H ρ' B' H' → Q a b H') → te σ H Q
theorem wr_1 {ta : TE} {F : Int → Int → List SD → Prop} (h : WE K ta ρ fun x ρ1 => ∃ n, x = .int n ∧ F 0 n ρ1) : WR K (tRg1 ta) ρ F :=
  fun P B0 H0 B H σ S Q k => h P B0 H0 B H σ S _ fun v d ρ' B' H' ⟨i, e, f⟩ S' s r => by
    subst e
    exact ⟨i, rint r, k _ _ ρ' B' H' f S' s⟩
def rgD (a b : Int) : List D := (List.range (b - a).toNat).map fun i => D.int (a + (i : Nat))
theorem rg_ra {B : Hp} (a b : Int) : RA K B (rgV a b) (rgD a b) := by
  unfold rgV rgD
  generalize List.range (b - a).toNat = l
  induction l with
  | nil => exact .nil
  | cons x l ih => exact .cons (.int _) ih
theorem we_lstRg {te : L2.St → Hp → (Int → Int → Hp → Prop) → Prop} {F : D → List SD → Prop} (h : WR K te ρ fun a b ρ1 => RgOk a b ∧ F (.lst (rgD a b)) ρ1) : WE K (tLstRg te) ρ F :=
  fun P B0 H0 B H σ S Q k => h P B0 H0 B H σ S _ fun a b ρ1 B1 H1 ⟨h1, h2⟩ S1 s1 => ⟨h1, fun p hp => by
    have hb := S1.bfree hp
    exact k _ _ ρ1 (upd B1 p _) _ h2 (S1.new _ hp) (s1.trans (Ev.new S1.le hp)) (.lst upd_same (rg_ra a b))⟩
/-! ### isinstance -/
def tyD : D → Value
  | .non => .type "NoneType"
  | .bl _ => .type "bool"
  | .int _ => .type "int"
  | .str _ => .type "str"
  | .tup _ => .type "tuple"
  | .lst _ => .type "list"
  | .frl _ => .type "list"
  | .dct _ => .type "dict"
  | .obj C _ => .ref C
  | .ty _ => .type "type"
  | .cls _ => .type "type"
/-- what isinstance asks of a class's instances -/
structure InsOk (K : Fg) (C : Addr) : Prop where
  cl : Cls K C
  ha : PySem.W.findIn K (.ref C) "__class__" = some (some (.builtin "object.__class__"))
  hn : PySem.W.specialIn K (.builtin "object.__class__") "__get__" = some (some (.builtin "getset_descriptor.__get__"))
  ht : PySem.W.takesIn K (.builtin "object.__class__") = some true
  hm : PySem.W.mroIn K C (.type "object") = some true
def clsD : D → Option Value
  | .ty n => some (.type n)
  | .cls C => some (.ref C)
  | _ => none
theorem rcls {B : Hp} {v : V} {c : D} {u : Value} (h : R K B v c) (e : clsD c = some u) : ClsV v u := by
  cases h <;> first | (cases e; done) | (cases e; exact .ty _) | (cases e; exact .own _)
def IsiOk (K : Fg) (x : D) : Prop := match x with
  | .obj C _ => InsOk K C
  | .ty _ => False
  | .cls _ => False
  | _ => True
def dIsi (K : Fg) (x c : D) (F : D → Prop) : Prop := IsiOk K x ∧ ∃ u b, clsD c = some u ∧ PySem.W.kitOne K (tyD x) u = some b ∧ F (.bl b)
theorem rtyx {B H : Hp} {v : V} {x : D} (s : Same B H) (h : R K B v x) (hc : IsiOk K x) : TyX K H v (tyD x) := by
  cases h with
  | non => exact .base .non
  | bl b => exact .base (.bl b)
  | int b => exact .base (.int b)
  | str b => exact .base (.str b)
  | ty => exact hc.elim
  | cls => exact hc.elim
  | tup h q =>
    rcases h with (h | ⟨o, h⟩) | ⟨o, its, n, h1, h2, _⟩
    · exact .base (.tup (s _ _ h))
    · exact .fTuple (s _ _ h)
    · exact .kTuple h1 h2
  | lst h q => exact .base (.lst (s _ _ h))
  | frl h q =>
    rcases h with (h | ⟨o, h⟩) | ⟨o, its, n, h1, h2, _⟩
    · exact .base (.lst (s _ _ h))
    · exact .base (.frz (s _ _ h))
    · exact .kList h1 h2
  | dct h q => exact .base (.dK (s _ _ h))
  | obj h q => exact .base (.ins (s _ _ h) hc.cl hc.ha hc.hn hc.ht hc.hm)
theorem we_isi {te tf : TE} {F : D → List SD → Prop} (h : WE K te ρ fun x ρ1 => WE K tf ρ1 fun y ρ2 => dIsi K x y fun d => F d ρ2) : WE K (tCB (rIsi K) (tCons te (tCons tf tNil))) ρ F :=
  we_cb2 (h.mono fun x _ q => q.mono fun y _ q => fun B H vs s r Q k => by
    obtain ⟨v, u, rfl, r1, r2⟩ := ra2 r
    obtain ⟨hx, t, b, e1, e2, f⟩ := q
    exact ⟨v, u, tyD x, t, b, rfl, rcls r2 e1, rtyx s r1 hx, e2, k _ _ B H f (Gr.refl s) (.bl _)⟩)
/-! ### attributes -/
theorem RF.look {B : Hp} {f : Str} : ∀ {vs : List (Str × V)} {ds : List (Str × D)} {d : D}, RF K B vs ds → ds.lookup f = some d → ∃ v, vs.lookup f = some v ∧ R K B v d
  | _, _, d, .nil, e => by simp at e
  | _, _, d, .cons (k := k') (v := v) (d := d') (vs := vs) (ds := ds) h q, e => by
    rw [List.lookup_cons] at e
    by_cases z : (f == k') = true
    · rw [z] at e
      cases e
      exact ⟨v, by rw [List.lookup_cons, z], h⟩
    · have z' : (f == k') = false := by simpa using z
      rw [z'] at e
      obtain ⟨v', h1, h2⟩ := RF.look q e
      exact ⟨v', by rw [List.lookup_cons, z']; exact h1, h2⟩
theorem RF.miss {B : Hp} {f : Str} : ∀ {vs : List (Str × V)} {ds : List (Str × D)}, RF K B vs ds → ds.lookup f = none → vs.lookup f = none
  | _, _, .nil, e => rfl
  | _, _, .cons (k := k') (v := v) (d := d') (vs := vs) (ds := ds) h q, e => by
    rw [List.lookup_cons] at e ⊢
    by_cases z : (f == k') = true
    · rw [z] at e; cases e
    · have z' : (f == k') = false := by simpa using z
      rw [z'] at e ⊢
      exact RF.miss q e
def dFld (K : Fg) (f : Str) (x : D) (F : D → Prop) : Prop := ∃ C ds d, x = .obj C ds ∧ Cls K C ∧ NoAttr K C f ∧ ds.lookup f = some d ∧ F d
theorem we_fld {te : TE} {f : Str} {F : D → List SD → Prop} (h : WE K te ρ fun x ρ1 => dFld K f x fun d => F d ρ1) : WE K (tFld K te f) ρ F :=
  fun P B0 H0 B H σ S Q k => h P B0 H0 B H σ S _ fun v x ρ1 B1 H1 ⟨C, ds, d, e, c, n, l, q⟩ S1 s1 r1 => by
    subst e
    cases r1 with
    | obj h1 rf =>
      obtain ⟨u, e1, r2⟩ := rf.look l
      exact ⟨_, C, _, _, u, rfl, S1.le _ _ h1, c, n, e1, k u d ρ1 B1 H1 q S1 s1 r2⟩
theorem we_prop {te : TE} {C : Addr} {n : Nat} {S : List D → (D → Prop) → Prop} {F : D → List SD → Prop} (h : WE K te ρ fun x ρ1 => ∃ ds, x = .obj C ds ∧ n = 1 ∧ S [x] fun d => F d ρ1) : WE K (tProp C (pureSp K n S) [] E0 te) ρ F :=
  fun P B0 H0 B H σ Z Q k => h P B0 H0 B H σ Z _ fun v x ρ1 B1 H1 ⟨ds, e, e2, q⟩ S1 s1 r1 => by
    subst e e2
    cases r1 with
    | obj h1 rf =>
      refine ⟨_, _, _, rfl, S1.le _ _ h1, B1, [_], _, S1.le, .cons (.obj h1 rf) .nil, rfl, q, fun w d B2 H2 g gr r => k w d ρ1 B2 H2 g (S1.step gr) (s1.trans (Ev.pure gr)) r⟩
theorem we_meth {to : TE} {C : Addr} {m : Str} {n : Nat} {S : List D → (D → Prop) → Prop} {t : TA} {F : D → List SD → Prop} (h : WE K to ρ fun x ρ1 => ∃ ds, x = .obj C ds ∧ ds.lookup m = none ∧ WA K t ρ1 fun es ρ2 => es.length + 1 = n ∧ S (x :: es) fun d => F d ρ2) :
    WE K (tMeth C m (pureSp K n S) [] E0 to t) ρ F :=
  fun P B0 H0 B H σ Z Q k => h P B0 H0 B H σ Z _ fun v x ρ1 B1 H1 ⟨ds, e, l, q⟩ S1 s1 r1 => by
    subst e
    cases r1 with
    | obj h1 rf =>
      refine ⟨_, _, _, rfl, S1.le _ _ h1, rf.miss l, q P B0 H0 B1 H1 σ S1 _ fun vs es ρ2 B2 H2 ⟨l2, q2⟩ S2 s2 r2 => ?_⟩
      refine ⟨B2, _, _, S2.le, .cons ((R.obj h1 rf).mono s2.bb) (by rw [List.append_nil]; exact r2), by rw [List.length_cons]; exact l2, q2, fun w d B3 H3 g gr r => k w d ρ2 B3 H3 g (S2.step gr) ((s1.trans s2).trans (Ev.pure gr)) r⟩
end
end Lw

set_option Elab.async false
set_option linter.all false
set_option maxRecDepth 100000
set_option maxHeartbeats 4000000
namespace Lw
open PySem PySem.Spec PyProof.Rows L2
/-! ### what is walked -/
/-- the walk J gives the data items, one after another, as long as what B tells stands -/
structure DW (K : Fg) (B : Hp) (J : It) (items : List D) : Prop where
  go : ∀ i H, i < items.length → Same B H → J.go i H
  stop : ∀ H, Same B H → J.stop items.length H
  yld : ∀ (i : Nat) H x H' d, items[i]? = some d → J.yld i H x H' → ∀ Bc, Same B Bc → Same Bc H → ∃ Bc', Gr Non Bc H Bc' H' ∧ R K Bc' x d
def WI (K : Fg) (wi : TI) (ρ : List SD) (F : List D → List SD → Prop) : Prop :=
  ∀ P B0 H0 B H σ, ST K P B0 H0 ρ B H σ → ∀ RR : It → Hp → Prop, (∀ J items ρ' B' H', F items ρ' → ST K P B0 H0 ρ' B' H' σ → Ev ρ σ B H ρ' B' H' → DW K B' J items → RR J H') → wi σ H RR
def iAny (K : Fg) (tl : TE) : TI := fun σ H RR => tl σ H fun x H1 =>
  (∃ a, x = .ref a ∧ (∃ xs, SqL K H1 a xs) ∧ RR (Itl K a) H1) ∨ ((∃ a, x = .ref a ∧ (∃ xs, SqT K H1 a xs) ∧ RR (Itt K a) H1) ∨ ∃ z, x = .str z ∧ RR (Its z) H1)
theorem pi_any {X : Cx} {tg l : Expr} {tl : TE} (hl : PE X l tl) : PI X tg l (iAny X.K tl) := by
  refine ⟨fun pins s σ H RR I h => ?_⟩
  refine thn (hl.run pins s σ H _ I h) fun v s1 ⟨x, H1, I1, r1, q1⟩ => ?_
  have new : ∀ b, b ∈ [s1.heap.objs.size] → FpOk X pins H1 b := fun b hb => by
    have e : b = s1.heap.objs.size := by simpa using hb
    subst e
    exact I1.fpOk (Nat.le_refl _) (I1.hok.fresh (Nat.le_refl _))
  rcases q1 with ⟨a, rfl, ⟨xs, hq⟩, q⟩ | ⟨a, rfl, ⟨xs, hq⟩, q⟩ | ⟨z, rfl, q⟩
  · cases r1
    obtain ⟨its, rv, p, hz⟩ := I1.list hq
    refine wpAny_pyIter_list p.isList ?_
    exact ⟨_, [s1.heap.objs.size], _, _, H1, rfl, I1.kept (t' := s1.toks) (fun b o e => Heap.get?_push_of_some _ e), turn_list a _, ⟨_, Heap.get?_push_size _ rfl, rfl, rfl⟩, new, q⟩
  · cases r1
    obtain ⟨its, rv, p, hz⟩ := I1.tuple hq
    refine wpAny_pyIter_tuple (show s1.heap.IsTuple a its.toArray from p) ?_
    exact ⟨_, [s1.heap.objs.size], _, _, H1, rfl, I1.kept (t' := s1.toks) (fun b o e => Heap.get?_push_of_some _ e), turn_tuple a _, ⟨_, Heap.get?_push_size _ rfl, rfl, rfl⟩, new, q⟩
  · obtain ⟨t, rfl⟩ := r1
    cases ha : z.cps.all (· < 128)
    · exact wpAny_pyIter_wide ha (pi_one (tk := s1.toks) I1 _ (turn_str _ z t "str_iterator" (.inr rfl)) ⟨_, Heap.get?_push_size _ rfl, rfl, rfl⟩ q)
    · exact wpAny_pyIter_ascii ha (pi_one (tk := s1.toks) I1 _ (turn_str _ z t "str_ascii_iterator" (.inl rfl)) ⟨_, Heap.get?_push_size _ rfl, rfl, rfl⟩ q)
section
variable {K : Fg} {ρ : List SD}
theorem sqL_inj {B H : Hp} {a : Addr} {xs : List V} (h : H a = some (.lst xs)) : SqL K H a xs := SqL.of h
theorem dw_list {B : Hp} {a : Addr} {vs : List V} {ds : List D} (h : SqL K B a vs) (r : RA K B vs ds) : DW K B (Itl K a) ds where
  go := fun i H hi s => ⟨vs, vs[i]'(by rw [r.length]; exact hi), same_l s h, by simp⟩
  stop := fun H s => ⟨vs, same_l s h, by rw [r.length]; exact Nat.le_refl _⟩
  yld := fun i H x H' d e y Bc s1 s2 => by
    obtain ⟨rfl, y⟩ := y
    obtain ⟨v, e1, r1⟩ := r.get e
    have e2 := y vs (same_l (s1.trans s2) h)
    rw [e1] at e2
    cases e2
    exact ⟨Bc, Gr.refl s2, r1.mono s1⟩
theorem dw_tup {B : Hp} {a : Addr} {vs : List V} {ds : List D} (h : SqT K B a vs) (r : RA K B vs ds) : DW K B (Itt K a) ds where
  go := fun i H hi s => ⟨vs, vs[i]'(by rw [r.length]; exact hi), same_t s h, by simp⟩
  stop := fun H s => ⟨vs, same_t s h, by rw [r.length]; exact Nat.le_refl _⟩
  yld := fun i H x H' d e y Bc s1 s2 => by
    obtain ⟨rfl, y⟩ := y
    obtain ⟨v, e1, r1⟩ := r.get e
    have e2 := y vs (same_t (s1.trans s2) h)
    rw [e1] at e2
    cases e2
    exact ⟨Bc, Gr.refl s2, r1.mono s1⟩
/-- the signs of a text -/
def signsD (z : Str) : List D := z.cps.toList.map fun c => .str ⟨#[c]⟩
theorem dw_str {B : Hp} {z : Str} : DW K B (Its z) (signsD z) where
  go := fun i H hi s => by
    unfold signsD at hi
    rw [List.length_map, Array.length_toList] at hi
    exact hi
  stop := fun H s => by
    show z.cps.size ≤ (signsD z).length
    unfold signsD
    simp
  yld := fun i H x H' d e y Bc s1 s2 => by
    obtain ⟨rfl, c, hc, rfl⟩ := y
    unfold signsD at e
    rw [List.getElem?_map] at e
    have hc' : z.cps.toList[i]? = some c := by simpa using hc
    rw [hc'] at e
    cases e
    exact ⟨Bc, Gr.refl s2, .str _⟩
/-- a list, a tuple, a text: the things of it -/
def D.things : D → Option (List D)
  | .tup xs => some xs
  | .lst xs => some xs
  | .frl xs => some xs
  | .str z => some (signsD z)
  | _ => none
theorem wi_any {te : TE} {F : List D → List SD → Prop} (h : WE K te ρ fun x ρ1 => ∃ xs, x.things = some xs ∧ F xs ρ1) : WI K (iAny K te) ρ F :=
  fun P B0 H0 B H σ S RR k => h P B0 H0 B H σ S _ fun v x ρ1 B1 H1 ⟨xs, e, f⟩ S1 s1 r1 => by
    cases r1 with
    | tup h1 a1 =>
      cases e
      exact .inr (.inl ⟨_, rfl, ⟨_, same_t S1.le h1⟩, k _ _ ρ1 B1 H1 f S1 s1 (dw_tup h1 a1)⟩)
    | lst h1 a1 =>
      cases e
      exact .inl ⟨_, rfl, ⟨_, SqL.of (S1.le _ _ h1)⟩, k _ _ ρ1 B1 H1 f S1 s1 (dw_list (SqL.of h1) a1)⟩
    | frl h1 a1 =>
      cases e
      exact .inl ⟨_, rfl, ⟨_, same_l S1.le h1⟩, k _ _ ρ1 B1 H1 f S1 s1 (dw_list h1 a1)⟩
    | str z =>
      cases e
      exact .inr (.inr ⟨_, rfl, k _ _ ρ1 B1 H1 f S1 s1 dw_str⟩)
    | _ => cases e
theorem dw_range {B : Hp} {lo : Int} {n : Nat} : DW K B (Itr lo n) ((List.range n).map fun i => .int (lo + (i : Nat))) where
  go := fun i H hi s => by
    rw [List.length_map, List.length_range] at hi
    exact hi
  stop := fun H s => by
    show n ≤ _
    simp
  yld := fun i H x H' d e y Bc s1 s2 => by
    obtain ⟨rfl, rfl⟩ := y
    rw [List.getElem?_map] at e
    cases q : (List.range n)[i]? with
    | none => rw [q] at e; cases e
    | some j =>
      rw [q] at e
      have : j = i := by
        have := List.getElem?_eq_some_iff.mp q
        obtain ⟨h1, h2⟩ := this
        simpa using h2.symm
      subst this
      cases e
      exact ⟨Bc, Gr.refl s2, .int _⟩
def rangeD (lo hi : Int) : List D := (List.range (hi - lo).toNat).map fun i => .int (lo + (i : Nat))
theorem wi_range1 {te : TE} {F : List D → List SD → Prop} (h : WE K te ρ fun x ρ1 => ∃ j : Int, x = .int j ∧ -(2 ^ 62) ≤ j ∧ j < 2 ^ 62 ∧ F (rangeD 0 j) ρ1) : WI K (iRng1 (tCons te tNil)) ρ F :=
  fun P B0 H0 B H σ S RR k => h P B0 H0 B H σ S _ fun v x ρ1 B1 H1 ⟨j, e, h1, h2, f⟩ S1 s1 r1 => by
    subst e
    refine ⟨j, by rw [rint r1], h1, h2, k _ _ ρ1 B1 H1 f S1 s1 ?_⟩
    unfold rangeD
    rw [Int.sub_zero]
    exact dw_range
theorem wi_range2 {te tf : TE} {F : List D → List SD → Prop} (h : WE K te ρ fun x ρ1 => WE K tf ρ1 fun y ρ2 => ∃ i j : Int, x = .int i ∧ y = .int j ∧ (-(2 ^ 62) ≤ i ∧ i < 2 ^ 62 ∧ -(2 ^ 62) ≤ j ∧ j < 2 ^ 62) ∧ F (rangeD i j) ρ2) : WI K (iRng2 (tCons te (tCons tf tNil))) ρ F :=
  fun P B0 H0 B H σ S RR k => h P B0 H0 B H σ S _ fun v x ρ1 B1 H1 h1 S1 s1 r1 => h1 P B0 H0 B1 H1 σ S1 _ fun u y ρ2 B2 H2 ⟨i, j, e1, e2, h2, f⟩ S2 s2 r2 => by
    subst e1 e2
    exact ⟨i, j, by rw [rint r1, rint r2], h2, k _ _ ρ2 B2 H2 f S2 (s1.trans s2) dw_range⟩
/-- pairs of two walked things: zip, enumerate -/
def zipD (xs ys : List D) : List D := (xs.zip ys).map fun p => .tup [p.1, p.2]
theorem zipD_get {xs ys : List D} {i : Nat} {d : D} (h : (zipD xs ys)[i]? = some d) : ∃ x y, xs[i]? = some x ∧ ys[i]? = some y ∧ d = .tup [x, y] := by
  unfold zipD at h
  rw [List.getElem?_map] at h
  cases q : (xs.zip ys)[i]? with
  | none => rw [q] at h; cases h
  | some p =>
    rw [q] at h
    rw [List.getElem?_zip_eq_some] at q
    exact ⟨p.1, p.2, q.1, q.2, (Option.some.inj h).symm⟩
theorem zipD_len {xs ys : List D} : (zipD xs ys).length = min xs.length ys.length := by simp [zipD]
theorem new_pair {Bc H : Hp} {T : Addr} {x y : V} {d e : D} (s2 : Same Bc H) (hT : H T = none) (r1 : R K Bc x d) (r2 : R K Bc y e) : ∃ Bc', Gr Non Bc H Bc' (upd H T (.tup [x, y])) ∧ R K Bc' (.ref T) (.tup [d, e]) := by
  have hb := same_none s2 hT
  exact ⟨upd Bc T _, (Gr.refl s2).new hT hT, .tup (SqT.of upd_same) (.cons (r1.mono (same_new hb)) (.cons (r2.mono (same_new hb)) .nil))⟩
theorem dw_zipL {B : Hp} {a b : Addr} {vs us : List V} {ds es : List D} (h : SqL K B a vs) (r : RA K B vs ds) (h' : SqL K B b us) (r' : RA K B us es) : DW K B (Itz K a b) (zipD ds es) where
  go := fun i H hi s => by
    rw [zipD_len] at hi
    have h1 : i < vs.length := by rw [r.length]; omega
    have h2 : i < us.length := by rw [r'.length]; omega
    exact ⟨vs, us, vs[i], us[i], same_l s h, same_l s h', by simp [h1], by simp [h2]⟩
  stop := fun H s => by
    refine ⟨vs, us, same_l s h, same_l s h', ?_⟩
    rw [zipD_len, r.length, r'.length]
    omega
  yld := fun i H x H' d e y Bc s1 s2 => by
    obtain ⟨T, v, u, rfl, hT, rfl, f1, f2⟩ := y
    obtain ⟨d1, d2, e1, e2, rfl⟩ := zipD_get e
    obtain ⟨v', q1, r1⟩ := r.get e1
    obtain ⟨u', q2, r2⟩ := r'.get e2
    have z1 := f1 vs (same_l (s1.trans s2) h)
    have z2 := f2 us (same_l (s1.trans s2) h')
    rw [q1] at z1; cases z1
    rw [q2] at z2; cases z2
    exact new_pair s2 hT (r1.mono s1) (r2.mono s1)
theorem dw_zipT {B : Hp} {a b : Addr} {vs us : List V} {ds es : List D} (h : SqT K B a vs) (r : RA K B vs ds) (h' : SqT K B b us) (r' : RA K B us es) : DW K B (RZ.ItzT K a b) (zipD ds es) where
  go := fun i H hi s => by
    rw [zipD_len] at hi
    have h1 : i < vs.length := by rw [r.length]; omega
    have h2 : i < us.length := by rw [r'.length]; omega
    exact ⟨vs, us, vs[i], us[i], same_t s h, same_t s h', by simp [h1], by simp [h2]⟩
  stop := fun H s => by
    refine ⟨vs, us, same_t s h, same_t s h', ?_⟩
    rw [zipD_len, r.length, r'.length]
    omega
  yld := fun i H x H' d e y Bc s1 s2 => by
    obtain ⟨T, v, u, rfl, hT, rfl, f1, f2⟩ := y
    obtain ⟨d1, d2, e1, e2, rfl⟩ := zipD_get e
    obtain ⟨v', q1, r1⟩ := r.get e1
    obtain ⟨u', q2, r2⟩ := r'.get e2
    have z1 := f1 vs (same_t (s1.trans s2) h)
    have z2 := f2 us (same_t (s1.trans s2) h')
    rw [q1] at z1; cases z1
    rw [q2] at z2; cases z2
    exact new_pair s2 hT (r1.mono s1) (r2.mono s1)
theorem wi_zip {te tf : TE} {F : List D → List SD → Prop} (h : WE K te ρ fun x ρ1 => WE K tf ρ1 fun y ρ2 => ∃ xs ys, ((x = .lst xs ∧ y = .lst ys) ∨ (x = .tup xs ∧ y = .tup ys)) ∧ F (zipD xs ys) ρ2) : WI K (RZ.iZipA K (tCons te (tCons tf tNil))) ρ F :=
  fun P B0 H0 B H σ S RR k => h P B0 H0 B H σ S _ fun v x ρ1 B1 H1 h1 S1 s1 r1 => h1 P B0 H0 B1 H1 σ S1 _ fun u y ρ2 B2 H2 ⟨xs, ys, e, f⟩ S2 s2 r2 => by
    have r1' := r1.mono s2.bb
    rcases e with ⟨rfl, rfl⟩ | ⟨rfl, rfl⟩
    · cases r1' with
      | lst h1 a1 =>
        cases r2 with
        | lst h2 a2 => exact ⟨_, _, _, _, rfl, .inl ⟨SqL.of (S2.le _ _ h1), SqL.of (S2.le _ _ h2), k _ _ ρ2 B2 H2 f S2 (s1.trans s2) (dw_zipL (SqL.of h1) a1 (SqL.of h2) a2)⟩⟩
    · cases r1' with
      | tup h1 a1 =>
        cases r2 with
        | tup h2 a2 => exact ⟨_, _, _, _, rfl, .inr ⟨same_t S2.le h1, same_t S2.le h2, k _ _ ρ2 B2 H2 f S2 (s1.trans s2) (dw_zipT h1 a1 h2 a2)⟩⟩
/-- enumerate of a list -/
def enumD (xs : List D) : List D := zipD (rangeD 0 xs.length) xs
theorem dw_enum {B : Hp} {a : Addr} {vs : List V} {ds : List D} (h : SqL K B a vs) (r : RA K B vs ds) : DW K B (Ite K a) (enumD ds) where
  go := fun i H hi s => by
    unfold enumD at hi
    rw [zipD_len] at hi
    have h1 : i < vs.length := by rw [r.length]; omega
    exact ⟨vs, vs[i], same_l s h, by simp [h1]⟩
  stop := fun H s => by
    refine ⟨vs, same_l s h, ?_⟩
    unfold enumD
    rw [zipD_len, r.length]
    simp [rangeD]
  yld := fun i H x H' d e y Bc s1 s2 => by
    obtain ⟨T, v, rfl, hT, rfl, f1⟩ := y
    obtain ⟨d1, d2, e1, e2, rfl⟩ := zipD_get e
    obtain ⟨v', q1, r1⟩ := r.get e2
    have z1 := f1 vs (same_l (s1.trans s2) h)
    rw [q1] at z1; cases z1
    unfold rangeD at e1
    rw [List.getElem?_map] at e1
    cases q : (List.range ((ds.length : Int) - 0).toNat)[i]? with
    | none => rw [q] at e1; cases e1
    | some j =>
      rw [q] at e1
      have : j = i := by
        obtain ⟨h1, h2⟩ := List.getElem?_eq_some_iff.mp q
        simpa using h2.symm
      subst this
      cases e1
      refine new_pair s2 hT ?_ (r1.mono s1)
      show R K Bc (V.int (j : Nat)) (.int (0 + (j : Nat)))
      rw [Int.zero_add]
      exact .int _
theorem wi_enum {te : TE} {F : List D → List SD → Prop} (h : WE K te ρ fun x ρ1 => ∃ xs, x = .lst xs ∧ F (enumD xs) ρ1) : WI K (iEnum K (tCons te tNil)) ρ F :=
  fun P B0 H0 B H σ S RR k => h P B0 H0 B H σ S _ fun v x ρ1 B1 H1 ⟨xs, e, f⟩ S1 s1 r1 => by
    subst e
    cases r1 with
    | lst h1 a1 => exact ⟨_, _, rfl, SqL.of (S1.le _ _ h1), k _ _ ρ1 B1 H1 f S1 s1 (dw_enum (SqL.of h1) a1)⟩
/-! ### for -/
theorem ws_for {wi : TI} {g : TG} {tb : TS} {E : Out} (h : WI K wi ρ fun items ρ1 => ∃ I : Nat → List SD → Prop, I 0 ρ1 ∧
    (∀ (i : Nat) ρi x, items[i]? = some x → I i ρi → WG K g x ρi fun ρ2 => WS K tb ρ2 { nx := I (i + 1), rt := E.rt, bk := E.nx, ct := I (i + 1) }) ∧ ∀ ρ', I items.length ρ' → E.nx ρ') : WS K (tFor wi g tb) ρ E :=
  fun P B0 H0 B H σ S D k1 k2 k3 k4 => h P B0 H0 B H σ S _ fun J items ρ1 B1 H1 ⟨I, i0, it, ie⟩ S1 s1 w => by
    refine ⟨fun i m σ' H' => m = items.length - i ∧ i ≤ items.length ∧ ∃ ρi Bi, I i ρi ∧ ST K P B0 H0 ρi Bi H' σ' ∧ Same B1 Bi, ⟨items.length, by simp, Nat.zero_le _, ρ1, B1, i0, S1, Same.refl _⟩, ?_⟩
    rintro i m σ' H' ⟨rfl, hi, ρi, Bi, Ii, Si, si⟩
    by_cases hlt : i < items.length
    · refine .inr ⟨w.go i H' hlt (si.trans Si.le), fun σ2 H2 => ∃ ρj Bj, I (i + 1) ρj ∧ ST K P B0 H0 ρj Bj H2 σ2 ∧ Same B1 Bj, fun σ2 H2 ⟨ρj, Bj, a, b, c⟩ => ⟨items.length - (i + 1), by omega, rfl, hlt, ρj, Bj, a, b, c⟩, fun x H2 y => ?_⟩
      have ei : items[i]? = some items[i] := List.getElem?_eq_getElem hlt
      obtain ⟨Bc, gr, r⟩ := w.yld i H' x H2 _ ei y Bi si Si.le
      refine it i ρi _ ei Ii P B0 H0 Bc H2 σ' x (Si.step gr) r _ fun ρ2 σ2 h2 S2 _ => ?_
      refine h2 P B0 H0 Bc H2 σ2 S2 _ (fun ρ3 B3 H3 σ3 f S3 s3 => ?_) (fun v d ρ3 B3 H3 σ3 f S3 s3 r3 => ?_) (fun ρ3 B3 H3 σ3 f S3 s3 => ?_) (fun ρ3 B3 H3 σ3 f S3 s3 => ?_)
      · exact ⟨ρ3, B3, f, S3, (si.trans gr.bb).trans s3⟩
      · exact k2 v d ρ3 B3 H3 σ3 f S3 (s1.bb.trans ((si.trans gr.bb).trans s3)) r3
      · exact k1 ρ3 B3 H3 σ3 f S3 (s1.bb.trans ((si.trans gr.bb).trans s3))
      · exact ⟨ρ3, B3, f, S3, (si.trans gr.bb).trans s3⟩
    · have e : i = items.length := by omega
      subst e
      exact .inl ⟨w.stop H' (si.trans Si.le), k1 ρi Bi H' σ' (ie ρi Ii) Si (s1.bb.trans si)⟩
/-! ### comprehensions -/
def wipeD (ρ : List SD) : List Nat → List SD
  | [] => ρ
  | v :: vs => (wipeD ρ vs).set v .un
theorem wipeD_len {vs : List Nat} : (wipeD ρ vs).length = ρ.length := by
  induction vs with
  | nil => rfl
  | cons v vs ih => unfold wipeD; rw [List.length_set, ih]
theorem wipeD_get {vs : List Nat} {i : Nat} {s : SD} (h : (wipeD ρ vs)[i]? = some s) : s = .un ∨ (i ∉ vs ∧ ρ[i]? = some s) := by
  induction vs with
  | nil => exact .inr ⟨by simp, h⟩
  | cons v vs ih =>
    unfold wipeD at h
    by_cases e : v = i
    · subst e
      exact .inl (set_same_of h).1
    · rw [get_set_ne e] at h
      rcases ih h with h | ⟨h1, h2⟩
      · exact .inl h
      · exact .inr ⟨by simp only [List.mem_cons, not_or]; exact ⟨fun q => e q.symm, h1⟩, h2⟩
theorem wipe_in {σ : L2.St} {vs : List Nat} {i : Nat} (h : i ∈ vs) (hl : i < σ.length) : (wipe σ vs)[i]? = some none := by
  induction vs with
  | nil => cases h
  | cons v vs ih =>
    unfold wipe
    by_cases e : v = i
    · subst e
      rw [List.getElem?_set_self (by rw [wipe_length]; exact hl)]
    · rw [get_set_ne e]
      rcases List.mem_cons.mp h with q | q
      · exact absurd q.symm e
      · exact ih q
theorem wipe_ext {σ τ : L2.St} {vs : List Nat} (hl : σ.length = τ.length) (h : ∀ i, i ∉ vs → σ[i]? = τ[i]?) : wipe σ vs = wipe τ vs := by
  apply List.ext_getElem?
  intro i
  by_cases q : i ∈ vs
  · by_cases l : i < σ.length
    · rw [wipe_in q l, wipe_in q (by omega)]
    · rw [List.getElem?_eq_none (by rw [wipe_length]; omega), List.getElem?_eq_none (by rw [wipe_length]; omega)]
  · rw [wipe_out q, wipe_out q, h i q]
theorem wipe_wipe {σ : L2.St} {vs : List Nat} : wipe (wipe σ vs) vs = wipe σ vs := wipe_ext (wipe_length _ _) fun i h => wipe_out h
theorem wipe_set {σ : L2.St} {vs : List Nat} {i : Nat} {x : Option V} (h : i ∈ vs) : wipe (σ.set i x) vs = wipe σ vs := wipe_ext (List.length_set ..) fun j q => by
  rw [get_set_ne (fun e => q (by rw [← e]; exact h))]
section
variable {P : Addr → Prop} {B0 H0 B H : Hp} {σ : L2.St}
theorem ST.wipe (S : ST K P B0 H0 ρ B H σ) (vs : List Nat) : ST K P B0 H0 (wipeD ρ vs) B H (L2.wipe σ vs) := by
  refine S.forget (by rw [wipe_length, wipeD_len, S.len]) fun i s h => ?_
  rcases wipeD_get h with h | ⟨h1, h2⟩
  · exact .inl h
  · exact .inr ⟨h2, wipe_out h1⟩
theorem ST.unwipe {vs : List Nat} (S : ST K P B0 H0 (wipeD ρ vs) B H (L2.wipe σ vs)) : ST K P B0 H0 (wipeD ρ vs) B H σ := by
  refine S.forget (by rw [← S.len, wipe_length]) fun i s h => ?_
  rcases wipeD_get h with q | ⟨h1, h2⟩
  · exact .inl q
  · exact .inr ⟨h, (wipe_out h1).symm⟩
/-- a thing that no slot tells may change -/
theorem ST.side (S : ST K P B0 H0 ρ B H σ) {p : Addr} {o : HO} (hb : B p = none) (h0 : H0 p = none) (hn : ∀ (j : Nat) s, ρ[j]? = some s → s.mu = true → σ[j]? ≠ some (some (.ref p))) : ST K P B0 H0 ρ B (upd H p o) σ where
  len := S.len
  gr := S.gr.mut hb (.inr h0)
  sl := fun i s h => (S.sl i s h).step (Same.refl _) fun a u m e hb1 hh => ⟨by
    have ne : a ≠ p := fun q => by
      subst q
      refine hn i s h m ?_
      obtain ⟨w, e1, _⟩ := S.slot h
      rw [e1] at e ⊢
      have e' : w = some (V.ref a) := e
      rw [e']
    rw [upd_ne ne]
    exact hh, hb1⟩
  dis := S.dis
theorem ST.h0 (S : ST K P B0 H0 ρ B H σ) {p : Addr} (h : H p = none) : H0 p = none := by
  cases q : H0 p with
  | none => rfl
  | some u =>
    by_cases n : P p
    · exact absurd h (S.gr.pt p n (by rw [q]; exact fun z => nomatch z))
    · rw [S.gr.hh p u n q] at h; cases h
theorem ST.mu_at (S : ST K P B0 H0 ρ B H σ) {j : Nat} {s : SD} (h : ρ[j]? = some s) (m : s.mu = true) {p : Addr} (hp : H p = none) : σ[j]? ≠ some (some (.ref p)) := fun z => by
  obtain ⟨w, e1, y⟩ := S.slot h
  obtain ⟨b, e2, _, _, e5⟩ := y.at_ m
  rw [e1] at z
  rw [e2] at z
  cases z
  exact e5 hp
end
/-- the target stores at vs alone -/
def GIn (g : TG) (vs : List Nat) : Prop := ∀ v σ H Q, g v σ H Q → g v σ H fun σ' H' => wipe σ' vs = wipe σ vs ∧ Q σ' H'
def GsIn (g : TGs) (vs : List Nat) : Prop := ∀ v σ H Q, g v σ H Q → g v σ H fun σ' H' => wipe σ' vs = wipe σ vs ∧ Q σ' H'
theorem gin_name {i : Nat} {vs : List Nat} (h : i ∈ vs) : GIn (gName i) vs := fun v σ H Q q => ⟨wipe_set h, q⟩
theorem gsin_nil {vs : List Nat} : GsIn gNil vs := fun v σ H Q q => ⟨q.1, rfl, q.2⟩
theorem TG.mono_name {i : Nat} : ∀ v σ H Q Q', (∀ σ' H', Q σ' H' → Q' σ' H') → gName i v σ H Q → gName i v σ H Q' := fun v σ H Q Q' f q => f _ _ q
/-- a target's reading may be weakened -/
def GMono (g : TG) : Prop := ∀ v σ H (Q Q' : L2.St → Hp → Prop), (∀ σ' H', Q σ' H' → Q' σ' H') → g v σ H Q → g v σ H Q'
def GsMono (g : TGs) : Prop := ∀ v σ H (Q Q' : L2.St → Hp → Prop), (∀ σ' H', Q σ' H' → Q' σ' H') → g v σ H Q → g v σ H Q'
theorem gmono_name {i : Nat} : GMono (gName i) := fun v σ H Q Q' f q => f _ _ q
theorem gsmono_nil : GsMono gNil := fun v σ H Q Q' f q => ⟨q.1, f _ _ q.2⟩
theorem gsmono_cons {g : TG} {gs : TGs} (h1 : GMono g) (h2 : GsMono gs) : GsMono (gCons g gs) := fun v σ H Q Q' f ⟨x, r, e, q⟩ => ⟨x, r, e, h1 _ _ _ _ _ (fun σ' H' q => h2 _ _ _ _ _ f q) q⟩
theorem gmono_tup {n : Nat} {gs : TGs} (h : GsMono gs) : GMono (gTup K n gs) := fun v σ H Q Q' f ⟨a, xs, e, s, l, q⟩ => ⟨a, xs, e, s, l, h _ _ _ _ _ f q⟩
theorem gsin_cons {g : TG} {gs : TGs} {vs : List Nat} (h1 : GIn g vs) (h2 : GsIn gs vs) (m1 : GMono g) (m2 : GsMono gs) : GsIn (gCons g gs) vs := fun v σ H Q ⟨x, r, e, q⟩ =>
  ⟨x, r, e, m1 _ _ _ _ _ (fun σ1 H1 z => m2 _ _ _ _ _ (fun σ2 H2 y => ⟨y.1.trans z.1, y.2⟩) (h2 _ _ _ _ z.2)) (h1 _ _ _ _ q)⟩
theorem gin_tup {n : Nat} {gs : TGs} {vs : List Nat} (h : GsIn gs vs) : GIn (gTup K n gs) vs := fun v σ H Q ⟨a, xs, e, s, l, q⟩ => ⟨a, xs, e, s, l, h _ _ _ _ q⟩
/-- the comprehension's turns: I tells, behind i turns, what was kept and the slots -/
structure LcI (K : Fg) (g : TG) (tt : TT) (te : TE) (vs : List Nat) (items : List D) (ρ1 : List SD) (F : D → List SD → Prop) (I : Nat → List D → List SD → Prop) : Prop where
  start : I 0 [] (wipeD ρ1 vs)
  mu : ∀ i acc ρ', I i acc ρ' → ρ'.map SD.mu = (wipeD ρ1 vs).map SD.mu ∧ wipeD ρ' vs = ρ'
  turn : ∀ (i : Nat) acc ρi x, items[i]? = some x → acc.length ≤ i → I i acc ρi → WG K g x ρi fun ρ2 => WT K tt ρ2 fun b ρ3 =>
    (b = true → WE K te ρ3 fun y ρ4 => I (i + 1) (acc ++ [y]) (wipeD ρ4 vs)) ∧ (b = false → I (i + 1) acc (wipeD ρ3 vs))
  fin : ∀ acc ρ', I items.length acc ρ' → F (.lst acc) ρ'
theorem Gr.keepP {M : Addr → Prop} {B H B' H' : Hp} {p : Addr} {o : HO} (g : Gr M B H B' H') (n : ¬ M p) (h : H p = some o) (hb : B p = none) : H' p = some o ∧ B' p = none := by
  refine ⟨g.hh p o n h, ?_⟩
  cases q : B' p with
  | none => rfl
  | some u =>
    rcases g.fr p u q with z | z | z
    · rw [hb] at z; cases z
    · rw [h] at z; cases z
    · exact absurd z n
theorem ST.tell {P : Addr → Prop} {B0 H0 B H : Hp} {σ : L2.St} {p : Addr} {o : HO} (S : ST K P B0 H0 ρ B H σ) (hb : B p = none) (hh : H p = some o) (h0 : H0 p = none) (hn : ¬ Mus ρ σ p) : ST K P B0 H0 ρ (upd B p o) H σ where
  len := S.len
  gr := ⟨S.gr.hh, S.gr.bb.trans (same_new hb), fun c u e => by
      by_cases z : c = p
      · subst z; rw [upd_same] at e; rw [hh]; exact e
      · rw [upd_ne z] at e; exact S.le c u e, fun c u e => by
      by_cases z : c = p
      · subst z; exact .inr (.inl h0)
      · rw [upd_ne z] at e; exact S.gr.fr c u e, S.gr.pt⟩
  sl := fun j s h => (S.sl j s h).step (same_new hb) fun a u m e hb1 hh1 => ⟨hh1, by
    have ne : a ≠ p := fun q => by
      subst q
      refine hn ⟨j, s, h, m, ?_⟩
      obtain ⟨w, e1, _⟩ := S.slot h
      rw [e1] at e ⊢
      have e' : w = some (V.ref a) := e
      rw [e']
    rw [upd_ne ne]
    exact hb1⟩
  dis := S.dis
theorem we_lc {wi : TI} {g : TG} {tt : TT} {te : TE} {vs : List Nat} {F : D → List SD → Prop} (hg : GIn g vs) (hm : GMono g)
    (h : WI K wi ρ fun items ρ1 => items.length < sizeLine ∧ ∃ I, LcI K g tt te vs items ρ1 F I) : WE K (tLc wi g tt te vs) ρ F :=
  fun P B0 H0 B H σ S Q k => h P B0 H0 B H σ S _ fun J items ρ1 B1 H1 ⟨hsz, I, L⟩ S1 s1 w => by
    intro p hp
    have hp0 : H0 p = none := S1.h0 hp
    have hb1 := S1.bfree hp
    have W1 := S1.wipe vs
    -- which slots may change stays as it is
    have mus1 : ∀ {ρi : List SD} {b : Addr}, ρi.map SD.mu = (wipeD ρ1 vs).map SD.mu → Mus ρi (wipe σ vs) b → Mus ρ1 σ b := fun {ρi b} em ⟨j, s, e, m, q⟩ => by
      have e2 : (ρi.map SD.mu)[j]? = some true := by rw [List.getElem?_map, e]; exact congrArg some m
      rw [em, List.getElem?_map] at e2
      cases q2 : (wipeD ρ1 vs)[j]? with
      | none => rw [q2] at e2; cases e2
      | some s' =>
        rw [q2] at e2
        have m' : s'.mu = true := Option.some.inj e2
        rcases wipeD_get q2 with z | ⟨z1, z2⟩
        · rw [z] at m'; cases m'
        · exact ⟨j, s', z2, m', by rw [← wipe_out z1]; exact q⟩
    have nop : ¬ Mus ρ1 σ p := fun ⟨j, s, e, m, q⟩ => S1.mu_at e m hp q
    refine ⟨fun i m H' => m = items.length - i ∧ i ≤ items.length ∧ ∃ acc va ρi Bi, I i acc ρi ∧ acc.length ≤ i ∧ ST K P B0 H0 ρi Bi H' (wipe σ vs) ∧ Bi p = none ∧ H' p = some (.lst va) ∧ RA K Bi va acc ∧ Gr (Mus ρ1 σ) B1 H1 Bi H',
      ⟨items.length, by simp, Nat.zero_le _, [], [], wipeD ρ1 vs, B1, L.start, Nat.le_refl _, W1.side hb1 hp0 (fun j s e m => W1.mu_at e m hp), hb1, upd_same, .nil, (Gr.refl S1.le).mut hb1 (.inr hp)⟩, ?_⟩
    rintro i m H' ⟨rfl, hi, acc, va, ρi, Bi, Ii, hacc, Si, hbp, hHp, ra, gi⟩
    obtain ⟨hmask, hw⟩ := L.mu _ _ _ Ii
    by_cases hlt : i < items.length
    · refine .inr ⟨w.go i H' hlt (gi.bb.trans Si.le), fun H2 => ∃ acc va ρj Bj, I (i + 1) acc ρj ∧ acc.length ≤ i + 1 ∧ ST K P B0 H0 ρj Bj H2 (wipe σ vs) ∧ Bj p = none ∧ H2 p = some (.lst va) ∧ RA K Bj va acc ∧ Gr (Mus ρ1 σ) B1 H1 Bj H2,
        fun H2 ⟨a, b, c, d, e⟩ => ⟨items.length - (i + 1), by omega, rfl, hlt, a, b, c, d, e⟩, fun x H2 y => ?_⟩
      have ei : items[i]? = some items[i] := List.getElem?_eq_getElem hlt
      obtain ⟨Bc, gr, r⟩ := w.yld i H' x H2 _ ei y Bi gi.bb Si.le
      obtain ⟨hHc, hbc⟩ := gr.keepP (fun z => z) hHp hbp
      have gc : Gr (Mus ρ1 σ) B1 H1 Bc H2 := gi.trans gr.weak0
      refine hm _ _ _ (fun σ2 H2' => wipe σ2 vs = wipe (wipe σ vs) vs ∧ (wipe σ2 vs = wipe (wipe σ vs) vs → tt σ2 H2' _)) _ (fun σ2 H2' z => ⟨z.1.trans wipe_wipe, z.2 z.1⟩) (hg _ _ _ _ (L.turn i acc ρi _ ei hacc Ii P B0 H0 Bc H2 (wipe σ vs) x (Si.step gr) r _ fun ρ2 σ2 h2 S2 g2 ew => ?_))
      have m2 : ∀ b, Mus ρ2 σ2 b → Mus ρ1 σ b := fun b q => mus1 hmask (g2.mus q)
      refine h2 P B0 H0 Bc H2 σ2 S2 _ fun b ρ3 B3 H3 ⟨f1, f2⟩ S3 e3 => ?_
      obtain ⟨hH3, hb3⟩ := e3.gr.keepP (fun q => nop (m2 p q)) hHc hbc
      have g3 : Gr (Mus ρ1 σ) B1 H1 B3 H3 := gc.trans (e3.gr.weak m2)
      have m3 : ∀ b, Mus ρ3 σ2 b → Mus ρ1 σ b := fun b q => m2 b (e3.sh.mus q)
      have ew' : wipe σ2 vs = wipe σ vs := ew.trans wipe_wipe
      cases b with
      | false =>
        refine iteF ⟨acc, va, wipeD ρ3 vs, B3, f2 rfl, Nat.le_succ_of_le hacc, ?_, hb3, hH3, ra.mono (gr.bb.trans e3.bb), g3⟩
        rw [← ew']; exact S3.wipe vs
      | true =>
        refine iteT (f1 rfl P B0 H0 B3 H3 σ2 S3 _ fun v d ρ4 B4 H4 f4 S4 e4 r4 => ?_)
        obtain ⟨hH4, hb4⟩ := e4.gr.keepP (fun q => nop (m3 p q)) hH3 hb3
        have g4 : Gr (Mus ρ1 σ) B1 H1 B4 H4 := g3.trans (e4.gr.weak m3)
        have m4 : ¬ Mus ρ4 σ2 p := fun q => nop (m3 p (e4.sh.mus q))
        have ra4 := ra.mono ((gr.bb.trans e3.bb).trans e4.bb)
        refine ⟨va, hH4, ?_, acc ++ [d], va ++ [v], wipeD ρ4 vs, B4, f4, by rw [List.length_append, List.length_singleton]; omega, ?_, hb4, upd_same, ra4.append (.cons r4 .nil), g4.mut hb4 (.inr hp)⟩
        · rw [ra.length]; omega
        · rw [← ew']
          exact (S4.side hb4 hp0 fun j s e m q => m4 ⟨j, s, e, m, q⟩).wipe vs
    · have e : i = items.length := by omega
      subst e
      have S3 : ST K P B0 H0 ρi Bi H' σ := by
        have z : ST K P B0 H0 (wipeD ρi vs) Bi H' σ := ST.unwipe (by rw [hw]; exact Si)
        rw [hw] at z; exact z
      have nm : ¬ Mus ρi σ p := fun ⟨j, s, e, m, q⟩ => by
        refine nop (mus1 hmask ⟨j, s, e, m, ?_⟩)
        rw [← hw] at e
        rcases wipeD_get e with z | ⟨z1, _⟩
        · rw [z] at m; cases m
        · rw [wipe_out z1]; exact q
      have sb : Same Bi (upd Bi p (.lst va)) := same_new hbp
      refine .inl ⟨w.stop H' (gi.bb.trans Si.le), k _ _ ρi (upd Bi p (.lst va)) H' (L.fin acc ρi Ii) (S3.tell hbp hHp hp0 nm) (s1.trans ⟨⟨gi.hh, gi.bb.trans sb, (S3.tell hbp hHp hp0 nm).le, fun c u e => ?_, gi.pt⟩, fun j s e m => ?_⟩) (.lst upd_same (ra.mono sb))⟩
      · by_cases z : c = p
        · subst z; exact .inr (.inl hp)
        · rw [upd_ne z] at e; exact gi.fr c u e
      · have e2 : (ρi.map SD.mu)[j]? = some true := by rw [List.getElem?_map, e]; exact congrArg some m
        rw [hmask, List.getElem?_map] at e2
        cases q2 : (wipeD ρ1 vs)[j]? with
        | none => rw [q2] at e2; cases e2
        | some s' =>
          rw [q2] at e2
          have m' : s'.mu = true := Option.some.inj e2
          rcases wipeD_get q2 with z | ⟨z1, z2⟩
          · rw [z] at m'; cases m'
          · exact ⟨s', z2, m'⟩
end
end Lw

set_option Elab.async false
set_option linter.all false
set_option maxRecDepth 100000
set_option maxHeartbeats 4000000
namespace Lw
open PySem PySem.Spec PyProof.Rows L2
section
variable {K : Fg} {ρ : List SD}
theorem wt_yes {F : Bool → List SD → Prop} (q : F true ρ) : WT K tYes ρ F := fun P B0 H0 B H σ S Q k => k true ρ B H q S (Ev.refl S.le)
theorem wipeD_wipeD {vs : List Nat} : wipeD (wipeD ρ vs) vs = wipeD ρ vs := by
  apply List.ext_getElem?
  intro i
  by_cases q : i < ρ.length
  · have l1 : i < (wipeD ρ vs).length := by rw [wipeD_len]; exact q
    have l2 : i < (wipeD (wipeD ρ vs) vs).length := by rw [wipeD_len]; exact l1
    have e1 : (wipeD (wipeD ρ vs) vs)[i]? = some (wipeD (wipeD ρ vs) vs)[i] := List.getElem?_eq_getElem l2
    rcases wipeD_get e1 with h | ⟨h1, h2⟩
    · rw [e1, h]
      -- un: then i is in vs, or it was un
      have aux : ∀ (us : List Nat) (τ : List SD), i < τ.length → (wipeD τ us)[i]? = some .un → i ∈ us ∨ τ[i]? = some .un := by
        intro us τ hl
        induction us with
        | nil => exact fun h => .inr h
        | cons v us ih =>
          intro h
          unfold wipeD at h
          by_cases e : v = i
          · exact .inl (by rw [e]; exact List.mem_cons_self)
          · rw [get_set_ne e] at h
            rcases ih h with h | h
            · exact .inl (List.mem_cons_of_mem _ h)
            · exact .inr h
      rcases aux vs _ l1 (by rw [e1, h]) with z | z
      · have inn : ∀ (us : List Nat) (τ : List SD), i < τ.length → i ∈ us → (wipeD τ us)[i]? = some .un := by
          intro us τ hl
          induction us with
          | nil => exact fun h => nomatch h
          | cons v us ih =>
            intro h
            unfold wipeD
            by_cases e : v = i
            · subst e
              rw [List.getElem?_set_self (by rw [wipeD_len]; exact hl)]
            · rw [get_set_ne e]
              rcases List.mem_cons.mp h with q | q
              · exact absurd q.symm e
              · exact ih q
        exact (inn vs ρ q z).symm
      · exact z.symm
    · rw [e1, h2]
  · rw [List.getElem?_eq_none (by rw [wipeD_len, wipeD_len]; omega), List.getElem?_eq_none (by rw [wipeD_len]; omega)]
/-- a comprehension whose turns change nothing: over things w of a list ws, as data enc w; kept are those of p, the elements res w -/
theorem lcI_typed {α : Type} {ws : List α} {enc res : α → D} {p : α → Bool} {g : TG} {tt : TT} {te : TE} {vs : List Nat} {items : List D} {F : D → List SD → Prop} (e : items = ws.map enc)
    (h : ∀ w, w ∈ ws → WG K g (enc w) (wipeD ρ vs) fun ρ2 => WT K tt ρ2 fun b ρ3 => b = p w ∧ (p w = true → WE K te ρ3 fun y ρ4 => y = res w ∧ wipeD ρ4 vs = wipeD ρ vs) ∧ (p w = false → wipeD ρ3 vs = wipeD ρ vs))
    (q : F (.lst ((ws.filter p).map res)) (wipeD ρ vs)) : ∃ I, LcI K g tt te vs items ρ F I := by
  refine ⟨fun i acc ρ' => ρ' = wipeD ρ vs ∧ acc = ((ws.take i).filter p).map res, ⟨rfl, by simp⟩, fun i acc ρ' ⟨e1, _⟩ => by rw [e1]; exact ⟨rfl, wipeD_wipeD⟩, fun i acc ρi x hx hl ⟨e1, e2⟩ => ?_, fun acc ρ' ⟨e1, e2⟩ => ?_⟩
  · subst e e1 e2
    rw [List.getElem?_map] at hx
    cases hw : ws[i]? with
    | none => rw [hw] at hx; cases hx
    | some w =>
      rw [hw] at hx
      cases hx
      have tk : ws.take (i + 1) = ws.take i ++ [w] := by rw [List.take_succ, hw]; rfl
      have hm : w ∈ ws := List.mem_of_getElem? hw
      refine fun P B0 H0 B H σ v S r Q k => h w hm P B0 H0 B H σ v S r Q fun ρ2 σ2 h2 S2 g2 => k ρ2 σ2 (fun P B0 H0 B H σ S Q k => h2 P B0 H0 B H σ S Q fun b ρ3 B' H' ⟨f1, f2, f3⟩ => k b ρ3 B' H' ⟨fun eb => ?_, fun eb => ?_⟩) S2 g2
      · rw [f1] at eb
        refine (f2 eb).mono fun y ρ4 ⟨e3, e4⟩ => ⟨e4, ?_⟩
        rw [tk, List.filter_append, List.map_append, e3]
        simp [eb]
      · rw [f1] at eb
        refine ⟨f3 eb, ?_⟩
        rw [tk, List.filter_append, List.map_append]
        simp [eb]
  · subst e e1 e2
    rw [List.length_map, List.take_length]
    exact q
/-- .. without a test -/
theorem lcI_map {α : Type} {ws : List α} {enc res : α → D} {g : TG} {te : TE} {vs : List Nat} {items : List D} {F : D → List SD → Prop} (e : items = ws.map enc)
    (h : ∀ w, w ∈ ws → WG K g (enc w) (wipeD ρ vs) fun ρ2 => WE K te ρ2 fun y ρ4 => y = res w ∧ wipeD ρ4 vs = wipeD ρ vs)
    (q : F (.lst (ws.map res)) (wipeD ρ vs)) : ∃ I, LcI K g tYes te vs items ρ F I := by
  refine lcI_typed (p := fun _ => true) e (fun w hw => fun P B0 H0 B H σ v S r Q k => h w hw P B0 H0 B H σ v S r Q fun ρ2 σ2 h2 S2 g2 => k ρ2 σ2 (wt_yes ⟨rfl, fun _ => h2, fun z => by cases z⟩) S2 g2) ?_
  have : ws.filter (fun _ => true) = ws := List.filter_eq_self.mpr fun _ _ => rfl
  rw [this]
  exact q
/-! ### new lists that will grow -/
def WN (K : Fg) (te : TE) (ρ : List SD) (F : List D → List SD → Prop) : Prop :=
  ∀ P B0 H0 B H σ, ST K P B0 H0 ρ B H σ → ∀ Q : VK, (∀ p vs xs ρ' B' H', F xs ρ' → ST K P B0 H0 ρ' B' H' σ → Ev ρ σ B H ρ' B' H' → H' p = none → RA K B' vs xs → Q (.ref p) (upd H' p (.lst vs))) → te σ H Q
theorem wn_lst {ta : TA} {F : List D → List SD → Prop} (h : WA K ta ρ fun xs ρ1 => xs.length ≤ sizeLine ∧ F xs ρ1) : WN K (tLst ta) ρ F :=
  fun P B0 H0 B H σ S Q k => h P B0 H0 B H σ S _ fun vs xs ρ1 B1 H1 ⟨l, f⟩ S1 s1 r1 => ⟨by rw [r1.length]; exact l, fun p hp => k p vs xs ρ1 B1 H1 f S1 s1 hp r1⟩
theorem wn_nil {F : List D → List SD → Prop} (q : F [] ρ) : WN K (tLst tNil) ρ F := wn_lst (wa_nil ⟨Nat.zero_le _, q⟩)
theorem wn_list {te : TE} {F : List D → List SD → Prop} (h : WE K te ρ fun x ρ1 => ∃ xs, x.items = some xs ∧ F xs ρ1) : WN K (tCB (fun xs H Q => ∃ p ys, xs = [V.ref p] ∧ (SqL K H p ys ∨ SqT K H p ys) ∧ ∀ l, H l = none → Q (.ref l) (upd H l (.lst ys))) (tCons te tNil)) ρ F :=
  fun P B0 H0 B H σ S Q k => h P B0 H0 B H σ S _ fun v x ρ1 B1 H1 ⟨xs, e, f⟩ S1 s1 r1 => by
    obtain ⟨p, ys, rfl, hs, ra⟩ := r1.seq e
    exact ⟨p, ys, rfl, hs.imp (same_l S1.le) (same_t S1.le), fun l hl => k l ys xs ρ1 B1 H1 f S1 s1 hl ra⟩
theorem ws_own {i : Nat} {te : TE} {E : Out} (h : WN K te ρ fun xs ρ1 => E.nx (ρ1.set i (.ow xs))) : WS K (tAsg te (gName i)) ρ E :=
  fun P B0 H0 B H σ S D k1 k2 k3 k4 => h P B0 H0 B H σ S _ fun p vs xs ρ1 B1 H1 f S1 s1 hp r1 => k1 _ B1 _ _ f (S1.own hp (S1.h0 hp) r1) s1.bb
/-- a, b = datum, [] -/
theorem ws_parN {i j : Nat} {te : TE} {E : Out} (hij : i ≠ j) (h : WE K te ρ fun x ρ1 => E.nx ((ρ1.set i (.d x)).set j (.ow []))) : WS K (tPar i j (tCons te (tCons (tLst tNil) tNil))) ρ E :=
  fun P B0 H0 B H σ S D k1 k2 k3 k4 => h P B0 H0 B H σ S _ fun v x ρ1 B1 H1 f S1 s1 r1 => by
    refine ⟨Nat.zero_le _, fun p hp => ⟨_, _, rfl, ?_⟩⟩
    exact k1 _ B1 _ _ f ((S1.put r1).own hp (S1.h0 hp) .nil) s1.bb
/-- a, b = a new list, [] -/
theorem ws_parNN {i j : Nat} {te : TE} {E : Out} (hij : i ≠ j) (h : WN K te ρ fun xs ρ1 => E.nx ((ρ1.set i (.ow xs)).set j (.ow []))) : WS K (tPar i j (tCons te (tCons (tLst tNil) tNil))) ρ E :=
  fun P B0 H0 B H σ S D k1 k2 k3 k4 => h P B0 H0 B H σ S _ fun p vs xs ρ1 B1 H1 f S1 s1 hp r1 => by
    refine ⟨Nat.zero_le _, fun q hq => ⟨_, _, rfl, ?_⟩⟩
    have S2 := S1.own (i := i) hp (S1.h0 hp) r1
    have hq' : H1 q = none := by
      by_cases z : q = p
      · subst z; rw [upd_same] at hq; cases hq
      · rw [upd_ne z] at hq; exact hq
    exact k1 _ B1 _ _ f (S2.own (i := j) hq (S1.h0 hq') .nil) s1.bb
/-! ### methods of a list that grows -/
/-- the slot i of a list that may change, as an argument's place -/
theorem we_append {i : Nat} {xs0 : List D} {te : TE} {F : D → List SD → Prop} (h0 : ρ[i]? = some (.ow xs0)) (h : WE K te ρ fun x ρ1 => ∃ xs, ρ1[i]? = some (.ow xs) ∧ xs.length < sizeLine ∧ F .non (ρ1.set i (.ow (xs ++ [x])))) :
    WE K (tBM K "list" rAppend (tVar i) (tCons te tNil)) ρ F := fun P B0 H0 B H σ S Q k => by
  obtain ⟨o, e0, a, vs0, rfl, z1, z2, z3, z4⟩ := S.slot h0
  refine ⟨.ref a, e0, .inl ⟨rfl, _, SqL.of z3⟩, ?_⟩
  refine h P B0 H0 B H σ S _ fun v x ρ1 B1 H1 ⟨xs, h1, hl, f⟩ S1 s1 r1 => ?_
  obtain ⟨o1, e1, a1, vs, q1, q2, q3, q4, q5⟩ := S1.slot h1
  rw [e0] at e1; cases e1; cases q1
  refine ⟨a, vs, v, rfl, rfl, q4, by rw [q5.length]; exact hl, ?_⟩
  have S2 := S1.chg (o := .lst (vs ++ [v])) (s' := .ow (xs ++ [x])) h1 rfl rfl e0 ⟨a, _, rfl, q2, q3, upd_same, q5.append (.cons r1 .nil)⟩
  exact k .non .non _ B1 _ f S2 (s1.trans (Ev.called h1 rfl e0 ⟨fun b o n e => by rw [upd_ne n]; exact e, Same.refl _, S2.le, fun b o e => .inl e, fun b n e => by rw [n, upd_same]; exact fun y => nomatch y⟩)) .non
theorem we_extend {i : Nat} {xs0 : List D} {te : TE} {F : D → List SD → Prop} (h0 : ρ[i]? = some (.ow xs0)) (h : WE K te ρ fun x ρ1 => ∃ xs zs, x = .lst zs ∧ ρ1[i]? = some (.ow xs) ∧ xs.length + zs.length ≤ sizeLine ∧ F .non (ρ1.set i (.ow (xs ++ zs)))) :
    WE K (tBM K "list" rExtend (tVar i) (tCons te tNil)) ρ F := fun P B0 H0 B H σ S Q k => by
  obtain ⟨o, e0, a, vs0, rfl, z1, z2, z3, z4⟩ := S.slot h0
  refine ⟨.ref a, e0, .inl ⟨rfl, _, SqL.of z3⟩, ?_⟩
  refine h P B0 H0 B H σ S _ fun v x ρ1 B1 H1 ⟨xs, zs, ex, h1, hl, f⟩ S1 s1 r1 => ?_
  subst ex
  obtain ⟨o1, e1, a1, vs, q1, q2, q3, q4, q5⟩ := S1.slot h1
  rw [e0] at e1; cases e1; cases q1
  cases r1 with
  | lst h2 a2 =>
    refine ⟨a, _, vs, _, rfl, rfl, q4, S1.le _ _ h2, by rw [q5.length, a2.length]; exact hl, ?_⟩
    have S2 := S1.chg (o := .lst (vs ++ _)) (s' := .ow (xs ++ zs)) h1 rfl rfl e0 ⟨a, _, rfl, q2, q3, upd_same, q5.append a2⟩
    exact k .non .non _ B1 _ f S2 (s1.trans (Ev.called h1 rfl e0 ⟨fun b o n e => by rw [upd_ne n]; exact e, Same.refl _, S2.le, fun b o e => .inl e, fun b n e => by rw [n, upd_same]; exact fun y => nomatch y⟩)) .non
theorem seqIndex_nat {j n : Nat} (h : j < n) : seqIndex? (j : Int) n = some j := by
  have e : ixN n (j : Int) = some j := by
    unfold ixN
    rw [if_pos (by omega), if_pos (by omega)]
    simp
  exact (ixN_seq e).1
theorem we_popAt {i : Nat} {xs0 : List D} {te : TE} {F : D → List SD → Prop} (h0 : ρ[i]? = some (.ow xs0)) (h : WE K te ρ fun x ρ1 => ∃ xs j d, x = .int (j : Nat) ∧ ρ1[i]? = some (.ow xs) ∧ xs[j]? = some d ∧ j < 2 ^ 63 ∧ F d (ρ1.set i (.ow (xs.eraseIdx j)))) :
    WE K (tBM K "list" rPopAt (tVar i) (tCons te tNil)) ρ F := fun P B0 H0 B H σ S Q k => by
  obtain ⟨o, e0, a, vs0, rfl, z1, z2, z3, z4⟩ := S.slot h0
  refine ⟨.ref a, e0, .inl ⟨rfl, _, SqL.of z3⟩, ?_⟩
  refine h P B0 H0 B H σ S _ fun v x ρ1 B1 H1 ⟨xs, j, d, ex, h1, hj, hb, f⟩ S1 s1 r1 => ?_
  subst ex
  obtain ⟨o1, e1, a1, vs, q1, q2, q3, q4, q5⟩ := S1.slot h1
  rw [e0] at e1; cases e1; cases q1
  rw [rint r1]
  obtain ⟨u, eu, ru⟩ := q5.get hj
  have hlt : j < vs.length := (List.getElem?_eq_some_iff.mp eu).1
  refine ⟨a, vs, (j : Nat), j, u, rfl, rfl, q4, by omega, by omega, seqIndex_nat hlt, eu, ?_⟩
  have S2 := S1.chg (o := .lst (vs.eraseIdx j)) (s' := .ow (xs.eraseIdx j)) h1 rfl rfl e0 ⟨a, _, rfl, q2, q3, upd_same, q5.eraseIdx j⟩
  exact k u d _ B1 _ f S2 (s1.trans (Ev.called h1 rfl e0 ⟨fun b o n e => by rw [upd_ne n]; exact e, Same.refl _, S2.le, fun b o e => .inl e, fun b n e => by rw [n, upd_same]; exact fun y => nomatch y⟩)) ru
/-- the list has grown: from here on a datum -/
theorem we_still {i : Nat} {xs : List D} {F : D → List SD → Prop} (h0 : ρ[i]? = some (.ow xs)) (q : F (.lst xs) (ρ.set i (.d (.lst xs)))) : WE K (tVar i) ρ F := fun P B0 H0 B H σ S Q k => by
  obtain ⟨o, e0, a, vs0, rfl, z1, z2, z3, z4⟩ := S.slot h0
  obtain ⟨B', S', sb, hb'⟩ := S.still h0
  obtain ⟨v, e1, r⟩ := S'.var (i := i) (x := .lst xs) (List.getElem?_set_self (List.getElem?_eq_some_iff.mp h0).1)
  refine ⟨v, e1, k v _ _ B' H q S' ⟨⟨fun b o n e => e, sb, S'.le, fun c u e => ?_, fun b n e => e⟩, fun j s h m => ?_⟩ r⟩
  · rcases hb' c u e with z | z
    · exact .inl z
    · exact .inr (.inr ⟨i, _, h0, rfl, z⟩)
  · by_cases e : i = j
    · subst e
      obtain ⟨e2, _⟩ := set_same_of h
      rw [e2] at m; cases m
    · rw [get_set_ne e] at h; exact ⟨s, h, m⟩
end
end Lw

set_option Elab.async false
set_option linter.all false
set_option maxRecDepth 100000
set_option maxHeartbeats 4000000
namespace Lw
open PySem PySem.Spec PyProof.Rows L2
/-! ### short rules for a printed derivation -/
section
variable {X : Cx} {pos : Pos}
theorem pe_gstr {x z : Str} (h : ∃ t, X.mg x = some (.str z t)) (hg : Gl X x := by rfl) (hd : (x == ("__debug__" : Str)) = false := by decide) : PE X (.Name x pos) (tC (.str z)) := by
  obtain ⟨t, h⟩ := h
  exact pe_glob hg h ⟨t, rfl⟩ hd
theorem pe_gint {x : Str} {z : Int} (h : ∃ t, X.mg x = some (.int z t)) (hg : Gl X x := by rfl) (hd : (x == ("__debug__" : Str)) = false := by decide) : PE X (.Name x pos) (tC (.int z)) := by
  obtain ⟨t, h⟩ := h
  exact pe_glob hg h ⟨t, rfl⟩ hd
theorem pe_gcls {x : Str} {C : Addr} (h : X.mg x = some (.ref C)) (hg : Gl X x := by rfl) (hd : (x == ("__debug__" : Str)) = false := by decide) : PE X (.Name x pos) (tC (.ref C)) := pe_glob hg h rfl hd
theorem pe_gty {x : Str} (n : String) (h : X.mg x = none) (hv : bootBuiltins x = some (.type n)) (hg : Gl X x := by rfl) (hn : x ≠ "__name__" := by decide) (hd : (x == ("__debug__" : Str)) = false := by decide) : PE X (.Name x pos) (tC (.ty n)) := pe_bltn hg h hv rfl hn hd
/-- targets of a tuple or a list -/
def gSeq (K : Fg) (n : Nat) (t : TGs) : TG := fun v σ H Q => gTup K n t v σ H Q ∨ gUnl K n t v σ H Q
theorem pg_seq {es : List Expr} {k : Nat} {t : TGs} {n : Nat} (hc : X.calm = true) (h : PGs X es t) (hn : (assignEach es X.env).length = n := by rfl) (hst : (assignEach es X.env).findIdx? (·.1) = none := by rfl) : PG X (.Tuple es k pos) (gSeq X.K n t) :=
  ⟨fun pins s σ H v u Q I r q => q.elim (fun q => (pg_tup hc h hn hst).run pins s σ H v u Q I r q) fun q => (pg_unl hc h hn hst).run pins s σ H v u Q I r q⟩
end
section
variable {K : Fg} {ρ : List SD}
theorem wg_seq {n : Nat} {gs : TGs} {x : D} {F : List SD → Prop} (h : ∃ xs, (x = .tup xs ∨ x = .lst xs) ∧ xs.length = n ∧ WGs K gs xs ρ F) : WG K (gSeq K n gs) x ρ F := fun P B0 H0 B H σ v S r Q k => by
  obtain ⟨xs, e, l, w⟩ := h
  rcases e with rfl | rfl
  · exact .inl (wg_tup l w P B0 H0 B H σ v S r Q k)
  · exact .inr (wg_unl l w P B0 H0 B H σ v S r Q k)
theorem gmono_seq {n : Nat} {gs : TGs} (h : GsMono gs) : GMono (gSeq K n gs) := fun v σ H Q Q' f q => q.imp (fun ⟨a, xs, e, s, l, q⟩ => ⟨a, xs, e, s, l, h _ _ _ _ _ f q⟩) fun ⟨a, xs, e, s, l, q⟩ => ⟨a, xs, e, s, l, h _ _ _ _ _ f q⟩
theorem gin_seq {n : Nat} {gs : TGs} {vs : List Nat} (h : GsIn gs vs) : GIn (gSeq K n gs) vs := fun v σ H Q q => q.imp (fun ⟨a, xs, e, s, l, q⟩ => ⟨a, xs, e, s, l, h _ _ _ _ q⟩) fun ⟨a, xs, e, s, l, q⟩ => ⟨a, xs, e, s, l, h _ _ _ _ q⟩
theorem we_ty {n : String} {F : D → List SD → Prop} (q : F (.ty n) ρ) : WE K (tC (.ty n)) ρ F := fun P B0 H0 B H σ S Q k => k _ _ ρ B H q S (Ev.refl S.le) (.ty n)
theorem we_cls {C : Addr} {F : D → List SD → Prop} (q : F (.cls C) ρ) : WE K (tC (.ref C)) ρ F := fun P B0 H0 B H σ S Q k => k _ _ ρ B H q S (Ev.refl S.le) (.cls C)
end
end Lw
namespace Lw
open PySem PySem.Spec PyProof.Rows L2
/-- the facts of a class's instances, to be looked at -/
def insB (K : Fg) (C : Addr) : Bool :=
  PySem.W.plainGet K C Str.empty && (PySem.W.hasDictIn K C && (PySem.W.plainOver K C && (He.eqO (PySem.W.findIn K (.ref C) "__setattr__") (some (some (.builtin "object.__setattr__"))) &&
  (He.eqO (PySem.W.findIn K (.ref C) "__class__") (some (some (.builtin "object.__class__"))) && (He.eqO (PySem.W.specialIn K (.builtin "object.__class__") "__get__") (some (some (.builtin "getset_descriptor.__get__"))) &&
  (decide (PySem.W.takesIn K (.builtin "object.__class__") = some true) && (decide (PySem.W.mroIn K C (.type "object") = some true) && decide (PySem.W.kitOne K (.ref C) (.ref C) = some true))))))))
theorem ins_of {K : Fg} {C : Addr} (h : insB K C = true) : InsOk K C ∧ PySem.W.kitOne K (.ref C) (.ref C) = some true := by
  unfold insB at h
  simp only [Bool.and_eq_true, decide_eq_true_eq] at h
  obtain ⟨a, b, c, d, e, f, g, i, j⟩ := h
  exact ⟨⟨⟨a, b, c, He.eqO_ok d⟩, He.eqO_ok e, He.eqO_ok f, g, i⟩, j⟩
end Lw

set_option Elab.async false
set_option linter.all false
set_option maxRecDepth 100000
set_option maxHeartbeats 4000000
namespace Lw
open PySem PySem.Spec PyProof.Rows L2
/-! ### promises of methods, properties, classes that are made -/
def Met (P : Program) (w : World) (K : Fg) (mg : Str → Option Value) (base : Heap) (C : Addr) (m : Str) (k : Nat) (ps : List Str) (sp : Sp) : Prop :=
  ∃ f fd, Cls K C ∧ Meth K C m f ∧ Binds K fd ps [] ∧ FnOk P w K mg base CX0 k f fd ps sp
def Prp (P : Program) (w : World) (K : Fg) (mg : Str → Option Value) (base : Heap) (C : Addr) (m : Str) (k : Nat) (ps : List Str) (sp : Sp) : Prop :=
  ∃ p g fd, Cls K C ∧ PropOf K C m p g ∧ Binds K fd ps [] ∧ FnOk P w K mg base CX0 k g fd ps sp
def Mak (P : Program) (w : World) (K : Fg) (mg : Str → Option Value) (base : Heap) (x : Str) (C : Addr) (k : Nat) (ps : List Str) (sp : Sp) : Prop :=
  ∃ f fd, mg x = some (.ref C) ∧ Mk K C f ∧ Binds K fd ps [] ∧ FnOk P w K mg base CX0 k f fd ps sp
section
variable {X : Cx} {x m : Str} {C : Addr} {k : Nat} {ps : List Str} {sp : Sp} {e o : Expr} {es : List Expr} {t : TA} {ta : TE} {p pos apos : Pos}
theorem pe_propF (G : Prp X.prog X.w X.K X.mg X.base C m k ps sp) (hr : Room (k + 1) X.A) (he : PE X e ta) (hab : attributeBase e m X.env (eval e X.env) = eval e X.env := by rfl) : PE X (.Attribute e m pos) (tProp C sp [] E0 ta) := by
  obtain ⟨p, g, fd, c, hp, hb, F⟩ := G
  exact pe_prop he c hp F hr hb .nil pass0 hab
theorem pe_methF {pl : Sem Bool} (G : Met X.prog X.w X.K X.mg X.base C m k ps sp) (hr : Room k X.A) (he : PE X o ta) (ha : PA X (e :: es) t)
    (hst : starEach (e :: es) X.env = (false, eval e X.env) :: starEach es X.env := by rfl) (hpl : (backTo pos (starEach es X.env)).any (·.1) = false := by rfl)
    (ht : eval (.Call (.Attribute o m apos) (e :: es) [] pos) X.env = (do
      let ov ← eval o X.env
      standAt apos.atName
      let (f, first) ← holding [ov] (getMethod ov m pl)
      callWith pos f first (backTo pos (starEach (e :: es) X.env)) (backToKw pos (keywordEach [] X.env))) := by rfl) :
    PE X (.Call (.Attribute o m apos) (e :: es) [] pos) (tMeth C m sp [] E0 ta t) := by
  obtain ⟨f, fd, c, hm, hb, F⟩ := G
  exact pe_meth (pl := pl) he c hm F hr hb .nil pass0 ha hst hpl ht
theorem pe_methF0 {pl : Sem Bool} (G : Met X.prog X.w X.K X.mg X.base C m k ps sp) (hr : Room k X.A) (he : PE X o ta)
    (ht : eval (.Call (.Attribute o m apos) [] [] pos) X.env = (do
      let ov ← eval o X.env
      standAt apos.atName
      let (f, first) ← holding [ov] (getMethod ov m pl)
      callWith pos f first (backTo pos (starEach [] X.env)) (backToKw pos (keywordEach [] X.env))) := by rfl) :
    PE X (.Call (.Attribute o m apos) [] [] pos) (tMeth C m sp [] E0 ta tNil) := by
  obtain ⟨f, fd, c, hm, hb, F⟩ := G
  exact pe_meth0 (pl := pl) he c hm F hr hb .nil pass0 ht
theorem pe_makeF (G : Mak X.prog X.w X.K X.mg X.base x C k ps sp) (hr : Room (k + 1) X.A) (ha : PA X (e :: es) t) (hg : Gl X x := by rfl) (hdb : (x == ("__debug__" : Str)) = false := by decide)
    (he : starEach (e :: es) X.env = (false, eval e X.env) :: starEach es X.env := by rfl) (hpl : (backTo pos (starEach es X.env)).any (·.1) = false := by rfl) : PE X (.Call (.Name x p) (e :: es) [] pos) (tMake C sp [] E0 t) := by
  obtain ⟨f, fd, hm, M, hb, F⟩ := G
  exact pe_make M F hr hg hm hb .nil pass0 ha hdb he hpl
end
/-! ### a body whose first slot may change -/
def rhoM (N : List Str) (s : SD) (ds : List D) : List SD := s :: (ds.map .d ++ List.replicate (N.length - (ds.length + 1)) .un)
section
variable {P : Program} {w : World} {K : Fg} {mg : Str → Option Value} {base : Heap}
theorem rhoM_get {N : List Str} {s0 : SD} {ds : List D} {i : Nat} {s : SD} (h : (rhoM N s0 ds)[i]? = some s) : (i = 0 ∧ s = s0) ∨ (∃ j d, i = j + 1 ∧ ds[j]? = some d ∧ s = .d d) ∨ s = .un := by
  unfold rhoM at h
  cases i with
  | zero => left; exact ⟨rfl, (Option.some.inj (by simpa using h)).symm⟩
  | succ j =>
    right
    rw [List.getElem?_cons_succ] at h
    by_cases hi : j < ds.length
    · rw [List.getElem?_append_left (by simpa using hi), List.getElem?_map] at h
      left
      cases e : ds[j]? with
      | none => rw [e] at h; cases h
      | some d => rw [e] at h; exact ⟨j, d, rfl, e, (Option.some.inj h).symm⟩
    · rw [List.getElem?_append_right (by simpa using hi), List.getElem?_replicate] at h
      right
      split at h
      · exact (Option.some.inj h).symm
      · cases h
theorem st_startM {N : List Str} {B H : Hp} {a : Addr} {s0 : SD} {vs : List V} {ds : List D} (s : Same B H) (hz : Sl K (One a) H B H (some (.ref a)) s0) (r : RA K B vs ds) (hl : ds.length + 1 ≤ N.length) : ST K (One a) B H (rhoM N s0 ds) B H (start N (.ref a :: vs)) where
  len := by
    rw [start_len (by simp only [List.length_cons]; rw [r.length]; exact hl)]
    unfold rhoM; simp; omega
  gr := Gr.refl s
  sl := fun i z h => by
    rcases rhoM_get h with ⟨rfl, rfl⟩ | ⟨j, d, rfl, e, rfl⟩ | rfl
    · exact hz
    · obtain ⟨v, e1, r1⟩ := r.get e
      refine ⟨v, ?_, r1⟩
      rw [start_get, if_pos (by simpa using (List.getElem?_eq_some_iff.mp e1).1), List.getElem?_cons_succ, e1]
      rfl
    · trivial
  dis := fun i j s t h1 h2 m1 m2 _ => by
    have q : ∀ {l : Nat} {u : SD}, (rhoM N s0 ds)[l]? = some u → u.mu = true → l = 0 := fun {l u} h m1 => by
      rcases rhoM_get h with ⟨z, _⟩ | ⟨_, _, _, _, z⟩ | z
      · exact z
      · subst z; cases m1
      · subst z; cases m1
    rw [q h1 m1, q h2 m2]
/-- a def that draws, its pot looked into as a list of three -/
theorem fn_potO {name qual : Str} {params : Arguments} {body : List Stmt} {scope : Scope} {f : Addr} {fd : FuncData} {N ps : List Str} {k n c : Nat} {S : List D → (D → Prop) → Prop}
    (F : FunD K name qual params body scope [] [] f fd) (sc : FnScope N ps scope) (hn : n + 1 = ps.length) (hN : n + 1 ≤ N.length)
    (hb : ∀ (cdv : Value) (A : Around) (outer : List Env) (s : Shared) (H : Hp) (E : XK), Room k (A.deeper (envOfC qual scope s.heap.objs.size f cdv)) →
      ∃ t, PSs (cxOf CX0 P w K mg base N qual scope f cdv A outer s H E).nox body t ∧ ∀ (m : Nat) (x y z : Int) ds G, m + c ≤ LIM → 0 ≤ x → 0 ≤ y → y < 2305843009213693951 → 0 ≤ z → z ≤ m → ds.length = n → S ds G →
        WS K t (rhoM N (.pl [.int x, .int y, .int z]) ds) { nx := fun _ => False, rt := fun d ρ => G d ∧ ∃ x' y' z' : Int, ρ[0]? = some (.pl [.int x', .int y', .int z']) ∧ 0 ≤ x' ∧ 0 ≤ y' ∧ y' < 2305843009213693951 ∧ 0 ≤ z' ∧ z' ≤ (m + c : Nat) }) :
    FnOk P w K mg base CX0 (k + 1) f fd ps (potSp K n c S) := by
  refine F.ok sc (fun vs H Q E h => ?_) (fun cdv A outer s H vs Q E hr h => ?_)
  · obtain ⟨a, ws, B, ds, G, m, rfl, h1, h2, h3, h4, h5, h6, _⟩ := h
    rw [List.length_cons, h5.length, h6, hn]
  · obtain ⟨t, hp, hw⟩ := hb cdv A outer s H E hr
    refine ⟨t, hp.nox, ?_⟩
    obtain ⟨a, ws, B, ds, G, m, rfl, h1, h2, ⟨x, y, z, g1, g2, g3, g4, g5, g6⟩, h4, h5, h6, h7, h8⟩ := h
    refine hw m x y z ds G h4 g2 g3 g4 g5 g6 h6 h7 (One a) B H B H (start N (.ref a :: ws)) (st_startM h1 ⟨a, _, rfl, rfl, h2, g1, .cons (.int _) (.cons (.int _) (.cons (.int _) .nil))⟩ h5 (by rw [h6]; exact hN)) _ (fun _ _ _ _ z => z.elim) (fun v d ρ' B' H' σ' f S' s' r => ?_) (fun _ _ _ _ z => z.elim) (fun _ _ _ _ z => z.elim)
    obtain ⟨f1, x', y', z', e0, k2, k3, k4, k5, k6⟩ := f
    obtain ⟨o, e1, a', vs, e3, e4, e5, e6, e7⟩ := S'.slot e0
    cases e4
    refine h8 _ _ _ _ f1 S'.gr e5 ⟨x', y', z', ?_, k2, k3, k4, k5, k6⟩ r
    rw [e6, RA.ints (ns := [x', y', z']) e7]
    rfl
/-- __init__ of an instance: S tells, of the data of the arguments, what may be wanted of the attributes that it leaves -/
def initSp (K : Fg) (C : Addr) (n : Nat) (S : List D → (List (Str × D) → Prop) → Prop) : Sp := fun vs H Q _ =>
  ∃ a dx ws B ds F, vs = .ref a :: ws ∧ Same B H ∧ B a = none ∧ H a = some (.ins C dx []) ∧ RA K B ws ds ∧ ds.length = n ∧ S ds F ∧
    ∀ fs vf B' H', F fs → Gr (One a) B H B' H' → B' a = none → H' a = some (.ins C dx vf) → RF K B' vf fs → Q .non H'
theorem fn_init {name qual : Str} {params : Arguments} {body : List Stmt} {scope : Scope} {f : Addr} {fd : FuncData} {N ps : List Str} {k n : Nat} {C : Addr} {S : List D → (List (Str × D) → Prop) → Prop}
    (F : FunD K name qual params body scope [] [] f fd) (sc : FnScope N ps scope) (hn : n + 1 = ps.length) (hN : n + 1 ≤ N.length)
    (hb : ∀ (cdv : Value) (A : Around) (outer : List Env) (s : Shared) (H : Hp) (E : XK), Room k (A.deeper (envOfC qual scope s.heap.objs.size f cdv)) →
      ∃ t, PSs (cxOf CX0 P w K mg base N qual scope f cdv A outer s H E).nox body t ∧ ∀ dx ds G, ds.length = n → S ds G →
        WS K t (rhoM N (.ins C dx []) ds) { nx := fun ρ => ∃ fs, ρ[0]? = some (.ins C dx fs) ∧ G fs, rt := fun _ _ => False }) :
    FnOk P w K mg base CX0 (k + 1) f fd ps (initSp K C n S) := by
  refine F.ok sc (fun vs H Q E h => ?_) (fun cdv A outer s H vs Q E hr h => ?_)
  · obtain ⟨a, dx, ws, B, ds, G, rfl, h1, h2, h3, h5, h6, _⟩ := h
    rw [List.length_cons, h5.length, h6, hn]
  · obtain ⟨t, hp, hw⟩ := hb cdv A outer s H E hr
    refine ⟨t, hp.nox, ?_⟩
    obtain ⟨a, dx, ws, B, ds, G, rfl, h1, h2, h3, h5, h6, h7, h8⟩ := h
    refine hw dx ds G h6 h7 (One a) B H B H (start N (.ref a :: ws)) (st_startM h1 ⟨a, [], rfl, rfl, h2, h3, .nil⟩ h5 (by rw [h6]; exact hN)) _ (fun ρ' B' H' σ' f S' s' => ?_) (fun _ _ _ _ _ _ z => z.elim) (fun _ _ _ _ z => z.elim) (fun _ _ _ _ z => z.elim)
    obtain ⟨fs, e0, g⟩ := f
    obtain ⟨o, e1, a', vf, e3, e4, e5, e6, e7⟩ := S'.slot e0
    cases e4
    exact h8 fs vf B' H' g S'.gr e5 e6 e7
end
/-! ### made instances -/
section
variable {K : Fg} {ρ : List SD}
theorem we_make {C : Addr} {n : Nat} {S : List D → (List (Str × D) → Prop) → Prop} {t : TA} {F : D → List SD → Prop} (h : WA K t ρ fun ds ρ1 => ds.length = n ∧ S ds fun fs => F (.obj C fs) ρ1) : WE K (tMake C (initSp K C n S) [] E0 t) ρ F :=
  fun P B0 H0 B H σ Z Q k => h P B0 H0 B H σ Z _ fun vs ds ρ1 B1 H1 ⟨l, f⟩ S1 s1 r1 => by
    intro x dx hx hdx hne
    have b1 : B1 x = none := S1.bfree hx
    have b2 : B1 dx = none := S1.bfree hdx
    have S2 := S1.new (.own x) hdx
    have bx : upd B1 dx (.own x) x = none := by rw [upd_ne (Ne.symm hne)]; exact b1
    have hx2 : upd H1 dx (.own x) x = none := by rw [upd_ne (Ne.symm hne)]; exact hx
    have le2 : Same (upd B1 dx (.own x)) (upd (upd H1 dx (.own x)) x (.ins C dx [])) := fun c u e => by
      rw [upd_ne (ne_of_none e bx)]; exact S2.le c u e
    refine ⟨x, dx, vs, upd B1 dx (.own x), ds, _, by rw [List.append_nil], le2, bx, upd_same, r1.mono (same_new b2), l, f, fun fs vf B' H' g gr hb' hh rf => ⟨rfl, ?_⟩⟩
    have sb : Same B' (upd B' x (.ins C dx vf)) := same_new hb'
    -- the whole, with the instance told
    have G3 : Gr Non (upd B1 dx (.own x)) (upd H1 dx (.own x)) (upd B' x (.ins C dx vf)) H' := {
      hh := fun c o _ e => by
        have ne : c ≠ x := fun z => by subst z; rw [hx2] at e; cases e
        exact gr.hh c o ne (by rw [upd_ne ne]; exact e)
      bb := gr.bb.trans sb
      le := fun c u e => by
        by_cases z : c = x
        · subst z; rw [upd_same] at e; rw [hh]; exact e
        · rw [upd_ne z] at e; exact gr.le c u e
      fr := fun c o e => by
        by_cases z : c = x
        · subst z; exact .inr (.inl hx2)
        · rw [upd_ne z] at e
          rcases gr.fr c o e with q | q | q
          · exact .inl q
          · rw [upd_ne z] at q; exact .inr (.inl q)
          · exact absurd q z
      pt := fun c z => z.elim }
    exact k (.ref x) (.obj C fs) ρ1 _ H' g (S2.step G3) ((s1.trans (Ev.new S1.le hdx)).trans (Ev.pure G3)) (.obj upd_same (rf.mono sb))
theorem RF.length {B : Hp} : ∀ {vs : List (Str × V)} {ds : List (Str × D)}, RF K B vs ds → vs.length = ds.length
  | _, _, .nil => rfl
  | _, _, .cons _ q => by simp [RF.length q]
theorem RF.put {B : Hp} {f : Str} {v : V} {d : D} (hv : R K B v d) : ∀ {vs : List (Str × V)} {ds : List (Str × D)}, RF K B vs ds → ds.lookup f = none → RF K B (putF f v vs) (ds ++ [(f, d)])
  | _, _, .nil, e => .cons hv .nil
  | _, _, .cons (k := k') (v := v') (d := d') (vs := vs) (ds := ds) h q, e => by
    rw [List.lookup_cons] at e
    by_cases z : (f == k') = true
    · rw [z] at e; cases e
    · have z' : (f == k') = false := by simpa using z
      rw [z'] at e
      have ne : ¬ k' = f := fun y => z (by rw [y]; simp)
      show RF K B (if k' = f then (k', v) :: vs else (k', v') :: putF f v vs) _
      rw [if_neg ne]
      exact .cons h (RF.put hv q e)
/-- self.f = .. within __init__ -/
theorem ws_fld {i : Nat} {C dx : Addr} {fs0 : List (Str × D)} {f : Str} {tv : TE} {E : Out} (h0 : ρ[i]? = some (.ins C dx fs0)) (c : Cls K C) (n : NoAttr K C f)
    (h : WE K tv ρ fun x ρ1 => ∃ fs, ρ1[i]? = some (.ins C dx fs) ∧ fs.length < 1000 ∧ fs.lookup f = none ∧ E.nx (ρ1.set i (.ins C dx (fs ++ [(f, x)])))) : WS K (sFld K (tVar i) tv f) ρ E :=
  fun P B0 H0 B H σ S D k1 k2 k3 k4 => h P B0 H0 B H σ S _ fun v x ρ1 B1 H1 ⟨fs, h1, hl, hn, q⟩ S1 s1 r1 => by
    obtain ⟨o, e0, a, vf, rfl, z1, z2, z3, z4⟩ := S1.slot h1
    refine ⟨.ref a, e0, a, C, dx, vf, rfl, z3, c, n, by rw [RF.length z4]; exact hl, ?_⟩
    have S2 := S1.chg (o := .ins C dx (putF f v vf)) (s' := .ins C dx (fs ++ [(f, x)])) h1 rfl rfl e0 ⟨a, _, rfl, z1, z2, upd_same, RF.put r1 z4 hn⟩
    exact k1 _ B1 _ _ q S2 s1.bb
/-! ### a list that still grows, looked into -/
/-- what is held at the slot i: a list -/
def Own (s : SD) (xs : List D) : Prop := s = .ow xs ∨ s = .pl xs
theorem ST.peek {P : Addr → Prop} {B0 H0 B H : Hp} {σ : L2.St} (S : ST K P B0 H0 ρ B H σ) {i : Nat} {s : SD} {xs : List D} (h : ρ[i]? = some s) (o : Own s xs) : ∃ p vs, σ[i]? = some (some (.ref p)) ∧ B p = none ∧ H p = some (.lst vs) ∧ RA K B vs xs := by
  obtain ⟨o1, e1, z⟩ := S.slot h
  rcases o with rfl | rfl
  · obtain ⟨a, vs, rfl, _, z2, z3, z4⟩ := z
    exact ⟨a, vs, e1, z2, z3, z4⟩
  · obtain ⟨a, vs, rfl, _, z2, z3, z4⟩ := z
    exact ⟨a, vs, e1, z2, z3, z4⟩
theorem rflat' {B B' : Hp} {v : V} {x : D} (h : R K B v x) (f : x.flat = true) : R K B' v x := by
  cases h <;> first | exact .non | exact .bl _ | exact .int _ | exact .str _ | cases f
/-- what changes nothing, and hands out nothing but a flat datum, may look into a list that grows -/
theorem peekG {B H B3 H3 : Hp} {p : Addr} {vs : List V} (hb : B p = none) (hh : H p = some (.lst vs)) (le : Same B H) (g : Gr Non (upd B p (.lst vs)) H B3 H3) : Gr Non B H B H3 where
  hh := g.hh
  bb := Same.refl _
  le := le.trans g.same
  fr := fun b o e => .inl e
  pt := fun b z => z.elim
theorem peekLe {B H : Hp} {p : Addr} {vs : List V} (hb : B p = none) (hh : H p = some (.lst vs)) (le : Same B H) : Same (upd B p (.lst vs)) H := fun c u e => by
  by_cases z : c = p
  · subst z; rw [upd_same] at e; rw [hh]; exact e
  · rw [upd_ne z] at e; exact le c u e
/-- x op (the list at i) -/
theorem we_opR {i : Nat} {r : R2} {ta : TE} {F : D → List SD → Prop} (h : WE K ta ρ fun x ρ1 => ∃ s xs, ρ1[i]? = some s ∧ Own s xs ∧ OpD K r x (.lst xs) fun d => d.flat = true ∧ F d ρ1) : WE K (tOp r ta (tVar i)) ρ F :=
  fun P B0 H0 B H σ S Q k => h P B0 H0 B H σ S _ fun v x ρ1 B1 H1 ⟨s, xs, h1, o, q⟩ S1 s1 r1 => by
    obtain ⟨p, vs, e, hb, hh, ra⟩ := S1.peek h1 o
    refine ⟨.ref p, e, q (upd B1 p (.lst vs)) H1 v (.ref p) (peekLe hb hh S1.le) (r1.mono (same_new hb)) (.lst upd_same (ra.mono (same_new hb))) Q fun w d B3 H3 f g r3 => ?_⟩
    have g' := peekG hb hh S1.le g
    exact k w d ρ1 B1 H3 f.2 (S1.step g') (s1.trans (Ev.pure g')) (rflat' r3 f.1)
/-- (the list at i) op y -/
theorem we_opL {i : Nat} {r : R2} {tb : TE} {s0 : SD} {xs0 : List D} {F : D → List SD → Prop} (h0 : ρ[i]? = some s0) (o0 : Own s0 xs0) (h : WE K tb ρ fun y ρ1 => ∃ s xs, ρ1[i]? = some s ∧ Own s xs ∧ OpD K r (.lst xs) y fun d => d.flat = true ∧ F d ρ1) : WE K (tOp r (tVar i) tb) ρ F :=
  fun P B0 H0 B H σ S Q k => by
    obtain ⟨p0, vs0, e0, _⟩ := S.peek h0 o0
    refine ⟨.ref p0, e0, h P B0 H0 B H σ S _ fun v x ρ1 B1 H1 ⟨s, xs, h1, o, q⟩ S1 s1 r1 => ?_⟩
    obtain ⟨p, vs, e, hb, hh, ra⟩ := S1.peek h1 o
    rw [e0] at e; cases e
    refine q (upd B1 p0 (.lst vs)) H1 (.ref p0) v (peekLe hb hh S1.le) (.lst upd_same (ra.mono (same_new hb))) (r1.mono (same_new hb)) Q fun w d B3 H3 f g r3 => ?_
    have g' := peekG hb hh S1.le g
    exact k w d ρ1 B1 H3 f.2 (S1.step g') (s1.trans (Ev.pure g')) (rflat' r3 f.1)
/-- f(the list at i) of a built-in -/
theorem we_cbO {i : Nat} {r : List V → Hp → VK → Prop} {s : SD} {xs : List D} {F : D → List SD → Prop} (h1 : ρ[i]? = some s) (o : Own s xs) (h : CallD K r [.lst xs] fun d => d.flat = true ∧ F d ρ) : WE K (tCB r (tCons (tVar i) tNil)) ρ F :=
  fun P B0 H0 B H σ S1 Q k => by
    obtain ⟨p, vs, e, hb, hh, ra⟩ := S1.peek h1 o
    refine ⟨.ref p, e, h (upd B p (.lst vs)) H [.ref p] (peekLe hb hh S1.le) (.cons (.lst upd_same (ra.mono (same_new hb))) .nil) Q fun w d B3 H3 f g r3 => ?_⟩
    have g' := peekG hb hh S1.le g
    exact k w d ρ B H3 f.2 (S1.step g') (Ev.pure g') (rflat' r3 f.1)
theorem we_lenO {i : Nat} {s : SD} {xs : List D} {F : D → List SD → Prop} (h1 : ρ[i]? = some s) (o : Own s xs) (q : F (.int xs.length) ρ) : WE K (tCB (rLenA K) (tCons (tVar i) tNil)) ρ F :=
  we_cbO h1 o (cd_len (x := .lst xs) ⟨rfl, q⟩)
/-- f(the list at i, ..) of a def that changes nothing -/
theorem we_callO {i n : Nat} {S : List D → (D → Prop) → Prop} {t : TA} {s0 : SD} {xs0 : List D} {F : D → List SD → Prop} (h0 : ρ[i]? = some s0) (o0 : Own s0 xs0)
    (h : WA K t ρ fun ds ρ1 => ∃ s xs, ρ1[i]? = some s ∧ Own s xs ∧ ds.length + 1 = n ∧ S (.lst xs :: ds) fun d => d.flat = true ∧ F d ρ1) : WE K (tCall (pureSp K n S) [] E0 (tCons (tVar i) t)) ρ F :=
  fun P B0 H0 B H σ Z Q k => by
    obtain ⟨p0, vs0, e0, _⟩ := Z.peek h0 o0
    refine ⟨.ref p0, e0, h P B0 H0 B H σ Z _ fun us ds ρ1 B1 H1 ⟨s, xs, h1, o, l, q⟩ S1 s1 r1 => ?_⟩
    obtain ⟨p, vs, e, hb, hh, ra⟩ := S1.peek h1 o
    rw [e0] at e; cases e
    have z : us.append [] = us := List.append_nil us
    have ra' : RA K (upd B1 p0 (.lst vs)) (us.append []) ds := by rw [z]; exact r1.mono (same_new hb)
    refine ⟨upd B1 p0 (.lst vs), .lst xs :: ds, _, peekLe hb hh S1.le, .cons (.lst upd_same (ra.mono (same_new hb))) ra', l, q, fun w d B3 H3 f g r3 => ?_⟩
    have g' := peekG hb hh S1.le g
    exact k w d ρ1 B1 H3 f.2 (S1.step g') (s1.trans (Ev.pure g')) (rflat' r3 f.1)
/-- (the list at i)[y], flat -/
theorem we_ixO {i : Nat} {tb : TE} {s0 : SD} {xs0 : List D} {F : D → List SD → Prop} (h0 : ρ[i]? = some s0) (o0 : Own s0 xs0) (h : WE K tb ρ fun y ρ1 => ∃ s xs j d, ρ1[i]? = some s ∧ Own s xs ∧ y = .int j ∧ atI xs j = some d ∧ d.flat = true ∧ F d ρ1) : WE K (tOp (rIxA K) (tVar i) tb) ρ F :=
  we_opL h0 o0 (h.mono fun y ρ1 ⟨s, xs, j, d, h1, o, e, a, f, q⟩ => ⟨s, xs, h1, o, by subst e; exact opd_ix (x := .lst xs) ⟨xs, j, d, rfl, rfl, a, f, q⟩⟩)
/-- (the list at i)[y] = x -/
theorem wg_setO {i : Nat} {ti : TE} {x : D} {s0 : SD} {xs0 : List D} {F : List SD → Prop} (h0 : ρ[i]? = some s0) (o0 : Own s0 xs0) (E : Out) (hE : E.nx = F) {te : TE}
    (h : WE K te ρ fun x ρ1 => WE K ti ρ1 fun y ρ2 => ∃ xs j n, ρ2[i]? = some (.pl xs) ∧ y = .int j ∧ ixN xs.length j = some n ∧ F (ρ2.set i (.pl (xs.set n x)))) : WS K (tAsg te (gSub (tVar i) ti rSetL)) ρ E :=
  fun P B0 H0 B H σ S D k1 k2 k3 k4 => h P B0 H0 B H σ S _ fun v x ρ1 B1 H1 h1 S1 s1 r1 => by
    obtain ⟨p0, vs0, e0, _⟩ := S.peek h0 o0
    refine ⟨.ref p0, e0, h1 P B0 H0 B1 H1 σ S1 _ fun u y ρ2 B2 H2 ⟨xs, j, n, h2, e2, hn, q⟩ S2 s2 r2 => ?_⟩
    subst e2
    obtain ⟨o, e3, a, vs, q1, q2, q3, q4, q5⟩ := S2.slot h2
    rw [e0] at e3; cases e3; cases q1
    rw [rint r2]
    refine ⟨p0, vs, j, n, rfl, rfl, q4, by rw [q5.length]; exact hn, ?_⟩
    have S3 := S2.chg (o := .lst (vs.set n v)) (s' := .pl (xs.set n x)) h2 rfl rfl e0 ⟨p0, _, rfl, q2, q3, upd_same, RA.set (r1.mono s2.bb) n q5⟩
    exact k1 _ B2 _ _ (by rw [hE]; exact q) S3 (s1.bb.trans s2.bb)
/-! ### join, split -/
theorem RA.strs' {B : Hp} {vs : List V} {ds : List D} {ns : List Str} (h : RA K B vs ds) (e : ds = ns.map D.str) : vs = ns.map V.str := by
  subst e
  exact RA.strs h
theorem we_join {to te : TE} {F : D → List SD → Prop} (h : WE K to ρ fun x ρ1 => ∃ a, x = .str a ∧ WE K te ρ1 fun y ρ2 => ∃ ys : List Str, (y = .lst (ys.map D.str) ∨ y = .tup (ys.map D.str)) ∧ (ys.map (·.length)).sum + ys.length * a.length ≤ 16777216 ∧ F (.str (Txt.join a ys)) ρ2) :
    WE K (tM1 (fun x xs H Q => ∃ a p, ∃ ys : List Str, x = .str a ∧ xs = [.ref p] ∧ (SqL K H p (ys.map V.str) ∨ SqT K H p (ys.map V.str)) ∧
      (ys.map (·.length)).sum + ys.length * a.length ≤ 16777216 ∧ Q (.str (Txt.join a ys)) H) to te) ρ F :=
  fun P B0 H0 B H σ S Q k => h P B0 H0 B H σ S _ fun v x ρ1 B1 H1 ⟨a, e, h1⟩ S1 s1 r1 => by
    subst e
    rw [rstr r1]
    refine ⟨⟨a, rfl⟩, h1 P B0 H0 B1 H1 σ S1 _ fun u y ρ2 B2 H2 ⟨ys, e, hl, f⟩ S2 s2 r2 => ?_⟩
    rcases e with rfl | rfl
    · cases r2 with
      | lst h2 a2 =>
        rw [RA.strs a2] at h2
        exact ⟨a, _, ys, rfl, rfl, .inl (SqL.of (S2.le _ _ h2)), hl, k _ _ ρ2 B2 H2 f S2 (s1.trans s2) (.str _)⟩
    · cases r2 with
      | tup h2 a2 =>
        rw [RA.strs a2] at h2
        exact ⟨a, _, ys, rfl, rfl, .inr (same_t S2.le h2), hl, k _ _ ρ2 B2 H2 f S2 (s1.trans s2) (.str _)⟩
theorem strs_ra {B : Hp} : ∀ (ys : List Str), RA K B (ys.map V.str) (ys.map D.str)
  | [] => .nil
  | _ :: ys => .cons (.str _) (strs_ra ys)
theorem we_split {to te : TE} {F : D → List SD → Prop} (h : WE K to ρ fun x ρ1 => ∃ a, x = .str a ∧ WE K te ρ1 fun y ρ2 => ∃ b, y = .str b ∧ (b.length == 0) = false ∧ a.length + 2 ≤ sizeLine ∧ F (.lst ((Txt.split a b).map D.str)) ρ2) :
    WE K (tM1 (fun x xs H Q => ∃ a b, x = .str a ∧ xs = [.str b] ∧ (b.length == 0) = false ∧ a.length + 2 ≤ sizeLine ∧ rNewStrs (Txt.split a b) H Q) to te) ρ F :=
  fun P B0 H0 B H σ S Q k => h P B0 H0 B H σ S _ fun v x ρ1 B1 H1 ⟨a, e1, h1⟩ S1 s1 r1 => by
    subst e1
    rw [rstr r1]
    refine ⟨⟨a, rfl⟩, h1 P B0 H0 B1 H1 σ S1 _ fun u y ρ2 B2 H2 ⟨b, e2, c1, c2, f⟩ S2 s2 r2 => ?_⟩
    · subst e2
      rw [rstr r2]
      refine ⟨a, b, rfl, rfl, c1, c2, fun p hp => ?_⟩
      have hb := S2.bfree hp
      exact k _ _ ρ2 (upd B2 p _) _ f (S2.new _ hp) ((s1.trans s2).trans (Ev.new S2.le hp)) (.lst upd_same (strs_ra _))
end
theorem room65 {k : Nat} {A : Around} (r : Room k A) : A.units + 65 < cLine := by
  have := r.un
  omega
end Lw

set_option Elab.async false
set_option linter.all false
set_option maxRecDepth 100000
set_option maxHeartbeats 4000000
namespace Lz
open PySem PySem.Spec PyProof.Rows L2
section
variable {prog : Program} {w : World} {A : Around} {E : Value → Shared → Prop} {s : Shared}
theorem zt_item {zz tI tO T j1 j2 m1 m2 : Addr} {f : Bool} {oT : Obj} {k1 k2 : Nat} {us ws : Array Value} {x y : Value} {Q : Value → Shared → Prop} (D : ZipApart zz tI tO j1 j2 m1 m2)
    (gz : IsZipHeld s.heap zz tI tO T f) (gT : s.heap.get? T = some oT) (gI : IsPair s.heap tI (.ref j1) (.ref j2))
    (g1 : s.heap.IsTupleIter j1 m1 k1) (g2 : s.heap.IsTupleIter j2 m2 k2) (gm1 : s.heap.IsTuple m1 us) (gm2 : s.heap.IsTuple m2 ws) (gx : us[k1]? = some x) (gy : ws[k2]? = some y)
    (gQ : ∀ h', IsZipHeld h' zz tI tO T true → h'.IsTupleIter j1 m1 (k1 + 1) → h'.IsTupleIter j2 m2 (k2 + 1) → IsPair h' s.heap.objs.size x y → h'.objs.size = s.heap.objs.size + 1 →
      (∀ c o, c ≠ zz → c ≠ j1 → c ≠ j2 → s.heap.get? c = some o → h'.get? c = some o) → Q (.ref s.heap.objs.size) { s with heap := h' }) :
    wpAny (model prog w) A (Builtin.«zip.__next__» ⟨[.ref zz], []⟩) (fun fin s' => ∃ v, fin = .done (.ret v) ∧ Q v s') E s := by
  show wpAny _ _ (field (.ref zz) 2 >>= _) _ _ _
  refine wpAny_bind (wpAny_field gz rfl (x := .bool false) rfl ?_)
  show wpAny _ _ (field (.ref zz) 3 >>= _) _ _ _
  refine wpAny_bind (wpAny_field gz rfl (x := .ref tI) rfl ?_)
  refine wpAny_bind (wpAny_seqItems gI rfl ?_)
  show wpAny _ _ (Builtin.SmallTypes.ownedTupleIsFree (.ref zz) >>= _) _ _ _
  refine wpAny_bind (wpAny_tupleHeld_zip gz gT fun k1h gz1 gs1 => ?_)
  simp only [Bool.false_eq_true, if_false]
  refine wpAny_bind ?_
  rw [← Array.forIn_toList]; simp only [List.forIn_nil, List.forIn_cons]
  refine wpAny_bind (wpAny_bind (wpAny_holding ?_))
  show wpAny _ _ (Builtin.SmallTypes.nextOf (.ref j1) >>= _) _ _ _
  refine wpAny_bind (RZ.nextOf_tuple_item (s := { s with heap := k1h }) (g1.extBut gs1.extBut D.i1z) (gm1.extBut gs1.extBut D.l1z) gx fun k2h g12 gs2 => wpAny_pure ?_)
  refine wpAny_pure ?_
  refine wpAny_bind (wpAny_bind (wpAny_holding ?_))
  show wpAny _ _ (Builtin.SmallTypes.nextOf (.ref j2) >>= _) _ _ _
  refine wpAny_bind (RZ.nextOf_tuple_item (s := { s with heap := k2h }) ((g2.extBut gs1.extBut D.i2z).extBut gs2.extBut D.i12.symm) ((gm2.extBut gs1.extBut D.l2z).extBut gs2.extBut D.l2i1) gy fun k3h g23 gs3 => wpAny_pure ?_)
  refine wpAny_pure (wpAny_pure ?_)
  show wpAny _ _ (newTuple [x, y] >>= _) _ _ _
  refine wpAny_bind (wpAny_newTuple ?_)
  have gsz : k3h.objs.size = s.heap.objs.size := by rw [gs3.1, gs2.1, gs1.1]
  have gz3 : IsZipHeld k3h zz tI tO T true := gs3.extBut _ _ D.i2z.symm (gs2.extBut _ _ D.i1z.symm gz1)
  have gk : ∀ c o, c ≠ zz → c ≠ j1 → c ≠ j2 → s.heap.get? c = some o → k3h.get? c = some o := fun c o c1 c2 c3 e => gs3.extBut _ _ c3 (gs2.extBut _ _ c2 (gs1.extBut _ _ c1 e))
  have g13 : k3h.IsTupleIter j1 m1 (k1 + 1) := g12.extBut gs3.extBut D.i12
  refine wpAny_pure ⟨_, rfl, ?_⟩
  show Q (.ref k3h.objs.size) _
  have gp : IsPair (k3h.push { cls := .type "tuple", data := .seq #[x, y] }) k3h.objs.size x y := Heap.get?_push_size _ rfl
  have gz4 : (k3h.push { cls := .type "tuple", data := .seq #[x, y] }).objs.size = k3h.objs.size + 1 := Heap.size_push ..
  rw [gsz] at gp gz4 ⊢
  exact gQ _ (Heap.get?_push_of_some _ gz3) (g13.at fun o e => Heap.get?_push_of_some _ e) (g23.at fun o e => Heap.get?_push_of_some _ e) gp gz4 fun c o c1 c2 c3 e => Heap.get?_push_of_some _ (gk c o c1 c2 c3 e)

theorem zt_end {zz tI tO T j1 j2 m1 m2 : Addr} {f : Bool} {oT : Obj} {k1 k2 : Nat} {us ws : Array Value} {Q : Fin → Shared → Prop} (hh : A.handled = none) (D : ZipApart zz tI tO j1 j2 m1 m2)
    (gz : IsZipHeld s.heap zz tI tO T f) (gT : s.heap.get? T = some oT) (gI : IsPair s.heap tI (.ref j1) (.ref j2))
    (g1 : s.heap.IsTupleIter j1 m1 k1) (g2 : s.heap.IsTupleIter j2 m2 k2) (gm1 : s.heap.IsTuple m1 us) (gm2 : s.heap.IsTuple m2 ws) (gend : us[k1]? = none ∨ ws[k2]? = none)
    (gE : ∀ h' e, (∀ c o, c ≠ zz → c ≠ j1 → c ≠ j2 → s.heap.get? c = some o → h'.get? c = some o) → (∃ o, h'.get? e = some o ∧ o.cls = .type "StopIteration") → E (.ref e) { s with heap := h' }) :
    wpAny (model prog w) A (Builtin.«zip.__next__» ⟨[.ref zz], []⟩) Q E s := by
  show wpAny _ _ (field (.ref zz) 2 >>= _) _ _ _
  refine wpAny_bind (wpAny_field gz rfl (x := .bool false) rfl ?_)
  show wpAny _ _ (field (.ref zz) 3 >>= _) _ _ _
  refine wpAny_bind (wpAny_field gz rfl (x := .ref tI) rfl ?_)
  refine wpAny_bind (wpAny_seqItems gI rfl ?_)
  show wpAny _ _ (Builtin.SmallTypes.ownedTupleIsFree (.ref zz) >>= _) _ _ _
  refine wpAny_bind (wpAny_tupleHeld_zip gz gT fun k1h gz1 gs1 => ?_)
  simp only [Bool.false_eq_true, if_false]
  refine wpAny_bind ?_
  rw [← Array.forIn_toList]; simp only [List.forIn_nil, List.forIn_cons]
  refine wpAny_bind (wpAny_bind (wpAny_holding ?_))
  show wpAny _ _ (Builtin.SmallTypes.nextOf (.ref j1) >>= _) _ _ _
  cases gx : us[k1]? with
  | none =>
    refine wpAny_bind (RZ.nextOf_tuple_end (s := { s with heap := k1h }) hh (g1.extBut gs1.extBut D.i1z) (gm1.extBut gs1.extBut D.l1z) gx fun k2h e gs2 he => ?_)
    exact gE k2h e (fun c o c1 c2 _ x => gs2 _ _ c2 (gs1.extBut _ _ c1 x)) he
  | some x =>
    have gy : ws[k2]? = none := by rcases gend with h | h; rw [gx] at h; cases h; exact h
    refine wpAny_bind (RZ.nextOf_tuple_item (s := { s with heap := k1h }) (g1.extBut gs1.extBut D.i1z) (gm1.extBut gs1.extBut D.l1z) gx fun k2h g12 gs2 => wpAny_pure ?_)
    refine wpAny_pure ?_
    refine wpAny_bind (wpAny_bind (wpAny_holding ?_))
    show wpAny _ _ (Builtin.SmallTypes.nextOf (.ref j2) >>= _) _ _ _
    refine wpAny_bind (RZ.nextOf_tuple_end (s := { s with heap := k2h }) hh ((g2.extBut gs1.extBut D.i2z).extBut gs2.extBut D.i12.symm) ((gm2.extBut gs1.extBut D.l2z).extBut gs2.extBut D.l2i1) gy fun k3h e gs3 he => ?_)
    exact gE k3h e (fun c o c1 c2 c3 x => gs3 _ _ c3 (gs2.extBut _ _ c2 (gs1.extBut _ _ c1 x))) he

theorem nextZT_item {zz tI tO T j1 j2 m1 m2 : Addr} {f : Bool} {oT : Obj} {k1 k2 : Nat} {us ws : Array Value} {x y : Value} {Q : Option Value → Shared → Prop} (D : ZipApart zz tI tO j1 j2 m1 m2)
    (gz : IsZipHeld s.heap zz tI tO T f) (gT : s.heap.get? T = some oT) (gI : IsPair s.heap tI (.ref j1) (.ref j2))
    (g1 : s.heap.IsTupleIter j1 m1 k1) (g2 : s.heap.IsTupleIter j2 m2 k2) (gm1 : s.heap.IsTuple m1 us) (gm2 : s.heap.IsTuple m2 ws) (gx : us[k1]? = some x) (gy : ws[k2]? = some y)
    (gQ : ∀ h', IsZipHeld h' zz tI tO T true → h'.IsTupleIter j1 m1 (k1 + 1) → h'.IsTupleIter j2 m2 (k2 + 1) → IsPair h' s.heap.objs.size x y → h'.objs.size = s.heap.objs.size + 1 →
      (∀ c o, c ≠ zz → c ≠ j1 → c ≠ j2 → s.heap.get? c = some o → h'.get? c = some o) → Q (some (.ref s.heap.objs.size)) { s with heap := h' }) :
    wpAny (model prog w) A (pyNext (.ref zz)) Q E s := by
  have hTy : s.TypeIs (.ref zz) "zip" := ⟨_, gz, rfl⟩
  unfold pyNext
  exact wpAny_bind (wpAny_attempt (wpAny_callSpecial?_slot (name := Str.ofString "__next__") hTy F.slot_zip_next
    (wpAny_call_entry F.slot_zip_next hTy F.entry_zip_next
      (zt_item D gz gT gI g1 g2 gm1 gm2 gx gy fun h' a1 a3 a4 a5 a6 a7 => wpAny_pure (gQ h' a1 a3 a4 a5 a6 a7)) (F.args_zip_next_1 _))))
theorem nextZT_end {zz tI tO T j1 j2 m1 m2 : Addr} {f : Bool} {oT : Obj} {k1 k2 : Nat} {us ws : Array Value} {Q : Option Value → Shared → Prop} (hh : A.handled = none) (D : ZipApart zz tI tO j1 j2 m1 m2)
    (gz : IsZipHeld s.heap zz tI tO T f) (gT : s.heap.get? T = some oT) (gI : IsPair s.heap tI (.ref j1) (.ref j2))
    (g1 : s.heap.IsTupleIter j1 m1 k1) (g2 : s.heap.IsTupleIter j2 m2 k2) (gm1 : s.heap.IsTuple m1 us) (gm2 : s.heap.IsTuple m2 ws) (gend : us[k1]? = none ∨ ws[k2]? = none)
    (gQ : ∀ h', (∀ c o, c ≠ zz → c ≠ j1 → c ≠ j2 → s.heap.get? c = some o → h'.get? c = some o) → Q none { s with heap := h' }) : wpAny (model prog w) A (pyNext (.ref zz)) Q E s := by
  have hTy : s.TypeIs (.ref zz) "zip" := ⟨_, gz, rfl⟩
  unfold pyNext
  refine wpAny_bind (wpAny_attempt (wpAny_callSpecial?_slot (name := Str.ofString "__next__") hTy F.slot_zip_next
    (wpAny_call_entry F.slot_zip_next hTy F.entry_zip_next (zt_end hh D gz gT gI g1 g2 gm1 gm2 gend fun h' e gk he => ?_) (F.args_zip_next_1 _))))
  obtain ⟨o, ho, hc⟩ := he
  refine wpAny_bind (wpAny_isInstance (T := "StopIteration") (b := true) ⟨o, ho, hc⟩ isSubtype_stop ?_)
  exact wpAny_pure (gQ _ gk)

theorem pairArg_zipT (zz tI tO j1 j2 m1 m2 : Addr) (D : ZipApart zz tI tO j1 j2 m1 m2) (us ws : Array Value) :
    PairArg prog w "zip" zz [zz, tI, tO, j1, j2, m1, m2] [zz, tO, j1, j2] (min us.size ws.size) (fun i k v => us[i]? = some k ∧ ws[i]? = some v)
      (fun h => IsZip h zz tI tO .none ∧ IsPair h tI (.ref j1) (.ref j2) ∧ (∃ a b, IsPair h tO a b) ∧ h.IsTupleIter j1 m1 0 ∧ h.IsTupleIter j2 m2 0 ∧ h.IsTuple m1 us ∧ h.IsTuple m2 ws) where
  type := fun s fine => ⟨_, fine.1, rfl⟩
  notDict := by decide
  keep := fun h h' fine gk => by
    obtain ⟨gz, gI, ⟨a, b, gO⟩, g1, g2, gm1, gm2⟩ := fine
    exact ⟨gk _ _ gz, gk _ _ gI, ⟨a, b, gk _ _ gO⟩, g1.at fun o e => gk _ o e, g2.at fun o e => gk _ o e, gm1.at fun o e => gk _ o e, gm2.at fun o e => gk _ o e⟩
  there := fun h fine b hb => by
    obtain ⟨gz, gI, ⟨a, c, gO⟩, ⟨o1, g1, _⟩, ⟨o2, g2, _⟩, ⟨o3, gm1, _⟩, ⟨o4, gm2, _⟩⟩ := fine
    simp only [List.mem_cons, List.not_mem_nil, or_false] at hb
    rcases hb with rfl | rfl | rfl | rfl | rfl | rfl | rfl
    all_goals first | exact ⟨_, gz⟩ | exact ⟨_, gI⟩ | exact ⟨_, gO⟩ | exact ⟨_, g1⟩ | exact ⟨_, g2⟩ | exact ⟨_, gm1⟩ | exact ⟨_, gm2⟩
  sub := fun b hb => by simp at hb ⊢; rcases hb with rfl | rfl | rfl | rfl <;> simp
  noKeys := fun A s Q E hA fine h => getAttrOr_miss_zip fine.1 rfl rfl rfl zip_no_keys (by decide +kernel) hA h
  iter := fun A s d Q E hA fine hd hdf h => by
    obtain ⟨gz, gI, ⟨a, b, gO⟩, g1, g2, gm1, gm2⟩ := fine
    simp only [List.mem_cons, List.not_mem_nil, or_false, not_or] at hdf
    obtain ⟨dz, dTI, dTO, di1, di2, dl1, dl2⟩ := hdf
    refine wpAny_pyIter_zip gz (h zz [zz, tO, j1, j2] (fun i h => IsPair h tI (.ref j1) (.ref j2) ∧ h.IsTupleIter j1 m1 i ∧ h.IsTupleIter j2 m2 i ∧ h.IsTuple m1 us ∧ h.IsTuple m2 ws ∧
      ((IsZip h zz tI tO .none ∧ ∃ a b, IsPair h tO a b) ∨ ∃ T f oT, IsZipHeld h zz tI tO T f ∧ h.get? T = some oT ∧ T ≠ zz ∧ T ≠ j1 ∧ T ≠ j2 ∧ T ≠ d)) s.heap s.toks ?_
      ⟨gI, g1, g2, gm1, gm2, .inl ⟨gz, a, b, gO⟩⟩ (fun _ _ e => e) fun b hb => .inl hb)
    exact {
      off := fun hm => by
        simp only [List.mem_cons, List.not_mem_nil, or_false] at hm
        rcases hm with e | e | e | e
        · exact dz e
        · exact dTO e
        · exact di1 e
        · exact di2 e
      frame := fun i k1h k2h st gk => by
        obtain ⟨gI, g1, g2, gm1, gm2, gz⟩ := st
        refine ⟨gk _ _ (Ne.symm dTI) gI, g1.at fun o e => gk _ o (Ne.symm di1) e, g2.at fun o e => gk _ o (Ne.symm di2) e, gm1.at fun o e => gk _ o (Ne.symm dl1) e, gm2.at fun o e => gk _ o (Ne.symm dl2) e, ?_⟩
        rcases gz with ⟨gz, a, b, gO⟩ | ⟨T, f, oT, gz, gT, r1, r2, r3, r4⟩
        · exact .inl ⟨gk _ _ (Ne.symm dz) gz, a, b, gk _ _ (Ne.symm dTO) gO⟩
        · exact .inr ⟨T, f, oT, gk _ _ (Ne.symm dz) gz, gk _ _ r4 gT, r1, r2, r3, r4⟩
      item := fun i s₁ Q₁ E₁ hi st hds gQ => by
        obtain ⟨gI, g1, g2, gm1, gm2, gz⟩ := st
        have gix : i < us.size := Nat.lt_of_lt_of_le hi (Nat.min_le_left ..)
        have giy : i < ws.size := Nat.lt_of_lt_of_le hi (Nat.min_le_right ..)
        have e1 := Array.getElem?_eq_getElem gix
        have e2 := Array.getElem?_eq_getElem giy
        have below : ∀ {c o}, s₁.heap.get? c = some o → s₁.heap.objs.size ≠ c := fun e => Nat.ne_of_gt (Heap.lt_size e)
        have n1 : s₁.heap.objs.size ≠ j1 := let ⟨_, e, _⟩ := g1; below e
        have n2 : s₁.heap.objs.size ≠ j2 := let ⟨_, e, _⟩ := g2; below e
        rcases gz with ⟨gz, a, b, gO⟩ | ⟨T, f, oT, gz, gT, r1, r2, r3, r4⟩
        · refine RZ.pyNext_zipT_item D gz gI gO g1 g2 gm1 gm2 e1 e2 fun h' a1 a2 a3 a4 a5 a6 gk => ?_
          exact gQ s₁.heap.objs.size _ _ h' s₁.toks ⟨e1, e2⟩ (.inl ⟨_, a5, rfl, _, rfl⟩)
            ⟨gk _ _ D.TIz D.TITO D.TIi1 D.TIi2 gI, a3, a4, gm1.at fun o e => gk _ o D.l1z D.l1TO D.l1i1 D.l1i2 e, gm2.at fun o e => gk _ o D.l2z D.l2TO D.l2i1 D.l2i2 e,
              .inr ⟨s₁.heap.objs.size, false, _, a1, a5, below gz, n1, n2, Nat.ne_of_gt hds⟩⟩
            fun c o hc e => gk c o (fun x => hc (by simp [x])) (fun x => hc (by simp [x])) (fun x => hc (by simp [x])) (fun x => hc (by simp [x])) e
        · refine nextZT_item D gz gT gI g1 g2 gm1 gm2 e1 e2 fun h' a1 a3 a4 a5 a6 gk => ?_
          exact gQ s₁.heap.objs.size _ _ h' s₁.toks ⟨e1, e2⟩ (.inl ⟨_, a5, rfl, _, rfl⟩)
            ⟨gk _ _ D.TIz D.TIi1 D.TIi2 gI, a3, a4, gm1.at fun o e => gk _ o D.l1z D.l1i1 D.l1i2 e, gm2.at fun o e => gk _ o D.l2z D.l2i1 D.l2i2 e,
              .inr ⟨T, true, oT, a1, gk _ _ r1 r2 r3 gT, r1, r2, r3, r4⟩⟩
            fun c o hc e => gk c o (fun x => hc (by simp [x])) (fun x => hc (by simp [x])) (fun x => hc (by simp [x])) e
      done := fun s₁ Q₁ E₁ st gQ => by
        obtain ⟨gI, g1, g2, gm1, gm2, gz⟩ := st
        have gend : us[min us.size ws.size]? = none ∨ ws[min us.size ws.size]? = none := by
          rcases Nat.le_total us.size ws.size with h | h
          · exact .inl (Array.getElem?_eq_none (by rw [Nat.min_eq_left h]; exact Nat.le_refl _))
          · exact .inr (Array.getElem?_eq_none (by rw [Nat.min_eq_right h]; exact Nat.le_refl _))
        rcases gz with ⟨gz, a, b, gO⟩ | ⟨T, f, oT, gz, gT, r1, r2, r3, r4⟩
        · exact RZ.pyNext_zipT_end hA D gz gI gO g1 g2 gm1 gm2 gend fun h' gk => gQ h' s₁.toks fun c o hc e => gk c o (fun x => hc (by simp [x])) (fun x => hc (by simp [x])) (fun x => hc (by simp [x])) (fun x => hc (by simp [x])) e
        · exact nextZT_end hA D gz gT gI g1 g2 gm1 gm2 gend fun h' gk => gQ h' s₁.toks fun c o hc e => gk c o (fun x => hc (by simp [x])) (fun x => hc (by simp [x])) (fun x => hc (by simp [x])) e }

end
end Lz

set_option Elab.async false
set_option linter.all false
set_option maxRecDepth 100000
set_option maxHeartbeats 4000000
namespace Lw
open PySem PySem.Spec PyProof.Rows L2
/-! ### dict(zip(..)) of two tuples -/
def tDictZip (K : Fg) (ta : TA) : TE := fun σ H Q => ta σ H fun vs H1 => ∃ (a b : Addr) (ks : List Key) (ys : List V), vs = [.ref a, .ref b] ∧ SqT K H1 a (ks.map kV) ∧ SqT K H1 b ys ∧ ks.length = ys.length ∧ ys.length ≤ sizeLine ∧
  ∀ p, H1 p = none → Q (.ref p) (upd H1 p (.dK (mergeK [] (ks.zip ys))))
theorem kv_zip : ∀ {ks : List Key} {ys : List V} {its : List Value}, Vals ys its → KV (ks.zip ys) (ks.zip its)
  | [], _, _, _ => .nil
  | _ :: _, _, _, .nil => .nil
  | _ :: ks, _, _, .cons h r => .cons ⟨rfl, h⟩ (kv_zip r)
theorem vals_at {xs : List V} {its : List Value} (r : Vals xs its) {i : Nat} {x : V} {u : Value} (h1 : xs[i]? = some x) (h2 : its[i]? = some u) : RelV x u := by
  obtain ⟨u', e, q⟩ := r.get h1
  rw [h2] at e
  cases e
  exact q
section
variable {X : Cx} {e e2 : Expr} {ta : TA} {p p2 pos pos2 : Pos}
theorem pe_dictZip (hc : X.calm = true) (hmd : X.mg "dict" = none) (hm : X.mg "zip" = none) (ha : PA X [e, e2] ta) (hgd : Gl X "dict" := by rfl) (hg : Gl X "zip" := by rfl)
    (hs : starEach [e, e2] X.env = (false, eval e X.env) :: starEach [e2] X.env := by rfl) (hpl : (backTo pos2 (starEach [e2] X.env)).any (·.1) = false := by rfl)
    (hs1 : starEach [.Call (.Name "zip" p2) [e, e2] [] pos2] X.env = (false, eval (.Call (.Name "zip" p2) [e, e2] [] pos2) X.env) :: starEach [] X.env := by rfl) (hpl1 : (backTo pos (starEach [] X.env)).any (·.1) = false := by rfl) :
    PE X (.Call (.Name "dict" p) [.Call (.Name "zip" p2) [e, e2] [] pos2] [] pos) (tDictZip X.K ta) := by
  refine ⟨fun pins s σ H Q I h => ?_⟩
  refine wpAny_Call_Name_kw (ld_blt I hgd hmd boot_dict (PyProof.Rows.callWith_type1 ?_ hs1 hpl1))
  rw [hs1]
  show wpAny _ _ (spliced ((false, eval (.Call (.Name "zip" p2) [e, e2] [] pos2) X.env) :: backTo pos (starEach [] X.env))) _ _ s
  refine Calls.spliced_cons (wpAny_Call_Name_kw (ld_blt I hg hm boot_zip (PyProof.Rows.callWith_type1 (thn (ha.run pos2 pins s σ H _ I h) fun us s1 ⟨vs, H1, I1, r1, q1⟩ => ?_) hs hpl)))
  obtain ⟨a, b, ks, ys, ex, qa, qb, hl, hz, q⟩ := q1
  subst ex
  cases r1 with
  | cons ra rr =>
    cases rr with
    | cons rb rr =>
      cases rr
      cases ra
      cases rb
      obtain ⟨its, rv, p1, _⟩ := I1.tuple qa
      obtain ⟨its2, rv2, p2, _⟩ := I1.tuple qb
      obtain ⟨o1, ho1, _⟩ := id p1
      obtain ⟨o2, ho2, _⟩ := id p2
      refine RZ.call_zipT (show s1.heap.IsTuple a its.toArray from p1) (show s1.heap.IsTuple b its2.toArray from p2) fun h' z1 z2 z3 z4 z5 z6 hk => ?_
      refine Calls.spliced_nil ?_
      have le5 : ∀ c, c ∈ [s1.heap.objs.size + 4, s1.heap.objs.size + 3, s1.heap.objs.size, s1.heap.objs.size + 1] → s1.heap.objs.size ≤ c := fun c hcm => by
        simp only [List.mem_cons, List.not_mem_nil, or_false] at hcm
        omega
      have l1 := rv.length
      have l2 := rv2.length
      rw [List.length_map] at l1
      have rel : KV (ks.zip ys) (ks.zip its2) := kv_zip rv2
      refine call_dict_pairs (knd := mixKind X.prog X.w) (kvs := ks.zip its2) (Lz.pairArg_zipT _ _ _ _ _ a b (PySem.W.ktu_apart s1.heap.objs.size a b (Heap.lt_size ho1) (Heap.lt_size ho2)) its.toArray its2.toArray) (I1.ok.hd hc)
        ⟨z1, z2, ⟨_, _, z3⟩, z4, z5, Heap.IsTuple.at (show s1.heap.IsTuple a its.toArray from p1) (fun o e => hk _ o e), Heap.IsTuple.at (show s1.heap.IsTuple b its2.toArray from p2) (fun o e => hk _ o e)⟩ ⟨?_, fun i key v ⟨e1, e2⟩ => ?_⟩ ?_ fun h2 tk hd hk2 => ?_
      · simp [l1.symm, l2.symm, hl]
      · have e1' : its[i]? = some key := by simpa using e1
        have e2' : its2[i]? = some v := by simpa using e2
        have hi : i < ks.length := by
          have := (List.getElem?_eq_some_iff.mp e1').1
          omega
        have ek : ks[i]? = some ks[i] := List.getElem?_eq_getElem hi
        refine ⟨ks[i], List.getElem?_zip_eq_some.mpr ⟨ek, e2'⟩, kV_is (vals_at rv (by rw [List.getElem?_map, ek]; rfl) e1')⟩
      · refine Nat.le_trans (Nat.min_le_right _ _) ?_
        rw [List.size_toArray, ← l2]
        exact hz
      · have ne : (h'.objs.size == sysModules) = false := beq_eq_false_iff_ne.mpr (Nat.ne_of_gt (Nat.lt_of_lt_of_le I1.big (by rw [z6]; exact Nat.le_add_right _ _)))
        have hlen : (mergeK [] (ks.zip ys)).length ≤ sizeLine := by
          refine Nat.le_trans (length_mergeK (ks.zip ys) []) ?_
          rw [List.length_nil, Nat.zero_add, List.length_zip]
          omega
        have fr : ∀ c, s1.heap.objs.size ≤ c → H1 c = none := fun c hcm => I1.hok.fresh hcm
        have new : ObjOk X.prog X.w (upd H1 h'.objs.size (.dK (mergeK [] (ks.zip ys)))) h2 h'.objs.size (.dK (mergeK [] (ks.zip ys))) := ⟨hlen, ne, merged [] (ks.zip its2), KV.merge rel .nil, hd⟩
        refine ⟨.ref h'.objs.size, _, I1.turnedNew (t' := tk) (ch := [s1.heap.objs.size + 4, s1.heap.objs.size + 3, s1.heap.objs.size, s1.heap.objs.size + 1]) (fun c o hb ec => hk2 c o hb (hk c o ec)) (fun c hcm => I1.fpOk (le5 c hcm) (fr c (le5 c hcm))) (by rw [z6]; exact Nat.le_add_right _ _) new, rfl, q _ (fr _ (by rw [z6]; exact Nat.le_add_right _ _))⟩
end
end Lw

set_option Elab.async false
set_option linter.all false
set_option maxRecDepth 100000
set_option maxHeartbeats 4000000
namespace Lw
open PySem PySem.Spec PyProof.Rows L2
/-! ### zip of three tuples -/
def Itz3 (K : Fg) (a b c : Addr) : It :=
  ⟨fun i H => ∃ (xs ys zs : List V) (x y z : V), SqT K H a xs ∧ SqT K H b ys ∧ SqT K H c zs ∧ xs[i]? = some x ∧ ys[i]? = some y ∧ zs[i]? = some z,
    fun i H v H' => ∃ T x y z, v = .ref T ∧ H T = none ∧ H' = upd H T (.tup [x, y, z]) ∧ (∀ xs, SqT K H a xs → xs[i]? = some x) ∧ (∀ ys, SqT K H b ys → ys[i]? = some y) ∧ ∀ zs, SqT K H c zs → zs[i]? = some z,
    fun i H => ∃ (xs ys zs : List V), SqT K H a xs ∧ SqT K H b ys ∧ SqT K H c zs ∧ xs.length = i ∧ ys.length = i ∧ zs.length = i⟩
/-- the objects of such a zip stand apart -/
structure Ap3 (z TI TO i1 i2 i3 a b c : Addr) : Prop where
  nd : [z, TI, TO, i1, i2, i3].Nodup
  na : a ∉ [z, TI, TO, i1, i2, i3]
  nb : b ∉ [z, TI, TO, i1, i2, i3]
  nc : c ∉ [z, TI, TO, i1, i2, i3]
theorem Ap3.sep {z TI TO i1 i2 i3 a b c : Addr} (D : Ap3 z TI TO i1 i2 i3 a b c) : ZipSep3 z TI TO i1 i2 i3 [i1, a] [i2, b] [i3, c] := by
  obtain ⟨nd, na, nb, nc⟩ := D
  simp only [List.nodup_cons, List.mem_cons, List.not_mem_nil, or_false, not_or, List.nodup_nil, and_true, not_false_eq_true] at nd na nb nc
  obtain ⟨⟨a1, a2, a3, a4, a5⟩, ⟨b1, b2, b3, b4⟩, ⟨c1, c2, c3⟩, ⟨d1, d2⟩, e1⟩ := nd
  obtain ⟨p1, p2, p3, p4, p5, p6⟩ := na
  obtain ⟨q1, q2, q3, q4, q5, q6⟩ := nb
  obtain ⟨r1, r2, r3, r4, r5, r6⟩ := nc
  constructor <;> first | exact Ne.symm ‹_› | assumption | (simp; done) | (simp only [List.mem_cons, List.not_mem_nil, or_false, not_or, true_or]; first | trivial | (constructor <;> first | assumption | (exact fun z => (by first | exact a3 z | exact a3 z.symm | exact a4 z | exact a4 z.symm | exact a5 z | exact a5 z.symm | exact p1 z | exact p1 z.symm | exact q1 z | exact q1 z.symm | exact r1 z | exact r1 z.symm | exact p3 z | exact p3 z.symm | exact q3 z | exact q3 z.symm | exact r3 z | exact r3 z.symm | exact p5 z.symm | exact p6 z.symm | exact q4 z.symm | exact q6 z.symm | exact r4 z.symm | exact r5 z.symm | exact d1 z | exact d1 z.symm | exact d2 z | exact d2 z.symm | exact e1 z | exact e1 z.symm | exact c1 z | exact c2 z | exact c3 z))))
theorem turn_zip3 {P : Program} {w : World} {K : Fg} {elts : List Expr} {kk : Nat} {tpos : Pos} {a b c z TI TO i1 i2 i3 : Addr} (D : Ap3 z TI TO i1 i2 i3 a b c) :
    Turn P w K (.Tuple elts kk tpos) (Itz3 K a b c) [z, TI, TO, i1, i2, i3] z (fun i h => IsZip h z TI TO .none ∧ IsTupOf3 h TI (.ref i1) (.ref i2) (.ref i3) ∧ (∃ x y u, IsTupOf3 h TO x y u) ∧ h.IsTupleIter i1 a i ∧ h.IsTupleIter i2 b i ∧ h.IsTupleIter i3 c i) where
  mem := by simp
  obj := fun i h st d hd => by
    obtain ⟨hz, hTI, ⟨x, y, u, hTO⟩, ⟨o1, e1, _, d1⟩, ⟨o2, e2, _, d2⟩, ⟨o3, e3, _, d3⟩⟩ := st
    simp only [List.mem_cons, List.not_mem_nil, or_false] at hd
    rcases hd with rfl | rfl | rfl | rfl | rfl | rfl
    · exact ⟨_, hz, fun v q => nomatch q⟩
    · exact ⟨_, hTI, fun v q => nomatch q⟩
    · exact ⟨_, hTO, fun v q => nomatch q⟩
    · exact ⟨o1, e1, fun v q => by rw [d1] at q; cases q⟩
    · exact ⟨o2, e2, fun v q => by rw [d2] at q; cases q⟩
    · exact ⟨o3, e3, fun v q => by rw [d3] at q; cases q⟩
  keep := fun i h h' st k => by
    obtain ⟨hz, hTI, ⟨x, y, u, hTO⟩, h1, h2, h3⟩ := st
    exact ⟨k z (by simp) _ hz, k TI (by simp) _ hTI, ⟨x, y, u, k TO (by simp) _ hTO⟩, h1.at fun o q => k i1 (by simp) o q, h2.at fun o q => k i2 (by simp) o q, h3.at fun o q => k i3 (by simp) o q⟩
  item := by
    intro X hP hw hK hc i pins s σ H E I hf st hg
    subst hP hw hK
    obtain ⟨hz, hTI, ⟨x0, y0, u0, hTO⟩, h1, h2, h3⟩ := st
    obtain ⟨xs, ys, zs, x, y, u, hqx, hqy, hqz, hx, hy, hu⟩ := hg
    obtain ⟨its, rv, p, _⟩ := I.tuple hqx
    obtain ⟨its2, rv2, p2, _⟩ := I.tuple hqy
    obtain ⟨its3, rv3, p3, _⟩ := I.tuple hqz
    have hh : X.A.in1.handled = none := I.ok.hd hc
    have S := D.sep
    have n1 : a ≠ i1 := fun e => D.na (by simp [e])
    have n2 : b ≠ i2 := fun e => D.nb (by simp [e])
    have n3 : c ≠ i3 := fun e => D.nc (by simp [e])
    obtain ⟨v1, f1, r1⟩ := rv.get hx
    obtain ⟨v2, f2, r2⟩ := rv2.get hy
    obtain ⟨v3, f3, r3⟩ := rv3.get hu
    have hzl : z < s.heap.objs.size := Heap.lt_size hz
    refine wpAny_pyNext_zipD3_item S (Draws.tuple hh i1 a n1 its.toArray) (Draws.tuple hh i2 b n2 its2.toArray) (Draws.tuple hh i3 c n3 its3.toArray) hz hTI hTO ⟨h1, p⟩ ⟨h2, p2⟩ ⟨h3, p3⟩
      (by simpa using (List.getElem?_eq_some_iff.mp f1).1) (by simpa using (List.getElem?_eq_some_iff.mp f2).1) (by simpa using (List.getElem?_eq_some_iff.mp f3).1) fun w1 w2 w3 h' tk g1 g2 g3 z' TO' k1 k2 k3 hT hsz hk => ?_
    have g1' : its[i]? = some w1 := by simpa using g1
    have g2' : its2[i]? = some w2 := by simpa using g2
    have g3' : its3[i]? = some w3 := by simpa using g3
    rw [f1] at g1'; cases g1'
    rw [f2] at g2'; cases g2'
    rw [f3] at g3'; cases g3'
    refine ⟨_, rfl, wpAny_letOwnedTupleGo_zip (s := { s with heap := h', toks := tk }) z' fun h'' z'' sb => ?_⟩
    have hT2 : h''.get? s.heap.objs.size = some { cls := .type "tuple", data := .seq #[v1, v2, v3] } := (sb.2 _ (Nat.ne_of_gt hzl)).trans hT
    have new : ObjOk X.prog X.w (upd H s.heap.objs.size (.tup [x, y, u])) h'' s.heap.objs.size (.tup [x, y, u]) :=
      ⟨by show 3 ≤ sizeLine; decide, [v1, v2, v3], .cons r1 (.cons r2 (.cons r3 .nil)), ⟨_, hT2, rfl, _, rfl⟩⟩
    have I1 : Inv X pins σ (upd H s.heap.objs.size (.tup [x, y, u])) { s with heap := h'', toks := tk } :=
      I.turnedNew (t' := tk) (ch := [z, TI, TO, i1, i2, i3]) (fun d o hb q => (sb.2 d (fun q' => hb (by simp [q']))).trans (hk d o (fun q' => hb (by simp [q'])) (fun q' => hb (by simp [q'])) (fun q' => hb (by simp [q'])) (fun q' => hb (by simp [q'])) (fun q' => hb (by simp [q'])) q)) hf (Nat.le_refl _) new
    refine ⟨.ref s.heap.objs.size, _, I1, rfl, ⟨_, x, y, u, rfl, I.hok.fresh (Nat.le_refl _), rfl, fun l hl => by rw [I.tuple_inj hl hqx]; exact hx, fun l hl => by rw [I.tuple_inj hl hqy]; exact hy, fun l hl => by rw [I.tuple_inj hl hqz]; exact hu⟩, ⟨z'', ?_, ⟨v1, v2, v3, ?_⟩, ?_, ?_, ?_⟩, fun d hcm => ?_⟩
    · exact (sb.2 _ S.TIz).trans (hk _ _ S.TIz S.TITO S.TIi1 S.TIi2 S.TIi3 hTI)
    · exact (sb.2 _ S.TOz).trans TO'
    · exact k1.1.at fun o q => (sb.2 _ (fun e => S.zf1 (by simp [e]))).trans q
    · exact k2.1.at fun o q => (sb.2 _ (fun e => S.zf2 (by simp [e]))).trans q
    · exact k3.1.at fun o q => (sb.2 _ (fun e => S.zf3 (by simp [e]))).trans q
    · have hlt : d < s.heap.objs.size := by
        simp only [List.mem_cons, List.not_mem_nil, or_false] at hcm
        rcases hcm with rfl | rfl | rfl | rfl | rfl | rfl
        · exact hzl
        · exact Heap.lt_size hTI
        · exact Heap.lt_size hTO
        · obtain ⟨_, e1, _⟩ := h1; exact Heap.lt_size e1
        · obtain ⟨_, e2, _⟩ := h2; exact Heap.lt_size e2
        · obtain ⟨_, e3, _⟩ := h3; exact Heap.lt_size e3
      rw [upd_ne (Nat.ne_of_lt hlt)]
      exact (hf d hcm).1
  done := by
    intro X hP hw hK hc i pins s σ H E I hf st hg
    subst hP hw hK
    obtain ⟨hz, hTI, ⟨x0, y0, u0, hTO⟩, h1, h2, h3⟩ := st
    obtain ⟨xs, ys, zs, hqx, hqy, hqz, lx, ly, lz⟩ := hg
    obtain ⟨its, rv, p, _⟩ := I.tuple hqx
    obtain ⟨its2, rv2, p2, _⟩ := I.tuple hqy
    obtain ⟨its3, rv3, p3, _⟩ := I.tuple hqz
    have l1 := rv.length
    have l2 := rv2.length
    have l3 := rv3.length
    have hh : X.A.in1.handled = none := I.ok.hd hc
    have n1 : a ≠ i1 := fun e => D.na (by simp [e])
    have n2 : b ≠ i2 := fun e => D.nb (by simp [e])
    have n3 : c ≠ i3 := fun e => D.nc (by simp [e])
    have m1 : i = its.toArray.size := by simp; omega
    have m2 : i = its2.toArray.size := by simp; omega
    have m3 : i = its3.toArray.size := by simp; omega
    exact wpAny_pyNext_zipD3_end D.sep (Draws.tuple hh i1 a n1 its.toArray) (Draws.tuple hh i2 b n2 its2.toArray) (Draws.tuple hh i3 c n3 its3.toArray) hz hTI hTO ⟨h1, p⟩ ⟨h2, p2⟩ ⟨h3, p3⟩ (Nat.le_of_eq m1) (Nat.le_of_eq m2) (Nat.le_of_eq m3) (.inl m1) fun h' tk hk =>
      ⟨rfl, I.turnedL (t' := tk) (ch := [z, TI, TO, i1, i2, i3]) (fun d o hb q => hk d o (fun q' => hb (by simp [q'])) (fun q' => hb (by simp [q'])) (fun q' => hb (by simp [q'])) (fun q' => hb (by simp [q'])) (fun q' => hb (by simp [q'])) q) hf⟩
  self := fun A i s Q E st h => wpAny_pyIter_zip st.1 h
def iZip3 (K : Fg) (ta : TA) : TI := fun σ H RR => ta σ H fun vs H1 => ∃ a b c xs ys zs, vs = [.ref a, .ref b, .ref c] ∧ SqT K H1 a xs ∧ SqT K H1 b ys ∧ SqT K H1 c zs ∧ RR (Itz3 K a b c) H1
theorem pi_zip3 {X : Cx} {e e2 e3 : Expr} {ta : TA} {p pos tpos : Pos} {elts : List Expr} {kk : Nat} (hg : Gl X "zip") (hm : X.mg "zip" = none) (ha : PA X [e, e2, e3] ta)
    (hs : starEach [e, e2, e3] X.env = (false, eval e X.env) :: starEach [e2, e3] X.env := by rfl) (hpl : (backTo pos (starEach [e2, e3] X.env)).any (·.1) = false := by rfl) :
    PI X (.Tuple elts kk tpos) (.Call (.Name "zip" p) [e, e2, e3] [] pos) (iZip3 X.K ta) := by
  refine ⟨fun pins s σ H RR I h => ?_⟩
  refine Call_ (ld_blt I hg hm boot_zip (PyProof.Rows.callWith_type1 (thn (ha.run pos pins s σ H _ I h) fun us s1 ⟨vs, H1, I1, r1, q1⟩ => ?_) hs hpl))
  obtain ⟨a, b, c, xs, ys, zs, ex, qa, qb, qc, q⟩ := q1
  subst ex
  cases r1 with
  | cons ra rr =>
    cases rr with
    | cons rb rr =>
      cases rr with
      | cons rc rr =>
        cases rr
        cases ra
        cases rb
        cases rc
        obtain ⟨its, rv, p1, _⟩ := I1.tuple qa
        obtain ⟨its2, rv2, p2, _⟩ := I1.tuple qb
        obtain ⟨its3, rv3, p3, _⟩ := I1.tuple qc
        have la : a < s1.heap.objs.size := by obtain ⟨o1, ho1, _⟩ := id p1; exact Heap.lt_size ho1
        have lb : b < s1.heap.objs.size := by obtain ⟨o1, ho1, _⟩ := id p2; exact Heap.lt_size ho1
        have lc : c < s1.heap.objs.size := by obtain ⟨o1, ho1, _⟩ := id p3; exact Heap.lt_size ho1
        refine zip_begins3 (begins_tuple a its.toArray) (begins_tuple b its2.toArray) (begins_tuple c its3.toArray) p1 p2 p3 fun h' z1 z2 z3 k1 k2 k3 z4 hk => wpAny_pyIter_zip z1 ?_
        have I2 : Inv X pins σ H1 { s1 with heap := h' } := I1.kept (t' := s1.toks) hk
        have D : Ap3 (s1.heap.objs.size + 5) (s1.heap.objs.size + 3) (s1.heap.objs.size + 4) s1.heap.objs.size (s1.heap.objs.size + 1) (s1.heap.objs.size + 2) a b c := by
          have aux : ∀ n a b c : Nat, a < n → b < n → c < n → Ap3 (n + 5) (n + 3) (n + 4) n (n + 1) (n + 2) a b c := fun n a b c la lb lc => by
            have h1 : ([n + 5, n + 3, n + 4, n, n + 1, n + 2] : List Nat).Nodup := by
              simp only [List.nodup_cons, List.mem_cons, List.not_mem_nil, or_false, not_or, List.nodup_nil, and_true, not_false_eq_true]
              omega
            have h2 : ∀ m : Nat, m < n → m ∉ ([n + 5, n + 3, n + 4, n, n + 1, n + 2] : List Nat) := fun m hm => by
              simp only [List.mem_cons, List.not_mem_nil, or_false, not_or]
              omega
            exact ⟨h1, h2 a la, h2 b lb, h2 c lc⟩
          exact aux _ _ _ _ la lb lc
        refine ⟨s1.heap.objs.size + 5, [s1.heap.objs.size + 5, s1.heap.objs.size + 3, s1.heap.objs.size + 4, s1.heap.objs.size, s1.heap.objs.size + 1, s1.heap.objs.size + 2], _, _, H1, rfl, I2, turn_zip3 D, ⟨z1, z2, ⟨_, _, _, z3⟩, ⟨_, k1, rfl, rfl⟩, ⟨_, k2, rfl, rfl⟩, ⟨_, k3, rfl, rfl⟩⟩, fun d hcm => ?_, q⟩
        have hle : s1.heap.objs.size ≤ d := by
          have aux : ∀ n d : Nat, d ∈ [n + 5, n + 3, n + 4, n, n + 1, n + 2] → n ≤ d := fun n d hd => by
            simp only [List.mem_cons, List.not_mem_nil, or_false] at hd
            omega
          exact aux _ _ hcm
        exact I1.fpOk hle (I1.hok.fresh hle)
end Lw

set_option Elab.async false
set_option linter.all false
set_option maxRecDepth 100000
set_option maxHeartbeats 4000000
namespace Lw
open PySem PySem.Spec PyProof.Rows L2
section
variable {K : Fg} {ρ : List SD}
/-! ### zip of three, as data -/
def zip3D (xs ys zs : List D) : List D := (xs.zip (ys.zip zs)).map fun p => .tup [p.1, p.2.1, p.2.2]
theorem zip3D_get {xs ys zs : List D} {i : Nat} {d : D} (h : (zip3D xs ys zs)[i]? = some d) : ∃ x y z, xs[i]? = some x ∧ ys[i]? = some y ∧ zs[i]? = some z ∧ d = .tup [x, y, z] := by
  unfold zip3D at h
  rw [List.getElem?_map] at h
  cases q : (xs.zip (ys.zip zs))[i]? with
  | none => rw [q] at h; cases h
  | some p =>
    rw [q] at h
    rw [List.getElem?_zip_eq_some, List.getElem?_zip_eq_some] at q
    exact ⟨p.1, p.2.1, p.2.2, q.1, q.2.1, q.2.2, (Option.some.inj h).symm⟩
theorem dw_zip3 {B : Hp} {a b c : Addr} {vs us ws : List V} {ds es fs : List D} (h : SqT K B a vs) (r : RA K B vs ds) (h' : SqT K B b us) (r' : RA K B us es) (h'' : SqT K B c ws) (r'' : RA K B ws fs) (l1 : ds.length = es.length) (l2 : ds.length = fs.length) : DW K B (Itz3 K a b c) (zip3D ds es fs) where
  go := fun i H hi s => by
    have hl : i < ds.length := by
      unfold zip3D at hi
      simp at hi
      omega
    have h1 : i < vs.length := by rw [r.length]; omega
    have h2 : i < us.length := by rw [r'.length]; omega
    have h3 : i < ws.length := by rw [r''.length]; omega
    exact ⟨vs, us, ws, vs[i], us[i], ws[i], same_t s h, same_t s h', same_t s h'', by simp [h1], by simp [h2], by simp [h3]⟩
  stop := fun H s => by
    have hl : (zip3D ds es fs).length = ds.length := by
      unfold zip3D
      simp
      omega
    rw [hl]
    exact ⟨vs, us, ws, same_t s h, same_t s h', same_t s h'', r.length, by rw [r'.length]; omega, by rw [r''.length]; omega⟩
  yld := fun i H x H' d e y Bc s1 s2 => by
    obtain ⟨T, v, u, w, rfl, hT, rfl, f1, f2, f3⟩ := y
    obtain ⟨d1, d2, d3, e1, e2, e3, rfl⟩ := zip3D_get e
    obtain ⟨v', q1, r1⟩ := r.get e1
    obtain ⟨u', q2, r2⟩ := r'.get e2
    obtain ⟨w', q3, r3⟩ := r''.get e3
    have z1 := f1 vs (same_t (s1.trans s2) h)
    have z2 := f2 us (same_t (s1.trans s2) h')
    have z3 := f3 ws (same_t (s1.trans s2) h'')
    rw [q1] at z1; cases z1
    rw [q2] at z2; cases z2
    rw [q3] at z3; cases z3
    have hb := same_none s2 hT
    exact ⟨upd Bc T _, (Gr.refl s2).new hT hT, .tup (SqT.of upd_same) (.cons ((r1.mono s1).mono (same_new hb)) (.cons ((r2.mono s1).mono (same_new hb)) (.cons ((r3.mono s1).mono (same_new hb)) .nil)))⟩
theorem wi_zip3 {ta tb tc : TE} {F : List D → List SD → Prop} (h : WE K ta ρ fun x ρ1 => WE K tb ρ1 fun y ρ2 => WE K tc ρ2 fun z ρ3 => ∃ xs ys zs, x = .tup xs ∧ y = .tup ys ∧ z = .tup zs ∧ xs.length = ys.length ∧ xs.length = zs.length ∧ F (zip3D xs ys zs) ρ3) :
    WI K (iZip3 K (tCons ta (tCons tb (tCons tc tNil)))) ρ F :=
  fun P B0 H0 B H σ S RR k => h P B0 H0 B H σ S _ fun v x ρ1 B1 H1 h1 S1 s1 r1 => h1 P B0 H0 B1 H1 σ S1 _ fun u y ρ2 B2 H2 h2 S2 s2 r2 => h2 P B0 H0 B2 H2 σ S2 _ fun w z ρ3 B3 H3 ⟨xs, ys, zs, e1, e2, e3, l1, l2, f⟩ S3 s3 r3 => by
    subst e1 e2 e3
    have r1' := (r1.mono s2.bb).mono s3.bb
    have r2' := r2.mono s3.bb
    cases r1' with
    | tup h1 a1 =>
      cases r2' with
      | tup h2 a2 =>
        cases r3 with
        | tup h3 a3 => exact ⟨_, _, _, _, _, _, rfl, same_t S3.le h1, same_t S3.le h2, same_t S3.le h3, k _ _ ρ3 B3 H3 f S3 ((s1.trans s2).trans s3) (dw_zip3 h1 a1 h2 a2 h3 a3 l1 l2)⟩
/-! ### dicts -/
def kD : Key → D
  | .inl i => .int i
  | .inr s => .str s
def putD (kvs : List (Key × D)) (k : Key) (d : D) : List (Key × D) := if (kvs.any fun kv => decide (kv.1 = k)) = true then kvs.map (fun kv => if kv.1 = k then (kv.1, d) else kv) else kvs ++ [(k, d)]
def mergeD (kvs more : List (Key × D)) : List (Key × D) := more.foldl (fun acc kv => putD acc kv.1 kv.2) kvs
theorem RA.keys {B : Hp} : ∀ {ks : List Key} {vs : List V}, RA K B vs (ks.map kD) → vs = ks.map kV
  | [], _, .nil => rfl
  | .inl i :: ks, _, .cons (.int _) q => by rw [List.map_cons, RA.keys q]; rfl
  | .inr i :: ks, _, .cons (.str _) q => by rw [List.map_cons, RA.keys q]; rfl
theorem RK.any {B : Hp} {k : Key} : ∀ {vs : List (Key × V)} {ds : List (Key × D)}, RK K B vs ds → (vs.any fun kv => decide (kv.1 = k)) = (ds.any fun kv => decide (kv.1 = k))
  | _, _, .nil => rfl
  | _, _, .cons h q => by
    rw [List.any_cons, List.any_cons, RK.any q]
theorem RK.append {B : Hp} : ∀ {vs ws : List (Key × V)} {ds es : List (Key × D)}, RK K B vs ds → RK K B ws es → RK K B (vs ++ ws) (ds ++ es)
  | _, _, _, _, .nil, q => q
  | _, _, _, _, .cons h p, q => .cons h (RK.append p q)
theorem RK.over {B : Hp} {k : Key} {v : V} {d : D} (hv : R K B v d) : ∀ {vs : List (Key × V)} {ds : List (Key × D)}, RK K B vs ds → RK K B (vs.map fun kv => if kv.1 = k then (kv.1, v) else kv) (ds.map fun kv => if kv.1 = k then (kv.1, d) else kv)
  | _, _, .nil => .nil
  | _, _, .cons (k := k') (v := v') (d := d') (vs := vs) (ds := ds) h q => by
    rw [List.map_cons, List.map_cons]
    by_cases z : k' = k
    · subst z
      simp only [if_true]
      exact .cons hv (RK.over hv q)
    · simp only [if_neg z]
      exact .cons h (RK.over hv q)
theorem RK.put {B : Hp} {k : Key} {v : V} {d : D} (hv : R K B v d) {vs : List (Key × V)} {ds : List (Key × D)} (q : RK K B vs ds) : RK K B (putK vs k v) (putD ds k d) := by
  unfold putK putD
  rw [RK.any q]
  by_cases z : (ds.any fun kv => decide (kv.1 = k)) = true
  · rw [if_pos z, if_pos z]; exact RK.over hv q
  · rw [if_neg z, if_neg z]; exact RK.append q (.cons hv .nil)
theorem RK.merge {B : Hp} : ∀ {ws : List (Key × V)} {es : List (Key × D)}, RK K B ws es → ∀ {vs : List (Key × V)} {ds : List (Key × D)}, RK K B vs ds → RK K B (mergeK vs ws) (mergeD ds es)
  | _, _, .nil, _, _, q => q
  | _, _, .cons h r, _, _, q => RK.merge r (RK.put h q)
theorem RK.zip {B : Hp} : ∀ {ks : List Key} {ys : List V} {ds : List D}, RA K B ys ds → RK K B (ks.zip ys) (ks.zip ds)
  | [], _, _, _ => .nil
  | _ :: _, _, _, .nil => .nil
  | _ :: ks, _, _, .cons h r => .cons h (RK.zip r)
/-- unlike keys: the pairs as they are -/
theorem mergeD_new : ∀ {es ds : List (Key × D)}, (ds ++ es).Pairwise (fun p q => p.1 ≠ q.1) → mergeD ds es = ds ++ es
  | [], ds, _ => (List.append_nil ds).symm
  | e :: es, ds, h => by
    have ne : (ds.any fun kv => decide (kv.1 = e.1)) = false := by
      rw [List.any_eq_false]
      intro p hp
      have := (List.pairwise_append.mp h).2.2 p hp e List.mem_cons_self
      simpa using this
    show mergeD (putD ds e.1 e.2) es = _
    have e2 : putD ds e.1 e.2 = ds ++ [e] := by
      unfold putD
      rw [ne, if_neg Bool.false_ne_true]
    rw [e2, mergeD_new (by rw [List.append_assoc]; exact h), List.append_assoc]
    rfl
theorem we_dictZip {ta tb : TE} {F : D → List SD → Prop} (h : WE K ta ρ fun x ρ1 => WE K tb ρ1 fun y ρ2 => ∃ (ks : List Key) (ys : List D), x = .tup (ks.map kD) ∧ y = .tup ys ∧ ks.length = ys.length ∧ ys.length ≤ sizeLine ∧ F (.dct (mergeD [] (ks.zip ys))) ρ2) : WE K (tDictZip K (tCons ta (tCons tb tNil))) ρ F :=
  fun P B0 H0 B H σ S Q k => h P B0 H0 B H σ S _ fun v x ρ1 B1 H1 h1 S1 s1 r1 => h1 P B0 H0 B1 H1 σ S1 _ fun u y ρ2 B2 H2 ⟨ks, ys, e1, e2, l1, l2, f⟩ S2 s2 r2 => by
    subst e1 e2
    have r1' := r1.mono s2.bb
    cases r1' with
    | tup h1 a1 =>
      cases r2 with
      | tup h2 a2 =>
        rw [RA.keys a1] at h1
        refine ⟨_, _, ks, _, rfl, same_t S2.le h1, same_t S2.le h2, by rw [l1, a2.length], by rw [a2.length]; exact l2, fun p hp => ?_⟩
        have hb := S2.bfree hp
        exact k _ _ ρ2 (upd B2 p _) _ f (S2.new _ hp) ((s1.trans s2).trans (Ev.new S2.le hp)) (.dct upd_same ((RK.merge (RK.zip a2) .nil).mono (same_new hb)))
/-- dict(xs), xs a list of pairs -/
theorem we_dictP {te : TE} {F : D → List SD → Prop} (h : WE K te ρ fun x ρ1 => ∃ es : List (Key × D), x = .lst (es.map fun e => .tup [kD e.1, e.2]) ∧ F (.dct (mergeD [] es)) ρ1) :
    WE K (tCB (fun xs H Q => ∃ (a : Addr) (ps : List Addr) (kvs : List (Key × V)), xs = [.ref a] ∧ SqL K H a (ps.map V.ref) ∧ Paired (fun p kv => SqT K H p [kV kv.1, kv.2]) ps kvs ∧
    ∀ p, H p = none → Q (.ref p) (upd H p (.dK (mergeK [] kvs)))) (tCons te tNil)) ρ F :=
  we_cb1 (h.mono fun x _ ⟨es, e, q⟩ => fun B H vs s r Q k => by
    obtain ⟨v, rfl, r1⟩ := ra1 r
    subst e
    cases r1 with
    | lst h1 a1 =>
      rename_i a vs
      have key : ∀ {es : List (Key × D)} {vs : List V}, RA K B vs (es.map fun e => .tup [kD e.1, e.2]) → ∃ (ps : List Addr) (kvs : List (Key × V)), vs = ps.map V.ref ∧ Paired (fun p kv => SqT K H p [kV kv.1, kv.2]) ps kvs ∧ RK K B kvs es := by
        intro es
        induction es with
        | nil =>
          intro vs r
          cases r
          exact ⟨[], [], rfl, .nil, .nil⟩
        | cons e es ih =>
          intro vs r
          cases r with
          | cons hr tr =>
            cases hr with
            | tup hs ha =>
              cases ha with
              | cons k1 k2 =>
                cases k2 with
                | cons k2 k3 =>
                  cases k3
                  obtain ⟨ps, kvs, e1, e2, e3⟩ := ih tr
                  have ek := RA.keys (ks := [e.1]) (.cons k1 .nil)
                  rename_i p x y
                  refine ⟨_ :: ps, (e.1, y) :: kvs, by rw [List.map_cons, e1], .cons ?_ e2, .cons k2 e3⟩
                  have hk : x = kV e.1 := by simpa using ek
                  rw [← hk]
                  exact same_t s hs
      obtain ⟨ps, kvs, e1, e2, e3⟩ := key a1
      subst e1
      refine ⟨a, ps, kvs, rfl, SqL.of (s _ _ h1), e2, fun p hp => ?_⟩
      have hb := same_none s hp
      exact k _ _ (upd B p _) _ q ((Gr.refl s).new hp hp) (.dct upd_same ((RK.merge e3 .nil).mono (same_new hb))))
/-! ### repr of flat things -/
def rReprF : List V → Hp → VK → Prop := fun xs H Q => (∃ i, xs = [.int i] ∧ i.natAbs.log2 < 1920 ∧ Q (.str (toString i)) H) ∨ (∃ b, xs = [.bl b] ∧ Q (.str (if b then "True" else "False")) H) ∨ (∃ z : Str, xs = [.str z] ∧ (reprText z).length ≤ sizeLine ∧ Q (.str (reprText z)) H)
theorem call_reprF {X : Cx} : CallR X (.builtin "repr") rReprF := by
  intro pins s σ H xs us Q I r h
  rcases h with ⟨i, rfl, hz, q⟩ | ⟨b, rfl, q⟩ | ⟨z, rfl, hz, q⟩
  · obtain ⟨u, rfl, t, rfl⟩ := vals1 r
    exact PySem.P.repr_of_int hz ⟨.str _, H, I.tok _, ⟨_, rfl⟩, q⟩
  · obtain ⟨u, rfl, e⟩ := vals1 r
    obtain rfl : u = Value.bool b := e
    exact PySem.P.repr_of_bool ⟨.str _, H, I.tok _, ⟨_, rfl⟩, q⟩
  · obtain ⟨u, rfl, t, rfl⟩ := vals1 r
    exact PySem.P.repr_of_str ⟨.str _, H, I.tok _, ⟨_, rfl⟩, q⟩ hz
def dRepr (x : D) (F : D → Prop) : Prop := match x with
  | .int i => i.natAbs.log2 < 1920 ∧ F (.str (toString i))
  | .bl b => F (.str (if b then "True" else "False"))
  | .str z => (reprText z).length ≤ sizeLine ∧ F (.str (reprText z))
  | _ => False
theorem we_reprF {te : TE} {F : D → List SD → Prop} (h : WE K te ρ fun x ρ1 => dRepr x fun d => F d ρ1) : WE K (tCB rReprF (tCons te tNil)) ρ F :=
  we_cb1 (h.mono fun x _ q => fun B H vs s r Q k => by
    obtain ⟨v, rfl, r1⟩ := ra1 r
    unfold dRepr at q
    split at q
    · rw [rint r1]
      exact .inl ⟨_, rfl, q.1, k _ _ B H q.2 (Gr.refl s) (.str _)⟩
    · rw [rbl r1]
      exact .inr (.inl ⟨_, rfl, k _ _ B H q (Gr.refl s) (.str _)⟩)
    · rw [rstr r1]
      exact .inr (.inr ⟨_, rfl, q.1, k _ _ B H q.2 (Gr.refl s) (.str _)⟩)
    · exact q.elim)
end
/-! ### == of own instances -/
def rEqI (K : Fg) (C : Addr) (S : List D → (D → Prop) → Prop) : R2 := fun x y H Q => (∃ B fs gs, Same B H ∧ R K B x (.obj C fs) ∧ R K B y (.obj C gs) ∧ S [.obj C fs, .obj C gs] fun d => d = .bl true) ∧ ∀ H', Ext H H' → Q (.bl true) H'
theorem op_eqI {X : Cx} {C : Addr} {n : Nat} {ps : List Str} {S : List D → (D → Prop) → Prop} (M : Met X.prog X.w X.K X.mg X.base C "__eq__" n ps (pureSp X.K 2 S)) (hr : Room n X.A) : OpR X (compareOp .Eq) (rEqI X.K C S) := by
  obtain ⟨f, fd, c, hm, hb, F⟩ := M
  let RR : Addr → Addr → Hp → Prop := fun a b H => ∃ B fs gs, Same B H ∧ R X.K B (.ref a) (.obj C fs) ∧ R X.K B (.ref b) (.obj C gs) ∧ S [.obj C fs, .obj C gs] fun d => d = .bl true
  have F2 : FnOk X.prog X.w X.K X.mg X.base CX0 n f fd ps (spEq RR) := F.imp fun vs H Q E ⟨a, b, e, ⟨B, fs, gs, s, r1, r2, h⟩, k⟩ => by
    subst e
    refine ⟨B, _, _, s, .cons r1 (.cons r2 .nil), rfl, h, fun v d B' H' g q r => ?_⟩
    subst g
    rw [rbl r]
    exact k H' fun a o e => q.same a o e
  have G := rcG_ins (X := X) F2 hm.at_ (beq_iff_eq.mp (by simpa using hm.fn)) hb pass0
  intro pins s σ H x y v u Q I rx ry h
  obtain ⟨⟨B, fs, gs, sm, r1, r2, hs⟩, q⟩ := h
  cases r1 with
  | obj e1 f1 =>
    cases r2 with
    | obj e2 f2 => exact op_eqG G hr pins s σ H _ _ v u Q I rx ry ⟨⟨_, _, _, _, _, _, rfl, rfl, sm _ _ e1, sm _ _ e2, ⟨B, fs, gs, sm, .obj e1 f1, .obj e2 f2, hs⟩⟩, q⟩
theorem we_eqI {K : Fg} {ρ : List SD} {C : Addr} {S : List D → (D → Prop) → Prop} {ta tb : TE} {F : D → List SD → Prop} (h : WE K ta ρ fun x ρ1 => WE K tb ρ1 fun y ρ2 => ∃ fs gs, x = .obj C fs ∧ y = .obj C gs ∧ (S [x, y] fun d => d = .bl true) ∧ F (.bl true) ρ2) : WE K (tOp (rEqI K C S) ta tb) ρ F :=
  we_op (h.mono fun x _ q => q.mono fun y _ ⟨fs, gs, e1, e2, hs, f⟩ => by
    subst e1 e2
    intro B H v u s r1 r2 Q k
    refine ⟨⟨B, fs, gs, s, r1, r2, hs⟩, fun H' e => k _ _ B H' f ⟨fun b o _ z => e b o z, Same.refl _, fun b o z => e b o (s b o z), fun b o z => .inl z, fun b z => z.elim⟩ (.bl true)⟩)
/-! ### len(set(..)) of tuples of ints -/
/-- so many unlike ones are among them -/
def Dist {α : Type} (xs : List α) (n : Nat) : Prop := ∃ M : List α, M.Nodup ∧ M.length = n ∧ ∀ x, x ∈ M ↔ x ∈ xs
def tLenSetT (K : Fg) (ta : TE) : TE := fun σ H Q => ta σ H fun x H1 => ∃ (l : Addr) (ks : List (Addr × List Int)), x = V.ref l ∧ SqL K H1 l (ks.map fun p => V.ref p.1) ∧ (∀ p ∈ ks, SqT K H1 p.1 (p.2.map V.int)) ∧ ks.length < 64 ∧ ∀ n, Dist (ks.map (·.2)) n → Q (.int (n : Nat)) H1
theorem pe_lenSetT {X : Cx} {a : Expr} {ta : TE} {p p2 q pos : Pos} (hc : X.calm = true) (hu : X.A.units + 64 < cLine) (hm : X.mg "len" = none) (hm2 : X.mg "set" = none) (ha : PE X a ta) (hg : Gl X "len" := by rfl) (hg2 : Gl X "set" := by rfl)
    (na : starEach [a] X.env = (false, eval a X.env) :: starEach [] X.env := by rfl) : PE X (.Call (.Name "len" p) [.Call (.Name "set" p2) [a] [] q] [] pos) (tLenSetT X.K ta) := by
  refine ⟨fun pins s σ H Q I h => ?_⟩
  refine Call_ (ld_blt I hg hm PySem.boot_len (PyProof.Rows.callWith_builtin1 (PyProof.Rows.args_cons ?_ rfl) rfl rfl))
  refine Call_ (ld_blt I hg2 hm2 PyProof.Rows.boot_set (PyProof.Rows.callWith_type1 (PyProof.Rows.args_cons (thn (ha.run pins s σ H _ I h) fun v s1 ⟨x, H1, I1, r1, q1⟩ => PyProof.Rows.args_nil ?_) na) na rfl))
  obtain ⟨l, ks, rfl, hl, hk, hf, q1⟩ := q1
  cases r1
  obtain ⟨its, rv, pl, hz⟩ := I1.list hl
  refine call_set_tups (P := X.prog) (w := X.w) ks (I1.ok.hd hc) pl.isList (by simpa using refs_of_vals rv) (fun p hp => I1.isT (hk p hp)) hf (by omega) fun h' tk L es ep t RR g hk2 => PyProof.Rows.args_nil ?_
  have I2 : Inv X pins σ H1 { s1 with heap := h', toks := tk } := I1.kept fun b o e => hk2 b o e
  obtain ⟨o, ho, hex, hd⟩ := RR.ob
  have sz : es.size = L.length := SetTR.size (s := { s1 with heap := h', toks := tk }) RR
  refine call_len_set (s := { s1 with heap := h', toks := tk }) ho hex hd (SetTR.fits (s := { s1 with heap := h', toks := tk }) RR) (by
    rw [sz]
    have := RR.few
    omega) ⟨.int L.length, H1, I2.tok _, ⟨_, by rw [sz]⟩, q1 L.length ⟨L.map (·.2), RR.nd, by simp, fun y => ⟨fun hy => ?_, fun hy => ?_⟩⟩⟩
  · obtain ⟨p, hp, rfl⟩ := List.mem_map.mp hy
    have := g.sub p hp
    rw [List.take_length] at this
    exact List.mem_map.mpr ⟨p, this, rfl⟩
  · obtain ⟨p, hp, rfl⟩ := List.mem_map.mp hy
    exact g.all p (by rw [List.take_length]; exact hp)
theorem we_lenSetT {K : Fg} {ρ : List SD} {ta : TE} {F : D → List SD → Prop} (h : WE K ta ρ fun x ρ1 => ∃ xs : List (List Int), x = .lst (xs.map fun y => .tup (y.map D.int)) ∧ xs.length < 64 ∧ ∀ n, Dist xs n → F (.int (n : Nat)) ρ1) : WE K (tLenSetT K ta) ρ F :=
  fun P B0 H0 B H σ S Q k => h P B0 H0 B H σ S _ fun v x ρ1 B1 H1 ⟨xs, e, hl, f⟩ S1 s1 r1 => by
    subst e
    cases r1 with
    | lst h1 a1 =>
      rename_i l vs
      have key : ∀ {xs : List (List Int)} {vs : List V}, RA K B1 vs (xs.map fun y => .tup (y.map D.int)) → ∃ ks : List (Addr × List Int), vs = ks.map (fun p => V.ref p.1) ∧ (∀ p ∈ ks, SqT K H1 p.1 (p.2.map V.int)) ∧ ks.map (·.2) = xs := by
        intro xs
        induction xs with
        | nil =>
          intro vs r
          cases r
          exact ⟨[], rfl, (fun p hp => nomatch hp), rfl⟩
        | cons y ys ih =>
          intro vs r
          cases r with
          | cons hr tr =>
            cases hr with
            | tup hs ha =>
              obtain ⟨ks, e1, e2, e3⟩ := ih tr
              rw [RA.ints ha] at hs
              refine ⟨(_, y) :: ks, by rw [List.map_cons, e1], fun p hp => ?_, by rw [List.map_cons, e3]⟩
              rcases List.mem_cons.mp hp with rfl | hp
              · exact same_t S1.le hs
              · exact e2 p hp
      obtain ⟨ks, e1, e2, e3⟩ := key a1
      subst e1
      refine ⟨l, ks, rfl, SqL.of (S1.le _ _ h1), e2, by rw [← List.length_map (f := (·.2)), e3]; exact hl, fun n hn => ?_⟩
      rw [e3] at hn
      exact k _ _ ρ1 B1 H1 (f n hn) S1 s1 (.int _)
end Lw

set_option Elab.async false
set_option linter.all false
set_option maxRecDepth 100000
set_option maxHeartbeats 4000000
namespace Lw
open PySem PySem.Spec PyProof.Rows L2
/-! ### what the operations do to data, by kind -/
section
variable {K : Fg} {F : D → Prop} {i j : Int} {xs ys : List D} {d : D}
theorem q_sub (h : F (.int (i - j))) : dSub (.int i) (.int j) F := h
theorem q_addI (h : F (.int (i + j))) : dAdd (.int i) (.int j) F := h
theorem q_addS {z u : Str} (hl : z.length + u.length ≤ sizeLine) (h : F (.str (z ++ u))) : dAdd (.str z) (.str u) F := ⟨hl, h⟩
theorem q_addL (hl : xs.length + ys.length ≤ sizeLine) (h : F (.lst (xs ++ ys))) : dAdd (.lst xs) (.lst ys) F := ⟨hl, h⟩
theorem q_addT (hl : xs.length + ys.length ≤ sizeLine) (h : F (.tup (xs ++ ys))) : dAdd (.tup xs) (.tup ys) F := ⟨hl, h⟩
theorem big1 : (10 : Nat) ^ 200 < 2 ^ 400000 := Nat.lt_of_lt_of_le (by decide : (10 : Nat) ^ 200 < 2 ^ 1400) (Nat.pow_le_pow_right (by decide) (by decide))
theorem mulA (hi : i.natAbs ≤ 10 ^ 200) (hj : j.natAbs ≤ 10 ^ 200) : CMulA i j := .inr ⟨Nat.lt_of_le_of_lt hi big1, Nat.lt_of_le_of_lt hj big1⟩
theorem mulA' {n : Nat} (hn : n ≤ 10 ^ 200) (hi : i.natAbs ≤ n) (hj : j.natAbs ≤ n) : CMulA i j := mulA (Nat.le_trans hi hn) (Nat.le_trans hj hn)
theorem q_mul (hm : CMulA i j) (h : F (.int (i * j))) : dMul (.int i) (.int j) F := ⟨hm, h⟩
theorem q_fdiv (hm : CDivN i j) (h : F (.int (i.fdiv j))) : dFdiv (.int i) (.int j) F := ⟨hm, h⟩
theorem q_mod (hm : j ≠ 0) (h : F (.int (i.fmod j))) : dMod (.int i) (.int j) F := ⟨hm, h⟩
theorem q_neg (h : F (.int (-i))) : dNeg (.int i) F := h
theorem q_cmp {p : Int → Int → Bool} (h : F (.bl (p i j))) : dCmp p (.int i) (.int j) F := h
theorem q_opdCmp {p : Int → Int → Bool} (h : F (.bl (p i j))) : OpD K (rI0 fun i j => .bl (p i j)) (.int i) (.int j) F := opd_cmp (x := .int i) (y := .int j) h
theorem q_ixT (e : atI xs i = some d) (h : F d) : dIx (.tup xs) (.int i) F := ⟨xs, i, d, rfl, rfl, e, h⟩
theorem q_ixL (e : atI xs i = some d) (h : F d) : dIx (.lst xs) (.int i) F := ⟨xs, i, d, rfl, rfl, e, h⟩
theorem q_ixF (e : atI xs i = some d) (h : F d) : dIx (.frl xs) (.int i) F := ⟨xs, i, d, rfl, rfl, e, h⟩
theorem q_ixD {ds : List (Key × D)} {x : D} {k : Key} (hk : keyD x = some k) (e : lookD ds k = some d) (h : F d) : dIx (.dct ds) x F := ⟨k, d, hk, e, h⟩
theorem q_ixS {z : Str} {c : Nat} (hl : z.length ≤ sizeLine) (e : atI z.cps.toList i = some c) (h : F (.str ⟨#[c]⟩)) : dIx (.str z) (.int i) F := ⟨i, c, rfl, hl, e, h⟩
theorem q_lenL (h : F (.int xs.length)) : dLen (.lst xs) F := h
theorem q_lenT (h : F (.int xs.length)) : dLen (.tup xs) F := h
theorem q_lenF (h : F (.int xs.length)) : dLen (.frl xs) F := h
theorem q_lenS {z : Str} (hl : z.length ≤ sizeLine) (h : F (.int z.length)) : dLen (.str z) F := ⟨hl, h⟩
theorem q_lenD {ds : List (Key × D)} (h : F (.int ds.length)) : dLen (.dct ds) F := h
theorem q_intI (h : F (.int i)) : dInt (.int i) F := h
theorem q_intB {b : Bool} (h : F (.int (if b then 1 else 0))) : dInt (.bl b) F := h
theorem q_abs (h : F (.int (if i < 0 then -i else i))) : dAbs (.int i) F := h
theorem q_str (hl : i.natAbs.log2 < 1920) (h : F (.str (toString i))) : dStr (.int i) F := ⟨hl, h⟩
theorem q_2I {g : Int → Int → Int} (h : F (.int (g i j))) : d2I g (.int i) (.int j) F := h
theorem q_rI (hl : i.natAbs.log2 < 1920) (h : F (.str (toString i))) : dRepr (.int i) F := ⟨hl, h⟩
theorem q_rB {b : Bool} (h : F (.str (if b then "True" else "False"))) : dRepr (.bl b) F := h
theorem q_rS {z : Str} (hl : (reprText z).length ≤ sizeLine) (h : F (.str (reprText z))) : dRepr (.str z) F := ⟨hl, h⟩
variable {G : Bool → Prop}
theorem q_eqI (h : G (decide (i = j))) : dEqB (.int i) (.int j) G := h
theorem q_eqS {z u : Str} (h : G (decide (z = u))) : dEqB (.str z) (.str u) G := h
theorem q_eqB {z u : Bool} (h : G (decide (z = u))) : dEqB (.bl z) (.bl u) G := h
theorem q_eqN (h : G true) : dEqB .non .non G := h
theorem q_eqNI (h : G false) : dEqB .non (.int i) G := h
theorem q_eqNS {z : Str} (h : G false) : dEqB .non (.str z) G := h
theorem q_eqIN (h : G false) : dEqB (.int i) .non G := h
theorem q_eqSN {z : Str} (h : G false) : dEqB (.str z) .non G := h
theorem q_eqT (h1 : (D.tup xs).ok = true) (h2 : (D.tup ys).ok = true) (h : G (D.eqb (.tup xs) (.tup ys))) : dEqB (.tup xs) (.tup ys) G := ⟨h1, h2, h⟩
theorem q_eqL (h1 : (D.lst xs).ok = true) (h2 : (D.lst ys).ok = true) (h : G (D.eqb (.lst xs) (.lst ys))) : dEqB (.lst xs) (.lst ys) G := ⟨h1, h2, h⟩
theorem q_slS {z : Str} {lo hi : Option Int} (hl : z.length ≤ sizeLine) (h : F (.str (cutS z lo hi))) : dSl (.str z) lo hi F := ⟨hl, h⟩
theorem q_slL {lo hi : Option Int} (h : F (.lst (cutD xs lo hi))) : dSl (.lst xs) lo hi F := h
theorem q_slF {lo hi : Option Int} (h : F (.lst (cutD xs lo hi))) : dSl (.frl xs) lo hi F := h
theorem q_slT {lo hi : Option Int} (h : F (.tup (cutD xs lo hi))) : dSl (.tup xs) lo hi F := h
/-- a list's bools -/
theorem q_bools {g : List Bool → Bool} {bs : List Bool} (e : xs = bs.map D.bl) (h : F (.bl (g bs))) : dBools g (.lst xs) F := ⟨bs, by rw [e], h⟩
end
/-! ### data of spots -/
abbrev Spot := Int × Int
abbrev spD (p : Spot) : D := .tup [.int p.1, .int p.2]
/-- its numbers are small -/
def SpOk (p : Spot) : Prop := p.1.natAbs ≤ 10 ^ 9 ∧ p.2.natAbs ≤ 10 ^ 9
end Lw

set_option Elab.async false
set_option linter.all false
set_option maxRecDepth 100000
set_option maxHeartbeats 4000000
namespace Lw
open PySem PySem.Spec PyProof.Rows L2
/-! ### texts of numbers, names, wells -/
abbrev numS (i : Int) : Str := Str.ofString (toString i)
def numC (i : Int) : List Nat := if i < 0 then 45 :: TL.numL i.natAbs else TL.numL i.natAbs
theorem tl_numS (i : Int) : TL.tl (numS i) = numC i := by
  unfold numC numS
  by_cases h : i < 0
  · rw [if_pos h]
    obtain ⟨n, rfl⟩ : ∃ n : Nat, i = Int.negSucc n := ⟨i.natAbs - 1, by omega⟩
    have e : toString (Int.negSucc n) = "-" ++ toString ((n + 1 : Nat) : Int) := rfl
    have e2 := TL.tl_num (n + 1)
    rw [TL.tl_ofString] at e2
    rw [TL.tl_ofString, e, String.toList_append, List.map_append, e2]
    rfl
  · rw [if_neg h]
    obtain ⟨n, rfl⟩ : ∃ n : Nat, i = (n : Int) := ⟨i.natAbs, by omega⟩
    rw [TL.tl_num]
    simp
theorem numC_in {i : Int} {c : Nat} (h : c ∈ numC i) : c = 45 ∨ 48 ≤ c ∧ c ≤ 57 := by
  unfold numC at h
  split at h
  · rcases List.mem_cons.mp h with rfl | h
    · exact .inl rfl
    · exact .inr (TL.numL_digits _ c h)
  · exact .inr (TL.numL_digits _ c h)
theorem numC_ne (i : Int) : numC i ≠ [] := by
  unfold numC
  split
  · simp
  · exact TL.numL_ne _
theorem numC_len {i : Int} {k : Nat} (hk : 0 < k) (h : i.natAbs < 10 ^ k) : (numC i).length ≤ k + 1 := by
  have := TL.numL_len hk h
  unfold numC
  split
  · rw [List.length_cons]; omega
  · omega
theorem len_tl (z : Str) : z.length = (TL.tl z).length := TL.len_tl z
theorem int_numS {i : Int} (h : i.natAbs < 10 ^ 9) : intText? (numS i) = some i := by
  have hl := TL.numL_len (by decide : 0 < 9) h
  by_cases n : i < 0
  · have e := intText_neg (x := numS i) (cs := TL.numL i.natAbs) (by rw [show (numS i).cps.toList = TL.tl (numS i) from rfl, tl_numS]; unfold numC; rw [if_pos n]) (TL.numL_digits _) (TL.numL_ne _) (by
      rw [len_tl, tl_numS]
      unfold numC
      rw [if_pos n, List.length_cons]
      omega)
    rw [e, TL.numL_val]
    congr 1
    omega
  · have z : (numS i).cps.toList = TL.numL i.natAbs := by
      rw [show (numS i).cps.toList = TL.tl (numS i) from rfl, tl_numS]
      unfold numC
      rw [if_neg n]
    have e := intText_digits (x := numS i) (by rw [z]; exact TL.numL_digits _) (by rw [z]; exact TL.numL_ne _) (by
      rw [len_tl, tl_numS]
      unfold numC
      rw [if_neg n]
      omega)
    rw [e, z, TL.numL_val]
    congr 1
    omega
/-! names -/
def letC : List Nat := TL.tl "abcdefghijklmnopqrstuvwxyz"
def figC : List Nat := TL.tl "0123456789"
def nameB (z : Str) : Bool := match TL.tl z with
  | [] => false
  | c :: r => decide (r.length < 8) && decide (c ∈ letC) && r.all fun c => decide (c ∈ letC) || decide (c ∈ figC)
theorem let_range {c : Nat} (h : c ∈ letC) : 97 ≤ c ∧ c ≤ 122 := by
  have : ∀ c ∈ letC, 97 ≤ c ∧ c ≤ 122 := by decide +kernel
  exact this c h
theorem fig_range {c : Nat} (h : c ∈ figC) : 48 ≤ c ∧ c ≤ 57 := by
  have : ∀ c ∈ figC, 48 ≤ c ∧ c ≤ 57 := by decide +kernel
  exact this c h
theorem fig_of {c : Nat} (h1 : 48 ≤ c) (h2 : c ≤ 57) : c ∈ figC := by
  have : ∀ k : Fin 10, (48 + k.val) ∈ figC := by decide +kernel
  have q := this ⟨c - 48, by omega⟩
  simpa [show 48 + (c - 48) = c by omega] using q
theorem name_in {z : Str} (h : nameB z = true) {c : Nat} (hc : c ∈ TL.tl z) : 97 ≤ c ∧ c ≤ 122 ∨ 48 ≤ c ∧ c ≤ 57 := by
  unfold nameB at h
  split at h
  · cases h
  · rename_i d r e
    simp only [Bool.and_eq_true, decide_eq_true_eq, List.all_eq_true, Bool.or_eq_true] at h
    rw [e] at hc
    rcases List.mem_cons.mp hc with rfl | hc
    · exact .inl (let_range h.1.2)
    · rcases h.2 c hc with q | q
      · exact .inl (let_range q)
      · exact .inr (fig_range q)
theorem name_len {z : Str} (h : nameB z = true) : 1 ≤ z.length ∧ z.length ≤ 8 := by
  rw [len_tl]
  unfold nameB at h
  split at h
  · cases h
  · rename_i d r e
    simp only [Bool.and_eq_true, decide_eq_true_eq] at h
    rw [e, List.length_cons]
    omega
/-! wells -/
abbrev Well := Str × Spot
abbrev wellD (w : Well) : D := .tup [.str w.1, .int w.2.1, .int w.2.2]
def lineOf (w : Well) : Str := Txt.join " " ["well", w.1, numS w.2.1, numS w.2.2]
def textOf (ws : List Well) : Str := Txt.join "\n" (ws.map lineOf)
structure WOk (w : Well) : Prop where
  name : nameB w.1 = true
  x : w.2.1.natAbs ≤ 9999
  y : w.2.2.natAbs ≤ 9999
theorem tl_line (w : Well) : TL.tl (lineOf w) = TL.tl "well" ++ (32 :: (TL.tl w.1 ++ (32 :: (numC w.2.1 ++ (32 :: numC w.2.2))))) := by
  unfold lineOf
  rw [TL.join_eq, TL.tl_join]
  simp only [List.map_cons, List.map_nil, TL.joinL, tl_numS]
  rfl
theorem line_no10 {w : Well} (h : nameB w.1 = true) : 10 ∉ TL.tl (lineOf w) := fun hm => by
  rw [tl_line] at hm
  simp only [List.mem_append, List.mem_cons] at hm
  rcases hm with q | q | q | q | q | q | q
  · exact absurd q (by decide +kernel)
  · cases q
  · have := name_in h q; omega
  · cases q
  · have := numC_in q; omega
  · cases q
  · have := numC_in q; omega
theorem sp_no32 {w : Well} (h : nameB w.1 = true) : ∀ p ∈ (["well", w.1, numS w.2.1, numS w.2.2] : List Str), 32 ∉ TL.tl p := fun p hp hm => by
  simp only [List.mem_cons, List.not_mem_nil, or_false] at hp
  rcases hp with rfl | rfl | rfl | rfl
  · exact absurd hm (by decide +kernel)
  · have := name_in h hm; omega
  · rw [tl_numS] at hm; have := numC_in hm; omega
  · rw [tl_numS] at hm; have := numC_in hm; omega
theorem split_line {w : Well} (h : nameB w.1 = true) : Txt.split (lineOf w) " " = ([("well" : Str), w.1, numS w.2.1, numS w.2.2] : List Str) :=
  TL.split_join (y := " ") (s := 32) (S := []) rfl (by decide +kernel) (by simp) (sp_no32 h)
theorem split_text {ws : List Well} (hne : ws ≠ []) (h : ∀ w ∈ ws, nameB w.1 = true) : Txt.split (textOf ws) "\n" = ws.map lineOf :=
  TL.split_join (y := "\n") (s := 10) (S := []) rfl (by decide +kernel) (by simpa using hne) fun p hp => by
    obtain ⟨w, hw, rfl⟩ := List.mem_map.mp hp
    exact line_no10 (h w hw)
theorem line_len {w : Well} (h : WOk w) : (lineOf w).length ≤ 40 := by
  rw [len_tl, tl_line]
  have h1 := (name_len h.name).2
  rw [len_tl] at h1
  have h2 := numC_len (i := w.2.1) (by decide : 0 < 4) (by have := h.x; omega)
  have h3 := numC_len (i := w.2.2) (by decide : 0 < 4) (by have := h.y; omega)
  have h4 : (TL.tl "well").length = 4 := by decide +kernel
  simp only [List.length_append, List.length_cons]
  omega
theorem lines_len : ∀ {ws : List Well}, (∀ w ∈ ws, WOk w) → ((ws.map lineOf).map (·.length)).sum ≤ 40 * ws.length
  | [], _ => by simp
  | w :: ws, h => by
    have h2 := line_len (h w List.mem_cons_self)
    have h3 := lines_len (ws := ws) fun v hv => h v (List.mem_cons_of_mem _ hv)
    simp only [List.map_cons, List.sum_cons, List.length_cons] at h3 ⊢
    omega
theorem text_len {ws : List Well} (h : ∀ w ∈ ws, WOk w) : (textOf ws).length ≤ 41 * ws.length := by
  unfold textOf
  rw [TL.join_eq]
  refine Nat.le_trans (StrLaws.join_length_le _ _) ?_
  have h1 := lines_len h
  have h2 : ("\n" : Str).length = 1 := by decide +kernel
  rw [h2, List.length_map]
  omega
end Lw

set_option Elab.async false
set_option linter.all false
set_option maxRecDepth 100000
set_option maxHeartbeats 4000000
namespace Lw
open PySem PySem.Spec PyProof.Rows L2
/-! ### the rules, K told -/
section
variable (K : Fg) {w : World} {X : Cx}
theorem op_addK (hK : X.K = K := by rfl) : OpR X (binaryOp .Add) (rAddA K) := by subst hK; exact op_addA
theorem op_eqK (hu : X.A.units + 64 < cLine) (hK : X.K = K := by rfl) : OpR X (compareOp .Eq) (rEqA K) := by subst hK; exact op_eqA hu
theorem op_neK (hu : X.A.units + 64 < cLine) (hK : X.K = K := by rfl) : OpR X (compareOp .NotEq) (rNeA K) := by subst hK; exact op_neA hu
theorem op_inK (w : World) (hu : X.A.units + 65 < cLine) (hK : X.K = K := by rfl) (hw : X.w = w := by rfl) : OpR X (compareOp .In) (rInA K w) := by subst hK hw; exact op_inA hu
theorem op_notInK (w : World) (hu : X.A.units + 65 < cLine) (hK : X.K = K := by rfl) (hw : X.w = w := by rfl) : OpR X (compareOp .NotIn) (rNotInA K w) := by subst hK hw; exact op_notInA hu
theorem ix_K (hu : X.A.units + 1 < cLine) (hK : X.K = K := by rfl) : IxR X (rIxA K) := by subst hK; exact ix_any hu
theorem sl_K (hK : X.K = K := by rfl) : L2.SlR X (rSlAny K) := by subst hK; exact sl_any
theorem call_lenK (hK : X.K = K := by rfl) : CallR X (.builtin "len") (rLenA K) := by subst hK; exact call_lenA
theorem call_isiQ (hK : X.K = K := by rfl) : CallR X (.builtin "isinstance") (rIsi K) := by subst hK; exact call_isi
theorem cr_allK (hc : X.calm = true) (hK : X.K = K := by rfl) : CallR X (.builtin "all") (rAll K) := by subst hK; exact cr_all hc
theorem cr_anyK (hc : X.calm = true) (hK : X.K = K := by rfl) : CallR X (.builtin "any") (rAny K) := by subst hK; exact cr_any hc
theorem call_listK (hK : X.K = K := by rfl) : CallR X (.type "list") (fun xs H Q => ∃ p ys, xs = [V.ref p] ∧ (SqL K H p ys ∨ SqT K H p ys) ∧ ∀ l, H l = none → Q (.ref l) (upd H l (.lst ys))) := by subst hK; exact call_list_of
theorem call_tupleK (hK : X.K = K := by rfl) : CallR X (.type "tuple") (fun xs H Q => ∃ p ys, xs = [V.ref p] ∧ ((SqL K H p ys ∧ ∀ l, H l = none → Q (.ref l) (upd H l (.tup ys))) ∨ (SqT K H p ys ∧ Q (.ref p) H))) := by subst hK; exact call_tuple_of
theorem call_dictK (hc : X.calm = true) (hK : X.K = K := by rfl) : CallR X (.type "dict") (fun xs H Q => ∃ (a : Addr) (ps : List Addr) (kvs : List (Key × V)), xs = [.ref a] ∧ SqL K H a (ps.map V.ref) ∧ Paired (fun p kv => SqT K H p [kV kv.1, kv.2]) ps kvs ∧
    ∀ p, H p = none → Q (.ref p) (upd H p (.dK (mergeK [] kvs)))) := by subst hK; exact call_dictP hc
theorem op_eqIK {C : Addr} {n : Nat} {ps : List Str} {S : List D → (D → Prop) → Prop} (M : Met X.prog X.w X.K X.mg X.base C "__eq__" n ps (pureSp X.K 2 S)) (hr : Room n X.A) : OpR X (compareOp .Eq) (rEqI X.K C S) := op_eqI M hr
section
variable {pos apos cpos p p2 pos2 q : Pos} {e e2 e3 o l tg : Expr} {ta te tl to : TE} {t : TA} {m : Str}
theorem pg_seqK {es : List Expr} {k : Nat} {t : TGs} {n : Nat} (hc : X.calm = true) (h : PGs X es t) (hK : X.K = K := by rfl) (hn : (assignEach es X.env).length = n := by rfl) (hst : (assignEach es X.env).findIdx? (·.1) = none := by rfl) : PG X (.Tuple es k pos) (gSeq K n t) := by
  subst hK; exact pg_seq hc h hn hst
theorem pe_fldK (he : PE X e ta) (hK : X.K = K := by rfl) (hb : attributeBase e m X.env (eval e X.env) = eval e X.env := by rfl) : PE X (.Attribute e m pos) (tFld K ta m) := by subst hK; exact pe_fld he hb
theorem pi_anyK (hl : PE X l tl) (hK : X.K = K := by rfl) : PI X tg l (iAny K tl) := by subst hK; exact pi_any hl
theorem pe_joinK (ho : PE X o to) (he : PE X e te) (hK : X.K = K := by rfl) (hs : starEach [e] X.env = [(false, eval e X.env)] := by rfl) (hbase : attributeBase o "join" X.env (eval o X.env) = eval o X.env := by rfl) (hline : (apos.endLine == pos.line) = true := by rfl) :
    PE X (.Call (.Attribute o "join" apos) [e] [] pos) (tM1 (fun x xs H Q => ∃ a p, ∃ ys : List Str, x = .str a ∧ xs = [.ref p] ∧ (SqL K H p (ys.map V.str) ∨ SqT K H p (ys.map V.str)) ∧
      (ys.map (·.length)).sum + ys.length * a.length ≤ 16777216 ∧ Q (.str (Txt.join a ys)) H) to te) := by subst hK; exact pe_join ho he hs hbase hline
theorem pi_zipK {kk : Nat} {elts : List Expr} {tpos : Pos} (hg : Gl X "zip") (hm : X.mg "zip" = none) (ha : PA X [e, e2] t) (hK : X.K = K := by rfl)
    (hs : starEach [e, e2] X.env = (false, eval e X.env) :: starEach [e2] X.env := by rfl) (hpl : (backTo pos (starEach [e2] X.env)).any (·.1) = false := by rfl) :
    PI X (.Tuple elts kk tpos) (.Call (.Name "zip" p) [e, e2] [] pos) (RZ.iZipA K t) := by subst hK; exact RZ.pi_zipA hg hm ha hs hpl
theorem pi_zip3K {kk : Nat} {elts : List Expr} {tpos : Pos} (hg : Gl X "zip") (hm : X.mg "zip" = none) (ha : PA X [e, e2, e3] t) (hK : X.K = K := by rfl)
    (hs : starEach [e, e2, e3] X.env = (false, eval e X.env) :: starEach [e2, e3] X.env := by rfl) (hpl : (backTo pos (starEach [e2, e3] X.env)).any (·.1) = false := by rfl) :
    PI X (.Tuple elts kk tpos) (.Call (.Name "zip" p) [e, e2, e3] [] pos) (iZip3 K t) := by subst hK; exact pi_zip3 hg hm ha hs hpl
end
end
/-! ### places, cuts -/
theorem atI_at {α : Type} {xs : List α} {j : Nat} {d : α} (h : xs[j]? = some d) : atI xs (j : Int) = some d := by
  have hj := (List.getElem?_eq_some_iff.mp h).1
  unfold atI ixN
  rw [if_pos (by omega), if_pos (by omega)]
  simpa using h
theorem cut_head {z : Str} (h : 1 ≤ z.length) : TL.tl (cutS z none (some 1)) = (TL.tl z).take 1 := by
  have e1 : HT.sIx z.length 0 none = 0 := rfl
  have e2 : HT.sIx z.length z.length (some 1) = 1 := by
    unfold HT.sIx
    simp
    omega
  unfold cutS
  rw [e1, e2]
  rfl
theorem cut_tail {z : Str} (h : 1 ≤ z.length) : TL.tl (cutS z (some 1) none) = (TL.tl z).drop 1 := by
  have e1 : HT.sIx z.length 0 (some 1) = 1 := by
    unfold HT.sIx
    simp
    omega
  have e2 : HT.sIx z.length z.length none = z.length := rfl
  unfold cutS
  rw [e1, e2]
  show ((TL.tl z).drop 1).take (z.length - 1) = _
  rw [len_tl, ← List.length_drop, List.take_length]
theorem str_ext {x y : Str} (h : TL.tl x = TL.tl y) : x = y := TL.ext_tl h
theorem numS_first (i : Int) : ∃ c r, numC i = c :: r ∧ ((i < 0 ∧ c = 45 ∧ r = TL.numL i.natAbs) ∨ (¬ i < 0 ∧ 48 ≤ c ∧ c ≤ 57)) := by
  by_cases h : i < 0
  · refine ⟨45, TL.numL i.natAbs, ?_, .inl ⟨h, rfl, rfl⟩⟩
    unfold numC
    rw [if_pos h]
  · cases e : TL.numL i.natAbs with
    | nil => exact absurd e (TL.numL_ne _)
    | cons c r =>
      have d := TL.numL_digits i.natAbs c (by rw [e]; exact List.mem_cons_self)
      refine ⟨c, r, ?_, .inr ⟨h, d.1, d.2⟩⟩
      unfold numC
      rw [if_neg h, e]
theorem cut_minus (i : Int) : decide (cutS (numS i) none (some 1) = ("-" : Str)) = decide (i < 0) := by
  obtain ⟨c, r, e, q⟩ := numS_first i
  have hl : 1 ≤ (numS i).length := by rw [len_tl, tl_numS, e, List.length_cons]; omega
  have e1 : TL.tl (cutS (numS i) none (some 1)) = [c] := by rw [cut_head hl, tl_numS, e]; rfl
  have e2 : TL.tl ("-" : Str) = [45] := by decide +kernel
  have key : cutS (numS i) none (some 1) = ("-" : Str) ↔ i < 0 := by
    constructor
    · intro h
      rw [h, e2] at e1
      have : c = 45 := by simpa using e1.symm
      rcases q with q | q
      · exact q.1
      · omega
    · intro h
      refine str_ext ?_
      rw [e1, e2]
      rcases q with q | q
      · rw [q.2.1]
      · omega
  exact decide_eq_decide.mpr key
theorem log_small {i : Int} {k : Nat} (h : i.natAbs < 2 ^ k) (hk : k ≤ 1920) (hp : 0 < k) : i.natAbs.log2 < 1920 := by
  by_cases z : i.natAbs = 0
  · rw [z]; decide
  · have := (Nat.log2_lt z).mpr h
    omega
theorem spd_ok (p : Spot) : (spD p).ok = true := rfl
theorem spd_eqb (p q : Spot) : D.eqb (spD p) (spD q) = decide (p = q) := by
  obtain ⟨a, b⟩ := p
  obtain ⟨c, d⟩ := q
  unfold D.eqb
  simp [D.py, D.pys, PyData.eqv, PyData.eqvAll]
  rfl
theorem len_le {n : Nat} (h : Nat.ble n 1000 = true) : n ≤ sizeLine := Nat.le_trans (Nat.le_of_ble_eq_true h) (by decide)
end Lw

set_option Elab.async false
set_option linter.all false
set_option maxHeartbeats 0
open PySem PySem.Spec PyProof.Rows L2
namespace Lw
theorem zipD_map {α : Type} (f g : α → D) : ∀ ws : List α, zipD (ws.map f) (ws.map g) = ws.map fun v => .tup [f v, g v]
  | [] => rfl
  | w :: ws => by
    have := zipD_map f g ws
    unfold zipD at this ⊢
    simp only [List.map_cons, List.zip_cons_cons]
    rw [this]
end Lw
namespace Lw
theorem enumD_map {α : Type} {f : α → D} {ws : List α} {i : Nat} {x : D} (h : (enumD (ws.map f))[i]? = some x) : ∃ v, ws[i]? = some v ∧ x = .tup [.int i, f v] := by
  unfold enumD at h
  obtain ⟨a, b, h1, h2, rfl⟩ := zipD_get h
  rw [List.getElem?_map] at h2
  cases q : ws[i]? with
  | none => rw [q] at h2; cases h2
  | some v =>
    rw [q] at h2
    cases h2
    refine ⟨v, rfl, ?_⟩
    have e : a = .int i := by
      unfold rangeD at h1
      rw [List.getElem?_map] at h1
      cases z : (List.range (((ws.map f).length : Int) - 0).toNat)[i]? with
      | none => rw [z] at h1; cases h1
      | some n =>
        rw [z] at h1
        cases h1
        have := List.getElem?_eq_some_iff.mp z
        obtain ⟨k, e⟩ := this
        rw [List.getElem_range] at e
        rw [← e]
        show D.int _ = _
        rw [Int.zero_add]
    rw [e]
theorem enumD_len {xs : List D} : (enumD xs).length = xs.length := by
  unfold enumD
  rw [zipD_len]
  simp [rangeD]
end Lw

set_option Elab.async false
set_option linter.all false
set_option maxHeartbeats 0
open PySem PySem.Spec PyProof.Rows L2
namespace Lw
/-! ### defs that hand out a new list -/
def newSp (K : Fg) (n : Nat) (S : List D → (List D → Prop) → Prop) : Sp := fun vs H Q _ =>
  ∃ B ds F, Same B H ∧ RA K B vs ds ∧ ds.length = n ∧ S ds F ∧ ∀ p us xs B' H', F xs → Gr Non B H B' H' → H' p = none → RA K B' us xs → Q (.ref p) (upd H' p (.lst us))
def WSn (K : Fg) (t : TS) (ρ : List SD) (F : List D → Prop) : Prop :=
  ∀ P B0 H0 B H σ, ST K P B0 H0 ρ B H σ → ∀ D : Ends, (∀ p us xs ρ' B' H' σ', F xs → ST K P B0 H0 ρ' B' H' σ' → H' p = none → RA K B' us xs → D.rt (.ref p) (upd H' p (.lst us))) → t D σ H
section
variable {K : Fg} {ρ : List SD}
theorem wsn_seq {t u : TS} {F : List D → Prop} (h : WS K t ρ { nx := fun ρ1 => WSn K u ρ1 F, rt := fun _ _ => False }) : WSn K (tSeq t u) ρ F :=
  fun P B0 H0 B H σ S D k => h P B0 H0 B H σ S { D with nx := u D } (fun ρ1 B1 H1 σ1 h1 S1 _ => h1 P B0 H0 B1 H1 σ1 S1 D k) (fun _ _ _ _ _ _ z => z.elim) (fun _ _ _ _ z => z.elim) (fun _ _ _ _ z => z.elim)
theorem wsn_ret {te : TE} {F : List D → Prop} (h : WN K te ρ fun xs _ => F xs) : WSn K (tRet te) ρ F :=
  fun P B0 H0 B H σ S D k => h P B0 H0 B H σ S _ fun p us xs ρ' B' H' f S' _ hp r => k p us xs ρ' B' H' σ f S' hp r
theorem wn_call {n : Nat} {S : List D → (List D → Prop) → Prop} {t : TA} {F : List D → List SD → Prop} (h : WA K t ρ fun ds ρ1 => ds.length = n ∧ S ds fun xs => F xs ρ1) : WN K (tCall (newSp K n S) [] E0 t) ρ F :=
  fun P B0 H0 B H σ Z Q k => h P B0 H0 B H σ Z _ fun vs ds ρ1 B1 H1 ⟨l, f⟩ S1 s1 r1 =>
    ⟨B1, ds, _, S1.le, by rw [List.append_nil]; exact r1, l, f, fun p us xs B' H' g q hp r => k p us xs ρ1 B' H' g (S1.step q) (s1.trans (Ev.pure q)) hp r⟩
/-! ### a pot of one's own -/
def PotI (x y z : Int) (m : Nat) : Prop := 0 ≤ x ∧ 0 ≤ y ∧ y < 2305843009213693951 ∧ 0 ≤ z ∧ z ≤ m
theorem we_callPO {n c i : Nat} {S : List D → (D → Prop) → Prop} {t : TA} {F : D → List SD → Prop} {xs0 : List D} (h0 : ρ[i]? = some (.ow xs0))
    (h : WA K t ρ fun ds ρ1 => ∃ x y z m, ρ1[i]? = some (.ow [.int x, .int y, .int z]) ∧ PotI x y z m ∧ m + c ≤ LIM ∧ ds.length = n ∧ S ds fun d => ∀ x' y' z', PotI x' y' z' (m + c) → F d (ρ1.set i (.ow [.int x', .int y', .int z']))) :
    WE K (tCall (potSp K n c S) [] E0 (tCons (tVar i) t)) ρ F :=
  fun P B0 H0 B H σ Z Q k => by
    obtain ⟨o, e0, a, vs0, rfl, pa, ea, ep, ra⟩ := Z.slot h0
    refine ⟨.ref a, e0, ?_⟩
    refine h _ B0 H0 B H σ Z _ fun vs ds ρ1 B1 H1 ⟨x, y, z, m, h1, pi, hm, l, f⟩ S1 s1 r1 => ?_
    obtain ⟨o1, e1, a1, vs1, q1, q2, q3, q4, q5⟩ := S1.slot h1
    rw [e0] at e1
    cases e1
    cases q1
    have hp : PotAt H1 a m := ⟨x, y, z, by rw [q4, RA.ints (ns := [x, y, z]) q5]; rfl, pi⟩
    refine ⟨a, vs, B1, ds, _, m, by rw [List.append_nil], S1.le, q3, hp, hm, r1, l, f, fun v d B2 H2 g q hb hp2 r => ?_⟩
    obtain ⟨x', y', z', g1, g2⟩ := hp2
    exact k v d _ B2 H2 (g x' y' z' g2) (S1.called h1 rfl rfl e0 q hb ⟨a, _, rfl, q2, hb, g1, .cons (.int _) (.cons (.int _) (.cons (.int _) .nil))⟩) (s1.trans (Ev.called h1 rfl e0 q)) r
end
section
variable {P : Program} {w : World} {K : Fg} {mg : Str → Option Value} {base : Heap}
theorem fn_new {name qual : Str} {params : Arguments} {body : List Stmt} {scope : Scope} {f : Addr} {fd : FuncData} {N ps : List Str} {k n : Nat} {S : List D → (List D → Prop) → Prop}
    (F : FunD K name qual params body scope [] [] f fd) (sc : FnScope N ps scope) (hn : n = ps.length) (hN : n ≤ N.length)
    (hb : ∀ (cdv : Value) (A : Around) (outer : List Env) (s : Shared) (H : Hp) (E : XK), Room k (A.deeper (envOfC qual scope s.heap.objs.size f cdv)) →
      ∃ t, PSs (cxOf CX0 P w K mg base N qual scope f cdv A outer s H E).nox body t ∧ ∀ ds G, ds.length = n → S ds G → WSn K t (rho N ds) G) :
    FnOk P w K mg base CX0 (k + 1) f fd ps (newSp K n S) := by
  refine F.ok sc (fun vs H Q E h => ?_) (fun cdv A outer s H vs Q E hr h => ?_)
  · obtain ⟨B, ds, G, h1, h2, h3, _⟩ := h
    rw [h2.length, h3, hn]
  · obtain ⟨t, hp, hw⟩ := hb cdv A outer s H E hr
    refine ⟨t, hp.nox, ?_⟩
    obtain ⟨B, ds, G, h1, h2, h3, h4, h5⟩ := h
    exact hw ds G h3 h4 Non B H B H (start N vs) (st_start h1 h2 (by rw [h3]; exact hN)) _ fun p us xs ρ' B' H' σ' f S' hp r => h5 p us xs B' H' f S'.gr hp r
end
end Lw
namespace Lw
theorem bits_le {m : Nat} {x : Int} (h : x.natAbs < 2 ^ m) : Builtin.Int.intBits x ≤ m := by
  unfold Builtin.Int.intBits
  split
  · exact Nat.zero_le _
  · rename_i z
    have ne : x.natAbs ≠ 0 := fun e => z (by rw [Int.natAbs_eq_zero.mp e]; rfl)
    exact (Nat.log2_lt ne).mpr h
theorem cpow {i j : Int} (k : Nat) (h0 : 0 ≤ j) (hi : i.natAbs < 2 ^ k) (hj : (k : Int) * j ≤ 2 ^ 27) : CPowA i j :=
  ⟨h0, Int.le_trans (Int.mul_le_mul_of_nonneg_right (Int.ofNat_le.mpr (bits_le hi)) h0) hj⟩
theorem q_pow {i j : Int} {F : D → Prop} (hm : CPowA i j) (h : F (.int (i ^ j.toNat))) : dPow (.int i) (.int j) F := ⟨hm, h⟩
end Lw
namespace Lw
theorem ws_mid {K : Fg} {ρ : List SD} {t u : TS} {F : List SD → Prop} {E : Out} (h : WS K t ρ { nx := F, rt := fun _ _ => False }) (k : ∀ ρ1, F ρ1 → WS K u ρ1 E) : WS K (tSeq t u) ρ E :=
  ws_seq (fun P B0 H0 B H σ S D k1 k2 k3 k4 => h P B0 H0 B H σ S D (fun ρ' B' H' σ' f S' s => k1 ρ' B' H' σ' (k ρ' f) S' s) (fun _ _ _ _ _ _ z => z.elim) (fun _ _ _ _ z => z.elim) (fun _ _ _ _ z => z.elim))
end Lw

set_option Elab.async false
set_option linter.all false
set_option maxRecDepth 100000
set_option maxHeartbeats 0
namespace Law
open PySem PySem.Spec PyProof.Rows L2
def top (i : Nat) : Stmt := PySem.Challenge.pw_whosewell_k01_whole_turns_and_meetings.main.body.getD i (.Pass ⟨0, 0, 0, 0⟩)
abbrev sis_integer : Stmt := top 11
abbrev sis_between : Stmt := top 12
abbrev sis_name : Stmt := top 13
abbrev sread_integer : Stmt := top 14
abbrev swell_in : Stmt := top 23
abbrev sis_spot : Stmt := top 24
abbrev scan_stand : Stmt := top 25
abbrev sfield_of : Stmt := top 27
abbrev scheck_field : Stmt := top 28
abbrev scheck_well : Stmt := top 29
abbrev scheck_wells : Stmt := top 30
abbrev sspots_by : Stmt := top 31
abbrev sbend : Stmt := top 32
abbrev ssign_of : Stmt := top 33
abbrev ssquare : Stmt := top 34
abbrev slies_on : Stmt := top 35
abbrev sturn : Stmt := top 36
abbrev sapart : Stmt := top 37
abbrev son_side : Stmt := top 38
abbrev smet : Stmt := top 39
abbrev smeeting : Stmt := top 40
abbrev smoved : Stmt := top 41
abbrev sturned : Stmt := top 42
abbrev smirrored : Stmt := top 43
abbrev s_law_pot : Stmt := top 45
abbrev s_law_take : Stmt := top 46
abbrev s_law_of : Stmt := top 47
abbrev s_law_cells : Stmt := top 48
abbrev s_law_some : Stmt := top 49
abbrev s_law_names : Stmt := top 50
abbrev s_law_spots : Stmt := top 51
abbrev s_law_field : Stmt := top 52
abbrev s_law_text : Stmt := top 53
abbrev s_law_places : Stmt := top 54
abbrev s_law_bend : Stmt := top 55
abbrev s_law_sign : Stmt := top 56
abbrev s_law_lies : Stmt := top 57
abbrev s_law_meeting : Stmt := top 58
abbrev s_law_right : Stmt := top 59
abbrev slaw : Stmt := top 60
abbrev sField___init__ : Stmt := inClass (top 26) 0
abbrev sField___eq__ : Stmt := inClass (top 26) 1
abbrev sField_text : Stmt := inClass (top 26) 2
abbrev sField_names : Stmt := inClass (top 26) 3
abbrev sField_spots : Stmt := inClass (top 26) 4
abbrev sField_told_wells : Stmt := inClass (top 26) 5
abbrev sField_more : Stmt := inClass (top 26) 6
abbrev sField_without : Stmt := inClass (top 26) 7
def dp (ad : Lh.Fg → Addr) (n q : Str) (s : Stmt) : Lh.DP := ⟨ad, n, q, defArgs s, defBody s, defScope s⟩
abbrev dsis_integer : Lh.DP := dp (fun K => He.ga K "is_integer") "is_integer" "is_integer" sis_integer
abbrev dsis_between : Lh.DP := dp (fun K => He.ga K "is_between") "is_between" "is_between" sis_between
abbrev dsis_name : Lh.DP := dp (fun K => He.ga K "is_name") "is_name" "is_name" sis_name
abbrev dsread_integer : Lh.DP := dp (fun K => He.ga K "read_integer") "read_integer" "read_integer" sread_integer
abbrev dswell_in : Lh.DP := dp (fun K => He.ga K "well_in") "well_in" "well_in" swell_in
abbrev dsis_spot : Lh.DP := dp (fun K => He.ga K "is_spot") "is_spot" "is_spot" sis_spot
abbrev dscan_stand : Lh.DP := dp (fun K => He.ga K "can_stand") "can_stand" "can_stand" scan_stand
abbrev dsfield_of : Lh.DP := dp (fun K => He.ga K "field_of") "field_of" "field_of" sfield_of
abbrev dscheck_field : Lh.DP := dp (fun K => He.ga K "check_field") "check_field" "check_field" scheck_field
abbrev dscheck_well : Lh.DP := dp (fun K => He.ga K "check_well") "check_well" "check_well" scheck_well
abbrev dscheck_wells : Lh.DP := dp (fun K => He.ga K "check_wells") "check_wells" "check_wells" scheck_wells
abbrev dsspots_by : Lh.DP := dp (fun K => He.ga K "spots_by") "spots_by" "spots_by" sspots_by
abbrev dsbend : Lh.DP := dp (fun K => He.ga K "bend") "bend" "bend" sbend
abbrev dssign_of : Lh.DP := dp (fun K => He.ga K "sign_of") "sign_of" "sign_of" ssign_of
abbrev dssquare : Lh.DP := dp (fun K => He.ga K "square") "square" "square" ssquare
abbrev dslies_on : Lh.DP := dp (fun K => He.ga K "lies_on") "lies_on" "lies_on" slies_on
abbrev dsturn : Lh.DP := dp (fun K => He.ga K "turn") "turn" "turn" sturn
abbrev dsapart : Lh.DP := dp (fun K => He.ga K "apart") "apart" "apart" sapart
abbrev dson_side : Lh.DP := dp (fun K => He.ga K "on_side") "on_side" "on_side" son_side
abbrev dsmet : Lh.DP := dp (fun K => He.ga K "met") "met" "met" smet
abbrev dsmeeting : Lh.DP := dp (fun K => He.ga K "meeting") "meeting" "meeting" smeeting
abbrev dsmoved : Lh.DP := dp (fun K => He.ga K "moved") "moved" "moved" smoved
abbrev dsturned : Lh.DP := dp (fun K => He.ga K "turned") "turned" "turned" sturned
abbrev dsmirrored : Lh.DP := dp (fun K => He.ga K "mirrored") "mirrored" "mirrored" smirrored
abbrev ds_law_pot : Lh.DP := dp (fun K => He.ga K "_law_pot") "_law_pot" "_law_pot" s_law_pot
abbrev ds_law_take : Lh.DP := dp (fun K => He.ga K "_law_take") "_law_take" "_law_take" s_law_take
abbrev ds_law_of : Lh.DP := dp (fun K => He.ga K "_law_of") "_law_of" "_law_of" s_law_of
abbrev ds_law_cells : Lh.DP := dp (fun K => He.ga K "_law_cells") "_law_cells" "_law_cells" s_law_cells
abbrev ds_law_some : Lh.DP := dp (fun K => He.ga K "_law_some") "_law_some" "_law_some" s_law_some
abbrev ds_law_names : Lh.DP := dp (fun K => He.ga K "_law_names") "_law_names" "_law_names" s_law_names
abbrev ds_law_spots : Lh.DP := dp (fun K => He.ga K "_law_spots") "_law_spots" "_law_spots" s_law_spots
abbrev ds_law_field : Lh.DP := dp (fun K => He.ga K "_law_field") "_law_field" "_law_field" s_law_field
abbrev ds_law_text : Lh.DP := dp (fun K => He.ga K "_law_text") "_law_text" "_law_text" s_law_text
abbrev ds_law_places : Lh.DP := dp (fun K => He.ga K "_law_places") "_law_places" "_law_places" s_law_places
abbrev ds_law_bend : Lh.DP := dp (fun K => He.ga K "_law_bend") "_law_bend" "_law_bend" s_law_bend
abbrev ds_law_sign : Lh.DP := dp (fun K => He.ga K "_law_sign") "_law_sign" "_law_sign" s_law_sign
abbrev ds_law_lies : Lh.DP := dp (fun K => He.ga K "_law_lies") "_law_lies" "_law_lies" s_law_lies
abbrev ds_law_meeting : Lh.DP := dp (fun K => He.ga K "_law_meeting") "_law_meeting" "_law_meeting" s_law_meeting
abbrev ds_law_right : Lh.DP := dp (fun K => He.ga K "_law_right") "_law_right" "_law_right" s_law_right
abbrev dslaw : Lh.DP := dp (fun K => He.ga K "law") "law" "law" slaw
abbrev dsField___init__ : Lh.DP := dp (fun K => He.ma K (He.ga K "Field") "__init__") "__init__" "Field.__init__" sField___init__
abbrev dsField___eq__ : Lh.DP := dp (fun K => He.ma K (He.ga K "Field") "__eq__") "__eq__" "Field.__eq__" sField___eq__
abbrev dsField_text : Lh.DP := dp (fun K => Lh.prG K "Field" "text") "text" "Field.text" sField_text
abbrev dsField_names : Lh.DP := dp (fun K => Lh.prG K "Field" "names") "names" "Field.names" sField_names
abbrev dsField_spots : Lh.DP := dp (fun K => Lh.prG K "Field" "spots") "spots" "Field.spots" sField_spots
abbrev dsField_told_wells : Lh.DP := dp (fun K => He.ma K (He.ga K "Field") "told_wells") "told_wells" "Field.told_wells" sField_told_wells
abbrev dsField_more : Lh.DP := dp (fun K => He.ma K (He.ga K "Field") "more") "more" "Field.more" sField_more
abbrev dsField_without : Lh.DP := dp (fun K => He.ma K (He.ga K "Field") "without") "without" "Field.without" sField_without
def fnL : List Lh.DP := ([dsis_integer, dsis_between, dsis_name, dsread_integer, dswell_in, dsis_spot, dscan_stand, dsfield_of, dscheck_field, dscheck_well, dscheck_wells, dsspots_by, dsbend, dssign_of, dssquare, dslies_on, dsturn, dsapart, dson_side, dsmet, dsmeeting, dsmoved, dsturned, dsmirrored, ds_law_pot, ds_law_take, ds_law_of, ds_law_cells, ds_law_some, ds_law_names] : List Lh.DP) ++ ([ds_law_spots, ds_law_field, ds_law_text, ds_law_places, ds_law_bend, ds_law_sign, ds_law_lies, ds_law_meeting, ds_law_right, dslaw, dsField___init__, dsField___eq__, dsField_text, dsField_names, dsField_spots, dsField_told_wells, dsField_more, dsField_without] : List Lh.DP)
def faL : List He.Fa := ([.glo "is_integer", .glo "is_between", .glo "is_name", .glo "read_integer", .glo "well_in", .glo "is_spot", .glo "can_stand", .glo "field_of", .glo "check_field", .glo "check_well", .glo "check_wells", .glo "spots_by", .glo "bend", .glo "sign_of", .glo "square", .glo "lies_on", .glo "turn", .glo "apart", .glo "on_side", .glo "met", .glo "meeting", .glo "moved", .glo "turned", .glo "mirrored", .glo "_law_pot", .glo "_law_take", .glo "_law_of", .glo "_law_cells", .glo "_law_some", .glo "_law_names"] : List He.Fa) ++ ([.glo "_law_spots", .glo "_law_field", .glo "_law_text", .glo "_law_places", .glo "_law_bend", .glo "_law_sign", .glo "_law_lies", .glo "_law_meeting", .glo "_law_right", .glo "law", .str "LETTERS" "abcdefghijklmnopqrstuvwxyz", .str "FIGURES" "0123456789", .int "MOST_SIGNS" 8, .str "WELL" "well", .int "MOST_WELLS" 40, .int "MOST_SPOT" 9999, .str "APART" "apart", .str "ALONG" "along", .str "CROSS" "cross", .str "TOUCH" "touch", .free "ValueError", .free "abs", .free "all", .free "any", .free "bool", .free "dict", .free "enumerate", .free "int", .free "isinstance", .free "len"] : List He.Fa) ++ ([.free "list", .free "max", .free "min", .free "property", .free "range", .free "repr", .free "set", .free "str", .free "super", .free "tuple", .free "zip", .glo "WellError", .glo "BadField", .glo "BadNumber", .glo "NoField", .glo "NoWell", .glo "Field", .cls "Field", .keep "Field", .noat "Field" "own_text", .noat "Field" "own_names", .noat "Field" "own_spots", .mkr "Field", .meth "Field" "__eq__", .meth "Field" "told_wells", .meth "Field" "more", .meth "Field" "without"] : List He.Fa)
def prL : List (Str × Str) := [("Field", "text"), ("Field", "names"), ("Field", "spots")]
def clL : List Str := ["Field"]
def exB (K : Lh.Fg) : Bool := faL.all (fun f => f.ok K) && (prL.all (fun p => Lh.propB K p.1 p.2) && clL.all (fun c => Lw.insB K (He.ga K c)))
abbrev Rw : PySem.W.OpenRow := PySem.W.OpenLaw.row PySem.Challenge.rw_whosewell_k01_whole_turns_and_meetings
abbrev hk : PySem.W.Hook := Lh.hookP 6 exB fnL
def ob (s : PySem.W.SharedT) : Lh.Sees := Lh.obsPG 6 exB fnL (HandSHeadRun.getT s)
theorem ob_eq (s : PySem.W.SharedT) : ob s = hk.obs s.abs := Lh.obsPG_eq (HandSHeadRun.getT_eq s)
def looseL : List Str := (["_wall", "__name__", "WellError", "BadField", "BadNumber", "NoField", "NoWell", "LETTERS", "FIGURES", "MOST_SIGNS", "is_integer", "is_between", "is_name", "read_integer", "WELL", "MOST_WELLS", "MOST_SPOT", "APART", "ALONG", "CROSS", "TOUCH", "well_in", "is_spot", "can_stand", "Field", "field_of", "check_field", "check_well", "check_wells", "spots_by"] : List Str) ++ (["bend", "sign_of", "square", "lies_on", "turn", "apart", "on_side", "met", "meeting", "moved", "turned", "mirrored", "_law_pot", "_law_take", "_law_of", "_law_cells", "_law_some", "_law_names", "_law_spots", "_law_field", "_law_text", "_law_places", "_law_bend", "_law_sign", "_law_lies", "_law_meeting", "_law_right"] : List Str)
theorem run (w : World) : HandSHeadRun.RunEq Rw (PySem.W.view Rw.prog [60]) hk ob 6000 looseL w := by
  intro os
  kernel_rfl

/-- what the top has left -/
structure Tx (K : Lh.Fg) (mg : Str → Option Value) : Prop where
  kin : ∃ h : Heap, K.In h ∧ h.Ns mainGlobals mg
  d : Lh.obsP exB fnL K = Lh.dueP fnL
section
variable {P : Program} {w : World} {K : Lh.Fg} {mg : Str → Option Value} {base : Heap}
theorem Tx.ex (T : Tx K mg) : exB K = true := Lh.more_of T.d
theorem Tx.fa (T : Tx K mg) {i : Nat} {f : He.Fa} (h : faL[i]? = some f) : f.ok K = true := by
  have q := T.ex
  unfold exB at q
  rw [Bool.and_eq_true] at q
  exact List.all_eq_true.mp q.1 f (List.mem_of_getElem? h)
theorem Tx.glo (T : Tx K mg) (x : Str) (i : Nat) (h : faL[i]? = some (.glo x) := by rfl) : mg x = some (.ref (He.ga K x)) := by
  obtain ⟨hp, a, b⟩ := T.kin
  exact He.glo_ok a b (T.fa h)
theorem Tx.free (T : Tx K mg) (x : Str) (i : Nat) (h : faL[i]? = some (.free x) := by rfl) : mg x = none := by
  obtain ⟨hp, a, b⟩ := T.kin
  exact He.free_ok a b (T.fa h)
theorem Tx.str (T : Tx K mg) (x : Str) (i : Nat) {z : Str} (h : faL[i]? = some (.str x z) := by rfl) : ∃ t, mg x = some (.str z t) := by
  obtain ⟨hp, a, b⟩ := T.kin
  exact He.str_ok a b (T.fa h)
theorem Tx.int (T : Tx K mg) (x : Str) (i : Nat) {z : Int} (h : faL[i]? = some (.int x z) := by rfl) : ∃ t, mg x = some (.int z t) := by
  obtain ⟨hp, a, b⟩ := T.kin
  exact He.int_ok a b (T.fa h)
theorem Tx.cls (T : Tx K mg) (x : Str) (i : Nat) (h : faL[i]? = some (.cls x) := by rfl) : Cls K (He.ga K x) := He.cls_ok (T.fa h)
theorem Tx.noat (T : Tx K mg) (x f : Str) (i : Nat) (h : faL[i]? = some (.noat x f) := by rfl) : NoAttr K (He.ga K x) f := He.noat_ok (T.fa h)
theorem Tx.meth (T : Tx K mg) (x m : Str) (i : Nat) (h : faL[i]? = some (.meth x m) := by rfl) : Meth K (He.ga K x) m (He.ma K (He.ga K x) m) := He.meth_ok (T.fa h)
theorem Tx.mkr (T : Tx K mg) (x : Str) (i : Nat) (h : faL[i]? = some (.mkr x) := by rfl) : Mk K (He.ga K x) (He.ma K (He.ga K x) "__init__") := He.mkr_ok (T.fa h)
theorem Tx.prop (T : Tx K mg) (i : Nat) {c m : Str} (h : prL[i]? = some (c, m) := by rfl) : PropOf K (He.ga K c) m (He.ma K (He.ga K c) m) (Lh.prG K c m) := by
  have q := T.ex
  unfold exB at q
  rw [Bool.and_eq_true, Bool.and_eq_true] at q
  exact Lh.prop_of (List.all_eq_true.mp q.2.1 (c, m) (List.mem_of_getElem? h))
theorem Tx.ins (T : Tx K mg) (i : Nat) {c : Str} (h : clL[i]? = some c := by rfl) : Lw.InsOk K (He.ga K c) ∧ PySem.W.kitOne K (.ref (He.ga K c)) (.ref (He.ga K c)) = some true := by
  have q := T.ex
  unfold exB at q
  rw [Bool.and_eq_true, Bool.and_eq_true] at q
  exact Lw.ins_of (List.all_eq_true.mp q.2.2 c (List.mem_of_getElem? h))
end

end Law

set_option Elab.async false
set_option linter.all false
set_option maxRecDepth 100000
set_option maxHeartbeats 0
namespace Law
open PySem PySem.Spec PyProof.Rows L2 Lw
def sgI (i : Int) : Int := (if decide (i > 0) then 1 else 0) - (if decide (i < 0) then 1 else 0)
def bendI (a b c : Spot) : Int := (b.1 - a.1) * (c.2 - a.2) - (b.2 - a.2) * (c.1 - a.1)
def sqI (a b : Spot) : Int := (a.1 - b.1) * (a.1 - b.1) + (a.2 - b.2) * (a.2 - b.2)
def S3 (f : Spot → Spot → Spot → D) : List D → (D → Prop) → Prop := fun ds G => ∃ a b c, ds = [spD a, spD b, spD c] ∧ SpOk a ∧ SpOk b ∧ SpOk c ∧ G (f a b c)
def Ssg : List D → (D → Prop) → Prop := fun ds G => ∃ i : Int, ds = [.int i] ∧ G (.int (sgI i))
def Ssq : List D → (D → Prop) → Prop := fun ds G => ∃ a b, ds = [spD a, spD b] ∧ SpOk a ∧ SpOk b ∧ G (.int (sqI a b))
def tIs : D → String → Bool
  | .int _, n => n == "int"
  | .bl _, n => n == "bool" || n == "int"
  | .str _, n => n == "str"
  | .tup _, n => n == "tuple"
  | .lst _, n => n == "list"
  | .frl _, n => n == "list"
  | _, _ => false
theorem dIsi_int {K : Lh.Fg} {x : D} (hx : x.pl = true) (F : D → Prop) (h : F (.bl (tIs x "int"))) : dIsi K x (.ty "int") F := by
  cases x <;> first | exact ⟨trivial, _, _, rfl, by rfl, h⟩ | cases hx
theorem dIsi_bool {K : Lh.Fg} {x : D} (hx : x.pl = true) (F : D → Prop) (h : F (.bl (tIs x "bool"))) : dIsi K x (.ty "bool") F := by
  cases x <;> first | exact ⟨trivial, _, _, rfl, by rfl, h⟩ | cases hx
theorem dIsi_str {K : Lh.Fg} {x : D} (hx : x.pl = true) (F : D → Prop) (h : F (.bl (tIs x "str"))) : dIsi K x (.ty "str") F := by
  cases x <;> first | exact ⟨trivial, _, _, rfl, by rfl, h⟩ | cases hx
theorem dIsi_tuple {K : Lh.Fg} {x : D} (hx : x.pl = true) (F : D → Prop) (h : F (.bl (tIs x "tuple"))) : dIsi K x (.ty "tuple") F := by
  cases x <;> first | exact ⟨trivial, _, _, rfl, by rfl, h⟩ | cases hx
def isIntD : D → Bool
  | .int _ => true
  | _ => false
def Sii : List D → (D → Prop) → Prop := fun ds G => ∃ x : D, ds = [x] ∧ x.pl = true ∧ G (.bl (isIntD x))
def Sbt : List D → (D → Prop) → Prop := fun ds G => ∃ i l m : Int, ds = [.int i, .int l, .int m] ∧ G (.bl (decide (l ≤ i) && decide (i ≤ m)))
def Snm : List D → (D → Prop) → Prop := fun ds G => ∃ z : Str, ds = [.str z] ∧ nameB z = true ∧ G (.bl true)
def Sri : List D → (D → Prop) → Prop := fun ds G => ∃ i : Int, ds = [.str (numS i)] ∧ i.natAbs ≤ 9999 ∧ G (.int i)
def Swi : List D → (D → Prop) → Prop := fun ds G => ∃ v : Well, ds = [.str (lineOf v)] ∧ WOk v ∧ G (wellD v)
def Ssp : List D → (D → Prop) → Prop := fun ds G => ∃ p : Spot, ds = [spD p] ∧ p.1.natAbs ≤ 9999 ∧ p.2.natAbs ≤ 9999 ∧ G (.bl true)
def Scs : List D → (D → Prop) → Prop := fun ds G => ∃ (ws : List Well) (v : Well), ds = [.lst (ws.map wellD), wellD v] ∧ ws.length < 40 ∧ (∀ u ∈ ws, v.1 ≠ u.1 ∧ v.2 ≠ u.2) ∧ G (.bl true)
structure WsOk (ws : List Well) : Prop where
  ne : ws ≠ []
  len : ws.length ≤ 40
  ok : ∀ v ∈ ws, WOk v
  names : (ws.map (·.1)).Nodup
  spots : (ws.map (·.2)).Nodup
abbrev fldFs (ws : List Well) : List (Str × D) := [("own_text", .str (textOf ws)), ("own_names", .tup (ws.map fun v => .str v.1)), ("own_spots", .tup (ws.map fun v => spD v.2))]
abbrev fldD (C : Addr) (ws : List Well) : D := .obj C (fldFs ws)
abbrev FC (K : Lh.Fg) : Addr := He.ga K "Field"
def Sin : List D → (List (Str × D) → Prop) → Prop := fun ds G => ∃ ws, ds = [.str (textOf ws)] ∧ WsOk ws ∧ G (fldFs ws)
def Sg1 (C : Addr) (f : List Well → D) : List D → (D → Prop) → Prop := fun ds G => ∃ ws, ds = [fldD C ws] ∧ G (f ws)
def Stw (C : Addr) : List D → (D → Prop) → Prop := fun ds G => ∃ ws, ds = [fldD C ws] ∧ ws.length ≤ 40 ∧ G (.lst (ws.map wellD))
def Sfeq (C : Addr) : List D → (D → Prop) → Prop := fun ds G => ∃ ws us, ds = [fldD C ws, fldD C us] ∧ textOf ws = textOf us ∧ G (.bl true)
def Sfo (C : Addr) : List D → (D → Prop) → Prop := fun ds G => ∃ ws, ds = [.lst (ws.map wellD)] ∧ WsOk ws ∧ G (fldD C ws)
def Scf (C : Addr) : List D → (D → Prop) → Prop := fun ds G => ∃ ws, ds = [fldD C ws] ∧ G .non
def Scw (C : Addr) : List D → (D → Prop) → Prop := fun ds G => ∃ (ws : List Well) (n : Str), ds = [fldD C ws, .str n] ∧ n ∈ ws.map (·.1) ∧ G .non
def Scws (C : Addr) : List D → (D → Prop) → Prop := fun ds G => ∃ (ws : List Well) (ns : List Str), ds = [fldD C ws, .lst (ns.map D.str)] ∧ ns.length ≤ 10 ∧ (∀ n ∈ ns, n ∈ ws.map (·.1)) ∧ G .non
def sbD (ws : List Well) : D := .dct (ws.map fun v => (.inr v.1, spD v.2))
def Ssb (C : Addr) : List D → (D → Prop) → Prop := fun ds G => ∃ ws, ds = [fldD C ws] ∧ WsOk ws ∧ G (sbD ws)
theorem nodup_take {α β : Type} {f : α → β} {ws : List α} {i : Nat} {v u : α} (h : (ws.map f).Nodup) (hv : ws[i]? = some v) (hu : u ∈ ws.take i) : f v ≠ f u := fun e => by
  obtain ⟨j, hj⟩ := List.mem_iff_getElem?.mp hu
  rw [List.getElem?_take] at hj
  split at hj
  · rename_i lt
    have a1 : (ws.map f)[i]? = some (f v) := by rw [List.getElem?_map, hv]; rfl
    have a2 : (ws.map f)[j]? = some (f v) := by rw [List.getElem?_map, hj, e]; rfl
    have hi : i < (ws.map f).length := (List.getElem?_eq_some_iff.mp a1).1
    have := (List.getElem?_inj hi h).mp (a1.trans a2.symm)
    omega
  · cases hj
def btw (a b c : Int) : Bool := decide ((if b < a then b else a) ≤ c) && decide (c ≤ (if b > a then b else a))
def liesB (a b c : Spot) : Bool := decide (bendI a b c = 0) && (btw a.1 b.1 c.1 && btw a.2 b.2 c.2)
def addNew (acc : List Spot) (t : Spot × Spot × Spot) : List Spot := if (liesB t.2.1 t.2.2 t.1 && !decide (t.1 ∈ acc)) = true then acc ++ [t.1] else acc
def ends4 (a b c d : Spot) : List (Spot × Spot × Spot) := [(a, c, d), (b, c, d), (c, a, b), (d, a, b)]
def commonS (a b c d : Spot) : List Spot := (ends4 a b c d).foldl addNew []
def crossB (a b c d : Spot) : Bool := decide (bendI a b c * bendI a b d < 0) && decide (bendI c d a * bendI c d b < 0)
def metS (a b c d : Spot) : Str := if 1 < (commonS a b c d).length then "along" else if (commonS a b c d).length = 1 then "touch" else if crossB a b c d = true then "cross" else "apart"
def Smet : List D → (D → Prop) → Prop := fun ds G => ∃ a b c d, ds = [spD a, spD b, spD c, spD d] ∧ SpOk a ∧ SpOk b ∧ SpOk c ∧ SpOk d ∧ G (.str (metS a b c d))
def Sw3 (C : Addr) (f : Spot → Spot → Spot → D) : List D → (D → Prop) → Prop := fun ds G => ∃ (ws : List Well) (a b c : Well), ds = [fldD C ws, .str a.1, .str b.1, .str c.1] ∧ WsOk ws ∧ a ∈ ws ∧ b ∈ ws ∧ c ∈ ws ∧ G (f a.2 b.2 c.2)
def Sw2 (C : Addr) (f : Spot → Spot → D) : List D → (D → Prop) → Prop := fun ds G => ∃ (ws : List Well) (a b : Well), ds = [fldD C ws, .str a.1, .str b.1] ∧ WsOk ws ∧ a ∈ ws ∧ b ∈ ws ∧ G (f a.2 b.2)
def Sw4 (C : Addr) (f : Spot → Spot → Spot → Spot → D) : List D → (D → Prop) → Prop := fun ds G => ∃ (ws : List Well) (a b c d : Well), ds = [fldD C ws, .str a.1, .str b.1, .str c.1, .str d.1] ∧ WsOk ws ∧ a ∈ ws ∧ b ∈ ws ∧ c ∈ ws ∧ d ∈ ws ∧ G (f a.2 b.2 c.2 d.2)
def mapW (f : Spot → Spot) (ws : List Well) : List Well := ws.map fun v => (v.1, f v.2)
def Smv (C : Addr) : List D → (D → Prop) → Prop := fun ds G => ∃ (ws : List Well) (i j : Int), ds = [fldD C ws, .int i, .int j] ∧ WsOk ws ∧ WsOk (mapW (fun p => (p.1 + i, p.2 + j)) ws) ∧ G (fldD C (mapW (fun p => (p.1 + i, p.2 + j)) ws))
def Sfn (C : Addr) (f : Spot → Spot) : List D → (D → Prop) → Prop := fun ds G => ∃ ws : List Well, ds = [fldD C ws] ∧ WsOk ws ∧ G (fldD C (mapW f ws))
theorem nodup_of_map {α β γ : Type} {f : α → β} {g : α → γ} {ws : List α} (h : (ws.map f).Nodup) (k : ∀ u ∈ ws, ∀ v ∈ ws, g u = g v → f u = f v) : (ws.map g).Nodup := by
  induction ws with
  | nil => exact List.nodup_nil
  | cons w ws ih =>
    rw [List.map_cons, List.nodup_cons] at h ⊢
    refine ⟨fun m => ?_, ih h.2 (fun u hu v hv => k u (.tail _ hu) v (.tail _ hv))⟩
    obtain ⟨u, hu, e⟩ := List.mem_map.mp m
    exact h.1 (List.mem_map.mpr ⟨u, hu, k u (.tail _ hu) w (.head _) e⟩)
theorem WsOk.map {ws : List Well} (h : WsOk ws) {f : Spot → Spot} (inj : ∀ p q, f p = f q → p = q) (b : ∀ v ∈ ws, (f v.2).1.natAbs ≤ 9999 ∧ (f v.2).2.natAbs ≤ 9999) : WsOk (mapW f ws) where
  ne := fun e => h.ne (by unfold mapW at e; exact List.map_eq_nil_iff.mp e)
  len := by unfold mapW; rw [List.length_map]; exact h.len
  ok := fun v hv => by
    unfold mapW at hv
    obtain ⟨u, hu, rfl⟩ := List.mem_map.mp hv
    exact ⟨(h.ok u hu).name, (b u hu).1, (b u hu).2⟩
  names := by
    unfold mapW
    rw [List.map_map]
    exact h.names
  spots := by
    unfold mapW
    rw [List.map_map]
    exact nodup_of_map h.spots fun u hu v hv e => inj _ _ e
theorem WsOk.spot {ws : List Well} (h : WsOk ws) {v : Well} (hv : v ∈ ws) : SpOk v.2 := ⟨Nat.le_trans (h.ok v hv).x (by decide), Nat.le_trans (h.ok v hv).y (by decide)⟩
theorem look_sb : ∀ {ws : List Well} {v : Well}, (ws.map (·.1)).Nodup → v ∈ ws → lookD (ws.map fun v => (.inr v.1, spD v.2)) (.inr v.1) = some (spD v.2)
  | w :: ws, v, h, m => by
    rw [List.map_cons, List.nodup_cons] at h
    unfold lookD
    rw [List.map_cons, List.find?_cons]
    by_cases e : w.1 = v.1
    · have : (decide ((Sum.inr w.1 : Key) = .inr v.1)) = true := by rw [e]; exact decide_eq_true rfl
      rw [this]
      cases m with
      | head => rfl
      | tail _ m => exact absurd (List.mem_map.mpr ⟨v, m, e.symm⟩) h.1
    · have : (decide ((Sum.inr w.1 : Key) = .inr v.1)) = false := decide_eq_false fun z => e (Sum.inr.inj z)
      rw [this]
      cases m with
      | head => exact absurd rfl e
      | tail _ m => exact look_sb h.2 m
theorem fn_names {ws : List Well} {v : Well} (h : v ∈ ws) : v.1 ∈ ws.map (·.1) := List.mem_map.mpr ⟨v, h, rfl⟩
abbrev tripD (t : Spot × Spot × Spot) : D := .tup [spD t.1, spD t.2.1, spD t.2.2]
theorem wells_len {ws : List Well} (h : ws.length ≤ 40) {f : Well → D} : (ws.map f).length < sizeLine := by
  rw [List.length_map]
  exact Nat.lt_of_le_of_lt h (by decide)
theorem wsOk_turned {ws : List Well} (hw : WsOk ws) : WsOk (mapW (fun p => (0 - p.2, p.1)) ws) :=
  hw.map (fun p q e => by
    have e1 := congrArg Prod.fst e
    have e2 := congrArg Prod.snd e
    simp only at e1 e2
    exact Prod.ext e2 (by omega)) fun v hv => by
    have := (hw.ok v hv).x
    have := (hw.ok v hv).y
    refine ⟨?_, ?_⟩ <;> (simp only; omega)
theorem wsOk_mirrored {ws : List Well} (hw : WsOk ws) : WsOk (mapW (fun p => (0 - p.1, p.2)) ws) :=
  hw.map (fun p q e => by
    have e1 := congrArg Prod.fst e
    have e2 := congrArg Prod.snd e
    simp only at e1 e2
    exact Prod.ext (by omega) e2) fun v hv => by
    have := (hw.ok v hv).x
    have := (hw.ok v hv).y
    refine ⟨?_, ?_⟩ <;> (simp only; omega)
theorem zip_maps {α β γ : Type} (f : α → β) (g : α → γ) : ∀ ws : List α, (ws.map f).zip (ws.map g) = ws.map fun v => (f v, g v)
  | [] => rfl
  | w :: ws => by rw [List.map_cons, List.map_cons, List.zip_cons_cons, zip_maps f g ws]; rfl
theorem flat_strs {α : Type} {f : α → Str} {ws : List α} : ((ws.map fun v => D.str (f v)).all D.flat) = true := by
  rw [List.all_map]
  exact List.all_eq_true.mpr fun _ _ => rfl
theorem inF_strs {α : Type} {f : α → Str} {ws : List α} {n : Str} : inF (.str n) (ws.map fun v => .str (f v)) = decide (n ∈ ws.map f) := by
  unfold inF inV
  rw [List.map_map, List.any_map, Bool.eq_iff_iff, List.any_eq_true, decide_eq_true_iff, List.mem_map]
  constructor
  · rintro ⟨v, hv, e⟩
    exact ⟨v, hv, eq_of_beq e⟩
  · rintro ⟨v, hv, e⟩
    exact ⟨v, hv, beq_iff_eq.mpr e⟩
theorem any_spots {acc : List Spot} {p : Spot} : ((acc.map spD).any fun z => D.eqb z (spD p)) = decide (p ∈ acc) := by
  rw [List.any_map, Bool.eq_iff_iff, List.any_eq_true, decide_eq_true_iff]
  constructor
  · rintro ⟨v, hv, e⟩
    rw [Function.comp_apply, spd_eqb] at e
    rw [← of_decide_eq_true e]
    exact hv
  · intro h
    exact ⟨p, h, by rw [Function.comp_apply, spd_eqb]; exact decide_eq_true rfl⟩
theorem spots_in : ∀ (acc : List Spot), D.pls (acc.map spD) = true ∧ PyData.canLayAll0 (D.pys (acc.map spD)) = true ∧ PyData.depthAll (D.pys (acc.map spD)) ≤ 1
  | [] => ⟨rfl, rfl, Nat.zero_le _⟩
  | p :: acc => by
    obtain ⟨h1, h2, h3⟩ := spots_in acc
    rw [List.map_cons]
    refine ⟨?_, ?_, ?_⟩
    · unfold D.pls
      rw [h1]
      rfl
    · unfold D.pys PyData.canLayAll0
      rw [h2]
      rfl
    · unfold D.pys PyData.depthAll
      exact Nat.max_le.mpr ⟨Nat.le_refl 1, h3⟩
theorem ok_of {x : D} (h1 : x.pl = true) (h2 : x.py.canLay0 = true) (h3 : x.py.depth ≤ 64) : x.ok = true := by
  unfold D.ok SeqAt.shaped
  rw [h1, h2, decide_eq_true h3]
  rfl
theorem pl_spots {acc : List Spot} : (D.lst (acc.map spD)).ok = true := by
  obtain ⟨h1, h2, h3⟩ := spots_in acc
  refine ok_of h1 ?_ ?_
  · unfold D.py PyData.canLay0
    exact h2
  · unfold D.py PyData.depth
    exact Nat.le_trans (Nat.add_le_add_right h3 1) (by decide)
theorem addNew_len {acc : List Spot} {t : Spot × Spot × Spot} : (addNew acc t).length ≤ acc.length + 1 := by
  unfold addNew
  split
  · rw [List.length_append]; exact Nat.le_refl _
  · exact Nat.le_succ _
theorem foldNew_len : ∀ {ts : List (Spot × Spot × Spot)} {acc : List Spot}, (ts.foldl addNew acc).length ≤ acc.length + ts.length
  | [], _ => Nat.le_refl _
  | t :: ts, acc => Nat.le_trans (foldNew_len (ts := ts)) (by have := addNew_len (acc := acc) (t := t); rw [List.length_cons]; omega)
theorem bend_le {a b c : Spot} (ha : SpOk a) (hb : SpOk b) (hc : SpOk c) : (bendI a b c).natAbs ≤ 10 ^ 20 := by
  obtain ⟨a1, a2⟩ := ha
  obtain ⟨b1, b2⟩ := hb
  obtain ⟨c1, c2⟩ := hc
  have m : ∀ x y : Int, x.natAbs ≤ 2 * 10 ^ 9 → y.natAbs ≤ 2 * 10 ^ 9 → (x * y).natAbs ≤ 4 * 10 ^ 18 := fun x y hx hy => by
    rw [Int.natAbs_mul]
    exact Nat.le_trans (Nat.mul_le_mul hx hy) (by decide)
  have h1 := m (b.1 - a.1) (c.2 - a.2) (by omega) (by omega)
  have h2 := m (b.2 - a.2) (c.1 - a.1) (by omega) (by omega)
  unfold bendI
  omega
def PotOk (m : Nat) (x y z : Int) : Prop := PotI x y z m
def Spt : List D → (List D → Prop) → Prop := fun ds G => ∃ (sc : List Int) (pl : Nat), ds = [.frl (sc.map D.int), .int pl] ∧ pl ≤ 2 ∧ ∀ x y, 0 ≤ x → 0 ≤ y → y < 2305843009213693951 → G [.int x, .int y, .int 0]
def Stk : List D → (D → Prop) → Prop := fun ds G => ∃ u : Int, ds = [.int u] ∧ 0 < u ∧ u ≤ 1000000000 ∧ ∀ d : Int, 0 ≤ d → d < u → G (.int d)
def Sof : List D → (D → Prop) → Prop := fun ds G => ∃ xs : List D, ds = [.lst xs] ∧ 0 < xs.length ∧ xs.length ≤ 1000000 ∧ ∀ d, d ∈ xs → G d
def Scl : List D → (D → Prop) → Prop := fun ds G => ∃ (sc : List D), ds = [.frl sc, .int 3] ∧ ∀ n : Nat, 1 ≤ n → n ≤ 3 → G (.lst (rgD 0 n))
def Ssm : List D → (D → Prop) → Prop := fun ds G => ∃ (xs : List Str) (a : Nat), ds = [.lst (xs.map D.str), .int a] ∧ a ≤ xs.length ∧ a ≤ 40 ∧ xs.length ≤ 100 ∧ ∀ ys zs : List Str, ys.length = a → (ys ++ zs).Perm xs → G (.lst (ys.map D.str))
def Snms : List D → (D → Prop) → Prop := fun ds G => ∃ m : Nat, ds = [.int m] ∧ 1 ≤ m ∧ m ≤ 40 ∧ ∀ ns : List Str, ns.length = m → ns.Nodup → (∀ n ∈ ns, nameB n = true) → G (.lst (ns.map D.str))
def SsOk (m : Nat) (ss : List Spot) : Prop := 1 ≤ ss.length ∧ ss.length ≤ m ∧ ss.Nodup ∧ ∀ p ∈ ss, p.1.natAbs ≤ 9000 ∧ p.2.natAbs ≤ 9000
def Sss : List D → (D → Prop) → Prop := fun ds G => ∃ m w : Nat, ds = [.int m, .int w] ∧ 1 ≤ m ∧ m ≤ 40 ∧ 3 ≤ w ∧ w ≤ 9000 ∧ ∀ ss, SsOk m ss → G (.lst (ss.map spD))
def Sfd : List D → (D → Prop) → Prop := fun ds G => ∃ m w : Nat, ds = [.int m, .int w] ∧ 1 ≤ m ∧ m ≤ 40 ∧ 3 ≤ w ∧ w ≤ 9000 ∧ ∀ ws : List Well, WsOk ws → ws.length ≤ m → (∀ v ∈ ws, v.2.1.natAbs ≤ 9000 ∧ v.2.2.natAbs ≤ 9000) → G (.lst (ws.map wellD))
def Stx : List D → (D → Prop) → Prop := fun ds G => ∃ ws : List Well, ds = [.lst (ws.map wellD)] ∧ WsOk ws ∧ G (.str (textOf ws))
def Spl : List D → (D → Prop) → Prop := fun ds G => ∃ ws : List Well, ds = [.lst (ws.map wellD)] ∧ WsOk ws ∧ G (sbD ws)
theorem prime5 {k : Int} (h0 : 0 ≤ k) (h5 : k < 5) : ∃ p : Int, atI [D.int 2147483647, .int 2147483629, .int 2147483587, .int 2147483579, .int 2147483563] k = some (.int p) ∧ 0 < p ∧ p ≤ 2147483647 := by
  have h : k = 0 ∨ k = 1 ∨ k = 2 ∨ k = 3 ∨ k = 4 := by omega
  rcases h with rfl | rfl | rfl | rfl | rfl <;> exact ⟨_, rfl, by decide, by decide⟩
theorem fdiv_nn {x u : Int} (hx : 0 ≤ x) (hu : 0 < u) : 0 ≤ x.fdiv u := Int.fdiv_nonneg hx (Int.le_of_lt hu)
theorem b01 (b : Bool) : -2 ^ 64 < (if b = true then (1 : Int) else 0) ∧ (if b = true then (1 : Int) else 0) < 2 ^ 64 ∧ 0 ≤ (if b = true then (1 : Int) else 0) := by
  cases b <;> decide
theorem addNew_mem {acc : List Spot} {t : Spot × Spot × Spot} {p : Spot} : p ∈ addNew acc t ↔ p ∈ acc ∨ (liesB t.2.1 t.2.2 t.1 = true ∧ p = t.1) := by
  unfold addNew
  by_cases h : liesB t.2.1 t.2.2 t.1 = true
  · by_cases m : t.1 ∈ acc
    · rw [if_neg (by rw [h, decide_eq_true m]; decide)]
      constructor
      · exact .inl
      · rintro (z | ⟨_, rfl⟩)
        · exact z
        · exact m
    · rw [if_pos (by rw [h, decide_eq_false m]; rfl), List.mem_append, List.mem_singleton]
      constructor
      · rintro (z | rfl)
        · exact .inl z
        · exact .inr ⟨h, rfl⟩
      · rintro (z | ⟨_, rfl⟩)
        · exact .inl z
        · exact .inr rfl
  · rw [if_neg (fun z => h (Bool.and_eq_true_iff.mp z).1)]
    constructor
    · exact .inl
    · rintro (z | ⟨z, _⟩)
      · exact z
      · exact absurd z h
theorem addNew_nodup {acc : List Spot} {t : Spot × Spot × Spot} (h : acc.Nodup) : (addNew acc t).Nodup := by
  unfold addNew
  split
  · rename_i z
    have m := of_decide_eq_false (by simpa using (Bool.and_eq_true_iff.mp z).2 : decide (t.1 ∈ acc) = false)
    rw [List.nodup_append]
    refine ⟨h, by simp, fun a ha b hb e => ?_⟩
    rw [List.mem_singleton] at hb
    subst hb
    subst e
    exact m ha
  · exact h
theorem fold_mem {p : Spot} : ∀ {ts : List (Spot × Spot × Spot)} {acc : List Spot}, p ∈ ts.foldl addNew acc ↔ p ∈ acc ∨ ∃ t ∈ ts, liesB t.2.1 t.2.2 t.1 = true ∧ p = t.1
  | [], acc => by simp
  | t :: ts, acc => by
    rw [List.foldl_cons, fold_mem, addNew_mem]
    constructor
    · rintro ((z | z) | ⟨u, hu, z⟩)
      · exact .inl z
      · exact .inr ⟨t, .head _, z⟩
      · exact .inr ⟨u, .tail _ hu, z⟩
    · rintro (z | ⟨u, hu, z⟩)
      · exact .inl (.inl z)
      · cases hu with
        | head => exact .inl (.inr z)
        | tail _ hu => exact .inr ⟨u, hu, z⟩
theorem fold_nodup : ∀ {ts : List (Spot × Spot × Spot)} {acc : List Spot}, acc.Nodup → (ts.foldl addNew acc).Nodup
  | [], _, h => h
  | t :: ts, acc, h => by
    rw [List.foldl_cons]
    exact fold_nodup (addNew_nodup h)
theorem same_len {α : Type} [DecidableEq α] : ∀ {xs ys : List α}, xs.Nodup → ys.Nodup → (∀ a, a ∈ xs ↔ a ∈ ys) → xs.length = ys.length
  | [], ys, _, _, h => by
    cases ys with
    | nil => rfl
    | cons y ys => exact absurd ((h y).mpr (.head _)) (fun z => nomatch z)
  | x :: xs, ys, hx, hy, h => by
    rw [List.nodup_cons] at hx
    have m : x ∈ ys := (h x).mp (.head _)
    have e := same_len (ys := ys.erase x) hx.2 (hy.erase x) fun a => by
      rw [hy.mem_erase_iff]
      constructor
      · intro z
        exact ⟨fun q => hx.1 (q ▸ z), (h a).mp (.tail _ z)⟩
      · rintro ⟨z1, z2⟩
        rcases List.mem_cons.mp ((h a).mpr z2) with q | q
        · exact absurd q z1
        · exact q
    have l := List.length_erase_of_mem m
    have p : 0 < ys.length := List.length_pos_of_mem m
    rw [List.length_cons, e, l]
    omega
def endsL (a b c d : Spot) : List Spot := [a, b].filter (fun s => liesB c d s) ++ [c, d].filter (fun s => liesB a b s)
theorem common_mem {a b c d p : Spot} : p ∈ commonS a b c d ↔ p ∈ endsL a b c d := by
  unfold commonS endsL ends4
  rw [fold_mem]
  simp only [List.not_mem_nil, false_or, List.mem_append, List.mem_filter, List.mem_cons, List.not_mem_nil, or_false]
  constructor
  · rintro ⟨t, (rfl | rfl | rfl | rfl), h, rfl⟩
    · exact .inl ⟨.inl rfl, h⟩
    · exact .inl ⟨.inr rfl, h⟩
    · exact .inr ⟨.inl rfl, h⟩
    · exact .inr ⟨.inr rfl, h⟩
  · rintro (⟨(rfl | rfl), h⟩ | ⟨(rfl | rfl), h⟩)
    · exact ⟨_, .inl rfl, h, rfl⟩
    · exact ⟨_, .inr (.inl rfl), h, rfl⟩
    · exact ⟨_, .inr (.inr (.inl rfl)), h, rfl⟩
    · exact ⟨_, .inr (.inr (.inr rfl)), h, rfl⟩
theorem common_nodup {a b c d : Spot} : (commonS a b c d).Nodup := fold_nodup List.nodup_nil
theorem dist_len {a b c d : Spot} {n : Nat} (h : Dist ((endsL a b c d).map fun p => [p.1, p.2]) n) : n = (commonS a b c d).length := by
  obtain ⟨M, h1, h2, h3⟩ := h
  have e := same_len (xs := M) (ys := (commonS a b c d).map fun p => [p.1, p.2]) h1
    (nodup_of_map (f := fun p => p) (by rw [List.map_id']; exact common_nodup) fun u _ v _ z => by
      have z1 := (List.cons.inj z).1
      have z2 := (List.cons.inj (List.cons.inj z).2).1
      exact Prod.ext z1 z2)
    fun y => by
      rw [h3, List.mem_map, List.mem_map]
      constructor
      · rintro ⟨p, hp, e⟩
        exact ⟨p, common_mem.mpr hp, e⟩
      · rintro ⟨p, hp, e⟩
        exact ⟨p, common_mem.mp hp, e⟩
  rw [← h2, e, List.length_map]
theorem common_nil {a b c d : Spot} : (commonS a b c d).length = 0 ↔ endsL a b c d = [] := by
  rw [List.length_eq_zero_iff]
  constructor
  · intro h
    refine List.eq_nil_iff_forall_not_mem.mpr fun p hp => ?_
    have := common_mem.mpr hp
    rw [h] at this
    exact nomatch this
  · intro h
    refine List.eq_nil_iff_forall_not_mem.mpr fun p hp => ?_
    have := common_mem.mp hp
    rw [h] at this
    exact nomatch this
theorem sg_pos {x : Int} (h : 0 < x) : sgI x = 1 := by
  unfold sgI
  rw [decide_eq_true h, decide_eq_false (by omega)]
  rfl
theorem sg_neg {x : Int} (h : x < 0) : sgI x = -1 := by
  unfold sgI
  rw [decide_eq_true h, decide_eq_false (by omega)]
  rfl
theorem sg_zero : sgI 0 = 0 := by decide
theorem sg_mul {x y : Int} : decide (sgI x * sgI y < 0) = decide (x * y < 0) := by
  rcases Int.lt_trichotomy x 0 with hx | rfl | hx
  · rcases Int.lt_trichotomy y 0 with hy | rfl | hy
    · rw [sg_neg hx, sg_neg hy, decide_eq_false (p := x * y < 0) (by have := Int.mul_pos_of_neg_of_neg hx hy; omega)]
      decide
    · rw [sg_zero, Int.mul_zero, Int.mul_zero]
    · rw [sg_neg hx, sg_pos hy, decide_eq_true (p := x * y < 0) (Int.mul_neg_of_neg_of_pos hx hy)]
      decide
  · rw [sg_zero, Int.zero_mul, Int.zero_mul]
  · rcases Int.lt_trichotomy y 0 with hy | rfl | hy
    · rw [sg_pos hx, sg_neg hy, decide_eq_true (p := x * y < 0) (Int.mul_neg_of_pos_of_neg hx hy)]
      decide
    · rw [sg_zero, Int.mul_zero, Int.mul_zero]
    · rw [sg_pos hx, sg_pos hy, decide_eq_false (p := x * y < 0) (by have := Int.mul_pos hx hy; omega)]
      decide
theorem sg_le {x : Int} : (sgI x).natAbs ≤ 1 := by
  rcases Int.lt_trichotomy x 0 with hx | rfl | hx
  · rw [sg_neg hx]; decide
  · decide
  · rw [sg_pos hx]; decide
theorem eqb_nil {acc : List Spot} : D.eqb (.lst (acc.map spD)) (.lst []) = decide (acc = []) := by
  cases acc with
  | nil => rfl
  | cons p acc => rfl
theorem str_len (x y : Str) : (x ++ y).length = x.length + y.length := by
  rw [len_tl, TL.tl_append, List.length_append, ← len_tl, ← len_tl]
theorem line_eq (v : Well) : (((((("well " : Str) ++ v.1) ++ (" " : Str)) ++ numS v.2.1) ++ (" " : Str)) ++ numS v.2.2) = lineOf v := by
  refine str_ext ?_
  rw [tl_line]
  simp only [TL.tl_append, tl_numS]
  have e1 : TL.tl "well " = TL.tl "well" ++ [32] := by decide +kernel
  have e2 : TL.tl " " = [32] := by decide +kernel
  rw [e1, e2]
  simp only [List.append_assoc, List.singleton_append, List.cons_append, List.nil_append]
theorem erase_perm {α : Type} : ∀ {xs : List α} {i : Nat} (h : i < xs.length), ([xs[i]] ++ xs.eraseIdx i).Perm xs
  | x :: xs, 0, _ => List.Perm.refl _
  | x :: xs, i + 1, h => by
    have p := erase_perm (xs := xs) (i := i) (Nat.lt_of_succ_lt_succ h)
    exact (List.Perm.swap _ _ _).trans (p.cons x)
theorem rangeD_len {a : Int} : (rangeD 0 a).length = a.toNat := by
  unfold rangeD
  rw [List.length_map, List.length_range]
  omega
theorem erase_map {α β : Type} (f : α → β) : ∀ (xs : List α) (i : Nat), (xs.map f).eraseIdx i = (xs.eraseIdx i).map f
  | [], _ => rfl
  | x :: xs, 0 => rfl
  | x :: xs, i + 1 => by
    have e := erase_map f xs i
    show f x :: (xs.map f).eraseIdx i = f x :: (xs.eraseIdx i).map f
    rw [e]
theorem ends_len {a b c d : Spot} : (endsL a b c d).length ≤ 4 := by
  unfold endsL
  rw [List.length_append]
  have h1 := List.length_filter_le (fun s => liesB c d s) [a, b]
  have h2 := List.length_filter_le (fun s => liesB a b s) [c, d]
  simp only [List.length_cons, List.length_nil] at h1 h2
  omega
def poolS : List Str := (["a", "b", "c", "x9", "well", "far"] : List Str) ++ (List.range 44).map fun (i : Nat) => (("n" : Str) ++ numS (0 + (i : Int)))
theorem pool_names : poolS.all nameB = true := by decide +kernel
theorem pool_nodup : poolS.Nodup := by decide +kernel
theorem cut_last {xs : List D} (h : 1 ≤ xs.length) : Lw.cutD xs none (some (-1)) = xs.dropLast := by
  unfold Lw.cutD
  have e1 : HT.sIx xs.length 0 none = 0 := rfl
  have e2 : HT.sIx xs.length xs.length (some (-1)) = xs.length - 1 := by
    unfold HT.sIx
    simp only []
    split <;> omega
  rw [e1, e2, List.drop_zero, Nat.sub_zero, List.dropLast_eq_take]
def signC : List Nat := TL.tl "abcdefghijklmnopqrstuvwxyz0123456789"
theorem sign_in {c : Nat} (h : c ∈ signC) : c ∈ letC ∨ c ∈ figC := by
  have e : ∀ c ∈ signC, c ∈ letC ∨ c ∈ figC := by decide +kernel
  exact e c h
theorem join_nil : ∀ (ys : List Str), TL.tl (Txt.join "" ys) = (ys.map TL.tl).flatten := fun ys => by
  rw [TL.join_eq, TL.tl_join]
  have e : TL.tl "" = [] := by decide +kernel
  rw [e]
  induction ys with
  | nil => rfl
  | cons y ys ih =>
    cases ys with
    | nil => simp [TL.joinL]
    | cons z zs =>
      rw [List.map_cons, List.map_cons, TL.joinL, List.flatten_cons, List.nil_append]
      rw [← List.map_cons, ih]
theorem word_ok {ys : List Str} (hl : ys.length ≤ 6) (h : ∀ y ∈ ys, ∃ c, y = ⟨#[c]⟩ ∧ c ∈ signC) : nameB ("of" ++ Txt.join "" ys) = true ∧ (Txt.join "" ys).length ≤ 6 ∧ (ys.map (·.length)).sum ≤ 6 := by
  have k : ∀ ys : List Str, (∀ y ∈ ys, ∃ c, y = ⟨#[c]⟩ ∧ c ∈ signC) → (∀ d ∈ (ys.map TL.tl).flatten, d ∈ signC) ∧ (ys.map TL.tl).flatten.length = ys.length ∧ (ys.map (·.length)).sum = ys.length := by
    intro ys
    induction ys with
    | nil => exact fun _ => ⟨(fun d hd => nomatch hd), rfl, rfl⟩
    | cons y ys ih =>
      intro h
      obtain ⟨c, rfl, hc⟩ := h _ (.head _)
      obtain ⟨i1, i2, i3⟩ := ih fun z hz => h z (.tail _ hz)
      refine ⟨fun d hd => ?_, ?_, ?_⟩
      · rw [List.map_cons, List.flatten_cons, List.mem_append] at hd
        rcases hd with hd | hd
        · have : d = c := by simpa [TL.tl] using hd
          rw [this]; exact hc
        · exact i1 d hd
      · rw [List.map_cons, List.flatten_cons, List.length_append, i2, List.length_cons, Nat.add_comm]
        rfl
      · rw [List.map_cons, List.sum_cons, i3, List.length_cons, Nat.add_comm]
        rfl
  obtain ⟨k1, k2, k3⟩ := k ys h
  refine ⟨?_, ?_, by omega⟩
  · unfold nameB
    rw [TL.tl_append, join_nil]
    have e : TL.tl "of" = [111, 102] := by decide +kernel
    rw [e]
    show (decide (_ < 8) && decide ((111 : Nat) ∈ letC) && List.all (102 :: (ys.map TL.tl).flatten) _) = true
    rw [Bool.and_eq_true, Bool.and_eq_true, List.all_eq_true]
    refine ⟨⟨decide_eq_true (by show ((102 :: (ys.map TL.tl).flatten).length) < 8; rw [List.length_cons, k2]; omega), by decide +kernel⟩, fun d hd => ?_⟩
    rw [Bool.or_eq_true, decide_eq_true_iff, decide_eq_true_iff]
    rcases List.mem_cons.mp hd with rfl | hd
    · exact .inl (by decide +kernel)
    · exact sign_in (k1 d hd)
  · rw [len_tl, join_nil, k2]
    exact hl
theorem sign_at {d : Int} (h0 : 0 ≤ d) (h : d < 36) : ∃ c, atI (Str.ofString "abcdefghijklmnopqrstuvwxyz0123456789").cps.toList d = some c ∧ c ∈ signC := by
  have l : signC.length = 36 := by decide +kernel
  have hd : d.toNat < signC.length := by omega
  refine ⟨signC[d.toNat], ?_, List.getElem_mem _⟩
  have e := atI_at (xs := signC) (List.getElem?_eq_getElem hd)
  rw [Int.toNat_of_nonneg h0] at e
  exact e
theorem inF_str {ys : List Str} {n : Str} : inF (.str n) (ys.map D.str) = decide (n ∈ ys) := by
  have e := inF_strs (f := fun v : Str => v) (ws := ys) (n := n)
  rw [List.map_id'] at e
  exact e
def ringL : List Spot := [(5, 0), (4, 3), (3, 4), (0, 5), (-3, 4), (-4, 3), (-5, 0), (-4, -3), (-3, -4), (0, -5), (3, -4), (4, -3)]
abbrev ringD : D := .lst (ringL.map spD)
theorem rangeD_at {a : Int} {i : Nat} {x : D} (h : (rangeD 0 a)[i]? = some x) : (i : Int) < a ∧ x = .int (i : Nat) := by
  unfold rangeD at h
  rw [List.getElem?_map] at h
  cases q : (List.range (a - 0).toNat)[i]? with
  | none => rw [q] at h; cases h
  | some n =>
    rw [q] at h
    cases h
    obtain ⟨hi, e⟩ := List.getElem?_eq_some_iff.mp q
    rw [List.length_range] at hi
    rw [List.getElem_range] at e
    subst e
    exact ⟨by omega, congrArg D.int (Int.zero_add _)⟩
theorem ring_ok : ∀ p ∈ ringL, p.1.natAbs ≤ 9000 ∧ p.2.natAbs ≤ 9000 := by decide
def Srt : List D → (D → Prop) → Prop := fun ds G => ds = [] ∧ G (.bl true)
def Slaw : List D → (D → Prop) → Prop := fun ds G => ∃ sc : List Int, ds = [.frl (sc.map D.int)] ∧ G (.bl true)
theorem bend_rot (a b c : Spot) : bendI b c a = bendI a b c := by unfold bendI; grind
theorem bend_swap (a b c : Spot) : bendI b a c = -bendI a b c := by unfold bendI; grind
theorem bend_move (a b c : Spot) (i j : Int) : bendI (a.1 + i, a.2 + j) (b.1 + i, b.2 + j) (c.1 + i, c.2 + j) = bendI a b c := by unfold bendI; grind
theorem bend_turn (a b c : Spot) : bendI (0 - a.2, a.1) (0 - b.2, b.1) (0 - c.2, c.1) = bendI a b c := by unfold bendI; grind
theorem bend_glass (a b c : Spot) : bendI (0 - a.1, a.2) (0 - b.1, b.2) (0 - c.1, c.2) = -bendI a b c := by unfold bendI; grind
theorem sq_comm (a b : Spot) : sqI b a = sqI a b := by unfold sqI; grind
theorem sg_opp (x : Int) : sgI (-x) = 0 - sgI x := by
  rcases Int.lt_trichotomy x 0 with h | rfl | h
  · rw [sg_neg h, sg_pos (by omega)]
    rfl
  · decide
  · rw [sg_pos h, sg_neg (by omega)]
    rfl
theorem btw_comm (a b c : Int) : btw b a c = btw a b c := by
  unfold btw
  grind
theorem lies_comm (a b c : Spot) : liesB b a c = liesB a b c := by
  unfold liesB
  rw [bend_swap a b c, btw_comm a.1 b.1, btw_comm a.2 b.2]
  congr 1
  grind
theorem met_comm (a b c d : Spot) : metS c d b a = metS a b c d := by
  have m : ∀ p, p ∈ commonS c d b a ↔ p ∈ commonS a b c d := fun p => by
    rw [common_mem, common_mem]
    unfold endsL
    simp only [List.mem_append, List.mem_filter, List.mem_cons, List.not_mem_nil, or_false, lies_comm a b]
    grind
  have l := same_len common_nodup common_nodup m
  have e : crossB c d b a = crossB a b c d := by
    unfold crossB
    rw [bend_swap a b c, bend_swap a b d, Int.neg_mul_neg, Bool.and_comm, Int.mul_comm (bendI c d b)]
  unfold metS
  rw [l, e]
theorem mapW_mapW (f g : Spot → Spot) (ws : List Well) : mapW f (mapW g ws) = mapW (fun p => f (g p)) ws := by
  unfold mapW
  rw [List.map_map]
  rfl
theorem mapW_id {f : Spot → Spot} (h : ∀ p, f p = p) (ws : List Well) : mapW f ws = ws := by
  unfold mapW
  conv => rhs; rw [← List.map_id ws]
  exact List.map_congr_left fun v _ => by rw [h]; rfl
theorem four {α : Type} {xs : List α} (h : xs.length = 4) : ∃ a b c d, xs = [a, b, c, d] := by
  match xs, h with
  | [a, b, c, d], _ => exact ⟨a, b, c, d, rfl⟩
theorem three {α : Type} {xs : List α} (h : xs.length = 3) : ∃ a b c, xs = [a, b, c] := by
  match xs, h with
  | [a, b, c], _ => exact ⟨a, b, c, rfl⟩
theorem sq_small {a b : Spot} (ha : SpOk a) (hb : SpOk b) : (sqI a b).natAbs.log2 < 1920 := by
  obtain ⟨a1, a2⟩ := ha
  obtain ⟨b1, b2⟩ := hb
  have m : ∀ x : Int, x.natAbs ≤ 2 * 10 ^ 9 → (x * x).natAbs ≤ 4 * 10 ^ 18 := fun x hx => by
    rw [Int.natAbs_mul]
    exact Nat.le_trans (Nat.mul_le_mul hx hx) (by decide)
  have h1 := m (a.1 - b.1) (by omega)
  have h2 := m (a.2 - b.2) (by omega)
  refine log_small (k := 80) ?_ (by decide) (by decide)
  unfold sqI
  omega
theorem met_repr {a b c d : Spot} : (reprText (metS a b c d)).length ≤ sizeLine := by
  refine Nat.le_trans (m := 100) ?_ (by decide)
  unfold metS
  split
  · decide +kernel
  · split
    · decide +kernel
    · split <;> decide +kernel
mutual
theorem py_refl : ∀ x : D, x.pl = true → PyData.eqv x.py x.py = true
  | .non, _ => rfl
  | .bl _, _ => by simp [D.py, PyData.eqv]
  | .int _, _ => by simp [D.py, PyData.eqv]
  | .str _, _ => by simp [D.py, PyData.eqv]
  | .tup xs, h => by
    unfold D.py PyData.eqv
    exact pys_refl xs (by simpa [D.pl] using h)
  | .lst xs, h => by
    unfold D.py PyData.eqv
    exact pys_refl xs (by simpa [D.pl] using h)
  | .frl xs, h => by
    unfold D.py PyData.eqv
    exact pys_refl xs (by simpa [D.pl] using h)
  | .dct _, h => by simp [D.pl] at h
  | .obj _ _, h => by simp [D.pl] at h
  | .ty _, h => by simp [D.pl] at h
  | .cls _, h => by simp [D.pl] at h
theorem pys_refl : ∀ xs : List D, D.pls xs = true → PyData.eqvAll (D.pys xs) (D.pys xs) = true
  | [], _ => rfl
  | x :: xs, h => by
    have h' : x.pl = true ∧ D.pls xs = true := by simpa [D.pls] using h
    unfold D.pys PyData.eqvAll
    rw [py_refl x h'.1, pys_refl xs h'.2]
    rfl
end
theorem eqb_refl {x : D} (h : x.ok = true) : D.eqb x x = true := by
  unfold D.ok at h
  exact py_refl _ (Bool.and_eq_true_iff.mp h).1
theorem tup_spots {acc : List Spot} : (D.tup (acc.map spD)).ok = true := by
  obtain ⟨h1, h2, h3⟩ := spots_in acc
  refine ok_of h1 ?_ ?_
  · unfold D.py PyData.canLay0
    exact h2
  · unfold D.py PyData.depth
    exact Nat.le_trans (Nat.add_le_add_right h3 1) (by decide)
theorem wsp_ok {ws : List Well} : (D.tup (ws.map fun v => spD v.2)).ok = true := by
  have e := tup_spots (acc := ws.map (·.2))
  rw [List.map_map] at e
  exact e
theorem strs_in : ∀ (acc : List Str), (∀ n ∈ acc, PyData.strOk n = true) → D.pls (acc.map D.str) = true ∧ PyData.canLayAll0 (D.pys (acc.map D.str)) = true ∧ PyData.depthAll (D.pys (acc.map D.str)) ≤ 0
  | [], _ => ⟨rfl, rfl, Nat.zero_le _⟩
  | p :: acc, h => by
    obtain ⟨h1, h2, h3⟩ := strs_in acc fun n hn => h n (.tail _ hn)
    rw [List.map_cons]
    refine ⟨?_, ?_, ?_⟩
    · unfold D.pls
      rw [h1]
      rfl
    · unfold D.pys PyData.canLayAll0
      rw [h2, Bool.and_true]
      exact h p (.head _)
    · unfold D.pys PyData.depthAll
      exact Nat.max_le.mpr ⟨Nat.le_refl 0, h3⟩
theorem tup_strs {acc : List Str} (h : ∀ n ∈ acc, PyData.strOk n = true) : (D.tup (acc.map D.str)).ok = true := by
  obtain ⟨h1, h2, h3⟩ := strs_in acc h
  refine ok_of h1 ?_ ?_
  · unfold D.py PyData.canLay0
    exact h2
  · unfold D.py PyData.depth
    exact Nat.le_trans (Nat.add_le_add_right h3 1) (by decide)
theorem eqb_eq {x y : D} (h : x.ok = true) (e : y = x) : D.eqb x y = true := by rw [e]; exact eqb_refl h
theorem map_mapW {f : Spot → Spot} {ws : List Well} : (mapW f ws).map (fun v => spD v.2) = ws.map fun v => spD (f v.2) := by
  unfold mapW
  rw [List.map_map]
  rfl
theorem names_mapW {f : Spot → Spot} {ws : List Well} : ((mapW f ws).map fun v => D.str v.1) = ws.map fun v => D.str v.1 := by
  unfold mapW
  rw [List.map_map]
  rfl
theorem mem_mapW {f : Spot → Spot} {ws : List Well} {v : Well} (h : v ∈ ws) : (v.1, f v.2) ∈ mapW f ws := List.mem_map.mpr ⟨v, h, rfl⟩
theorem strOk_name {z : Str} (h : nameB z = true) : PyData.strOk z = true := by
  unfold PyData.strOk
  rw [← Array.all_toList, List.all_eq_true]
  intro c hc
  have := name_in h (c := c) hc
  exact decide_eq_true (by omega)
theorem wnm_ok {ws : List Well} (h : WsOk ws) : (D.tup (ws.map fun v => D.str v.1)).ok = true := by
  have e := tup_strs (acc := ws.map (·.1)) fun n hn => by
    obtain ⟨v, hv, rfl⟩ := List.mem_map.mp hn
    exact strOk_name (h.ok v hv).name
  rw [List.map_map] at e
  exact e
theorem q_mapped {ws : List Well} {f g : Spot → Spot} {G : Bool → Prop} (e : ∀ p, g p = f p) (h : G true) : dEqB (.tup ((mapW f ws).map fun v => spD v.2)) (.tup (ws.map fun v => spD (g v.2))) G := by
  have e2 : (ws.map fun v => spD (g v.2)) = (mapW f ws).map fun v => spD v.2 := by
    rw [map_mapW]
    exact List.map_congr_left fun v _ => by rw [e]
  rw [e2]
  exact q_eqT wsp_ok wsp_ok (by rw [eqb_refl wsp_ok]; exact h)
theorem q_namesM {ws : List Well} {f : Spot → Spot} {G : Bool → Prop} (hw : WsOk ws) (h : G true) : dEqB (.tup ((mapW f ws).map fun v => .str v.1)) (.tup (ws.map fun v => .str v.1)) G := by
  rw [names_mapW]
  exact q_eqT (wnm_ok hw) (wnm_ok hw) (by rw [eqb_refl (wnm_ok hw)]; exact h)
theorem turn4 (ws : List Well) : mapW (fun p => (0 - p.2, p.1)) (mapW (fun p => (0 - p.2, p.1)) (mapW (fun p => (0 - p.2, p.1)) (mapW (fun p => (0 - p.2, p.1)) ws))) = ws := by
  rw [mapW_mapW, mapW_mapW, mapW_mapW]
  refine mapW_id (fun p => ?_) ws
  exact Prod.ext (by simp only; omega) (by simp only; omega)
theorem glass2 (ws : List Well) : mapW (fun p => (0 - p.1, p.2)) (mapW (fun p => (0 - p.1, p.2)) ws) = ws := by
  rw [mapW_mapW]
  refine mapW_id (fun p => ?_) ws
  exact Prod.ext (by simp only; omega) rfl
theorem move2 (r : Int) (ws : List Well) : mapW (fun p => (p.1 + (0 - r), p.2 + 7)) (mapW (fun p => (p.1 + r, p.2 + -7)) ws) = ws := by
  rw [mapW_mapW]
  refine mapW_id (fun p => ?_) ws
  exact Prod.ext (by simp only; omega) (by simp only; omega)
theorem ws_eq {K : Lh.Fg} {ρ ρ' : List SD} {t : L2.TS} {E : Out} (e : ρ = ρ') (h : WS K t ρ' E) : WS K t ρ E := by rw [e]; exact h
theorem we_eq' {K : Lh.Fg} {ρ ρ' : List SD} {t : L2.TE} {F : D → List SD → Prop} (e : ρ = ρ') (h : WE K t ρ' F) : WE K t ρ F := by rw [e]; exact h
theorem wt_eq' {K : Lh.Fg} {ρ ρ' : List SD} {t : L2.TT} {F : Bool → List SD → Prop} (e : ρ = ρ') (h : WT K t ρ' F) : WT K t ρ F := by rw [e]; exact h
theorem ints_ra {K : Lh.Fg} {B : Hp} : ∀ (ys : List Int), RA K B (ys.map V.int) (ys.map D.int)
  | [] => .nil
  | _ :: ys => .cons (.int _) (ints_ra ys)
end Law
set_option maxHeartbeats 0
namespace Law
open PySem PySem.Spec PyProof.Rows L2 Lw
local macro_rules | `(tactic| walk_at "e1") => `(tactic| first
  | (with_reducible refine we_callP (by with_unfolding_all exact rfl) ?_)
  | (with_reducible refine we_int ?_)
  | (with_reducible refine we_str ?_)
  | (with_reducible refine we_bl ?_)
  | (with_reducible refine we_non ?_)
  | (with_reducible refine we_ty ?_)
  | (with_reducible refine we_cls ?_)
  | (with_reducible refine we_sub ?_)
  | (with_reducible refine we_add ?_)
  | (with_reducible refine we_mul ?_)
  | (with_reducible refine we_fdiv ?_)
  | (with_reducible refine we_mod ?_)
  | (with_reducible refine we_pow ?_)
  | (with_reducible refine we_neg ?_)
  | (with_reducible refine we_isN ?_)
  | (with_reducible refine we_notN ?_)
  | (with_reducible refine we_cmp ?_)
  | (with_reducible refine we_chain ?_)
  | (with_reducible refine we_eq ?_)
  | (with_reducible refine we_ne ?_)
  | (with_reducible refine we_in ?_)
  | (with_reducible refine we_notIn ?_)
  | (with_reducible refine we_ix ?_)
  | (with_reducible refine we_slice ?_)
  | (with_reducible refine wo_none ?_)
  | (with_reducible refine wo_some ?_)
  | (with_reducible refine we_if ?_)
  | (with_reducible refine we_andV ?_)
  | (with_reducible refine we_orV ?_)
  | (with_reducible refine we_notV ?_)
  | (with_reducible refine wt_test ?_)
  | (with_reducible refine wt_B ?_)
  | (with_reducible refine wt_and ?_)
  | (with_reducible refine wt_or ?_)
  | (with_reducible refine wt_not ?_)
  | (with_reducible refine wa_nil ?_)
  | (with_reducible refine wa_cons ?_)
  | (with_reducible refine we_tup ?_)
  | (with_reducible refine we_lst ?_)
  | (with_reducible refine we_len ?_)
  | (with_reducible refine we_intc ?_)
  | (with_reducible refine we_abs ?_)
  | (with_reducible refine we_strc ?_)
  | (with_reducible refine we_2I ?_)
  | (with_reducible refine we_all ?_)
  | (with_reducible refine we_any ?_)
  | (with_reducible refine we_list ?_)
  | (with_reducible refine we_tuple ?_)
  | (with_reducible refine we_isi ?_)
  | (with_reducible refine we_fld ?_)
  | (with_reducible refine we_call ?_)
  | (with_reducible refine we_callN ?_)
  | (with_reducible refine we_prop ?_)
  | (with_reducible refine we_meth ?_)
  | (with_reducible refine we_make ?_)
  | (with_reducible refine we_join ?_)
  | (with_reducible refine we_split ?_)
  | (with_reducible refine we_dictZip ?_)
  | (with_reducible refine we_dictP ?_)
  | (with_reducible refine we_reprF ?_)
  | (with_reducible refine we_lenSetT ?_)
  | (with_reducible refine ws_next ?_)
  | (with_reducible refine ws_seq ?_)
  | (with_reducible refine ws_ret ?_)
  | (with_reducible refine ws_retN ?_)
  | (with_reducible refine ws_break ?_)
  | (with_reducible refine ws_cont ?_)
  | (with_reducible refine ws_drop ?_)
  | (with_reducible refine ws_if ?_)
  | (with_reducible refine ws_asg ?_)
  | (with_reducible refine ws_par ?_)
  | (with_reducible refine ws_par3 ?_)
  | (with_reducible refine wg_name ?_)
  | (with_reducible refine wgs_nil ?_)
  | (with_reducible refine wgs_cons ?_)
  | (with_reducible refine wt_yes ?_)
  | refine we_var rfl ?_ | fail)
local macro_rules | `(tactic| walk_at "q1") => `(tactic| first
  | (with_reducible refine q_sub ?_)
  | (with_reducible refine q_addI ?_)
  | (with_reducible refine q_neg ?_)
  | (with_reducible refine q_cmp ?_)
  | (with_reducible refine q_opdCmp ?_)
  | (with_reducible refine q_lenL ?_)
  | (with_reducible refine q_lenT ?_)
  | (with_reducible refine q_lenF ?_)
  | (with_reducible refine q_lenD ?_)
  | (with_reducible refine q_intI ?_)
  | (with_reducible refine q_intB ?_)
  | (with_reducible refine q_abs ?_)
  | (with_reducible refine q_2I ?_)
  | (with_reducible refine q_rB ?_)
  | (with_reducible refine q_eqI ?_)
  | (with_reducible refine q_eqS ?_)
  | (with_reducible refine q_eqB ?_)
  | (with_reducible refine q_eqN ?_)
  | (with_reducible refine q_eqNI ?_)
  | (with_reducible refine q_eqNS ?_)
  | (with_reducible refine q_eqIN ?_)
  | (with_reducible refine q_eqSN ?_)
  | (with_reducible refine q_slL ?_)
  | (with_reducible refine q_slF ?_)
  | (with_reducible refine q_slT ?_)
  | refine q_ixT rfl ?_
  | refine q_ixL rfl ?_
  | refine q_ixF rfl ?_
  | (with_reducible refine q_mul (mulA' (n := 10 ^ 20) (by decide) (by omega) (by omega)) ?_) | fail)
local macro_rules | `(tactic| walk_at "x1") => `(tactic| first | (with_reducible refine Exists.intro _ (And.intro rfl ?_)) | (with_reducible refine Exists.intro _ (Exists.intro _ (And.intro rfl ?_))) | (with_reducible refine And.intro rfl ?_) | refine And.intro (len_le rfl) ?_ | fail)
local macro_rules | `(tactic| walk_at "eo") => `(tactic| first
  | (with_reducible refine we_ixO (by with_unfolding_all exact rfl) (by with_unfolding_all exact .inr rfl) ?_)
  | (with_reducible refine we_callP (by with_unfolding_all exact rfl) ?_)
  | (with_reducible refine we_int ?_)
  | (with_reducible refine we_str ?_)
  | (with_reducible refine we_bl ?_)
  | (with_reducible refine we_non ?_)
  | (with_reducible refine we_ty ?_)
  | (with_reducible refine we_cls ?_)
  | (with_reducible refine we_sub ?_)
  | (with_reducible refine we_add ?_)
  | (with_reducible refine we_mul ?_)
  | (with_reducible refine we_fdiv ?_)
  | (with_reducible refine we_mod ?_)
  | (with_reducible refine we_pow ?_)
  | (with_reducible refine we_neg ?_)
  | (with_reducible refine we_isN ?_)
  | (with_reducible refine we_notN ?_)
  | (with_reducible refine we_cmp ?_)
  | (with_reducible refine we_chain ?_)
  | (with_reducible refine we_eq ?_)
  | (with_reducible refine we_ne ?_)
  | (with_reducible refine we_in ?_)
  | (with_reducible refine we_notIn ?_)
  | (with_reducible refine we_ix ?_)
  | (with_reducible refine we_slice ?_)
  | (with_reducible refine wo_none ?_)
  | (with_reducible refine wo_some ?_)
  | (with_reducible refine we_if ?_)
  | (with_reducible refine we_andV ?_)
  | (with_reducible refine we_orV ?_)
  | (with_reducible refine we_notV ?_)
  | (with_reducible refine wt_test ?_)
  | (with_reducible refine wt_B ?_)
  | (with_reducible refine wt_and ?_)
  | (with_reducible refine wt_or ?_)
  | (with_reducible refine wt_not ?_)
  | (with_reducible refine wa_nil ?_)
  | (with_reducible refine wa_cons ?_)
  | (with_reducible refine we_tup ?_)
  | (with_reducible refine we_lst ?_)
  | (with_reducible refine we_len ?_)
  | (with_reducible refine we_intc ?_)
  | (with_reducible refine we_abs ?_)
  | (with_reducible refine we_strc ?_)
  | (with_reducible refine we_2I ?_)
  | (with_reducible refine we_all ?_)
  | (with_reducible refine we_any ?_)
  | (with_reducible refine we_list ?_)
  | (with_reducible refine we_tuple ?_)
  | (with_reducible refine we_isi ?_)
  | (with_reducible refine we_fld ?_)
  | (with_reducible refine we_call ?_)
  | (with_reducible refine we_callN ?_)
  | (with_reducible refine we_prop ?_)
  | (with_reducible refine we_meth ?_)
  | (with_reducible refine we_make ?_)
  | (with_reducible refine we_join ?_)
  | (with_reducible refine we_split ?_)
  | (with_reducible refine we_dictZip ?_)
  | (with_reducible refine we_dictP ?_)
  | (with_reducible refine we_reprF ?_)
  | (with_reducible refine we_lenSetT ?_)
  | (with_reducible refine wg_name ?_)
  | (with_reducible refine wgs_nil ?_)
  | (with_reducible refine wgs_cons ?_)
  | (with_reducible refine wt_yes ?_)
  | refine we_var rfl ?_ | fail)
local macro_rules | `(tactic| walk_at "ow") => `(tactic| refine Exists.intro _ (Exists.intro _ (Exists.intro _ (Exists.intro _ (And.intro rfl (And.intro (.inr rfl) (And.intro rfl (And.intro rfl (And.intro rfl ?_)))))))))
local macro_rules | `(tactic| walk_at "ge") => `(tactic| repeat' first | walk_at "eo" | walk_at "q1" | walk_at "x1" | walk_at "ow" | fail)
local macro_rules | `(tactic| walk_at "go") => `(tactic| repeat' first | walk_at "e1" | walk_at "q1" | walk_at "x1" | fail)
local macro_rules | `(tactic| walk_at "gin") => `(tactic| repeat' first | exact gin_name (by decide) | exact gmono_name | exact gsin_nil | exact gsmono_nil | (with_reducible refine gin_seq ?_) | (with_reducible refine gmono_seq ?_) | (with_reducible refine gsmono_cons ?_ ?_) | (with_reducible refine gsin_cons ?_ ?_ ?_ ?_))
local macro_rules | `(tactic| walk_at "lc") => `(tactic| refine we_lc (by walk_at "gin") (by walk_at "gin") ?_)
local macro_rules | `(tactic| walk_at "seq") => `(tactic| refine wg_seq ⟨_, .inl rfl, rfl, ?_⟩)
local macro_rules | `(tactic| walk_at "cx") => `(tactic| try dsimp only [L2.cxOf, L2.Cx.nox])
local macro_rules | `(tactic| walk_at "nm") => `(tactic| first | refine ws_eq (by ((try simp only [wipeD, List.map_cons, List.map_nil, List.set_cons_succ, List.set_cons_zero]); exact rfl)) ?_ | refine we_eq' (by ((try simp only [wipeD, List.map_cons, List.map_nil, List.set_cons_succ, List.set_cons_zero]); exact rfl)) ?_ | refine wt_eq' (by ((try simp only [wipeD, List.map_cons, List.map_nil, List.set_cons_succ, List.set_cons_zero]); exact rfl)) ?_)
section
variable {P : Program} {w : World} {K : Lh.Fg} {mg : Str → Option Value} {base : Heap}
theorem sc__law_pot : FnScope ["script", "place", "cell", "own", "small"] ["script", "place"] (defScope s_law_pot) := ⟨rfl, rfl, rfl, by decide +kernel, rfl, by decide +kernel, by decide +kernel⟩
theorem c__law_pot (T : Tx K mg) : Lw.Cal P w K mg base "_law_pot" 1 ["script", "place"] (newSp K 2 Spt) := by
  obtain ⟨fd, F⟩ := Lh.def_of T.d 24 (d := ds_law_pot)
  refine ⟨_, fd, T.glo "_law_pot" 24, F.kp, F.bindsN (fun _ _ _ _ _ _ us hl => by
      match us, hl with
      | [_, _], _ => rfl), Lw.kbn_of F (fun _ _ _ _ _ _ j us ws hj h1 h2 => by
      match j, us, ws, hj, h1, h2 with
      | 0, [], [_, _], _, _, _ => rfl
      | 1, [_], [_], _, _, _ => rfl
      | 2, [_, _], [], _, _, _ => rfl), ?_⟩
  have nd := sc__law_pot.nd
  refine Lw.fn_new F sc__law_pot rfl (by decide) fun cdv A outer s H E hr => ?_
  have hr65 := Lw.room65 hr
  refine ⟨_, (pss_cons (ps_set (i := 2) nd rfl (Or.inl rfl) (pe_ifExp (pt_cmpR op_lt (pv 1) (pe_callB (call_lenK K) (by rfl) (T.free "len" 59) (by decide +kernel) (pa_cons (pv 0) pa_nil)) (nomark _)) (pe_ix (ix_K K (hu_of hr)) (pv 0) (pv 1) (fun _ _ => rfl)) (pe_op (op_addK K) (pe_op op_mulA pe_int (pv 1)) pe_int)))
      (pss_cons (ps_set (i := 3) nd rfl (Or.inl rfl) (pe_op op_mulA (pe_op op_modN (pe_callTy call_intA (by rfl) (T.free "int" 57) (by decide +kernel) (pa_cons (pe_callB call_abs (by rfl) (T.free "abs" 51) (by decide +kernel) (pa_cons (pv 2) pa_nil)) pa_nil)) (pe_op op_powA (pe_op op_powA pe_int pe_int) pe_int)) (pe_callTy call_intA (by rfl) (T.free "int" 57) (by decide +kernel) (pa_cons (pe_cmpR op_ge (pe_callB call_abs (by rfl) (T.free "abs" 51) (by decide +kernel) (pa_cons (pv 2) pa_nil)) (pe_op op_powA pe_int pe_int) (nomark _)) pa_nil))))
      (pss_cons (ps_set (i := 4) nd rfl (Or.inl rfl) (pe_op op_modN (pe_callTy call_intA (by rfl) (T.free "int" 57) (by decide +kernel) (pa_cons (pv 2) pa_nil)) pe_int))
      (pss_one (ps_ret (pe_lst (pa_cons (pv 3) (pa_cons (pe_op op_modN (pe_callTy call_intA (by rfl) (T.free "int" 57) (by decide +kernel) (pa_cons (pe_op (op_addK K) (pe_op (op_addK K) (pe_op op_mulA (pv 4) pe_int) (pe_op op_mulA (pe_op op_mulA pe_int (pv 1)) (pv 1))) pe_int) pa_nil)) pe_int) (pa_cons pe_int pa_nil))))))))), ?_⟩
  rintro ds G hl ⟨sc, pl, rfl, hp, hG⟩
  refine wsn_seq (ws_asg ?_)
  refine WE.mono (F := fun x ρ1 => ρ1 = rho ["script", "place", "cell", "own", "small"] [D.frl (sc.map D.int), .int pl] ∧ ∃ c : Int, x = .int c) ?_ (fun x ρ1 hx => ?_)
  · walk_at "ge"
    refine ⟨fun h => ?_, fun h => ?_⟩
    · have hl2 : pl < sc.length := by
        have := of_decide_eq_true h
        rw [List.length_map] at this
        omega
      walk_at "ge"
      refine q_ixF (d := .int (sc[pl])) (atI_at (by rw [List.getElem?_map, List.getElem?_eq_getElem hl2]; rfl)) ?_
      exact ⟨rfl, _, rfl⟩
    · walk_at "ge"
      exact ⟨_, rfl⟩
  · obtain ⟨rfl, c, rfl⟩ := hx
    have f1 := Int.fmod_nonneg_of_pos c (b := 2305843009213693951) (by decide)
    have f2 := Int.fmod_lt_of_pos c (b := 2305843009213693951) (by decide)
    refine wg_name ?_
    refine wsn_seq (ws_asg ?_)
    walk_at "ge"
    refine q_pow (cpow 4 (by decide) (by decide) (by decide)) ?_
    walk_at "ge"
    refine q_pow (cpow 240 (by decide) (by decide +kernel) (by decide)) ?_
    walk_at "ge"
    refine q_mod (by decide +kernel) ?_
    walk_at "ge"
    refine q_pow (cpow 4 (by decide) (by decide) (by decide)) ?_
    walk_at "ge"
    refine q_mul (.inl (.inr ⟨(b01 _).1, (b01 _).2.1⟩)) ?_
    walk_at "ge"
    refine wsn_seq (ws_asg ?_)
    walk_at "ge"
    refine q_mod (by decide) ?_
    walk_at "ge"
    refine wsn_ret (wn_lst ?_)
    walk_at "ge"
    refine q_mod (by decide) ?_
    walk_at "ge"
    refine hG _ _ ?_ (Int.fmod_nonneg_of_pos _ (by decide)) (Int.lt_trans (Int.fmod_lt_of_pos _ (by decide)) (by decide))
    refine Int.mul_nonneg (Int.fmod_nonneg_of_pos _ (by decide +kernel)) (b01 _).2.2
theorem sc__law_cells : FnScope ["script", "limit"] ["script", "limit"] (defScope s_law_cells) := ⟨rfl, rfl, rfl, by decide +kernel, rfl, by decide +kernel, by decide +kernel⟩
theorem c__law_cells (T : Tx K mg) : Lw.Cal P w K mg base "_law_cells" 1 ["script", "limit"] (pureSp K 2 Scl) := by
  obtain ⟨fd, F⟩ := Lh.def_of T.d 27 (d := ds_law_cells)
  refine ⟨_, fd, T.glo "_law_cells" 27, F.kp, F.bindsN (fun _ _ _ _ _ _ us hl => by
      match us, hl with
      | [_, _], _ => rfl), Lw.kbn_of F (fun _ _ _ _ _ _ j us ws hj h1 h2 => by
      match j, us, ws, hj, h1, h2 with
      | 0, [], [_, _], _, _, _ => rfl
      | 1, [_], [_], _, _, _ => rfl
      | 2, [_, _], [], _, _, _ => rfl), ?_⟩
  have nd := sc__law_cells.nd
  refine Lw.fn_pure F sc__law_cells rfl (by decide) fun cdv A outer s H E hr => ?_
  have hr65 := Lw.room65 hr
  refine ⟨_, (pss_one (ps_ret (pe_listRg rfl (by rfl) (T.free "list" 60) (prg_1 (by rfl) (T.free "range" 64) (pe_callB (call_max2 rfl) (by rfl) (T.free "max" 61) (by decide +kernel) (pa_cons pe_int (pa_cons (pe_callB (call_min2 rfl) (by rfl) (T.free "min" 62) (by decide +kernel) (pa_cons (pv 1) (pa_cons (pe_callB (call_lenK K) (by rfl) (T.free "len" 59) (by decide +kernel) (pa_cons (pv 0) pa_nil)) pa_nil))) pa_nil))))))), ?_⟩
  rintro ds G hl ⟨sc, rfl, hG⟩
  walk_at "go"
  refine we_lstRg (wr_1 ?_)
  walk_at "go"
  generalize ((sc.length : Nat) : Int) = L
  obtain ⟨n, h1, h2, e⟩ : ∃ n : Nat, 1 ≤ n ∧ n ≤ 3 ∧ (if (if L < 3 then L else 3) > 1 then (if L < 3 then L else 3) else 1) = (n : Int) := by
    refine ⟨(if (if L < 3 then L else 3) > 1 then (if L < 3 then L else 3) else 1).toNat, ?_, ?_, ?_⟩ <;> split <;> split <;> omega
  rw [e]
  exact ⟨RgOk.of_le (by decide) (by omega) (by decide) (by omega), hG n h1 h2⟩
theorem sc__law_bend : FnScope ["p", "q", "r"] ["p", "q", "r"] (defScope s_law_bend) := ⟨rfl, rfl, rfl, by decide +kernel, rfl, by decide +kernel, by decide +kernel⟩
theorem c__law_bend (T : Tx K mg) : Lw.Cal P w K mg base "_law_bend" 1 ["p", "q", "r"] (pureSp K 3 (S3 fun a b c => .int (bendI a b c))) := by
  obtain ⟨fd, F⟩ := Lh.def_of T.d 34 (d := ds_law_bend)
  refine ⟨_, fd, T.glo "_law_bend" 34, F.kp, F.bindsN (fun _ _ _ _ _ _ us hl => by
      match us, hl with
      | [_, _, _], _ => rfl), Lw.kbn_of F (fun _ _ _ _ _ _ j us ws hj h1 h2 => by
      match j, us, ws, hj, h1, h2 with
      | 0, [], [_, _, _], _, _, _ => rfl
      | 1, [_], [_, _], _, _, _ => rfl
      | 2, [_, _], [_], _, _, _ => rfl
      | 3, [_, _, _], [], _, _, _ => rfl), ?_⟩
  have nd := sc__law_bend.nd
  refine Lw.fn_pure F sc__law_bend rfl (by decide) fun cdv A outer s H E hr => ?_
  have hr65 := Lw.room65 hr
  refine ⟨_, (pss_one (ps_ret (pe_op op_sub (pe_op op_mulA (pe_op op_sub (pe_ix (ix_K K (hu_of hr)) (pv 1) pe_int (fun _ _ => rfl)) (pe_ix (ix_K K (hu_of hr)) (pv 0) pe_int (fun _ _ => rfl))) (pe_op op_sub (pe_ix (ix_K K (hu_of hr)) (pv 2) pe_int (fun _ _ => rfl)) (pe_ix (ix_K K (hu_of hr)) (pv 0) pe_int (fun _ _ => rfl)))) (pe_op op_mulA (pe_op op_sub (pe_ix (ix_K K (hu_of hr)) (pv 1) pe_int (fun _ _ => rfl)) (pe_ix (ix_K K (hu_of hr)) (pv 0) pe_int (fun _ _ => rfl))) (pe_op op_sub (pe_ix (ix_K K (hu_of hr)) (pv 2) pe_int (fun _ _ => rfl)) (pe_ix (ix_K K (hu_of hr)) (pv 0) pe_int (fun _ _ => rfl))))))), ?_⟩
  rintro ds G hl ⟨a, b, c, rfl, ⟨a1, a2⟩, ⟨b1, b2⟩, ⟨c1, c2⟩, hG⟩
  walk_at "go"
  exact hG
theorem sc__law_sign : FnScope ["number"] ["number"] (defScope s_law_sign) := ⟨rfl, rfl, rfl, by decide +kernel, rfl, by decide +kernel, by decide +kernel⟩
theorem c__law_sign (T : Tx K mg) : Lw.Cal P w K mg base "_law_sign" 1 ["number"] (pureSp K 1 Ssg) := by
  obtain ⟨fd, F⟩ := Lh.def_of T.d 35 (d := ds_law_sign)
  refine ⟨_, fd, T.glo "_law_sign" 35, F.kp, F.bindsN (fun _ _ _ _ _ _ us hl => by
      match us, hl with
      | [_], _ => rfl), Lw.kbn_of F (fun _ _ _ _ _ _ j us ws hj h1 h2 => by
      match j, us, ws, hj, h1, h2 with
      | 0, [], [_], _, _, _ => rfl
      | 1, [_], [], _, _, _ => rfl), ?_⟩
  have nd := sc__law_sign.nd
  refine Lw.fn_pure F sc__law_sign rfl (by decide) fun cdv A outer s H E hr => ?_
  have hr65 := Lw.room65 hr
  refine ⟨_, (pss_one (ps_ret (pe_op op_sub (pe_callTy call_intA (by rfl) (T.free "int" 57) (by decide +kernel) (pa_cons (pe_cmpR op_gt (pv 0) pe_int (nomark _)) pa_nil)) (pe_callTy call_intA (by rfl) (T.free "int" 57) (by decide +kernel) (pa_cons (pe_cmpR op_lt (pv 0) pe_int (nomark _)) pa_nil))))), ?_⟩
  rintro ds G hl ⟨i, rfl, hG⟩
  walk_at "go"
  exact hG
theorem sc_Field_names : FnScope ["self"] ["self"] (defScope sField_names) := ⟨rfl, rfl, rfl, by decide +kernel, rfl, by decide +kernel, by decide +kernel⟩
theorem p_Field_names_prop (T : Tx K mg) : Lw.Prp P w K mg base (He.ga K "Field") "names" 1 ["self"] (pureSp K 1 (Sg1 (FC K) (fun ws => .tup (ws.map fun v => .str v.1)))) := by
  obtain ⟨fd, F⟩ := Lh.def_of T.d 43 (d := dsField_names)
  refine ⟨_, _, fd, T.cls "Field" 77, T.prop 1, F.bindsN (fun _ _ _ _ _ _ us hl => by
      match us, hl with
      | [_], _ => rfl), ?_⟩
  have nd := sc_Field_names.nd
  refine Lw.fn_pure F sc_Field_names rfl (by decide) fun cdv A outer s H E hr => ?_
  have hr65 := Lw.room65 hr
  refine ⟨_, (pss_one (ps_ret (pe_fldK K (pv 0)))), ?_⟩
  rintro ds G hl ⟨ws, rfl, hG⟩
  walk_at "go"
  refine ⟨_, _, _, rfl, T.cls "Field" 77, T.noat "Field" "own_names" 80, rfl, ?_⟩
  exact hG
theorem sc_Field_spots : FnScope ["self"] ["self"] (defScope sField_spots) := ⟨rfl, rfl, rfl, by decide +kernel, rfl, by decide +kernel, by decide +kernel⟩
theorem p_Field_spots_prop (T : Tx K mg) : Lw.Prp P w K mg base (He.ga K "Field") "spots" 1 ["self"] (pureSp K 1 (Sg1 (FC K) (fun ws => .tup (ws.map fun v => spD v.2)))) := by
  obtain ⟨fd, F⟩ := Lh.def_of T.d 44 (d := dsField_spots)
  refine ⟨_, _, fd, T.cls "Field" 77, T.prop 2, F.bindsN (fun _ _ _ _ _ _ us hl => by
      match us, hl with
      | [_], _ => rfl), ?_⟩
  have nd := sc_Field_spots.nd
  refine Lw.fn_pure F sc_Field_spots rfl (by decide) fun cdv A outer s H E hr => ?_
  have hr65 := Lw.room65 hr
  refine ⟨_, (pss_one (ps_ret (pe_fldK K (pv 0)))), ?_⟩
  rintro ds G hl ⟨ws, rfl, hG⟩
  walk_at "go"
  refine ⟨_, _, _, rfl, T.cls "Field" 77, T.noat "Field" "own_spots" 81, rfl, ?_⟩
  exact hG
theorem sc_Field___eq__ : FnScope ["self", "other"] ["self", "other"] (defScope sField___eq__) := ⟨rfl, rfl, rfl, by decide +kernel, rfl, by decide +kernel, by decide +kernel⟩
theorem m_Field___eq__ (T : Tx K mg) : Lw.Met P w K mg base (He.ga K "Field") "__eq__" 1 ["self", "other"] (pureSp K 2 (Sfeq (FC K))) := by
  obtain ⟨fd, F⟩ := Lh.def_of T.d 41 (d := dsField___eq__)
  refine ⟨_, fd, T.cls "Field" 77, T.meth "Field" "__eq__" 83, F.bindsN (fun _ _ _ _ _ _ us hl => by
      match us, hl with
      | [_, _], _ => rfl), ?_⟩
  have nd := sc_Field___eq__.nd
  refine Lw.fn_pure F sc_Field___eq__ rfl (by decide) fun cdv A outer s H E hr => ?_
  have hr65 := Lw.room65 hr
  refine ⟨_, (pss_one (ps_ret (pe_and (pe_callB (call_isiQ K) (by rfl) (T.free "isinstance" 58) (by decide +kernel) (pa_cons (pv 1) (pa_cons (pe_gcls (T.glo "Field" 76)) pa_nil))) (pe_one (pe_cmpR (op_eqK K hr.units) (pe_fldK K (pv 0)) (pe_fldK K (pv 1)) (nomark _)))))), ?_⟩
  rintro ds G hl ⟨ws, us, rfl, he, hG⟩
  walk_at "go"
  refine ⟨(T.ins 0 (c := "Field")).1, _, _, rfl, (T.ins 0 (c := "Field")).2, ?_⟩
  walk_at "x1"
  refine ⟨fun _ => ?_, (fun h => absurd h (by decide))⟩
  walk_at "go"
  refine ⟨_, _, _, rfl, T.cls "Field" 77, T.noat "Field" "own_text" 79, rfl, ?_⟩
  walk_at "go"
  refine ⟨_, _, _, rfl, T.cls "Field" 77, T.noat "Field" "own_text" 79, rfl, ?_⟩
  walk_at "go"
  rw [decide_eq_true he]
  exact hG
theorem sc_can_stand : FnScope ["wells", "well", "name", "x", "y"] ["wells", "well"] (defScope scan_stand) := ⟨rfl, rfl, rfl, by decide +kernel, rfl, by decide +kernel, by decide +kernel⟩
theorem c_can_stand (T : Tx K mg) : Lw.Cal P w K mg base "can_stand" 1 ["wells", "well"] (pureSp K 2 Scs) := by
  obtain ⟨fd, F⟩ := Lh.def_of T.d 6 (d := dscan_stand)
  refine ⟨_, fd, T.glo "can_stand" 6, F.kp, F.bindsN (fun _ _ _ _ _ _ us hl => by
      match us, hl with
      | [_, _], _ => rfl), Lw.kbn_of F (fun _ _ _ _ _ _ j us ws hj h1 h2 => by
      match j, us, ws, hj, h1, h2 with
      | 0, [], [_, _], _, _, _ => rfl
      | 1, [_], [_], _, _, _ => rfl
      | 2, [_, _], [], _, _, _ => rfl), ?_⟩
  have nd := sc_can_stand.nd
  refine Lw.fn_pure F sc_can_stand rfl (by decide) fun cdv A outer s H E hr => ?_
  have hr65 := Lw.room65 hr
  refine ⟨_, (pss_cons (ps_if (PW.pt (pw_or (pt_cmpR op_isN (pv 1) pe_non (nomark _)) (pw_or1 (pt_cmpR (op_eqK K hr.units) (pe_callB (call_lenK K) (by rfl) (T.free "len" 59) (by decide +kernel) (pa_cons (pv 0) pa_nil)) (pe_gint (T.int "MOST_WELLS" 44)) (nomark _))))) (pss_one (ps_ret pe_bl)) pss_nil)
      (pss_one (ps_ret (pe_not (pe_callB (cr_anyK K rfl) (by rfl) (T.free "any" 53) (by decide +kernel) (pa_cons (pe_lc (own := [("name", 2), ("x", 3), ("y", 4)]) (by rfl) nd (pi_anyK K (pv 0)) (blkOk_by (N := ["wells", "well", "name", "x", "y"]) (sc := defScope scan_stand) (by decide +kernel)) (fun _ _ _ _ _ => (pg_seqK (n := 3) K rfl (pgs_cons (pg_name (i := 2) nd rfl (.inl rfl)) (pgs_cons (pg_name (i := 3) nd rfl (.inl rfl)) (pgs_cons (pg_name (i := 4) nd rfl (.inl rfl)) pgs_nil))))) (fun _ _ _ _ _ => pts_nil) (fun _ _ _ _ _ => (pe_or (pe_cmpR (op_eqK K hr.units) (pe_ix (ix_K K (hu_of hr)) (pv 1) pe_int (fun _ _ => rfl)) (pv 2) (nomark _)) (pe_one (pe_cmpR (op_eqK K hr.units) (pe_slice (sl_K K) (pv 1) (po_some pe_int) po_none) (pe_tup (pa_cons (pv 3) (pa_cons (pv 4) pa_nil))) (nomark _)))))) pa_nil)))))), ?_⟩
  rintro ds G hl ⟨ws, v, rfl, hlt, hne, hG⟩
  walk_at "go"
  refine ⟨fun _ => ?_, (fun h => absurd h (by simp [D.isN]))⟩
  walk_at "go"
  refine ⟨fun h => ?_, fun _ => ?_⟩
  · exfalso
    simp at h
    omega
  walk_at "go"
  walk_at "lc"
  refine wi_any ?_
  walk_at "go"
  refine ⟨?_, lcI_map (ws := ws) (enc := wellD) (res := fun u => .bl false) rfl (fun u hu => ?_) ?_⟩
  · rw [List.length_map]
    exact Nat.lt_of_lt_of_le hlt (by decide)
  · walk_at "seq"
    walk_at "go"
    refine ⟨fun h => ?_, fun _ => ?_⟩
    · exact absurd (of_decide_eq_true h) (hne u hu).1
    · walk_at "go"
      refine q_eqT (xs := [.int v.2.1, .int v.2.2]) (ys := [.int u.2.1, .int u.2.2]) rfl rfl ?_
      have e : D.eqb (.tup [.int v.2.1, .int v.2.2]) (.tup [.int u.2.1, .int u.2.2]) = false := by
        rw [spd_eqb v.2 u.2]
        exact decide_eq_false (hne u hu).2
      rw [e]
      exact ⟨rfl, rfl⟩
  · refine q_bools (bs := ws.map fun _ => false) (by rw [List.map_map]; rfl) ?_
    have ea : ((ws.map fun _ => false).any id) = false := by
      rw [List.any_map, List.any_eq_false]
      intro _ _ h
      cases h
    rw [ea]
    walk_at "x1"
    exact hG
theorem sc_is_name : FnScope ["value", "sign"] ["value"] (defScope sis_name) := ⟨rfl, rfl, rfl, by decide +kernel, rfl, by decide +kernel, by decide +kernel⟩
theorem c_is_name (T : Tx K mg) : Lw.Cal P w K mg base "is_name" 1 ["value"] (pureSp K 1 Snm) := by
  obtain ⟨fd, F⟩ := Lh.def_of T.d 2 (d := dsis_name)
  refine ⟨_, fd, T.glo "is_name" 2, F.kp, F.bindsN (fun _ _ _ _ _ _ us hl => by
      match us, hl with
      | [_], _ => rfl), Lw.kbn_of F (fun _ _ _ _ _ _ j us ws hj h1 h2 => by
      match j, us, ws, hj, h1, h2 with
      | 0, [], [_], _, _, _ => rfl
      | 1, [_], [], _, _, _ => rfl), ?_⟩
  have nd := sc_is_name.nd
  refine Lw.fn_pure F sc_is_name rfl (by decide) fun cdv A outer s H E hr => ?_
  have hr65 := Lw.room65 hr
  refine ⟨_, (pss_cons (ps_if (PW.pt (pw_or (pt_not (pt_val (pe_callB (call_isiQ K) (by rfl) (T.free "isinstance" 58) (by decide +kernel) (pa_cons (pv 0) (pa_cons (pe_gty "str" (T.free "str" 67) (by decide +kernel)) pa_nil))))) (pw_or (pt_not (pt_chain op_lt op_le pe_int (pe_callB (call_lenK K) (by rfl) (T.free "len" 59) (by decide +kernel) (pa_cons (pv 0) pa_nil)) (pe_gint (T.int "MOST_SIGNS" 42)))) (pw_or1 (pt_cmpR (op_notInK K w hr65) (pe_ix (ix_K K (hu_of hr)) (pv 0) pe_int (fun _ _ => rfl)) (pe_gstr (T.str "LETTERS" 40)) (by rfl)))))) (pss_one (ps_ret pe_bl)) pss_nil)
      (pss_one (ps_ret (pe_callB (cr_allK K rfl) (by rfl) (T.free "all" 52) (by decide +kernel) (pa_cons (pe_lc (own := [("sign", 1)]) (by rfl) nd (pi_anyK K (pv 0)) (blkOk_by (N := ["value", "sign"]) (sc := defScope sis_name) (by decide +kernel)) (fun _ _ _ _ _ => (pg_name (i := 1) nd rfl (.inl rfl))) (fun _ _ _ _ _ => pts_nil) (fun _ _ _ _ _ => (pe_or (pe_cmpR (op_inK K w hr65) (pv 1) (pe_gstr (T.str "LETTERS" 40)) (by rfl)) (pe_one (pe_cmpR (op_inK K w hr65) (pv 1) (pe_gstr (T.str "FIGURES" 41)) (by rfl)))))) pa_nil))))), ?_⟩
  rintro ds G hl ⟨z, rfl, hz, hG⟩
  obtain ⟨h1, h2⟩ := name_len hz
  have hs : z.length ≤ sizeLine := Nat.le_trans h2 (by decide)
  obtain ⟨c, r, e⟩ : ∃ c r, TL.tl z = c :: r := by
    unfold nameB at hz
    split at hz
    · cases hz
    · exact ⟨_, _, ‹_›⟩
  have hc : c ∈ letC ∧ ∀ d ∈ r, d ∈ letC ∨ d ∈ figC := by
    unfold nameB at hz
    rw [e] at hz
    simp only [Bool.and_eq_true, decide_eq_true_eq, List.all_eq_true, Bool.or_eq_true] at hz
    exact ⟨hz.1.2, hz.2⟩
  have all : ∀ d ∈ TL.tl z, d ∈ letC ∨ d ∈ figC := fun d hd => by
    rw [e] at hd
    rcases List.mem_cons.mp hd with rfl | hd
    · exact .inl hc.1
    · exact hc.2 d hd
  walk_at "go"
  refine dIsi_str (x := .str z) rfl _ ?_
  walk_at "go"
  refine ⟨fun _ => ?_, fun h => nomatch h⟩
  walk_at "go"
  refine q_lenS hs ?_
  refine q_opdCmp ?_
  walk_at "x1"
  refine ⟨fun _ => ?_, fun h => ?_⟩
  · walk_at "go"
    refine ⟨fun _ => ?_, fun h => ?_⟩
    · walk_at "go"
      refine q_ixS (c := c) hs (atI_at (j := 0) (by rw [show z.cps.toList = c :: r from e]; rfl)) ?_
      walk_at "go"
      refine .inr (.inr ⟨c, _, rfl, rfl, ?_⟩)
      walk_at "go"
      refine ⟨fun h => ?_, fun _ => ?_⟩
      · exact absurd hc.1 (by simpa [letC] using h)
      · walk_at "go"
        walk_at "lc"
        refine wi_any ?_
        walk_at "go"
        refine ⟨?_, lcI_map (ws := TL.tl z) (enc := fun c => .str ⟨#[c]⟩) (res := fun c => .bl true) rfl (fun d hd => ?_) ?_⟩
        · show (signsD z).length < sizeLine
          unfold signsD
          rw [List.length_map, ← len_tl]
          exact Nat.lt_of_le_of_lt h2 (by decide)
        · walk_at "go"
          refine .inr (.inr ⟨d, _, rfl, rfl, ?_⟩)
          walk_at "x1"
          refine ⟨fun h => ⟨rfl, rfl⟩, fun h => ?_⟩
          walk_at "go"
          refine .inr (.inr ⟨d, _, rfl, rfl, ?_⟩)
          have hf : d ∈ figC := by
            rcases all d hd with q | q
            · exact absurd q (by simpa [letC] using h)
            · exact q
          exact ⟨congrArg D.bl (decide_eq_true hf), rfl⟩
        · refine q_bools (bs := (TL.tl z).map fun _ => true) (by rw [List.map_map]; rfl) ?_
          show G (.bl (((TL.tl z).map fun _ => true).all id))
          have ea : (((TL.tl z).map fun _ => true).all id) = true := by
            rw [List.all_map]
            exact List.all_eq_true.mpr fun _ _ => rfl
          rw [ea]
          exact hG
    · exfalso
      simp at h
      omega
  · exfalso
    simp at h
    rw [h] at h1
    omega
theorem sc_is_integer : FnScope ["value"] ["value"] (defScope sis_integer) := ⟨rfl, rfl, rfl, by decide +kernel, rfl, by decide +kernel, by decide +kernel⟩
theorem c_is_integer (T : Tx K mg) : Lw.Cal P w K mg base "is_integer" 1 ["value"] (pureSp K 1 Sii) := by
  obtain ⟨fd, F⟩ := Lh.def_of T.d 0 (d := dsis_integer)
  refine ⟨_, fd, T.glo "is_integer" 0, F.kp, F.bindsN (fun _ _ _ _ _ _ us hl => by
      match us, hl with
      | [_], _ => rfl), Lw.kbn_of F (fun _ _ _ _ _ _ j us ws hj h1 h2 => by
      match j, us, ws, hj, h1, h2 with
      | 0, [], [_], _, _, _ => rfl
      | 1, [_], [], _, _, _ => rfl), ?_⟩
  have nd := sc_is_integer.nd
  refine Lw.fn_pure F sc_is_integer rfl (by decide) fun cdv A outer s H E hr => ?_
  have hr65 := Lw.room65 hr
  refine ⟨_, (pss_one (ps_ret (pe_and (pe_callB (call_isiQ K) (by rfl) (T.free "isinstance" 58) (by decide +kernel) (pa_cons (pv 0) (pa_cons (pe_gty "int" (T.free "int" 57) (by decide +kernel)) pa_nil))) (pe_one (pe_not (pe_callB (call_isiQ K) (by rfl) (T.free "isinstance" 58) (by decide +kernel) (pa_cons (pv 0) (pa_cons (pe_gty "bool" (T.free "bool" 54) (by decide +kernel)) pa_nil)))))))), ?_⟩
  rintro ds G hl ⟨x, rfl, hx, hG⟩
  have isi := dIsi_int (K := K) hx
  have isb := dIsi_bool (K := K) hx
  walk_at "go"
  refine isi _ ?_
  walk_at "x1"
  refine ⟨fun hb => ?_, fun hb => ?_⟩
  · walk_at "go"
    refine isb _ ?_
    walk_at "go"
    cases x <;> first | exact hG | cases hb
  · cases x <;> first | exact hG | cases hb
theorem sc_is_between : FnScope ["value", "least", "most"] ["value", "least", "most"] (defScope sis_between) := ⟨rfl, rfl, rfl, by decide +kernel, rfl, by decide +kernel, by decide +kernel⟩
theorem c_is_between (T : Tx K mg) : Lw.Cal P w K mg base "is_between" 2 ["value", "least", "most"] (pureSp K 3 Sbt) := by
  obtain ⟨fd, F⟩ := Lh.def_of T.d 1 (d := dsis_between)
  refine ⟨_, fd, T.glo "is_between" 1, F.kp, F.bindsN (fun _ _ _ _ _ _ us hl => by
      match us, hl with
      | [_, _, _], _ => rfl), Lw.kbn_of F (fun _ _ _ _ _ _ j us ws hj h1 h2 => by
      match j, us, ws, hj, h1, h2 with
      | 0, [], [_, _, _], _, _, _ => rfl
      | 1, [_], [_, _], _, _, _ => rfl
      | 2, [_, _], [_], _, _, _ => rfl
      | 3, [_, _, _], [], _, _, _ => rfl), ?_⟩
  have nd := sc_is_between.nd
  refine Lw.fn_pure F sc_is_between rfl (by decide) fun cdv A outer s H E hr => ?_
  have hr65 := Lw.room65 hr
  refine ⟨_, (pss_one (ps_ret (pe_and (pe_callF (c_is_integer (P := P) (w := w) (K := K) (mg := mg) (base := base) T) (hr.mono (by decide)) (pa_cons (pv 0) pa_nil)) (pe_one (pe_chain op_le op_le (pv 1) (pv 0) (pv 2)))))), ?_⟩
  rintro ds G hl ⟨i, l, m, rfl, hG⟩
  walk_at "go"
  refine ⟨.int i, rfl, rfl, ?_⟩
  walk_at "x1"
  refine ⟨fun hb => ?_, fun hb => nomatch hb⟩
  walk_at "go"
  refine ⟨fun h => ?_, fun h => ?_⟩
  · walk_at "go"
    rw [h, Bool.true_and] at hG
    exact hG
  · rw [h, Bool.false_and] at hG
    exact hG
theorem sc_is_spot : FnScope ["value", "part"] ["value"] (defScope sis_spot) := ⟨rfl, rfl, rfl, by decide +kernel, rfl, by decide +kernel, by decide +kernel⟩
theorem c_is_spot (T : Tx K mg) : Lw.Cal P w K mg base "is_spot" 3 ["value"] (pureSp K 1 Ssp) := by
  obtain ⟨fd, F⟩ := Lh.def_of T.d 5 (d := dsis_spot)
  refine ⟨_, fd, T.glo "is_spot" 5, F.kp, F.bindsN (fun _ _ _ _ _ _ us hl => by
      match us, hl with
      | [_], _ => rfl), Lw.kbn_of F (fun _ _ _ _ _ _ j us ws hj h1 h2 => by
      match j, us, ws, hj, h1, h2 with
      | 0, [], [_], _, _, _ => rfl
      | 1, [_], [], _, _, _ => rfl), ?_⟩
  have nd := sc_is_spot.nd
  refine Lw.fn_pure F sc_is_spot rfl (by decide) fun cdv A outer s H E hr => ?_
  have hr65 := Lw.room65 hr
  refine ⟨_, (pss_cons (ps_if (PW.pt (pw_or (pt_not (pt_val (pe_callB (call_isiQ K) (by rfl) (T.free "isinstance" 58) (by decide +kernel) (pa_cons (pv 0) (pa_cons (pe_gty "tuple" (T.free "tuple" 69) (by decide +kernel)) pa_nil))))) (pw_or1 (pt_cmpR (op_neK K hr.units) (pe_callB (call_lenK K) (by rfl) (T.free "len" 59) (by decide +kernel) (pa_cons (pv 0) pa_nil)) pe_int (nomark _))))) (pss_one (ps_ret pe_bl)) pss_nil)
      (pss_one (ps_ret (pe_callB (cr_allK K rfl) (by rfl) (T.free "all" 52) (by decide +kernel) (pa_cons (pe_lc (own := [("part", 1)]) (by rfl) nd (pi_anyK K (pv 0)) (blkOk_by (N := ["value", "part"]) (sc := defScope sis_spot) (by decide +kernel)) (fun _ _ _ _ _ => (pg_name (i := 1) nd rfl (.inl rfl))) (fun _ _ _ _ _ => pts_nil) (fun _ _ _ _ _ => (pe_callF (c_is_between (P := P) (w := w) (K := K) (mg := mg) (base := base) T) (hr.mono (by decide)) (pa_cons (pv 1) (pa_cons (pe_op op_sub pe_int (pe_gint (T.int "MOST_SPOT" 45))) (pa_cons (pe_gint (T.int "MOST_SPOT" 45)) pa_nil)))))) pa_nil))))), ?_⟩
  rintro ds G hl ⟨p, rfl, h1, h2, hG⟩
  walk_at "go"
  refine dIsi_tuple (x := spD p) rfl _ ?_
  walk_at "go"
  refine ⟨fun _ => ?_, fun h => nomatch h⟩
  walk_at "go"
  refine ⟨(fun h => absurd h (by simp)), fun _ => ?_⟩
  walk_at "go"
  walk_at "lc"
  refine wi_any ?_
  walk_at "go"
  refine lcI_map (ws := [p.1, p.2]) (enc := fun c => .int c) (res := fun c => .bl true) rfl (fun d hd => ?_) ?_
  · have hd' : d.natAbs ≤ 9999 := by
      simp only [List.mem_cons, List.not_mem_nil, or_false] at hd
      rcases hd with rfl | rfl
      · exact h1
      · exact h2
    walk_at "go"
    refine ⟨d, _, _, rfl, ?_⟩
    have e : (decide (0 - 9999 ≤ d) && decide (d ≤ 9999)) = true := by simp; omega
    rw [e]
    exact ⟨rfl, rfl⟩
  · refine q_bools (bs := [true, true]) rfl ?_
    exact hG
theorem sc_read_integer : FnScope ["word", "figures", "sign", "number"] ["word"] (defScope sread_integer) := ⟨rfl, rfl, rfl, by decide +kernel, rfl, by decide +kernel, by decide +kernel⟩
theorem c_read_integer (T : Tx K mg) : Lw.Cal P w K mg base "read_integer" 1 ["word"] (pureSp K 1 Sri) := by
  obtain ⟨fd, F⟩ := Lh.def_of T.d 3 (d := dsread_integer)
  refine ⟨_, fd, T.glo "read_integer" 3, F.kp, F.bindsN (fun _ _ _ _ _ _ us hl => by
      match us, hl with
      | [_], _ => rfl), Lw.kbn_of F (fun _ _ _ _ _ _ j us ws hj h1 h2 => by
      match j, us, ws, hj, h1, h2 with
      | 0, [], [_], _, _, _ => rfl
      | 1, [_], [], _, _, _ => rfl), ?_⟩
  have nd := sc_read_integer.nd
  refine Lw.fn_pure F sc_read_integer rfl (by decide) fun cdv A outer s H E hr => ?_
  have hr65 := Lw.room65 hr
  refine ⟨_, (pss_cons (ps_set (i := 1) nd rfl (Or.inl rfl) (pe_ifExp (pt_cmpR (op_eqK K hr.units) (pe_slice (sl_K K) (pv 0) po_none (po_some pe_int)) pe_str (nomark _)) (pe_slice (sl_K K) (pv 0) (po_some pe_int) po_none) (pv 0)))
      (pss_cons (ps_if (PW.pt (pw_or (pt_cmpR (op_eqK K hr.units) (pv 1) pe_str (nomark _)) (pw_or (pt_cmpR op_gt (pe_callB (call_lenK K) (by rfl) (T.free "len" 59) (by decide +kernel) (pa_cons (pv 1) pa_nil)) pe_int (nomark _)) (pw_or1 (pt_not (pt_val (pe_callB (cr_allK K rfl) (by rfl) (T.free "all" 52) (by decide +kernel) (pa_cons (pe_lc (own := [("sign", 2)]) (by rfl) nd (pi_anyK K (pv 1)) (blkOk_by (N := ["word", "figures", "sign", "number"]) (sc := defScope sread_integer) (by decide +kernel)) (fun _ _ _ _ _ => (pg_name (i := 2) nd rfl (.inl rfl))) (fun _ _ _ _ _ => pts_nil) (fun _ _ _ _ _ => (pe_cmpR (op_inK K w hr65) (pv 2) (pe_gstr (T.str "FIGURES" 41)) (by rfl)))) pa_nil)))))))) (pss_one (ps_ret pe_non)) pss_nil)
      (pss_cons (ps_set (i := 3) nd rfl (Or.inl rfl) (pe_callTy call_intA (by rfl) (T.free "int" 57) (by decide +kernel) (pa_cons (pv 0) pa_nil)))
      (pss_one (ps_ret (pe_ifExp (pt_cmpR (op_eqK K hr.units) (pe_callTy call_str_int (by rfl) (T.free "str" 67) (by decide +kernel) (pa_cons (pv 3) pa_nil)) (pv 0) (nomark _)) (pv 3) pe_non)))))), ?_⟩
  rintro ds G hl ⟨i, rfl, hi, hG⟩
  have h9 : i.natAbs < 10 ^ 4 := by omega
  have hn := numC_len (by decide : 0 < 4) h9
  have hs : (numS i).length ≤ sizeLine := by
    rw [len_tl, tl_numS]
    exact Nat.le_trans hn (by decide)
  have hlen : (numS i).length ≤ 5 := by rw [len_tl, tl_numS]; exact hn
  have h1 : 1 ≤ (numS i).length := by
    rw [len_tl, tl_numS]
    have := numC_ne i
    cases e : numC i with
    | nil => exact absurd e this
    | cons c r => rw [List.length_cons]; omega
  refine ws_seq ?_
  refine ws_asg ?_
  refine WE.mono (F := fun x ρ1 => ρ1 = rho ["word", "figures", "sign", "number"] [D.str (numS i)] ∧ ∃ z : Str, x = .str z ∧ TL.tl z = TL.numL i.natAbs) ?_ (fun x ρ1 hx => ?_)
  · walk_at "go"
    refine q_slS hs ?_
    walk_at "go"
    rw [cut_minus]
    refine ⟨fun h => ?_, fun h => ?_⟩
    · walk_at "go"
      refine q_slS hs ?_
      walk_at "go"
      rw [cut_tail h1, tl_numS]
      unfold numC
      rw [if_pos (of_decide_eq_true h)]
      rfl
    · walk_at "go"
      rw [tl_numS]
      unfold numC
      rw [if_neg (of_decide_eq_false h)]
  · obtain ⟨rfl, z, rfl, hz⟩ := hx
    have hzl : z.length ≤ 4 := by rw [len_tl, hz]; exact TL.numL_len (by decide) h9
    have hz1 : 1 ≤ z.length := by
      rw [len_tl, hz]
      cases e : TL.numL i.natAbs with
      | nil => exact absurd e (TL.numL_ne _)
      | cons c r => rw [List.length_cons]; omega
    have hzs : z.length ≤ sizeLine := Nat.le_trans hzl (by decide)
    walk_at "go"
    refine ⟨fun _ => ?_, fun h => ?_⟩
    · walk_at "go"
      refine q_lenS hzs ?_
      walk_at "go"
      refine ⟨fun _ => ?_, fun h => ?_⟩
      · walk_at "go"
        walk_at "lc"
        refine wi_any ?_
        walk_at "go"
        refine ⟨?_, lcI_map (ws := TL.tl z) (enc := fun c => .str ⟨#[c]⟩) (res := fun c => .bl true) rfl (fun d hd => ?_) ?_⟩
        · show (signsD z).length < sizeLine
          unfold signsD
          rw [List.length_map, ← len_tl]
          exact Nat.lt_of_le_of_lt hzl (by decide)
        · walk_at "go"
          refine .inr (.inr ⟨d, _, rfl, rfl, ?_⟩)
          have hd2 : d ∈ figC := by
            rw [hz] at hd
            have := TL.numL_digits _ d hd
            exact fig_of this.1 this.2
          exact ⟨congrArg D.bl (decide_eq_true hd2), rfl⟩
        · refine q_bools (bs := (TL.tl z).map fun _ => true) (by rw [List.map_map]; rfl) ?_
          have ea : (((TL.tl z).map fun _ => true).all id) = true := by
            rw [List.all_map]
            exact List.all_eq_true.mpr fun _ _ => rfl
          rw [ea]
          walk_at "x1"
          refine ⟨(fun h => absurd h (by decide)), fun _ => ?_⟩
          walk_at "go"
          refine ⟨i, int_numS (by omega), by omega, ?_⟩
          walk_at "go"
          refine q_str (log_small (k := 14) (by omega) (by decide) (by decide)) ?_
          walk_at "go"
          refine ⟨fun _ => ?_, fun h => (of_decide_eq_false h rfl).elim⟩
          walk_at "go"
          exact hG
      · exfalso
        simp at h
        omega
    · exfalso
      simp at h
      rw [h] at hz1
      exact absurd hz1 (by decide +kernel)
theorem sc_well_in : FnScope ["line", "words", "x", "y"] ["line"] (defScope swell_in) := ⟨rfl, rfl, rfl, by decide +kernel, rfl, by decide +kernel, by decide +kernel⟩
theorem c_well_in (T : Tx K mg) : Lw.Cal P w K mg base "well_in" 4 ["line"] (pureSp K 1 Swi) := by
  obtain ⟨fd, F⟩ := Lh.def_of T.d 4 (d := dswell_in)
  refine ⟨_, fd, T.glo "well_in" 4, F.kp, F.bindsN (fun _ _ _ _ _ _ us hl => by
      match us, hl with
      | [_], _ => rfl), Lw.kbn_of F (fun _ _ _ _ _ _ j us ws hj h1 h2 => by
      match j, us, ws, hj, h1, h2 with
      | 0, [], [_], _, _, _ => rfl
      | 1, [_], [], _, _, _ => rfl), ?_⟩
  have nd := sc_well_in.nd
  refine Lw.fn_pure F sc_well_in rfl (by decide) fun cdv A outer s H E hr => ?_
  have hr65 := Lw.room65 hr
  refine ⟨_, (pss_cons (ps_set (i := 1) nd rfl (Or.inl rfl) (pe_split (pv 0) pe_str))
      (pss_cons (ps_if (PW.pt (pw_or (pt_cmpR (op_neK K hr.units) (pe_callB (call_lenK K) (by rfl) (T.free "len" 59) (by decide +kernel) (pa_cons (pv 1) pa_nil)) pe_int (nomark _)) (pw_or (pt_cmpR (op_neK K hr.units) (pe_ix (ix_K K (hu_of hr)) (pv 1) pe_int (fun _ _ => rfl)) (pe_gstr (T.str "WELL" 43)) (nomark _)) (pw_or1 (pt_not (pt_val (pe_callF (c_is_name (P := P) (w := w) (K := K) (mg := mg) (base := base) T) (hr.mono (by decide)) (pa_cons (pe_ix (ix_K K (hu_of hr)) (pv 1) pe_int (fun _ _ => rfl)) pa_nil)))))))) (pss_one (ps_ret pe_non)) pss_nil)
      (pss_cons (ps_par (i := 2) (j := 3) (by rfl) nd rfl rfl (by decide) rfl rfl (pa_cons (pe_callF (c_read_integer (P := P) (w := w) (K := K) (mg := mg) (base := base) T) (hr.mono (by decide)) (pa_cons (pe_ix (ix_K K (hu_of hr)) (pv 1) pe_int (fun _ _ => rfl)) pa_nil)) (pa_cons (pe_callF (c_read_integer (P := P) (w := w) (K := K) (mg := mg) (base := base) T) (hr.mono (by decide)) (pa_cons (pe_ix (ix_K K (hu_of hr)) (pv 1) pe_int (fun _ _ => rfl)) pa_nil)) pa_nil)) (by rfl))
      (pss_one (ps_ret (pe_ifExp (pt_not (pt_val (pe_callF (c_is_spot (P := P) (w := w) (K := K) (mg := mg) (base := base) T) (hr.mono (by decide)) (pa_cons (pe_tup (pa_cons (pv 2) (pa_cons (pv 3) pa_nil))) pa_nil)))) pe_non (pe_tup (pa_cons (pe_ix (ix_K K (hu_of hr)) (pv 1) pe_int (fun _ _ => rfl)) (pa_cons (pv 2) (pa_cons (pv 3) pa_nil)))))))))), ?_⟩
  rintro ds G hl ⟨v, rfl, hv, hG⟩
  have hn := name_len hv.name
  walk_at "go"
  refine ⟨Nat.le_trans (Nat.add_le_add_right (line_len hv) 2) (by decide), ?_⟩
  rw [split_line hv.name]
  walk_at "go"
  refine ⟨fun _ => ?_, (fun h => absurd h (by simp))⟩
  walk_at "go"
  refine ⟨fun _ => ?_, (fun h => absurd h (by simp))⟩
  walk_at "go"
  refine ⟨v.1, rfl, hv.name, ?_⟩
  walk_at "x1"
  refine ⟨(fun h => absurd h (by decide)), fun _ => ?_⟩
  walk_at "go"
  refine ⟨v.2.1, rfl, hv.x, ?_⟩
  walk_at "go"
  refine ⟨v.2.2, rfl, hv.y, ?_⟩
  walk_at "go"
  refine ⟨v.2, rfl, hv.x, hv.y, ?_⟩
  walk_at "x1"
  refine ⟨(fun h => absurd h (by decide)), fun _ => ?_⟩
  walk_at "go"
  exact hG
theorem sc_Field___init__ : FnScope ["self", "text", "wells", "number", "line", "well", "name", "x", "y"] ["self", "text"] (defScope sField___init__) := ⟨rfl, rfl, rfl, by decide +kernel, rfl, by decide +kernel, by decide +kernel⟩
theorem m_Field (T : Tx K mg) : Lw.Mak P w K mg base "Field" (He.ga K "Field") 5 ["self", "text"] (initSp K (FC K) 1 Sin) := by
  obtain ⟨fd, F⟩ := Lh.def_of T.d 40 (d := dsField___init__)
  refine ⟨_, fd, T.glo "Field" 76, T.mkr "Field" 82, F.bindsN (fun _ _ _ _ _ _ us hl => by
      match us, hl with
      | [_, _], _ => rfl), ?_⟩
  have nd := sc_Field___init__.nd
  refine Lw.fn_init F sc_Field___init__ rfl (by decide) fun cdv A outer s H E hr => ?_
  have hr65 := Lw.room65 hr
  refine ⟨_, (pss_cons (ps_if (pt_not (pt_val (pe_callB (call_isiQ K) (by rfl) (T.free "isinstance" 58) (by decide +kernel) (pa_cons (pv 1) (pa_cons (pe_gty "str" (T.free "str" 67) (by decide +kernel)) pa_nil))))) (pss_one ps_never) pss_nil)
      (pss_cons (ps_set (i := 2) nd rfl (Or.inl rfl) (pe_lst pa_nil))
      (pss_cons (ps_for PassesOwn.never rfl (pi_enum (by rfl) (T.free "enumerate" 56) (pa_cons (pe_split (pv 1) pe_str) pa_nil)) (pg_seqK (n := 2) K rfl (pgs_cons (pg_name (i := 3) nd rfl (.inl rfl)) (pgs_cons (pg_name (i := 4) nd rfl (.inl rfl)) pgs_nil))) (pss_cons (ps_set (i := 5) nd rfl (Or.inl rfl) (pe_callF (c_well_in (P := P) (w := w) (K := K) (mg := mg) (base := base) T) (hr.mono (by decide)) (pa_cons (pv 4) pa_nil)))
      (pss_cons (ps_if (pt_not (pt_val (pe_callF (c_can_stand (P := P) (w := w) (K := K) (mg := mg) (base := base) T) (hr.mono (by decide)) (pa_cons (pv 2) (pa_cons (pv 5) pa_nil))))) (pss_one ps_never) pss_nil)
      (pss_one (ps_expr (pe_bm PySem.F.plainAttrs_list PySem.F.slot_list_append PySem.F.type_list_append mt_append (pv 2) (pa_cons (pv 5) pa_nil)))))))
      (pss_cons (ps_fld (pv 0) (pv 1) rfl)
      (pss_cons (ps_fld (pv 0) (pe_callTy (call_tupleK K) (by rfl) (T.free "tuple" 69) (by decide +kernel) (pa_cons (pe_lc (own := [("name", 6), ("x", 7), ("y", 8)]) (by rfl) nd (pi_anyK K (pv 2)) (blkOk_by (N := ["self", "text", "wells", "number", "line", "well", "name", "x", "y"]) (sc := defScope sField___init__) (by decide +kernel)) (fun _ _ _ _ _ => (pg_seqK (n := 3) K rfl (pgs_cons (pg_name (i := 6) nd rfl (.inl rfl)) (pgs_cons (pg_name (i := 7) nd rfl (.inl rfl)) (pgs_cons (pg_name (i := 8) nd rfl (.inl rfl)) pgs_nil))))) (fun _ _ _ _ _ => pts_nil) (fun _ _ _ _ _ => (pv 6))) pa_nil)) rfl)
      (pss_one (ps_fld (pv 0) (pe_callTy (call_tupleK K) (by rfl) (T.free "tuple" 69) (by decide +kernel) (pa_cons (pe_lc (own := [("name", 6), ("x", 7), ("y", 8)]) (by rfl) nd (pi_anyK K (pv 2)) (blkOk_by (N := ["self", "text", "wells", "number", "line", "well", "name", "x", "y"]) (sc := defScope sField___init__) (by decide +kernel)) (fun _ _ _ _ _ => (pg_seqK (n := 3) K rfl (pgs_cons (pg_name (i := 6) nd rfl (.inl rfl)) (pgs_cons (pg_name (i := 7) nd rfl (.inl rfl)) (pgs_cons (pg_name (i := 8) nd rfl (.inl rfl)) pgs_nil))))) (fun _ _ _ _ _ => pts_nil) (fun _ _ _ _ _ => (pe_tup (pa_cons (pv 7) (pa_cons (pv 8) pa_nil))))) pa_nil)) rfl))))))), ?_⟩
  rintro dx ds G hl ⟨ws, rfl, hw, hG⟩
  walk_at "go"
  refine dIsi_str (x := .str _) rfl _ ?_
  walk_at "x1"
  refine ⟨(fun h => absurd h (by simp [tIs])), fun _ => ?_⟩
  walk_at "cx"
  refine ws_next (ws_seq (ws_own (wn_nil ?_)))
  refine ws_seq (ws_for (wi_enum ?_))
  walk_at "go"
  refine ⟨Nat.le_trans (Nat.add_le_add_right (text_len hw.ok) 2) (Nat.le_trans (Nat.add_le_add_right (Nat.mul_le_mul_left 41 hw.len) 2) (by decide)), ?_⟩
  rw [split_text hw.ne (fun v hv => (hw.ok v hv).name), List.map_map]
  refine ⟨_, rfl, fun i ρ => ∃ s3 s4 s5, ρ = [SD.ins (FC K) dx [], .d (.str (textOf ws)), .ow ((ws.take i).map wellD), s3, s4, s5, .un, .un, .un], ⟨_, _, _, rfl⟩, fun i ρi x hx ⟨s3, s4, s5, hρ⟩ => ?_, fun ρ' ⟨s3, s4, s5, hρ⟩ => ?_⟩
  · obtain ⟨v, hv, rfl⟩ := enumD_map hx
    have hm : v ∈ ws := List.mem_of_getElem? hv
    obtain ⟨hi, -⟩ := List.getElem?_eq_some_iff.mp hv
    have tk : ws.take (i + 1) = ws.take i ++ [v] := by rw [List.take_succ, hv]; rfl
    have tl : (ws.take i).length = i := by rw [List.length_take]; omega
    have tk2 : (ws.take (i + 1)).map wellD = (ws.take i).map wellD ++ [wellD v] := by rw [tk, List.map_append]; rfl
    subst hρ
    walk_at "seq"
    walk_at "go"
    refine ⟨v, rfl, hw.ok v hm, ?_⟩
    refine wg_name ?_
    refine ws_seq (ws_if (wt_not (wt_B (we_callO (i := 2) rfl (.inl rfl) ?_))))
    refine wa_cons (we_var rfl (wa_nil ?_))
    refine ⟨_, _, rfl, .inl rfl, rfl, ws.take i, v, rfl, by rw [tl]; exact Nat.lt_of_lt_of_le hi hw.len, ?_, rfl, ?_⟩
    · exact fun u hu => ⟨nodup_take hw.names hv hu, nodup_take hw.spots hv hu⟩
    · walk_at "x1"
      refine ⟨(fun h => absurd h (by decide)), fun _ => ?_⟩
      refine ws_next (ws_drop (we_append (i := 2) rfl (we_var rfl ⟨_, rfl, ?_, ?_⟩)))
      · rw [List.length_map, tl]
        exact Nat.lt_of_lt_of_le hi (Nat.le_trans hw.len (by decide))
      · refine ⟨_, _, _, (congrArg (fun z => [SD.ins (FC K) dx [], .d (.str (textOf ws)), .ow z, _, _, _, .un, .un, .un]) tk2.symm)⟩
  · rw [enumD_len, List.length_map, List.take_length] at hρ
    subst hρ
    refine ws_seq (ws_fld (i := 0) rfl (T.cls "Field" 77) (T.noat "Field" "own_text" 79) ?_)
    refine we_var rfl ⟨_, rfl, (by show 0 < 1000; decide), rfl, ?_⟩
    refine ws_seq (ws_fld (i := 0) rfl (T.cls "Field" 77) (T.noat "Field" "own_names" 80) ?_)
    refine we_tuple ?_
    walk_at "lc"
    refine wi_any (we_still (i := 2) rfl ?_)
    refine ⟨_, rfl, ?_, lcI_map (ws := ws) (enc := wellD) (res := fun v => .str v.1) rfl (fun u hu => ?_) ?_⟩
    · rw [List.length_map]
      exact Nat.lt_of_le_of_lt hw.len (by decide)
    · walk_at "seq"
      walk_at "go"
      exact rfl
    · refine ⟨_, rfl, ?_⟩
      refine ⟨_, rfl, (by show 1 < 1000; decide), rfl, ?_⟩
      refine ws_fld (i := 0) rfl (T.cls "Field" 77) (T.noat "Field" "own_spots" 81) ?_
      refine we_tuple ?_
      walk_at "lc"
      refine wi_any (we_var rfl ?_)
      refine ⟨_, rfl, ?_, lcI_map (ws := ws) (enc := wellD) (res := fun v => spD v.2) rfl (fun u hu => ?_) ?_⟩
      · rw [List.length_map]
        exact Nat.lt_of_le_of_lt hw.len (by decide)
      · walk_at "seq"
        walk_at "go"
        exact rfl
      · refine ⟨_, rfl, ?_⟩
        refine ⟨_, rfl, (by show 2 < 1000; decide), rfl, ?_⟩
        exact ⟨_, rfl, hG⟩
theorem sc_bend : FnScope ["one", "other", "third"] ["one", "other", "third"] (defScope sbend) := ⟨rfl, rfl, rfl, by decide +kernel, rfl, by decide +kernel, by decide +kernel⟩
theorem c_bend (T : Tx K mg) : Lw.Cal P w K mg base "bend" 1 ["one", "other", "third"] (pureSp K 3 (S3 fun a b c => .int (bendI a b c))) := by
  obtain ⟨fd, F⟩ := Lh.def_of T.d 12 (d := dsbend)
  refine ⟨_, fd, T.glo "bend" 12, F.kp, F.bindsN (fun _ _ _ _ _ _ us hl => by
      match us, hl with
      | [_, _, _], _ => rfl), Lw.kbn_of F (fun _ _ _ _ _ _ j us ws hj h1 h2 => by
      match j, us, ws, hj, h1, h2 with
      | 0, [], [_, _, _], _, _, _ => rfl
      | 1, [_], [_, _], _, _, _ => rfl
      | 2, [_, _], [_], _, _, _ => rfl
      | 3, [_, _, _], [], _, _, _ => rfl), ?_⟩
  have nd := sc_bend.nd
  refine Lw.fn_pure F sc_bend rfl (by decide) fun cdv A outer s H E hr => ?_
  have hr65 := Lw.room65 hr
  refine ⟨_, (pss_one (ps_ret (pe_op op_sub (pe_op op_mulA (pe_op op_sub (pe_ix (ix_K K (hu_of hr)) (pv 1) pe_int (fun _ _ => rfl)) (pe_ix (ix_K K (hu_of hr)) (pv 0) pe_int (fun _ _ => rfl))) (pe_op op_sub (pe_ix (ix_K K (hu_of hr)) (pv 2) pe_int (fun _ _ => rfl)) (pe_ix (ix_K K (hu_of hr)) (pv 0) pe_int (fun _ _ => rfl)))) (pe_op op_mulA (pe_op op_sub (pe_ix (ix_K K (hu_of hr)) (pv 1) pe_int (fun _ _ => rfl)) (pe_ix (ix_K K (hu_of hr)) (pv 0) pe_int (fun _ _ => rfl))) (pe_op op_sub (pe_ix (ix_K K (hu_of hr)) (pv 2) pe_int (fun _ _ => rfl)) (pe_ix (ix_K K (hu_of hr)) (pv 0) pe_int (fun _ _ => rfl))))))), ?_⟩
  rintro ds G hl ⟨a, b, c, rfl, ⟨a1, a2⟩, ⟨b1, b2⟩, ⟨c1, c2⟩, hG⟩
  walk_at "go"
  exact hG
theorem sc_sign_of : FnScope ["number"] ["number"] (defScope ssign_of) := ⟨rfl, rfl, rfl, by decide +kernel, rfl, by decide +kernel, by decide +kernel⟩
theorem c_sign_of (T : Tx K mg) : Lw.Cal P w K mg base "sign_of" 1 ["number"] (pureSp K 1 Ssg) := by
  obtain ⟨fd, F⟩ := Lh.def_of T.d 13 (d := dssign_of)
  refine ⟨_, fd, T.glo "sign_of" 13, F.kp, F.bindsN (fun _ _ _ _ _ _ us hl => by
      match us, hl with
      | [_], _ => rfl), Lw.kbn_of F (fun _ _ _ _ _ _ j us ws hj h1 h2 => by
      match j, us, ws, hj, h1, h2 with
      | 0, [], [_], _, _, _ => rfl
      | 1, [_], [], _, _, _ => rfl), ?_⟩
  have nd := sc_sign_of.nd
  refine Lw.fn_pure F sc_sign_of rfl (by decide) fun cdv A outer s H E hr => ?_
  have hr65 := Lw.room65 hr
  refine ⟨_, (pss_one (ps_ret (pe_op op_sub (pe_callTy call_intA (by rfl) (T.free "int" 57) (by decide +kernel) (pa_cons (pe_cmpR op_gt (pv 0) pe_int (nomark _)) pa_nil)) (pe_callTy call_intA (by rfl) (T.free "int" 57) (by decide +kernel) (pa_cons (pe_cmpR op_lt (pv 0) pe_int (nomark _)) pa_nil))))), ?_⟩
  rintro ds G hl ⟨i, rfl, hG⟩
  walk_at "go"
  exact hG
theorem sc_check_field : FnScope ["field"] ["field"] (defScope scheck_field) := ⟨rfl, rfl, rfl, by decide +kernel, rfl, by decide +kernel, by decide +kernel⟩
theorem c_check_field (T : Tx K mg) : Lw.Cal P w K mg base "check_field" 1 ["field"] (pureSp K 1 (Scf (FC K))) := by
  obtain ⟨fd, F⟩ := Lh.def_of T.d 8 (d := dscheck_field)
  refine ⟨_, fd, T.glo "check_field" 8, F.kp, F.bindsN (fun _ _ _ _ _ _ us hl => by
      match us, hl with
      | [_], _ => rfl), Lw.kbn_of F (fun _ _ _ _ _ _ j us ws hj h1 h2 => by
      match j, us, ws, hj, h1, h2 with
      | 0, [], [_], _, _, _ => rfl
      | 1, [_], [], _, _, _ => rfl), ?_⟩
  have nd := sc_check_field.nd
  refine Lw.fn_pure F sc_check_field rfl (by decide) fun cdv A outer s H E hr => ?_
  have hr65 := Lw.room65 hr
  refine ⟨_, (pss_one (ps_if (pt_not (pt_val (pe_callB (call_isiQ K) (by rfl) (T.free "isinstance" 58) (by decide +kernel) (pa_cons (pv 0) (pa_cons (pe_gcls (T.glo "Field" 76)) pa_nil))))) (pss_one ps_never) pss_nil)), ?_⟩
  rintro ds G hl ⟨ws, rfl, hG⟩
  walk_at "go"
  refine ⟨(T.ins 0 (c := "Field")).1, _, _, rfl, (T.ins 0 (c := "Field")).2, ?_⟩
  walk_at "x1"
  refine ⟨(fun h => absurd h (by decide)), fun _ => ?_⟩
  walk_at "go"
  exact hG
theorem sc_check_well : FnScope ["field", "value"] ["field", "value"] (defScope scheck_well) := ⟨rfl, rfl, rfl, by decide +kernel, rfl, by decide +kernel, by decide +kernel⟩
theorem c_check_well (T : Tx K mg) : Lw.Cal P w K mg base "check_well" 3 ["field", "value"] (pureSp K 2 (Scw (FC K))) := by
  obtain ⟨fd, F⟩ := Lh.def_of T.d 9 (d := dscheck_well)
  refine ⟨_, fd, T.glo "check_well" 9, F.kp, F.bindsN (fun _ _ _ _ _ _ us hl => by
      match us, hl with
      | [_, _], _ => rfl), Lw.kbn_of F (fun _ _ _ _ _ _ j us ws hj h1 h2 => by
      match j, us, ws, hj, h1, h2 with
      | 0, [], [_, _], _, _, _ => rfl
      | 1, [_], [_], _, _, _ => rfl
      | 2, [_, _], [], _, _, _ => rfl), ?_⟩
  have nd := sc_check_well.nd
  refine Lw.fn_pure F sc_check_well rfl (by decide) fun cdv A outer s H E hr => ?_
  have hr65 := Lw.room65 hr
  refine ⟨_, (pss_one (ps_if (PW.pt (pw_or (pt_not (pt_val (pe_callB (call_isiQ K) (by rfl) (T.free "isinstance" 58) (by decide +kernel) (pa_cons (pv 1) (pa_cons (pe_gty "str" (T.free "str" 67) (by decide +kernel)) pa_nil))))) (pw_or1 (pt_cmpR (op_notInK K w hr65) (pv 1) (pe_propF (p_Field_names_prop (P := P) (w := w) (K := K) (mg := mg) (base := base) T) (hr.mono (by decide)) (pv 0)) (by rfl))))) (pss_one ps_never) pss_nil)), ?_⟩
  rintro ds G hl ⟨ws, n, rfl, hn, hG⟩
  walk_at "go"
  refine dIsi_str (x := .str n) rfl _ ?_
  walk_at "x1"
  refine ⟨fun _ => ?_, (fun h => absurd h (by simp [tIs]))⟩
  walk_at "go"
  refine ⟨ws, rfl, .inl ⟨_, rfl, rfl, flat_strs, ?_⟩⟩
  rw [inF_strs (f := fun v : Well => v.1), decide_eq_true hn]
  walk_at "x1"
  refine ⟨(fun h => absurd h (by decide)), fun _ => ?_⟩
  walk_at "go"
  exact hG
theorem sc_check_wells : FnScope ["field", "wells", "well"] ["field", "wells"] (defScope scheck_wells) := ⟨rfl, rfl, rfl, by decide +kernel, rfl, by decide +kernel, by decide +kernel⟩
theorem c_check_wells (T : Tx K mg) : Lw.Cal P w K mg base "check_wells" 4 ["field", "wells"] (pureSp K 2 (Scws (FC K))) := by
  obtain ⟨fd, F⟩ := Lh.def_of T.d 10 (d := dscheck_wells)
  refine ⟨_, fd, T.glo "check_wells" 10, F.kp, F.bindsN (fun _ _ _ _ _ _ us hl => by
      match us, hl with
      | [_, _], _ => rfl), Lw.kbn_of F (fun _ _ _ _ _ _ j us ws hj h1 h2 => by
      match j, us, ws, hj, h1, h2 with
      | 0, [], [_, _], _, _, _ => rfl
      | 1, [_], [_], _, _, _ => rfl
      | 2, [_, _], [], _, _, _ => rfl), ?_⟩
  have nd := sc_check_wells.nd
  refine Lw.fn_pure F sc_check_wells rfl (by decide) fun cdv A outer s H E hr => ?_
  have hr65 := Lw.room65 hr
  refine ⟨_, (pss_cons (ps_expr (pe_callF (c_check_field (P := P) (w := w) (K := K) (mg := mg) (base := base) T) (hr.mono (by decide)) (pa_cons (pv 0) pa_nil)))
      (pss_one (ps_for PassesOwn.never rfl (pi_anyK K (pv 1)) (pg_name (i := 2) nd rfl (.inl rfl)) (pss_one (ps_expr (pe_callF (c_check_well (P := P) (w := w) (K := K) (mg := mg) (base := base) T) (hr.mono (by decide)) (pa_cons (pv 0) (pa_cons (pv 2) pa_nil)))))))), ?_⟩
  rintro ds G hl ⟨ws, ns, rfl, hl2, hn, hG⟩
  walk_at "go"
  refine ⟨ws, rfl, ?_⟩
  refine ws_for (wi_any (we_var rfl ⟨_, rfl, fun i ρ => ∃ s, ρ = [.d (fldD (FC K) ws), .d (.lst (ns.map D.str)), s], ⟨_, rfl⟩, fun i ρi x hx ⟨s, hρ⟩ => ?_, fun ρ' ⟨s, hρ⟩ => ?_⟩))
  · subst hρ
    rw [List.getElem?_map] at hx
    cases hv : ns[i]? with
    | none => rw [hv] at hx; cases hx
    | some n =>
      rw [hv] at hx
      cases hx
      walk_at "go"
      refine ⟨ws, n, rfl, hn n (List.mem_of_getElem? hv), ⟨_, rfl⟩⟩
  · exact hG
theorem sc_spots_by : FnScope ["field"] ["field"] (defScope sspots_by) := ⟨rfl, rfl, rfl, by decide +kernel, rfl, by decide +kernel, by decide +kernel⟩
theorem c_spots_by (T : Tx K mg) : Lw.Cal P w K mg base "spots_by" 3 ["field"] (pureSp K 1 (Ssb (FC K))) := by
  obtain ⟨fd, F⟩ := Lh.def_of T.d 11 (d := dsspots_by)
  refine ⟨_, fd, T.glo "spots_by" 11, F.kp, F.bindsN (fun _ _ _ _ _ _ us hl => by
      match us, hl with
      | [_], _ => rfl), Lw.kbn_of F (fun _ _ _ _ _ _ j us ws hj h1 h2 => by
      match j, us, ws, hj, h1, h2 with
      | 0, [], [_], _, _, _ => rfl
      | 1, [_], [], _, _, _ => rfl), ?_⟩
  have nd := sc_spots_by.nd
  refine Lw.fn_pure F sc_spots_by rfl (by decide) fun cdv A outer s H E hr => ?_
  have hr65 := Lw.room65 hr
  refine ⟨_, (pss_one (ps_ret (pe_dictZip rfl (T.free "dict" 55) (T.free "zip" 70) (pa_cons (pe_propF (p_Field_names_prop (P := P) (w := w) (K := K) (mg := mg) (base := base) T) (hr.mono (by decide)) (pv 0)) (pa_cons (pe_propF (p_Field_spots_prop (P := P) (w := w) (K := K) (mg := mg) (base := base) T) (hr.mono (by decide)) (pv 0)) pa_nil))))), ?_⟩
  rintro ds G hl ⟨ws, rfl, hw, hG⟩
  walk_at "go"
  walk_at "cx"
  refine we_dictZip ?_
  walk_at "go"
  refine ⟨ws, rfl, ?_⟩
  walk_at "go"
  refine ⟨ws, rfl, ?_⟩
  refine ⟨ws.map fun v => .inr v.1, ws.map fun v => spD v.2, by rw [List.map_map]; rfl, rfl, by rw [List.length_map, List.length_map], Nat.le_of_lt (wells_len hw.len), ?_⟩
  rw [zip_maps, mergeD_new (ds := []) ?_]
  · exact hG
  · rw [List.nil_append, List.pairwise_map]
    exact (List.pairwise_map.mp hw.names).imp fun h e => h (Sum.inr.inj e)
theorem sc_turn : FnScope ["field", "one", "other", "third", "spots"] ["field", "one", "other", "third"] (defScope sturn) := ⟨rfl, rfl, rfl, by decide +kernel, rfl, by decide +kernel, by decide +kernel⟩
theorem c_turn (T : Tx K mg) : Lw.Cal P w K mg base "turn" 5 ["field", "one", "other", "third"] (pureSp K 4 (Sw3 (FC K) fun a b c => .int (sgI (bendI a b c)))) := by
  obtain ⟨fd, F⟩ := Lh.def_of T.d 16 (d := dsturn)
  refine ⟨_, fd, T.glo "turn" 16, F.kp, F.bindsN (fun _ _ _ _ _ _ us hl => by
      match us, hl with
      | [_, _, _, _], _ => rfl), Lw.kbn_of F (fun _ _ _ _ _ _ j us ws hj h1 h2 => by
      match j, us, ws, hj, h1, h2 with
      | 0, [], [_, _, _, _], _, _, _ => rfl
      | 1, [_], [_, _, _], _, _, _ => rfl
      | 2, [_, _], [_, _], _, _, _ => rfl
      | 3, [_, _, _], [_], _, _, _ => rfl
      | 4, [_, _, _, _], [], _, _, _ => rfl), ?_⟩
  have nd := sc_turn.nd
  refine Lw.fn_pure F sc_turn rfl (by decide) fun cdv A outer s H E hr => ?_
  have hr65 := Lw.room65 hr
  refine ⟨_, (pss_cons (ps_expr (pe_callF (c_check_wells (P := P) (w := w) (K := K) (mg := mg) (base := base) T) (hr.mono (by decide)) (pa_cons (pv 0) (pa_cons (pe_lst (pa_cons (pv 1) (pa_cons (pv 2) (pa_cons (pv 3) pa_nil)))) pa_nil))))
      (pss_cons (ps_set (i := 4) nd rfl (Or.inl rfl) (pe_callF (c_spots_by (P := P) (w := w) (K := K) (mg := mg) (base := base) T) (hr.mono (by decide)) (pa_cons (pv 0) pa_nil)))
      (pss_one (ps_ret (pe_callF (c_sign_of (P := P) (w := w) (K := K) (mg := mg) (base := base) T) (hr.mono (by decide)) (pa_cons (pe_callF (c_bend (P := P) (w := w) (K := K) (mg := mg) (base := base) T) (hr.mono (by decide)) (pa_cons (pe_ix (ix_K K (hu_of hr)) (pv 4) (pv 1) (fun _ _ => rfl)) (pa_cons (pe_ix (ix_K K (hu_of hr)) (pv 4) (pv 2) (fun _ _ => rfl)) (pa_cons (pe_ix (ix_K K (hu_of hr)) (pv 4) (pv 3) (fun _ _ => rfl)) pa_nil)))) pa_nil)))))), ?_⟩
  rintro ds G hl ⟨ws, a, b, c, rfl, hw, ha, hb, hc, hG⟩
  walk_at "go"
  refine ⟨ws, [a.1, b.1, c.1], rfl, (by show 3 ≤ 10; decide), ?_, ?_⟩
  · intro n hn
    simp only [List.mem_cons, List.not_mem_nil, or_false] at hn
    rcases hn with rfl | rfl | rfl
    · exact fn_names ha
    · exact fn_names hb
    · exact fn_names hc
  · walk_at "go"
    refine ⟨ws, rfl, hw, ?_⟩
    walk_at "go"
    refine q_ixD (k := .inr a.1) rfl (look_sb hw.names ha) ?_
    walk_at "go"
    refine q_ixD (k := .inr b.1) rfl (look_sb hw.names hb) ?_
    walk_at "go"
    refine q_ixD (k := .inr c.1) rfl (look_sb hw.names hc) ?_
    walk_at "go"
    refine ⟨a.2, b.2, c.2, rfl, hw.spot ha, hw.spot hb, hw.spot hc, ?_⟩
    walk_at "go"
    exact ⟨_, rfl, hG⟩
theorem sc_square : FnScope ["one", "other"] ["one", "other"] (defScope ssquare) := ⟨rfl, rfl, rfl, by decide +kernel, rfl, by decide +kernel, by decide +kernel⟩
theorem c_square (T : Tx K mg) : Lw.Cal P w K mg base "square" 1 ["one", "other"] (pureSp K 2 Ssq) := by
  obtain ⟨fd, F⟩ := Lh.def_of T.d 14 (d := dssquare)
  refine ⟨_, fd, T.glo "square" 14, F.kp, F.bindsN (fun _ _ _ _ _ _ us hl => by
      match us, hl with
      | [_, _], _ => rfl), Lw.kbn_of F (fun _ _ _ _ _ _ j us ws hj h1 h2 => by
      match j, us, ws, hj, h1, h2 with
      | 0, [], [_, _], _, _, _ => rfl
      | 1, [_], [_], _, _, _ => rfl
      | 2, [_, _], [], _, _, _ => rfl), ?_⟩
  have nd := sc_square.nd
  refine Lw.fn_pure F sc_square rfl (by decide) fun cdv A outer s H E hr => ?_
  have hr65 := Lw.room65 hr
  refine ⟨_, (pss_one (ps_ret (pe_op (op_addK K) (pe_op op_mulA (pe_op op_sub (pe_ix (ix_K K (hu_of hr)) (pv 0) pe_int (fun _ _ => rfl)) (pe_ix (ix_K K (hu_of hr)) (pv 1) pe_int (fun _ _ => rfl))) (pe_op op_sub (pe_ix (ix_K K (hu_of hr)) (pv 0) pe_int (fun _ _ => rfl)) (pe_ix (ix_K K (hu_of hr)) (pv 1) pe_int (fun _ _ => rfl)))) (pe_op op_mulA (pe_op op_sub (pe_ix (ix_K K (hu_of hr)) (pv 0) pe_int (fun _ _ => rfl)) (pe_ix (ix_K K (hu_of hr)) (pv 1) pe_int (fun _ _ => rfl))) (pe_op op_sub (pe_ix (ix_K K (hu_of hr)) (pv 0) pe_int (fun _ _ => rfl)) (pe_ix (ix_K K (hu_of hr)) (pv 1) pe_int (fun _ _ => rfl))))))), ?_⟩
  rintro ds G hl ⟨a, b, rfl, ⟨a1, a2⟩, ⟨b1, b2⟩, hG⟩
  walk_at "go"
  exact hG
theorem sc_apart : FnScope ["field", "one", "other", "spots"] ["field", "one", "other"] (defScope sapart) := ⟨rfl, rfl, rfl, by decide +kernel, rfl, by decide +kernel, by decide +kernel⟩
theorem c_apart (T : Tx K mg) : Lw.Cal P w K mg base "apart" 5 ["field", "one", "other"] (pureSp K 3 (Sw2 (FC K) fun a b => .int (sqI a b))) := by
  obtain ⟨fd, F⟩ := Lh.def_of T.d 17 (d := dsapart)
  refine ⟨_, fd, T.glo "apart" 17, F.kp, F.bindsN (fun _ _ _ _ _ _ us hl => by
      match us, hl with
      | [_, _, _], _ => rfl), Lw.kbn_of F (fun _ _ _ _ _ _ j us ws hj h1 h2 => by
      match j, us, ws, hj, h1, h2 with
      | 0, [], [_, _, _], _, _, _ => rfl
      | 1, [_], [_, _], _, _, _ => rfl
      | 2, [_, _], [_], _, _, _ => rfl
      | 3, [_, _, _], [], _, _, _ => rfl), ?_⟩
  have nd := sc_apart.nd
  refine Lw.fn_pure F sc_apart rfl (by decide) fun cdv A outer s H E hr => ?_
  have hr65 := Lw.room65 hr
  refine ⟨_, (pss_cons (ps_expr (pe_callF (c_check_wells (P := P) (w := w) (K := K) (mg := mg) (base := base) T) (hr.mono (by decide)) (pa_cons (pv 0) (pa_cons (pe_lst (pa_cons (pv 1) (pa_cons (pv 2) pa_nil))) pa_nil))))
      (pss_cons (ps_set (i := 3) nd rfl (Or.inl rfl) (pe_callF (c_spots_by (P := P) (w := w) (K := K) (mg := mg) (base := base) T) (hr.mono (by decide)) (pa_cons (pv 0) pa_nil)))
      (pss_one (ps_ret (pe_callF (c_square (P := P) (w := w) (K := K) (mg := mg) (base := base) T) (hr.mono (by decide)) (pa_cons (pe_ix (ix_K K (hu_of hr)) (pv 3) (pv 1) (fun _ _ => rfl)) (pa_cons (pe_ix (ix_K K (hu_of hr)) (pv 3) (pv 2) (fun _ _ => rfl)) pa_nil))))))), ?_⟩
  rintro ds G hl ⟨ws, a, b, rfl, hw, ha, hb, hG⟩
  walk_at "go"
  refine ⟨ws, [a.1, b.1], rfl, (by show 2 ≤ 10; decide), ?_, ?_⟩
  · intro n hn
    simp only [List.mem_cons, List.not_mem_nil, or_false] at hn
    rcases hn with rfl | rfl
    · exact fn_names ha
    · exact fn_names hb
  · walk_at "go"
    refine ⟨ws, rfl, hw, ?_⟩
    walk_at "go"
    refine q_ixD (k := .inr a.1) rfl (look_sb hw.names ha) ?_
    walk_at "go"
    refine q_ixD (k := .inr b.1) rfl (look_sb hw.names hb) ?_
    walk_at "go"
    exact ⟨a.2, b.2, rfl, hw.spot ha, hw.spot hb, hG⟩
theorem sc_lies_on : FnScope ["one", "other", "third", "a", "b", "c"] ["one", "other", "third"] (defScope slies_on) := ⟨rfl, rfl, rfl, by decide +kernel, rfl, by decide +kernel, by decide +kernel⟩
theorem c_lies_on (T : Tx K mg) : Lw.Cal P w K mg base "lies_on" 2 ["one", "other", "third"] (pureSp K 3 (S3 fun a b c => .bl (liesB a b c))) := by
  obtain ⟨fd, F⟩ := Lh.def_of T.d 15 (d := dslies_on)
  refine ⟨_, fd, T.glo "lies_on" 15, F.kp, F.bindsN (fun _ _ _ _ _ _ us hl => by
      match us, hl with
      | [_, _, _], _ => rfl), Lw.kbn_of F (fun _ _ _ _ _ _ j us ws hj h1 h2 => by
      match j, us, ws, hj, h1, h2 with
      | 0, [], [_, _, _], _, _, _ => rfl
      | 1, [_], [_, _], _, _, _ => rfl
      | 2, [_, _], [_], _, _, _ => rfl
      | 3, [_, _, _], [], _, _, _ => rfl), ?_⟩
  have nd := sc_lies_on.nd
  refine Lw.fn_pure F sc_lies_on rfl (by decide) fun cdv A outer s H E hr => ?_
  have hr65 := Lw.room65 hr
  refine ⟨_, (pss_cons (ps_if (pt_cmpR (op_neK K hr.units) (pe_callF (c_bend (P := P) (w := w) (K := K) (mg := mg) (base := base) T) (hr.mono (by decide)) (pa_cons (pv 0) (pa_cons (pv 1) (pa_cons (pv 2) pa_nil)))) pe_int (nomark _)) (pss_one (ps_ret pe_bl)) pss_nil)
      (pss_one (ps_ret (pe_callB (cr_allK K rfl) (by rfl) (T.free "all" 52) (by decide +kernel) (pa_cons (pe_lc (own := [("a", 3), ("b", 4), ("c", 5)]) (by rfl) nd (pi_zip3K K (by rfl) (T.free "zip" 70) (pa_cons (pv 0) (pa_cons (pv 1) (pa_cons (pv 2) pa_nil)))) (blkOk_by (N := ["one", "other", "third", "a", "b", "c"]) (sc := defScope slies_on) (by decide +kernel)) (fun _ _ _ _ _ => (pg_seqK (n := 3) K rfl (pgs_cons (pg_name (i := 3) nd rfl (.inl rfl)) (pgs_cons (pg_name (i := 4) nd rfl (.inl rfl)) (pgs_cons (pg_name (i := 5) nd rfl (.inl rfl)) pgs_nil))))) (fun _ _ _ _ _ => pts_nil) (fun _ _ _ _ _ => (pe_chain op_le op_le (pe_callB (call_min2 rfl) (by rfl) (T.free "min" 62) (by decide +kernel) (pa_cons (pv 3) (pa_cons (pv 4) pa_nil))) (pv 5) (pe_callB (call_max2 rfl) (by rfl) (T.free "max" 61) (by decide +kernel) (pa_cons (pv 3) (pa_cons (pv 4) pa_nil)))))) pa_nil))))), ?_⟩
  rintro ds G hl ⟨a, b, c, rfl, ha, hb, hc, hG⟩
  walk_at "go"
  refine ⟨a, b, c, rfl, ha, hb, hc, ?_⟩
  walk_at "go"
  refine ⟨fun h => ?_, fun h => ?_⟩
  · walk_at "go"
    have e : liesB a b c = false := by
      unfold liesB
      rw [show decide (bendI a b c = 0) = false by simpa using h, Bool.false_and]
    have hG' : G (.bl (liesB a b c)) := hG
    rw [e] at hG'
    exact (hG')
  · walk_at "go"
    walk_at "lc"
    refine wi_zip3 ?_
    walk_at "go"
    refine ⟨_, _, _, rfl, rfl, rfl, rfl, rfl, ?_⟩
    refine ⟨by show 2 < sizeLine; decide, lcI_map (ws := [(a.1, b.1, c.1), (a.2, b.2, c.2)]) (enc := fun t => .tup [.int t.1, .int t.2.1, .int t.2.2]) (res := fun t => .bl (btw t.1 t.2.1 t.2.2)) rfl (fun t ht => ?_) ?_⟩
    · walk_at "seq"
      walk_at "go"
      refine ⟨fun h1 => ?_, fun h1 => ?_⟩
      · have h2 : decide ((if t.2.1 < t.1 then t.2.1 else t.1) ≤ t.2.2) = true := h1
        walk_at "go"
        refine ⟨congrArg D.bl ?_, rfl⟩
        unfold btw
        rw [h2, Bool.true_and]
      · have h2 : decide ((if t.2.1 < t.1 then t.2.1 else t.1) ≤ t.2.2) = false := h1
        refine ⟨congrArg D.bl ?_, rfl⟩
        unfold btw
        rw [h2, Bool.false_and]
    · refine q_bools (bs := [btw a.1 b.1 c.1, btw a.2 b.2 c.2]) rfl ?_
      have e : liesB a b c = [btw a.1 b.1 c.1, btw a.2 b.2 c.2].all id := by
        unfold liesB
        rw [show decide (bendI a b c = 0) = true by simpa using h, Bool.true_and]
        simp
      have hG' : G (.bl (liesB a b c)) := hG
      rw [e] at hG'
      exact (hG')
theorem sc_on_side : FnScope ["field", "one", "other", "third", "spots"] ["field", "one", "other", "third"] (defScope son_side) := ⟨rfl, rfl, rfl, by decide +kernel, rfl, by decide +kernel, by decide +kernel⟩
theorem c_on_side (T : Tx K mg) : Lw.Cal P w K mg base "on_side" 5 ["field", "one", "other", "third"] (pureSp K 4 (Sw3 (FC K) fun a b c => .bl (liesB a b c))) := by
  obtain ⟨fd, F⟩ := Lh.def_of T.d 18 (d := dson_side)
  refine ⟨_, fd, T.glo "on_side" 18, F.kp, F.bindsN (fun _ _ _ _ _ _ us hl => by
      match us, hl with
      | [_, _, _, _], _ => rfl), Lw.kbn_of F (fun _ _ _ _ _ _ j us ws hj h1 h2 => by
      match j, us, ws, hj, h1, h2 with
      | 0, [], [_, _, _, _], _, _, _ => rfl
      | 1, [_], [_, _, _], _, _, _ => rfl
      | 2, [_, _], [_, _], _, _, _ => rfl
      | 3, [_, _, _], [_], _, _, _ => rfl
      | 4, [_, _, _, _], [], _, _, _ => rfl), ?_⟩
  have nd := sc_on_side.nd
  refine Lw.fn_pure F sc_on_side rfl (by decide) fun cdv A outer s H E hr => ?_
  have hr65 := Lw.room65 hr
  refine ⟨_, (pss_cons (ps_expr (pe_callF (c_check_wells (P := P) (w := w) (K := K) (mg := mg) (base := base) T) (hr.mono (by decide)) (pa_cons (pv 0) (pa_cons (pe_lst (pa_cons (pv 1) (pa_cons (pv 2) (pa_cons (pv 3) pa_nil)))) pa_nil))))
      (pss_cons (ps_set (i := 4) nd rfl (Or.inl rfl) (pe_callF (c_spots_by (P := P) (w := w) (K := K) (mg := mg) (base := base) T) (hr.mono (by decide)) (pa_cons (pv 0) pa_nil)))
      (pss_one (ps_ret (pe_callF (c_lies_on (P := P) (w := w) (K := K) (mg := mg) (base := base) T) (hr.mono (by decide)) (pa_cons (pe_ix (ix_K K (hu_of hr)) (pv 4) (pv 1) (fun _ _ => rfl)) (pa_cons (pe_ix (ix_K K (hu_of hr)) (pv 4) (pv 2) (fun _ _ => rfl)) (pa_cons (pe_ix (ix_K K (hu_of hr)) (pv 4) (pv 3) (fun _ _ => rfl)) pa_nil)))))))), ?_⟩
  rintro ds G hl ⟨ws, a, b, c, rfl, hw, ha, hb, hc, hG⟩
  walk_at "go"
  refine ⟨ws, [a.1, b.1, c.1], rfl, (by show 3 ≤ 10; decide), ?_, ?_⟩
  · intro n hn
    simp only [List.mem_cons, List.not_mem_nil, or_false] at hn
    rcases hn with rfl | rfl | rfl
    · exact fn_names ha
    · exact fn_names hb
    · exact fn_names hc
  · walk_at "go"
    refine ⟨ws, rfl, hw, ?_⟩
    walk_at "go"
    refine q_ixD (k := .inr a.1) rfl (look_sb hw.names ha) ?_
    walk_at "go"
    refine q_ixD (k := .inr b.1) rfl (look_sb hw.names hb) ?_
    walk_at "go"
    refine q_ixD (k := .inr c.1) rfl (look_sb hw.names hc) ?_
    walk_at "go"
    exact ⟨a.2, b.2, c.2, rfl, hw.spot ha, hw.spot hb, hw.spot hc, hG⟩
theorem sc_met : FnScope ["one", "other", "third", "fourth", "common", "spot", "first", "last", "sides"] ["one", "other", "third", "fourth"] (defScope smet) := ⟨rfl, rfl, rfl, by decide +kernel, rfl, by decide +kernel, by decide +kernel⟩
theorem c_met (T : Tx K mg) : Lw.Cal P w K mg base "met" 3 ["one", "other", "third", "fourth"] (pureSp K 4 Smet) := by
  obtain ⟨fd, F⟩ := Lh.def_of T.d 19 (d := dsmet)
  refine ⟨_, fd, T.glo "met" 19, F.kp, F.bindsN (fun _ _ _ _ _ _ us hl => by
      match us, hl with
      | [_, _, _, _], _ => rfl), Lw.kbn_of F (fun _ _ _ _ _ _ j us ws hj h1 h2 => by
      match j, us, ws, hj, h1, h2 with
      | 0, [], [_, _, _, _], _, _, _ => rfl
      | 1, [_], [_, _, _], _, _, _ => rfl
      | 2, [_, _], [_, _], _, _, _ => rfl
      | 3, [_, _, _], [_], _, _, _ => rfl
      | 4, [_, _, _, _], [], _, _, _ => rfl), ?_⟩
  have nd := sc_met.nd
  refine Lw.fn_pure F sc_met rfl (by decide) fun cdv A outer s H E hr => ?_
  have hr65 := Lw.room65 hr
  refine ⟨_, (pss_cons (ps_set (i := 4) nd rfl (Or.inl rfl) (pe_lst pa_nil))
      (pss_cons (ps_for PassesOwn.never rfl (pi_anyK K (pe_tup (pa_cons (pe_tup (pa_cons (pv 0) (pa_cons (pv 2) (pa_cons (pv 3) pa_nil)))) (pa_cons (pe_tup (pa_cons (pv 1) (pa_cons (pv 2) (pa_cons (pv 3) pa_nil)))) (pa_cons (pe_tup (pa_cons (pv 2) (pa_cons (pv 0) (pa_cons (pv 1) pa_nil)))) (pa_cons (pe_tup (pa_cons (pv 3) (pa_cons (pv 0) (pa_cons (pv 1) pa_nil)))) pa_nil)))))) (pg_seqK (n := 3) K rfl (pgs_cons (pg_name (i := 5) nd rfl (.inl rfl)) (pgs_cons (pg_name (i := 6) nd rfl (.inl rfl)) (pgs_cons (pg_name (i := 7) nd rfl (.inl rfl)) pgs_nil)))) (pss_one (ps_if (PW.pt (pw_and (pt_val (pe_callF (c_lies_on (P := P) (w := w) (K := K) (mg := mg) (base := base) T) (hr.mono (by decide)) (pa_cons (pv 6) (pa_cons (pv 7) (pa_cons (pv 5) pa_nil))))) (pw_and1 (pt_cmpR (op_notInK K w hr65) (pv 5) (pv 4) (by rfl))))) (pss_one (ps_expr (pe_bm PySem.F.plainAttrs_list PySem.F.slot_list_append PySem.F.type_list_append mt_append (pv 4) (pa_cons (pv 5) pa_nil)))) pss_nil)))
      (pss_cons (ps_if (pt_cmpR op_gt (pe_callB (call_lenK K) (by rfl) (T.free "len" 59) (by decide +kernel) (pa_cons (pv 4) pa_nil)) pe_int (nomark _)) (pss_one (ps_ret (pe_gstr (T.str "ALONG" 47)))) pss_nil)
      (pss_cons (ps_if (pt_cmpR (op_eqK K hr.units) (pe_callB (call_lenK K) (by rfl) (T.free "len" 59) (by decide +kernel) (pa_cons (pv 4) pa_nil)) pe_int (nomark _)) (pss_one (ps_ret (pe_gstr (T.str "TOUCH" 49)))) pss_nil)
      (pss_cons (ps_set (i := 8) nd rfl (Or.inl rfl) (pe_op op_mulA (pe_callF (c_bend (P := P) (w := w) (K := K) (mg := mg) (base := base) T) (hr.mono (by decide)) (pa_cons (pv 0) (pa_cons (pv 1) (pa_cons (pv 2) pa_nil)))) (pe_callF (c_bend (P := P) (w := w) (K := K) (mg := mg) (base := base) T) (hr.mono (by decide)) (pa_cons (pv 0) (pa_cons (pv 1) (pa_cons (pv 3) pa_nil))))))
      (pss_one (ps_ret (pe_ifExp (PW.pt (pw_and (pt_cmpR op_lt (pv 8) pe_int (nomark _)) (pw_and1 (pt_cmpR op_lt (pe_op op_mulA (pe_callF (c_bend (P := P) (w := w) (K := K) (mg := mg) (base := base) T) (hr.mono (by decide)) (pa_cons (pv 2) (pa_cons (pv 3) (pa_cons (pv 0) pa_nil)))) (pe_callF (c_bend (P := P) (w := w) (K := K) (mg := mg) (base := base) T) (hr.mono (by decide)) (pa_cons (pv 2) (pa_cons (pv 3) (pa_cons (pv 1) pa_nil))))) pe_int (nomark _))))) (pe_gstr (T.str "CROSS" 48)) (pe_gstr (T.str "APART" 46)))))))))), ?_⟩
  rintro ds G hl ⟨a, b, c, d, rfl, ha, hb, hc, hd, hG⟩
  walk_at "cx"
  refine ws_seq (ws_own (wn_nil ?_))
  refine ws_seq (ws_for (wi_any ?_))
  walk_at "go"
  refine ⟨fun n ρ => ∃ s5 s6 s7, ρ = [SD.d (spD a), .d (spD b), .d (spD c), .d (spD d), .ow ((((ends4 a b c d).take n).foldl addNew []).map spD), s5, s6, s7, .un], ⟨_, _, _, rfl⟩, fun n ρi x hx ⟨s5, s6, s7, hρ⟩ => ?_, fun ρ' ⟨s5, s6, s7, hρ⟩ => ?_⟩
  · have hx' : ((ends4 a b c d).map tripD)[n]? = some x := hx
    rw [List.getElem?_map] at hx'
    cases hv : (ends4 a b c d)[n]? with
    | none => rw [hv] at hx'; cases hx'
    | some t =>
      rw [hv] at hx'
      cases hx'
      have hm := List.mem_of_getElem? hv
      have hn : n < 4 := (List.getElem?_eq_some_iff.mp hv).1
      have hok : SpOk t.1 ∧ SpOk t.2.1 ∧ SpOk t.2.2 := by
        unfold ends4 at hm
        simp only [List.mem_cons, List.not_mem_nil, or_false] at hm
        rcases hm with rfl | rfl | rfl | rfl
        · exact ⟨ha, hc, hd⟩
        · exact ⟨hb, hc, hd⟩
        · exact ⟨hc, ha, hb⟩
        · exact ⟨hd, ha, hb⟩
      have tk : (ends4 a b c d).take (n + 1) = (ends4 a b c d).take n ++ [t] := by rw [List.take_succ, hv]; rfl
      have tk2 : ((ends4 a b c d).take (n + 1)).foldl addNew [] = addNew (((ends4 a b c d).take n).foldl addNew []) t := by rw [tk, List.foldl_append]; rfl
      have hl2 : (((ends4 a b c d).take n).foldl addNew []).length ≤ n := by
        have := foldNew_len (ts := (ends4 a b c d).take n) (acc := [])
        rw [List.length_take] at this
        simp only [List.length_nil] at this
        omega
      obtain ⟨acc, hacc⟩ : ∃ acc, acc = ((ends4 a b c d).take n).foldl addNew [] := ⟨_, rfl⟩
      rw [← hacc] at tk2 hl2
      subst hρ
      rw [← hacc]
      walk_at "seq"
      walk_at "go"
      refine ⟨t.2.1, t.2.2, t.1, rfl, hok.2.1, hok.2.2, hok.1, ?_⟩
      walk_at "x1"
      have no : (liesB t.2.1 t.2.2 t.1 && !decide (t.1 ∈ acc)) = false → addNew acc t = acc := fun z => by unfold addNew; rw [z]; rfl
      refine ⟨fun hb => ?_, fun hb => ?_⟩
      · refine wt_test (we_opR (we_var rfl ⟨_, _, rfl, .inl rfl, opd_notIn (.inr (.inl ⟨_, rfl, rfl, pl_spots, ?_⟩))⟩))
        rw [any_spots]
        refine ⟨rfl, ?_⟩
        walk_at "x1"
        refine ⟨fun hc => ?_, fun hc => ?_⟩
        · refine ws_drop (we_append (i := 4) rfl (we_var rfl ⟨_, rfl, ?_, ?_⟩))
          · rw [List.length_map]
            exact Nat.lt_of_le_of_lt hl2 (Nat.lt_trans hn (by decide))
          · have e : addNew acc t = acc ++ [t.1] := by
              unfold addNew
              rw [hb, hc]
              rfl
            have e2 : acc.map spD ++ [spD t.1] = (((ends4 a b c d).take (n + 1)).foldl addNew []).map spD := by rw [tk2, e, List.map_append]; rfl
            exact ⟨_, _, _, congrArg (fun z => [SD.d (spD a), .d (spD b), .d (spD c), .d (spD d), .ow z, _, _, _, .un]) e2⟩
        · have e2 : acc.map spD = (((ends4 a b c d).take (n + 1)).foldl addNew []).map spD := by rw [tk2, no (by rw [hc, Bool.and_false])]
          exact ws_next ⟨_, _, _, congrArg (fun z => [SD.d (spD a), .d (spD b), .d (spD c), .d (spD d), .ow z, _, _, _, .un]) e2⟩
      · refine ⟨(fun z => by cases z), fun _ => ?_⟩
        have e2 : acc.map spD = (((ends4 a b c d).take (n + 1)).foldl addNew []).map spD := by rw [tk2, no (by rw [hb, Bool.false_and])]
        exact ws_next ⟨_, _, _, congrArg (fun z => [SD.d (spD a), .d (spD b), .d (spD c), .d (spD d), .ow z, _, _, _, .un]) e2⟩
  · have hρ2 : ρ' = [SD.d (spD a), .d (spD b), .d (spD c), .d (spD d), .ow ((commonS a b c d).map spD), s5, s6, s7, .un] := hρ
    subst hρ2
    have b1 := bend_le ha hb hc
    have b2 := bend_le ha hb hd
    have b3 := bend_le hc hd ha
    have b4 := bend_le hc hd hb
    refine ws_seq (ws_if (wt_test (we_cmp (we_lenO (i := 4) rfl (.inl rfl) ?_))))
    walk_at "go"
    refine ⟨fun h => ?_, fun h => ?_⟩
    · have h2 : 1 < (commonS a b c d).length := by
        have := of_decide_eq_true h
        rw [List.length_map] at this
        omega
      walk_at "go"
      unfold metS at hG
      rw [if_pos h2] at hG
      exact hG
    have h2 : ¬ 1 < (commonS a b c d).length := fun z => by
      have := of_decide_eq_false h
      rw [List.length_map] at this
      omega
    unfold metS at hG
    rw [if_neg h2] at hG
    refine ws_next (ws_seq (ws_if (wt_test (we_eq (we_lenO (i := 4) rfl (.inl rfl) ?_)))))
    walk_at "go"
    rw [List.length_map]
    refine ⟨fun h => ?_, fun h => ?_⟩
    · have h3 : (commonS a b c d).length = 1 := by
        have := of_decide_eq_true h
        omega
      walk_at "go"
      rw [if_pos h3] at hG
      exact hG
    have h3 : ¬ (commonS a b c d).length = 1 := fun z => by
      have := of_decide_eq_false h
      omega
    rw [if_neg h3] at hG
    walk_at "go"
    refine ⟨a, b, c, rfl, ha, hb, hc, ?_⟩
    walk_at "go"
    refine ⟨a, b, d, rfl, ha, hb, hd, ?_⟩
    walk_at "go"
    refine ⟨fun h4 => ?_, fun h4 => ?_⟩
    · walk_at "go"
      refine ⟨c, d, a, rfl, hc, hd, ha, ?_⟩
      walk_at "go"
      refine ⟨c, d, b, rfl, hc, hd, hb, ?_⟩
      walk_at "go"
      refine ⟨fun h5 => ?_, fun h5 => ?_⟩
      · walk_at "go"
        rw [if_pos (by unfold crossB; rw [h4, h5]; rfl)] at hG
        exact hG
      · walk_at "go"
        rw [if_neg (by unfold crossB; rw [h4, h5]; decide)] at hG
        exact hG
    · refine ⟨(fun z => by cases z), fun _ => ?_⟩
      walk_at "go"
      rw [if_neg (by unfold crossB; rw [h4, Bool.false_and]; decide)] at hG
      exact hG
theorem sc_meeting : FnScope ["field", "one", "other", "third", "fourth", "spots"] ["field", "one", "other", "third", "fourth"] (defScope smeeting) := ⟨rfl, rfl, rfl, by decide +kernel, rfl, by decide +kernel, by decide +kernel⟩
theorem c_meeting (T : Tx K mg) : Lw.Cal P w K mg base "meeting" 5 ["field", "one", "other", "third", "fourth"] (pureSp K 5 (Sw4 (FC K) fun a b c d => .str (metS a b c d))) := by
  obtain ⟨fd, F⟩ := Lh.def_of T.d 20 (d := dsmeeting)
  refine ⟨_, fd, T.glo "meeting" 20, F.kp, F.bindsN (fun _ _ _ _ _ _ us hl => by
      match us, hl with
      | [_, _, _, _, _], _ => rfl), Lw.kbn_of F (fun _ _ _ _ _ _ j us ws hj h1 h2 => by
      match j, us, ws, hj, h1, h2 with
      | 0, [], [_, _, _, _, _], _, _, _ => rfl
      | 1, [_], [_, _, _, _], _, _, _ => rfl
      | 2, [_, _], [_, _, _], _, _, _ => rfl
      | 3, [_, _, _], [_, _], _, _, _ => rfl
      | 4, [_, _, _, _], [_], _, _, _ => rfl
      | 5, [_, _, _, _, _], [], _, _, _ => rfl), ?_⟩
  have nd := sc_meeting.nd
  refine Lw.fn_pure F sc_meeting rfl (by decide) fun cdv A outer s H E hr => ?_
  have hr65 := Lw.room65 hr
  refine ⟨_, (pss_cons (ps_expr (pe_callF (c_check_wells (P := P) (w := w) (K := K) (mg := mg) (base := base) T) (hr.mono (by decide)) (pa_cons (pv 0) (pa_cons (pe_lst (pa_cons (pv 1) (pa_cons (pv 2) (pa_cons (pv 3) (pa_cons (pv 4) pa_nil))))) pa_nil))))
      (pss_cons (ps_set (i := 5) nd rfl (Or.inl rfl) (pe_callF (c_spots_by (P := P) (w := w) (K := K) (mg := mg) (base := base) T) (hr.mono (by decide)) (pa_cons (pv 0) pa_nil)))
      (pss_one (ps_ret (pe_callF (c_met (P := P) (w := w) (K := K) (mg := mg) (base := base) T) (hr.mono (by decide)) (pa_cons (pe_ix (ix_K K (hu_of hr)) (pv 5) (pv 1) (fun _ _ => rfl)) (pa_cons (pe_ix (ix_K K (hu_of hr)) (pv 5) (pv 2) (fun _ _ => rfl)) (pa_cons (pe_ix (ix_K K (hu_of hr)) (pv 5) (pv 3) (fun _ _ => rfl)) (pa_cons (pe_ix (ix_K K (hu_of hr)) (pv 5) (pv 4) (fun _ _ => rfl)) pa_nil))))))))), ?_⟩
  rintro ds G hl ⟨ws, a, b, c, d, rfl, hw, ha, hb, hc, hd, hG⟩
  walk_at "go"
  refine ⟨ws, [a.1, b.1, c.1, d.1], rfl, (by show 4 ≤ 10; decide), ?_, ?_⟩
  · intro n hn
    simp only [List.mem_cons, List.not_mem_nil, or_false] at hn
    rcases hn with rfl | rfl | rfl | rfl
    · exact fn_names ha
    · exact fn_names hb
    · exact fn_names hc
    · exact fn_names hd
  · walk_at "go"
    refine ⟨ws, rfl, hw, ?_⟩
    walk_at "go"
    refine q_ixD (k := .inr a.1) rfl (look_sb hw.names ha) ?_
    walk_at "go"
    refine q_ixD (k := .inr b.1) rfl (look_sb hw.names hb) ?_
    walk_at "go"
    refine q_ixD (k := .inr c.1) rfl (look_sb hw.names hc) ?_
    walk_at "go"
    refine q_ixD (k := .inr d.1) rfl (look_sb hw.names hd) ?_
    walk_at "go"
    exact ⟨a.2, b.2, c.2, d.2, rfl, hw.spot ha, hw.spot hb, hw.spot hc, hw.spot hd, hG⟩
theorem sc_Field_told_wells : FnScope ["self", "name", "x", "y"] ["self"] (defScope sField_told_wells) := ⟨rfl, rfl, rfl, by decide +kernel, rfl, by decide +kernel, by decide +kernel⟩
theorem m_Field_told_wells (T : Tx K mg) : Lw.Met P w K mg base (He.ga K "Field") "told_wells" 1 ["self"] (pureSp K 1 (Stw (FC K))) := by
  obtain ⟨fd, F⟩ := Lh.def_of T.d 45 (d := dsField_told_wells)
  refine ⟨_, fd, T.cls "Field" 77, T.meth "Field" "told_wells" 84, F.bindsN (fun _ _ _ _ _ _ us hl => by
      match us, hl with
      | [_], _ => rfl), ?_⟩
  have nd := sc_Field_told_wells.nd
  refine Lw.fn_pure F sc_Field_told_wells rfl (by decide) fun cdv A outer s H E hr => ?_
  have hr65 := Lw.room65 hr
  refine ⟨_, (pss_one (ps_ret (pe_lc (own := [("name", 1), ("x", 2), ("y", 3)]) (by rfl) nd (pi_zipK K (by rfl) (T.free "zip" 70) (pa_cons (pe_fldK K (pv 0)) (pa_cons (pe_fldK K (pv 0)) pa_nil))) (blkOk_by (N := ["self", "name", "x", "y"]) (sc := defScope sField_told_wells) (by decide +kernel)) (fun _ _ _ _ _ => (pg_seqK (n := 2) K rfl (pgs_cons (pg_name (i := 1) nd rfl (.inl rfl)) (pgs_cons (pg_seqK (n := 2) K rfl (pgs_cons (pg_name (i := 2) nd rfl (.inl rfl)) (pgs_cons (pg_name (i := 3) nd rfl (.inl rfl)) pgs_nil))) pgs_nil)))) (fun _ _ _ _ _ => pts_nil) (fun _ _ _ _ _ => (pe_tup (pa_cons (pv 1) (pa_cons (pv 2) (pa_cons (pv 3) pa_nil)))))))), ?_⟩
  rintro ds G hl ⟨ws, rfl, h4, hG⟩
  walk_at "go"
  walk_at "lc"
  refine wi_zip ?_
  walk_at "go"
  refine ⟨_, _, _, rfl, T.cls "Field" 77, T.noat "Field" "own_names" 80, rfl, ?_⟩
  walk_at "go"
  refine ⟨_, _, _, rfl, T.cls "Field" 77, T.noat "Field" "own_spots" 81, rfl, ?_⟩
  refine ⟨_, _, .inr ⟨rfl, rfl⟩, ?_⟩
  rw [zipD_map]
  refine ⟨?_, lcI_map (ws := ws) (enc := fun v => .tup [.str v.1, spD v.2]) (res := wellD) rfl (fun u hu => ?_) ?_⟩
  · rw [List.length_map]
    exact Nat.lt_of_le_of_lt h4 (by decide)
  · walk_at "seq"
    walk_at "go"
    walk_at "seq"
    walk_at "go"
    exact rfl
  · exact hG
theorem sc_field_of : FnScope ["wells", "name", "x", "y"] ["wells"] (defScope sfield_of) := ⟨rfl, rfl, rfl, by decide +kernel, rfl, by decide +kernel, by decide +kernel⟩
theorem c_field_of (T : Tx K mg) : Lw.Cal P w K mg base "field_of" 7 ["wells"] (pureSp K 1 (Sfo (FC K))) := by
  obtain ⟨fd, F⟩ := Lh.def_of T.d 7 (d := dsfield_of)
  refine ⟨_, fd, T.glo "field_of" 7, F.kp, F.bindsN (fun _ _ _ _ _ _ us hl => by
      match us, hl with
      | [_], _ => rfl), Lw.kbn_of F (fun _ _ _ _ _ _ j us ws hj h1 h2 => by
      match j, us, ws, hj, h1, h2 with
      | 0, [], [_], _, _, _ => rfl
      | 1, [_], [], _, _, _ => rfl), ?_⟩
  have nd := sc_field_of.nd
  refine Lw.fn_pure F sc_field_of rfl (by decide) fun cdv A outer s H E hr => ?_
  have hr65 := Lw.room65 hr
  refine ⟨_, (pss_one (ps_ret (pe_makeF (m_Field (P := P) (w := w) (K := K) (mg := mg) (base := base) T) (hr.mono (by decide)) (pa_cons (pe_joinK K pe_str (pe_lc (own := [("name", 1), ("x", 2), ("y", 3)]) (by rfl) nd (pi_anyK K (pv 0)) (blkOk_by (N := ["wells", "name", "x", "y"]) (sc := defScope sfield_of) (by decide +kernel)) (fun _ _ _ _ _ => (pg_seqK (n := 3) K rfl (pgs_cons (pg_name (i := 1) nd rfl (.inl rfl)) (pgs_cons (pg_name (i := 2) nd rfl (.inl rfl)) (pgs_cons (pg_name (i := 3) nd rfl (.inl rfl)) pgs_nil))))) (fun _ _ _ _ _ => pts_nil) (fun _ _ _ _ _ => (pe_joinK K pe_str (pe_lst (pa_cons (pe_gstr (T.str "WELL" 43)) (pa_cons (pv 1) (pa_cons (pe_callTy call_str_int (by rfl) (T.free "str" 67) (by decide +kernel) (pa_cons (pv 2) pa_nil)) (pa_cons (pe_callTy call_str_int (by rfl) (T.free "str" 67) (by decide +kernel) (pa_cons (pv 3) pa_nil)) pa_nil))))))))) pa_nil)))), ?_⟩
  rintro ds G hl ⟨ws, rfl, hw, hG⟩
  walk_at "go"
  walk_at "lc"
  refine wi_any ?_
  walk_at "go"
  refine ⟨wells_len hw.len, lcI_map (ws := ws) (enc := wellD) (res := fun v => .str (lineOf v)) rfl (fun u hu => ?_) ?_⟩
  · have ho := hw.ok u hu
    have hx := ho.x
    have hy := ho.y
    walk_at "seq"
    walk_at "go"
    refine q_str (log_small (k := 14) (by omega) (by decide) (by decide)) ?_
    walk_at "go"
    refine q_str (log_small (k := 14) (by omega) (by decide) (by decide)) ?_
    walk_at "go"
    refine ⟨["well", u.1, numS u.2.1, numS u.2.2], .inl rfl, ?_, rfl, rfl⟩
    have h0 : (Str.ofString "well").length = 4 := by decide +kernel
    have h1 : (Str.ofString " ").length = 1 := by decide +kernel
    have h2 := (name_len ho.name).2
    have h3 : (numS u.2.1).length ≤ 5 := by rw [len_tl, tl_numS]; exact numC_len (by decide : 0 < 4) (by omega)
    have h4 : (numS u.2.2).length ≤ 5 := by rw [len_tl, tl_numS]; exact numC_len (by decide : 0 < 4) (by omega)
    simp only [List.map_cons, List.map_nil, List.sum_cons, List.sum_nil, List.length_cons, List.length_nil, h0, h1]
    omega
  · refine ⟨ws.map lineOf, .inl (by rw [List.map_map]; rfl), ?_, ?_⟩
    · have h1 : (Str.ofString "\n").length = 1 := by decide +kernel
      have h2 := lines_len hw.ok
      have h3 := hw.len
      rw [h1, List.length_map]
      omega
    · walk_at "go"
      exact ⟨ws, rfl, hw, hG⟩
theorem sc_turned : FnScope ["field", "name", "x", "y"] ["field"] (defScope sturned) := ⟨rfl, rfl, rfl, by decide +kernel, rfl, by decide +kernel, by decide +kernel⟩
theorem c_turned (T : Tx K mg) : Lw.Cal P w K mg base "turned" 8 ["field"] (pureSp K 1 (Sfn (FC K) fun p => (0 - p.2, p.1))) := by
  obtain ⟨fd, F⟩ := Lh.def_of T.d 22 (d := dsturned)
  refine ⟨_, fd, T.glo "turned" 22, F.kp, F.bindsN (fun _ _ _ _ _ _ us hl => by
      match us, hl with
      | [_], _ => rfl), Lw.kbn_of F (fun _ _ _ _ _ _ j us ws hj h1 h2 => by
      match j, us, ws, hj, h1, h2 with
      | 0, [], [_], _, _, _ => rfl
      | 1, [_], [], _, _, _ => rfl), ?_⟩
  have nd := sc_turned.nd
  refine Lw.fn_pure F sc_turned rfl (by decide) fun cdv A outer s H E hr => ?_
  have hr65 := Lw.room65 hr
  refine ⟨_, (pss_cons (ps_expr (pe_callF (c_check_field (P := P) (w := w) (K := K) (mg := mg) (base := base) T) (hr.mono (by decide)) (pa_cons (pv 0) pa_nil)))
      (pss_one (ps_ret (pe_callF (c_field_of (P := P) (w := w) (K := K) (mg := mg) (base := base) T) (hr.mono (by decide)) (pa_cons (pe_lc (own := [("name", 1), ("x", 2), ("y", 3)]) (by rfl) nd (pi_anyK K (pe_methF0 (m_Field_told_wells (P := P) (w := w) (K := K) (mg := mg) (base := base) T) (hr.mono (by decide)) (pv 0))) (blkOk_by (N := ["field", "name", "x", "y"]) (sc := defScope sturned) (by decide +kernel)) (fun _ _ _ _ _ => (pg_seqK (n := 3) K rfl (pgs_cons (pg_name (i := 1) nd rfl (.inl rfl)) (pgs_cons (pg_name (i := 2) nd rfl (.inl rfl)) (pgs_cons (pg_name (i := 3) nd rfl (.inl rfl)) pgs_nil))))) (fun _ _ _ _ _ => pts_nil) (fun _ _ _ _ _ => (pe_tup (pa_cons (pv 1) (pa_cons (pe_op op_sub pe_int (pv 3)) (pa_cons (pv 2) pa_nil)))))) pa_nil))))), ?_⟩
  rintro ds G hl ⟨ws, rfl, hw, hG⟩
  walk_at "go"
  refine ⟨ws, rfl, ?_⟩
  walk_at "go"
  walk_at "lc"
  refine wi_any ?_
  walk_at "go"
  refine ⟨ws, rfl, hw.len, _, rfl, wells_len hw.len, lcI_map (ws := ws) (enc := wellD) (res := fun v => wellD (v.1, (0 - v.2.2, v.2.1))) rfl (fun u hu => ?_) ?_⟩
  · walk_at "seq"
    walk_at "go"
    exact rfl
  · walk_at "go"
    refine ⟨mapW (fun p => (0 - p.2, p.1)) ws, ?_, ?_, hG⟩
    · unfold mapW
      rw [List.map_map]
      rfl
    · exact wsOk_turned hw
theorem sc_mirrored : FnScope ["field", "name", "x", "y"] ["field"] (defScope smirrored) := ⟨rfl, rfl, rfl, by decide +kernel, rfl, by decide +kernel, by decide +kernel⟩
theorem c_mirrored (T : Tx K mg) : Lw.Cal P w K mg base "mirrored" 8 ["field"] (pureSp K 1 (Sfn (FC K) fun p => (0 - p.1, p.2))) := by
  obtain ⟨fd, F⟩ := Lh.def_of T.d 23 (d := dsmirrored)
  refine ⟨_, fd, T.glo "mirrored" 23, F.kp, F.bindsN (fun _ _ _ _ _ _ us hl => by
      match us, hl with
      | [_], _ => rfl), Lw.kbn_of F (fun _ _ _ _ _ _ j us ws hj h1 h2 => by
      match j, us, ws, hj, h1, h2 with
      | 0, [], [_], _, _, _ => rfl
      | 1, [_], [], _, _, _ => rfl), ?_⟩
  have nd := sc_mirrored.nd
  refine Lw.fn_pure F sc_mirrored rfl (by decide) fun cdv A outer s H E hr => ?_
  have hr65 := Lw.room65 hr
  refine ⟨_, (pss_cons (ps_expr (pe_callF (c_check_field (P := P) (w := w) (K := K) (mg := mg) (base := base) T) (hr.mono (by decide)) (pa_cons (pv 0) pa_nil)))
      (pss_one (ps_ret (pe_callF (c_field_of (P := P) (w := w) (K := K) (mg := mg) (base := base) T) (hr.mono (by decide)) (pa_cons (pe_lc (own := [("name", 1), ("x", 2), ("y", 3)]) (by rfl) nd (pi_anyK K (pe_methF0 (m_Field_told_wells (P := P) (w := w) (K := K) (mg := mg) (base := base) T) (hr.mono (by decide)) (pv 0))) (blkOk_by (N := ["field", "name", "x", "y"]) (sc := defScope smirrored) (by decide +kernel)) (fun _ _ _ _ _ => (pg_seqK (n := 3) K rfl (pgs_cons (pg_name (i := 1) nd rfl (.inl rfl)) (pgs_cons (pg_name (i := 2) nd rfl (.inl rfl)) (pgs_cons (pg_name (i := 3) nd rfl (.inl rfl)) pgs_nil))))) (fun _ _ _ _ _ => pts_nil) (fun _ _ _ _ _ => (pe_tup (pa_cons (pv 1) (pa_cons (pe_op op_sub pe_int (pv 2)) (pa_cons (pv 3) pa_nil)))))) pa_nil))))), ?_⟩
  rintro ds G hl ⟨ws, rfl, hw, hG⟩
  walk_at "go"
  refine ⟨ws, rfl, ?_⟩
  walk_at "go"
  walk_at "lc"
  refine wi_any ?_
  walk_at "go"
  refine ⟨ws, rfl, hw.len, _, rfl, wells_len hw.len, lcI_map (ws := ws) (enc := wellD) (res := fun v => wellD (v.1, (0 - v.2.1, v.2.2))) rfl (fun u hu => ?_) ?_⟩
  · walk_at "seq"
    walk_at "go"
    exact rfl
  · walk_at "go"
    refine ⟨mapW (fun p => (0 - p.1, p.2)) ws, ?_, ?_, hG⟩
    · unfold mapW
      rw [List.map_map]
      rfl
    · exact wsOk_mirrored hw
theorem sc_moved : FnScope ["field", "right", "up", "number", "part", "spot", "name", "x", "y"] ["field", "right", "up"] (defScope smoved) := ⟨rfl, rfl, rfl, by decide +kernel, rfl, by decide +kernel, by decide +kernel⟩
theorem c_moved (T : Tx K mg) : Lw.Cal P w K mg base "moved" 8 ["field", "right", "up"] (pureSp K 3 (Smv (FC K))) := by
  obtain ⟨fd, F⟩ := Lh.def_of T.d 21 (d := dsmoved)
  refine ⟨_, fd, T.glo "moved" 21, F.kp, F.bindsN (fun _ _ _ _ _ _ us hl => by
      match us, hl with
      | [_, _, _], _ => rfl), Lw.kbn_of F (fun _ _ _ _ _ _ j us ws hj h1 h2 => by
      match j, us, ws, hj, h1, h2 with
      | 0, [], [_, _, _], _, _, _ => rfl
      | 1, [_], [_, _], _, _, _ => rfl
      | 2, [_, _], [_], _, _, _ => rfl
      | 3, [_, _, _], [], _, _, _ => rfl), ?_⟩
  have nd := sc_moved.nd
  refine Lw.fn_pure F sc_moved rfl (by decide) fun cdv A outer s H E hr => ?_
  have hr65 := Lw.room65 hr
  refine ⟨_, (pss_cons (ps_expr (pe_callF (c_check_field (P := P) (w := w) (K := K) (mg := mg) (base := base) T) (hr.mono (by decide)) (pa_cons (pv 0) pa_nil)))
      (pss_cons (ps_for PassesOwn.never rfl (pi_anyK K (pe_tup (pa_cons (pe_tup (pa_cons (pv 1) (pa_cons pe_int pa_nil))) (pa_cons (pe_tup (pa_cons (pv 2) (pa_cons pe_int pa_nil))) pa_nil)))) (pg_seqK (n := 2) K rfl (pgs_cons (pg_name (i := 3) nd rfl (.inr rfl)) (pgs_cons (pg_name (i := 4) nd rfl (.inr rfl)) pgs_nil))) (pss_cons (ps_if (pt_not (pt_val (pe_callF (c_is_integer (P := P) (w := w) (K := K) (mg := mg) (base := base) T) (hr.mono (by decide)) (pa_cons (pv 3) pa_nil)))) (pss_one ps_never) pss_nil)
      (pss_one (ps_if (pt_not (pt_val (pe_callB (cr_allK K rfl) (by rfl) (T.free "all" 52) (by decide +kernel) (pa_cons (pe_lc (own := [("spot", 5)]) (by rfl) nd (pi_anyK K (pe_propF (p_Field_spots_prop (P := P) (w := w) (K := K) (mg := mg) (base := base) T) (hr.mono (by decide)) (pv 0))) (blkOk_by (N := ["field", "right", "up", "number", "part", "spot", "name", "x", "y"]) (sc := defScope smoved) (by decide +kernel)) (fun _ _ _ _ _ => (pg_name (i := 5) nd rfl (.inl rfl))) (fun _ _ _ _ _ => pts_nil) (fun _ _ _ _ _ => (pe_callF (c_is_between (P := P) (w := w) (K := K) (mg := mg) (base := base) T) (hr.mono (by decide)) (pa_cons (pe_op (op_addK K) (pe_ix (ix_K K (hu_of hr)) (pv 5) (pv 4) (fun _ _ => rfl)) (pv 3)) (pa_cons (pe_op op_sub pe_int (pe_gint (T.int "MOST_SPOT" 45))) (pa_cons (pe_gint (T.int "MOST_SPOT" 45)) pa_nil)))))) pa_nil)))) (pss_one ps_never) pss_nil))))
      (pss_one (ps_ret (pe_callF (c_field_of (P := P) (w := w) (K := K) (mg := mg) (base := base) T) (hr.mono (by decide)) (pa_cons (pe_lc (own := [("name", 6), ("x", 7), ("y", 8)]) (by rfl) nd (pi_anyK K (pe_methF0 (m_Field_told_wells (P := P) (w := w) (K := K) (mg := mg) (base := base) T) (hr.mono (by decide)) (pv 0))) (blkOk_by (N := ["field", "right", "up", "number", "part", "spot", "name", "x", "y"]) (sc := defScope smoved) (by decide +kernel)) (fun _ _ _ _ _ => (pg_seqK (n := 3) K rfl (pgs_cons (pg_name (i := 6) nd rfl (.inl rfl)) (pgs_cons (pg_name (i := 7) nd rfl (.inl rfl)) (pgs_cons (pg_name (i := 8) nd rfl (.inl rfl)) pgs_nil))))) (fun _ _ _ _ _ => pts_nil) (fun _ _ _ _ _ => (pe_tup (pa_cons (pv 6) (pa_cons (pe_op (op_addK K) (pv 7) (pv 1)) (pa_cons (pe_op (op_addK K) (pv 8) (pv 2)) pa_nil)))))) pa_nil)))))), ?_⟩
  rintro ds G hl ⟨ws, i, j, rfl, hw, hu, hG⟩
  have mm : ∀ u ∈ ws, (u.2.1 + i).natAbs ≤ 9999 ∧ (u.2.2 + j).natAbs ≤ 9999 := fun u hm => by
    have q := hu.ok (u.1, (u.2.1 + i, u.2.2 + j)) (List.mem_map.mpr ⟨u, hm, rfl⟩)
    exact ⟨q.x, q.y⟩
  walk_at "go"
  refine ⟨ws, rfl, ?_⟩
  refine ws_seq (ws_for (wi_any ?_))
  walk_at "go"
  refine ⟨fun n ρ => ∃ s3 s4 s5, ρ = [SD.d (fldD (FC K) ws), .d (.int i), .d (.int j), s3, s4, s5, .un, .un, .un], ⟨_, _, _, rfl⟩, fun n ρi x hx ⟨s3, s4, s5, hρ⟩ => ?_, fun ρ' ⟨s3, s4, s5, hρ⟩ => ?_⟩
  · have hx2 : ∃ v k, x = .tup [.int v, .int k] ∧ ∀ u ∈ ws, ∃ q, atI [D.int u.2.1, D.int u.2.2] k = some (.int q) ∧ (q + v).natAbs ≤ 9999 := by
      match n, hx with
      | 0, hx =>
        cases hx
        exact ⟨i, 0, rfl, fun u hm => ⟨u.2.1, rfl, (mm u hm).1⟩⟩
      | 1, hx =>
        cases hx
        exact ⟨j, 1, rfl, fun u hm => ⟨u.2.2, rfl, (mm u hm).2⟩⟩
      | n + 2, hx => cases hx
    obtain ⟨v, k, rfl, hq⟩ := hx2
    subst hρ
    walk_at "seq"
    walk_at "go"
    refine ⟨.int v, rfl, rfl, ?_⟩
    walk_at "x1"
    refine ⟨(fun h => by cases h), fun _ => ?_⟩
    walk_at "go"
    walk_at "lc"
    refine wi_any ?_
    walk_at "go"
    refine ⟨ws, rfl, _, rfl, wells_len hw.len, lcI_map (ws := ws) (enc := fun u => spD u.2) (res := fun _ => .bl true) rfl (fun u hm => ?_) ?_⟩
    · obtain ⟨q, hq1, hq2⟩ := hq u hm
      walk_at "go"
      refine q_ixT hq1 ?_
      walk_at "go"
      refine ⟨_, _, _, rfl, ?_⟩
      have e : (decide (0 - 9999 ≤ q + v) && decide (q + v ≤ 9999)) = true := by simp; omega
      rw [e]
      exact ⟨rfl, rfl⟩
    · refine q_bools (bs := ws.map fun _ => true) (by rw [List.map_map]; rfl) ?_
      have ea : ((ws.map fun _ => true).all id) = true := by
        rw [List.all_map]
        exact List.all_eq_true.mpr fun _ _ => rfl
      rw [ea]
      walk_at "x1"
      refine ⟨(fun h => absurd h (by decide)), fun _ => ?_⟩
      walk_at "go"
      exact ⟨_, _, _, rfl⟩
  · subst hρ
    walk_at "go"
    walk_at "lc"
    refine wi_any ?_
    walk_at "go"
    refine ⟨ws, rfl, hw.len, _, rfl, wells_len hw.len, lcI_map (ws := ws) (enc := wellD) (res := fun v => wellD (v.1, (v.2.1 + i, v.2.2 + j))) rfl (fun u hm => ?_) ?_⟩
    · walk_at "seq"
      walk_at "go"
      exact rfl
    · walk_at "go"
      refine ⟨mapW (fun p => (p.1 + i, p.2 + j)) ws, ?_, hu, hG⟩
      unfold mapW
      rw [List.map_map]
      rfl
theorem sc__law_take : FnScope ["pot", "upto", "digit", "prime", "mixed"] ["pot", "upto"] (defScope s_law_take) := ⟨rfl, rfl, rfl, by decide +kernel, rfl, by decide +kernel, by decide +kernel⟩
theorem c__law_take (T : Tx K mg) : Lw.Cal P w K mg base "_law_take" 1 ["pot", "upto"] (potSp K 1 1 Stk) := by
  obtain ⟨fd, F⟩ := Lh.def_of T.d 25 (d := ds_law_take)
  refine ⟨_, fd, T.glo "_law_take" 25, F.kp, F.bindsN (fun _ _ _ _ _ _ us hl => by
      match us, hl with
      | [_, _], _ => rfl), Lw.kbn_of F (fun _ _ _ _ _ _ j us ws hj h1 h2 => by
      match j, us, ws, hj, h1, h2 with
      | 0, [], [_, _], _, _, _ => rfl
      | 1, [_], [_], _, _, _ => rfl
      | 2, [_, _], [], _, _, _ => rfl), ?_⟩
  have nd := sc__law_take.nd
  refine Lw.fn_potO F sc__law_take rfl (by decide) fun cdv A outer s H E hr => ?_
  have hr65 := Lw.room65 hr
  refine ⟨_, (pss_cons (ps_if (pt_cmpR op_gt (pe_ix (ix_K K (hu_of hr)) (pv 0) pe_int (fun _ _ => rfl)) pe_int (nomark _)) (pss_cons (ps_set (i := 2) nd rfl (Or.inl rfl) (pe_op op_modN (pe_callTy call_intA (by rfl) (T.free "int" 57) (by decide +kernel) (pa_cons (pe_ix (ix_K K (hu_of hr)) (pv 0) pe_int (fun _ _ => rfl)) pa_nil)) (pv 1)))
      (pss_cons (ps_asg (pe_op op_fdivN (pe_ix (ix_K K (hu_of hr)) (pv 0) pe_int (fun _ _ => rfl)) (pv 1)) (pg_sub (pv 0) pe_int set_list))
      (pss_one (ps_ret (pv 2))))) pss_nil)
      (pss_cons (ps_asg (pe_op (op_addK K) (pe_ix (ix_K K (hu_of hr)) (pv 0) pe_int (fun _ _ => rfl)) pe_int) (pg_sub (pv 0) pe_int set_list))
      (pss_cons (ps_set (i := 3) nd rfl (Or.inl rfl) (pe_ix (ix_K K (hu_of hr)) (pe_lst (pa_cons pe_int (pa_cons pe_int (pa_cons pe_int (pa_cons pe_int (pa_cons pe_int pa_nil)))))) (pe_op op_modN (pe_callTy call_intA (by rfl) (T.free "int" 57) (by decide +kernel) (pa_cons (pe_ix (ix_K K (hu_of hr)) (pv 0) pe_int (fun _ _ => rfl)) pa_nil)) pe_int) (fun _ _ => rfl)))
      (pss_cons (ps_set (i := 4) nd rfl (Or.inl rfl) (pe_op op_modN (pe_callTy call_intA (by rfl) (T.free "int" 57) (by decide +kernel) (pa_cons (pe_op op_powA (pe_callTy call_intA (by rfl) (T.free "int" 57) (by decide +kernel) (pa_cons (pe_op (op_addK K) (pe_op (op_addK K) (pe_ix (ix_K K (hu_of hr)) (pv 0) pe_int (fun _ _ => rfl)) (pe_op op_mulA (pe_op op_mulA pe_int (pe_ix (ix_K K (hu_of hr)) (pv 0) pe_int (fun _ _ => rfl))) (pe_ix (ix_K K (hu_of hr)) (pv 0) pe_int (fun _ _ => rfl)))) pe_int) pa_nil)) pe_int) pa_nil)) (pv 3)))
      (pss_cons (ps_set (i := 4) nd rfl (Or.inl rfl) (pe_op op_modN (pe_callTy call_intA (by rfl) (T.free "int" 57) (by decide +kernel) (pa_cons (pe_op op_mulA (pv 4) (pe_op (op_addK K) (pe_op op_modN (pe_callTy call_intA (by rfl) (T.free "int" 57) (by decide +kernel) (pa_cons (pv 4) pa_nil)) pe_int) (pe_op op_mulA pe_int (pe_ix (ix_K K (hu_of hr)) (pv 0) pe_int (fun _ _ => rfl))))) pa_nil)) pe_int))
      (pss_one (ps_ret (pe_op op_modN (pe_callTy call_intA (by rfl) (T.free "int" 57) (by decide +kernel) (pa_cons (pe_op op_fdivN (pv 4) pe_int) pa_nil)) (pv 1))))))))), ?_⟩
  rintro m x y z ds G hm hx hy hy2 hz hz2 hl ⟨u, rfl, hu, hu2, hG⟩
  have lim : z ≤ 999999999 := by
    have h1 : m + 1 ≤ 1000000000 := hm
    omega
  refine ws_seq (ws_if (wt_test ?_))
  walk_at "ge"
  refine ⟨fun h => ?_, fun h => ?_⟩
  · refine ws_seq (ws_asg ?_)
    walk_at "ge"
    refine q_mod (by omega) ?_
    walk_at "ge"
    refine ws_seq (wg_setO (x := D.non) rfl (.inr rfl) _ rfl ?_)
    walk_at "ge"
    refine q_fdiv ⟨by omega, by omega⟩ ?_
    walk_at "ge"
    refine ⟨_, _, _, rfl, rfl, rfl, ?_⟩
    refine ws_ret ?_
    walk_at "ge"
    exact ⟨hG _ (Int.fmod_nonneg_of_pos _ hu) (Int.fmod_lt_of_pos _ hu), _, _, _, rfl, fdiv_nn hx hu, hy, hy2, hz, by omega⟩
  · refine ws_next (ws_seq (wg_setO (x := D.non) rfl (.inr rfl) _ rfl ?_))
    walk_at "ge"
    refine ⟨_, _, _, rfl, rfl, rfl, ?_⟩
    refine ws_seq (ws_asg ?_)
    walk_at "ge"
    refine q_mod (by decide) ?_
    obtain ⟨p, hp1, hp2, hp3⟩ := prime5 (k := (z + 1).fmod 5) (Int.fmod_nonneg_of_pos _ (by decide)) (Int.fmod_lt_of_pos _ (by decide))
    refine q_ixL hp1 ?_
    refine wg_name ?_
    have e1 : (z + 1) * (z + 1) ≤ 10 ^ 9 * 10 ^ 9 := Int.mul_le_mul (by omega) (by omega) (by omega) (by decide)
    have e0 : 0 ≤ (z + 1) * (z + 1) := Int.mul_nonneg (by omega) (by omega)
    have e2 : 90373 * (z + 1) * (z + 1) = 90373 * ((z + 1) * (z + 1)) := Int.mul_assoc _ _ _
    refine ws_seq (ws_asg ?_)
    walk_at "ge"
    refine q_pow (cpow 80 (by decide) (by rw [e2]; omega) (by decide)) ?_
    walk_at "ge"
    refine q_mod (by omega) ?_
    walk_at "ge"
    generalize hA : (y + 90373 * (z + 1) * (z + 1) + 191) ^ (3 : Int).toNat = A
    have g1 := Int.fmod_nonneg_of_pos A hp2
    have g2 := Int.fmod_lt_of_pos A hp2
    refine ws_seq (ws_asg ?_)
    walk_at "ge"
    refine q_mod (by decide) ?_
    have g3 := Int.fmod_nonneg_of_pos (A.fmod p) (b := 10267) (by decide)
    have g4 := Int.fmod_lt_of_pos (A.fmod p) (b := 10267) (by decide)
    walk_at "ge"
    refine q_mod (by decide) ?_
    walk_at "ge"
    refine ws_ret ?_
    walk_at "ge"
    refine q_fdiv ⟨by decide, by decide⟩ ?_
    walk_at "ge"
    refine q_mod (by omega) ?_
    exact ⟨hG _ (Int.fmod_nonneg_of_pos _ hu) (Int.fmod_lt_of_pos _ hu), _, _, _, rfl, hx, hy, hy2, by omega, by omega⟩
theorem sc__law_of : FnScope ["pot", "some"] ["pot", "some"] (defScope s_law_of) := ⟨rfl, rfl, rfl, by decide +kernel, rfl, by decide +kernel, by decide +kernel⟩
theorem c__law_of (T : Tx K mg) : Lw.Cal P w K mg base "_law_of" 2 ["pot", "some"] (potSp K 1 1 Sof) := by
  obtain ⟨fd, F⟩ := Lh.def_of T.d 26 (d := ds_law_of)
  refine ⟨_, fd, T.glo "_law_of" 26, F.kp, F.bindsN (fun _ _ _ _ _ _ us hl => by
      match us, hl with
      | [_, _], _ => rfl), Lw.kbn_of F (fun _ _ _ _ _ _ j us ws hj h1 h2 => by
      match j, us, ws, hj, h1, h2 with
      | 0, [], [_, _], _, _, _ => rfl
      | 1, [_], [_], _, _, _ => rfl
      | 2, [_, _], [], _, _, _ => rfl), ?_⟩
  have nd := sc__law_of.nd
  refine Lw.fn_pot F sc__law_of rfl (by decide) fun cdv A outer s H E hr => ?_
  have hr65 := Lw.room65 hr
  refine ⟨_, (pss_one (ps_ret (pe_ix (ix_K K (hu_of hr)) (pv 1) (pe_callF (c__law_take (P := P) (w := w) (K := K) (mg := mg) (base := base) T) (hr.mono (by decide)) (pa_cons (pv 0) (pa_cons (pe_callB (call_lenK K) (by rfl) (T.free "len" 59) (by decide +kernel) (pa_cons (pv 1) pa_nil)) pa_nil))) (fun _ _ => rfl)))), ?_⟩
  rintro m ds G hm hl ⟨xs, rfl, hn, hn2, hG⟩
  walk_at "go"
  refine ⟨hm, rfl, (xs.length : Int), rfl, by omega, by omega, fun d h0 h1 => ?_⟩
  have hd : d.toNat < xs.length := by omega
  refine q_ixL (d := xs[d.toNat]) ?_ ?_
  · have e := atI_at (xs := xs) (List.getElem?_eq_getElem hd)
    rw [Int.toNat_of_nonneg h0] at e
    exact e
  · exact ⟨hG _ (List.getElem_mem _), _, rfl, Nat.le_refl _⟩
theorem sc__law_text : FnScope ["own", "name", "x", "y"] ["own"] (defScope s_law_text) := ⟨rfl, rfl, rfl, by decide +kernel, rfl, by decide +kernel, by decide +kernel⟩
theorem c__law_text (T : Tx K mg) : Lw.Cal P w K mg base "_law_text" 1 ["own"] (pureSp K 1 Stx) := by
  obtain ⟨fd, F⟩ := Lh.def_of T.d 32 (d := ds_law_text)
  refine ⟨_, fd, T.glo "_law_text" 32, F.kp, F.bindsN (fun _ _ _ _ _ _ us hl => by
      match us, hl with
      | [_], _ => rfl), Lw.kbn_of F (fun _ _ _ _ _ _ j us ws hj h1 h2 => by
      match j, us, ws, hj, h1, h2 with
      | 0, [], [_], _, _, _ => rfl
      | 1, [_], [], _, _, _ => rfl), ?_⟩
  have nd := sc__law_text.nd
  refine Lw.fn_pure F sc__law_text rfl (by decide) fun cdv A outer s H E hr => ?_
  have hr65 := Lw.room65 hr
  refine ⟨_, (pss_one (ps_ret (pe_joinK K pe_str (pe_lc (own := [("name", 1), ("x", 2), ("y", 3)]) (by rfl) nd (pi_anyK K (pv 0)) (blkOk_by (N := ["own", "name", "x", "y"]) (sc := defScope s_law_text) (by decide +kernel)) (fun _ _ _ _ _ => (pg_seqK (n := 3) K rfl (pgs_cons (pg_name (i := 1) nd rfl (.inl rfl)) (pgs_cons (pg_name (i := 2) nd rfl (.inl rfl)) (pgs_cons (pg_name (i := 3) nd rfl (.inl rfl)) pgs_nil))))) (fun _ _ _ _ _ => pts_nil) (fun _ _ _ _ _ => (pe_op (op_addK K) (pe_op (op_addK K) (pe_op (op_addK K) (pe_op (op_addK K) (pe_op (op_addK K) pe_str (pv 1)) pe_str) (pe_callTy call_str_int (by rfl) (T.free "str" 67) (by decide +kernel) (pa_cons (pv 2) pa_nil))) pe_str) (pe_callTy call_str_int (by rfl) (T.free "str" 67) (by decide +kernel) (pa_cons (pv 3) pa_nil)))))))), ?_⟩
  rintro ds G hl ⟨ws, rfl, hw, hG⟩
  walk_at "go"
  walk_at "lc"
  refine wi_any ?_
  walk_at "go"
  refine ⟨wells_len hw.len, lcI_map (ws := ws) (enc := wellD) (res := fun v => .str (lineOf v)) rfl (fun u hu => ?_) ?_⟩
  · have ho := hw.ok u hu
    have hx := ho.x
    have hy := ho.y
    have h2 := (name_len ho.name).2
    have h3 : (Str.ofString (toString u.2.1)).length ≤ 5 := by rw [len_tl, tl_numS]; exact numC_len (by decide : 0 < 4) (by omega)
    have h4 : (Str.ofString (toString u.2.2)).length ≤ 5 := by rw [len_tl, tl_numS]; exact numC_len (by decide : 0 < 4) (by omega)
    have k1 : (Str.ofString "well ").length = 5 := by decide +kernel
    have k2 : (Str.ofString " ").length = 1 := by decide +kernel
    have big : ∀ n : Nat, n ≤ 100 → n ≤ sizeLine := fun n h => Nat.le_trans h (by decide)
    walk_at "seq"
    walk_at "go"
    refine q_addS (big _ (by omega)) ?_
    walk_at "go"
    refine q_addS (big _ (by simp only [str_len]; omega)) ?_
    walk_at "go"
    refine q_str (log_small (k := 14) (by omega) (by decide) (by decide)) ?_
    refine q_addS (big _ (by simp only [str_len]; omega)) ?_
    walk_at "go"
    refine q_addS (big _ (by simp only [str_len]; omega)) ?_
    walk_at "go"
    refine q_str (log_small (k := 14) (by omega) (by decide) (by decide)) ?_
    refine q_addS (big _ (by simp only [str_len]; omega)) ?_
    exact ⟨congrArg D.str (line_eq u), rfl⟩
  · refine ⟨ws.map lineOf, .inl (by rw [List.map_map]; rfl), ?_, hG⟩
    have h1 : (Str.ofString "\n").length = 1 := by decide +kernel
    have h2 := lines_len hw.ok
    have h3 := hw.len
    rw [h1, List.length_map]
    omega
theorem sc__law_places : FnScope ["own", "name", "x", "y"] ["own"] (defScope s_law_places) := ⟨rfl, rfl, rfl, by decide +kernel, rfl, by decide +kernel, by decide +kernel⟩
theorem c__law_places (T : Tx K mg) : Lw.Cal P w K mg base "_law_places" 1 ["own"] (pureSp K 1 Spl) := by
  obtain ⟨fd, F⟩ := Lh.def_of T.d 33 (d := ds_law_places)
  refine ⟨_, fd, T.glo "_law_places" 33, F.kp, F.bindsN (fun _ _ _ _ _ _ us hl => by
      match us, hl with
      | [_], _ => rfl), Lw.kbn_of F (fun _ _ _ _ _ _ j us ws hj h1 h2 => by
      match j, us, ws, hj, h1, h2 with
      | 0, [], [_], _, _, _ => rfl
      | 1, [_], [], _, _, _ => rfl), ?_⟩
  have nd := sc__law_places.nd
  refine Lw.fn_pure F sc__law_places rfl (by decide) fun cdv A outer s H E hr => ?_
  have hr65 := Lw.room65 hr
  refine ⟨_, (pss_one (ps_ret (pe_callTy (call_dictK K rfl) (by rfl) (T.free "dict" 55) (by decide +kernel) (pa_cons (pe_lc (own := [("name", 1), ("x", 2), ("y", 3)]) (by rfl) nd (pi_anyK K (pv 0)) (blkOk_by (N := ["own", "name", "x", "y"]) (sc := defScope s_law_places) (by decide +kernel)) (fun _ _ _ _ _ => (pg_seqK (n := 3) K rfl (pgs_cons (pg_name (i := 1) nd rfl (.inl rfl)) (pgs_cons (pg_name (i := 2) nd rfl (.inl rfl)) (pgs_cons (pg_name (i := 3) nd rfl (.inl rfl)) pgs_nil))))) (fun _ _ _ _ _ => pts_nil) (fun _ _ _ _ _ => (pe_tup (pa_cons (pv 1) (pa_cons (pe_tup (pa_cons (pv 2) (pa_cons (pv 3) pa_nil))) pa_nil))))) pa_nil)))), ?_⟩
  rintro ds G hl ⟨ws, rfl, hw, hG⟩
  walk_at "go"
  walk_at "lc"
  refine wi_any ?_
  walk_at "go"
  refine ⟨wells_len hw.len, lcI_map (ws := ws) (enc := wellD) (res := fun v => .tup [.str v.1, spD v.2]) rfl (fun u hu => ?_) ?_⟩
  · walk_at "seq"
    walk_at "go"
    exact rfl
  · refine ⟨ws.map fun v => (.inr v.1, spD v.2), by rw [List.map_map]; rfl, ?_⟩
    rw [mergeD_new (ds := []) ?_]
    · exact hG
    · rw [List.nil_append, List.pairwise_map]
      exact (List.pairwise_map.mp hw.names).imp fun h e => h (Sum.inr.inj e)
theorem sc__law_spots : FnScope ["pot", "many", "wide", "way", "found", "ring", "lap", "spot"] ["pot", "many", "wide"] (defScope s_law_spots) := ⟨rfl, rfl, rfl, by decide +kernel, rfl, by decide +kernel, by decide +kernel⟩
theorem c__law_spots (T : Tx K mg) : Lw.Cal P w K mg base "_law_spots" 3 ["pot", "many", "wide"] (potSp K 2 1500 Sss) := by
  obtain ⟨fd, F⟩ := Lh.def_of T.d 30 (d := ds_law_spots)
  refine ⟨_, fd, T.glo "_law_spots" 30, F.kp, F.bindsN (fun _ _ _ _ _ _ us hl => by
      match us, hl with
      | [_, _, _], _ => rfl), Lw.kbn_of F (fun _ _ _ _ _ _ j us ws hj h1 h2 => by
      match j, us, ws, hj, h1, h2 with
      | 0, [], [_, _, _], _, _, _ => rfl
      | 1, [_], [_, _], _, _, _ => rfl
      | 2, [_, _], [_], _, _, _ => rfl
      | 3, [_, _, _], [], _, _, _ => rfl), ?_⟩
  have nd := sc__law_spots.nd
  refine Lw.fn_pot F sc__law_spots rfl (by decide) fun cdv A outer s H E hr => ?_
  have hr65 := Lw.room65 hr
  refine ⟨_, (pss_cons (ps_par (i := 3) (j := 4) (by rfl) nd rfl rfl (by decide) rfl rfl (pa_cons (pe_callF (c__law_take (P := P) (w := w) (K := K) (mg := mg) (base := base) T) (hr.mono (by decide)) (pa_cons (pv 0) (pa_cons pe_int pa_nil))) (pa_cons (pe_lst pa_nil) pa_nil)) (by rfl))
      (pss_cons (ps_set (i := 5) nd rfl (Or.inl rfl) (pe_lst (pa_cons (pe_tup (pa_cons pe_int (pa_cons pe_int pa_nil))) (pa_cons (pe_tup (pa_cons pe_int (pa_cons pe_int pa_nil))) (pa_cons (pe_tup (pa_cons pe_int (pa_cons pe_int pa_nil))) (pa_cons (pe_tup (pa_cons pe_int (pa_cons pe_int pa_nil))) (pa_cons (pe_tup (pa_cons (pe_un un_neg pe_int) (pa_cons pe_int pa_nil))) (pa_cons (pe_tup (pa_cons (pe_un un_neg pe_int) (pa_cons pe_int pa_nil))) (pa_cons (pe_tup (pa_cons (pe_un un_neg pe_int) (pa_cons pe_int pa_nil))) (pa_cons (pe_tup (pa_cons (pe_un un_neg pe_int) (pa_cons (pe_un un_neg pe_int) pa_nil))) (pa_cons (pe_tup (pa_cons (pe_un un_neg pe_int) (pa_cons (pe_un un_neg pe_int) pa_nil))) (pa_cons (pe_tup (pa_cons pe_int (pa_cons (pe_un un_neg pe_int) pa_nil))) (pa_cons (pe_tup (pa_cons pe_int (pa_cons (pe_un un_neg pe_int) pa_nil))) (pa_cons (pe_tup (pa_cons pe_int (pa_cons (pe_un un_neg pe_int) pa_nil))) pa_nil))))))))))))))
      (pss_cons (ps_for PassesOwn.never rfl (pi_range1 rfl (T.free "range" 64) (pa_cons (pe_op op_mulA pe_int (pv 1)) pa_nil)) (pg_name (i := 6) nd rfl (.inl rfl)) (pss_cons (ps_set (i := 7) nd rfl (Or.inl rfl) (pe_tup (pa_cons (pe_callTy call_intA (by rfl) (T.free "int" 57) (by decide +kernel) (pa_cons (pe_op op_sub (pe_callF (c__law_take (P := P) (w := w) (K := K) (mg := mg) (base := base) T) (hr.mono (by decide)) (pa_cons (pv 0) (pa_cons (pe_op (op_addK K) (pe_op op_mulA pe_int (pv 2)) pe_int) pa_nil))) (pv 2)) pa_nil)) (pa_cons (pe_callTy call_intA (by rfl) (T.free "int" 57) (by decide +kernel) (pa_cons (pe_op op_sub (pe_callF (c__law_take (P := P) (w := w) (K := K) (mg := mg) (base := base) T) (hr.mono (by decide)) (pa_cons (pv 0) (pa_cons (pe_op (op_addK K) (pe_op op_mulA pe_int (pv 2)) pe_int) pa_nil))) (pv 2)) pa_nil)) pa_nil))))
      (pss_cons (ps_if (pt_cmpR (op_eqK K hr.units) (pv 3) pe_int (nomark _)) (pss_one (ps_set (i := 7) nd rfl (Or.inl rfl) (pe_tup (pa_cons (pe_op op_modN (pe_ix (ix_K K (hu_of hr)) (pv 7) pe_int (fun _ _ => rfl)) pe_int) (pa_cons (pe_op op_modN (pe_ix (ix_K K (hu_of hr)) (pv 7) pe_int (fun _ _ => rfl)) pe_int) pa_nil))))) (pss_one (ps_if (pt_cmpR (op_eqK K hr.units) (pv 3) pe_int (nomark _)) (pss_one (ps_set (i := 7) nd rfl (Or.inl rfl) (pe_tup (pa_cons (pe_ix (ix_K K (hu_of hr)) (pv 7) pe_int (fun _ _ => rfl)) (pa_cons (pe_op op_mulA (pe_ix (ix_K K (hu_of hr)) (pv 7) pe_int (fun _ _ => rfl)) (pe_op op_modN (pv 6) pe_int)) pa_nil))))) (pss_one (ps_if (PW.pt (pw_and (pt_cmpR (op_eqK K hr.units) (pv 3) pe_int (nomark _)) (pw_and1 (pt_cmpR op_gt (pe_callF (c__law_take (P := P) (w := w) (K := K) (mg := mg) (base := base) T) (hr.mono (by decide)) (pa_cons (pv 0) (pa_cons pe_int pa_nil))) pe_int (nomark _))))) (pss_one (ps_set (i := 7) nd rfl (Or.inl rfl) (pe_callF (c__law_of (P := P) (w := w) (K := K) (mg := mg) (base := base) T) (hr.mono (by decide)) (pa_cons (pv 0) (pa_cons (pv 5) pa_nil))))) pss_nil)))))
      (pss_one (ps_expr (pe_bm PySem.F.plainAttrs_list PySem.F.slot_list_extend PySem.F.type_list_extend mt_extend (pv 4) (pa_cons (pe_ifExp (PW.pt (pw_and (pt_cmpR (op_notInK K w hr65) (pv 7) (pv 4) (by rfl)) (pw_and1 (pt_cmpR op_lt (pe_callB (call_lenK K) (by rfl) (T.free "len" 59) (by decide +kernel) (pa_cons (pv 4) pa_nil)) (pv 1) (nomark _))))) (pe_lst (pa_cons (pv 7) pa_nil)) (pe_lst pa_nil)) pa_nil)))))))
      (pss_one (ps_ret (pv 4)))))), ?_⟩
  rintro m ds G hm hl ⟨m1, w1, rfl, h1, h2, h3, h4, hG⟩
  have hm' : m + 1500 ≤ 1000000000 := hm
  walk_at "cx"
  refine ws_seq (ws_parN (by decide) (we_callP (i := 0) rfl (wa_cons (we_int (wa_nil ?_)))))
  refine ⟨m, rfl, (by show m + 1 ≤ 1000000000; omega), rfl, 4, rfl, by decide, by decide, fun way y0 y4 => ?_⟩
  refine ws_seq (ws_asg ?_)
  walk_at "ge"
  refine ws_seq (ws_for (wi_range1 ?_))
  walk_at "ge"
  refine ⟨by omega, by omega, fun i ρ => ∃ (fs : List Spot) (m' : Nat) (s6 s7 : SD), ρ = [SD.pot m', .d (.int m1), .d (.int w1), .d (.int way), .ow (fs.map spD), .d ringD, s6, s7] ∧ (0 < i → 1 ≤ fs.length) ∧ fs.length ≤ m1 ∧ fs.Nodup ∧ (∀ p ∈ fs, p.1.natAbs ≤ 9000 ∧ p.2.natAbs ≤ 9000) ∧ m' ≤ m + 1 + 4 * i, ⟨[], m + 1, _, _, rfl, (fun h => by omega), Nat.zero_le _, List.nodup_nil, (fun p hp => nomatch hp), Nat.le_refl _⟩, fun i ρi x hx ⟨fs, m', s6, s7, hρ, e1, e2, e3, e4, e5⟩ => ?_, fun ρ' ⟨fs, m', s6, s7, hρ, e1, e2, e3, e4, e5⟩ => ?_⟩
  · have hi : i < 360 ∧ x = .int (i : Nat) := ⟨by have := (rangeD_at hx).1; omega, (rangeD_at hx).2⟩
    obtain ⟨hi, rfl⟩ := hi
    subst hρ
    refine wg_name ?_
    refine ws_seq (ws_asg ?_)
    walk_at "ge"
    refine ⟨(by show m' + 1 ≤ 1000000000; omega), rfl, 2 * w1 + 1, rfl, by omega, by omega, fun p p0 p1 => ?_⟩
    walk_at "ge"
    refine ⟨(by show m' + 1 + 1 ≤ 1000000000; omega), rfl, 2 * w1 + 1, rfl, by omega, by omega, fun q q0 q1 => ?_⟩
    walk_at "ge"
    refine ws_mid (F := fun ρ1 => ∃ (sp : Spot) (m'' : Nat), ρ1 = [SD.pot m'', .d (.int m1), .d (.int w1), .d (.int way), .ow (fs.map spD), .d ringD, .d (.int i), .d (spD sp)] ∧ sp.1.natAbs ≤ 9000 ∧ sp.2.natAbs ≤ 9000 ∧ m'' ≤ m' + 4) ?_ ?_
    · refine ws_if (wt_test ?_)
      walk_at "ge"
      refine ⟨fun h => ?_, fun h => ?_⟩
      · have f1 := Int.fmod_nonneg_of_pos (p - w1) (b := 4) (by decide)
        have f2 := Int.fmod_lt_of_pos (p - w1) (b := 4) (by decide)
        have f3 := Int.fmod_nonneg_of_pos (q - w1) (b := 4) (by decide)
        have f4 := Int.fmod_lt_of_pos (q - w1) (b := 4) (by decide)
        refine ws_asg ?_
        walk_at "ge"
        refine q_mod (by decide) ?_
        walk_at "ge"
        refine q_mod (by decide) ?_
        walk_at "ge"
        exact ⟨((p - w1).fmod 4, (q - w1).fmod 4), m' + 1 + 1, rfl, by simp only; omega, by simp only; omega, by omega⟩
      · refine ws_if (wt_test ?_)
        walk_at "ge"
        refine ⟨fun h => ?_, fun h => ?_⟩
        · have f1 := Int.fmod_nonneg_of_pos (i : Int) (b := 2) (by decide)
          have f2 := Int.fmod_lt_of_pos (i : Int) (b := 2) (by decide)
          refine ws_asg ?_
          walk_at "ge"
          refine q_mod (by decide) ?_
          walk_at "ge"
          refine ⟨(p - w1, (p - w1) * (i : Int).fmod 2), m' + 1 + 1, rfl, by simp only; omega, ?_, by omega⟩
          simp only
          rw [Int.natAbs_mul]
          exact Nat.le_trans (Nat.mul_le_mul (by omega : (p - w1).natAbs ≤ 9000) (by omega : ((i : Int).fmod 2).natAbs ≤ 1)) (by decide)
        · have done : ∀ n : Nat, n ≤ m' + 4 → ∃ (sp : Spot) (m'' : Nat), [SD.pot n, .d (.int m1), .d (.int w1), .d (.int way), .ow (fs.map spD), .d ringD, .d (.int i), .d (.tup [.int (p - w1), .int (q - w1)])] = [SD.pot m'', .d (.int m1), .d (.int w1), .d (.int way), .ow (fs.map spD), .d ringD, .d (.int i), .d (spD sp)] ∧ sp.1.natAbs ≤ 9000 ∧ sp.2.natAbs ≤ 9000 ∧ m'' ≤ m' + 4 := fun n hn => ⟨(p - w1, q - w1), n, rfl, by simp only; omega, by simp only; omega, hn⟩
          refine ws_if (wt_and ?_)
          walk_at "ge"
          refine ⟨fun h => ?_, fun h => ?_⟩
          · walk_at "ge"
            refine ⟨(by show m' + 1 + 1 + 1 ≤ 1000000000; omega), rfl, 3, rfl, by decide, by decide, fun d d0 d3 => ?_⟩
            walk_at "ge"
            refine ⟨fun h => ?_, fun h => ?_⟩
            · refine ws_asg ?_
              walk_at "go"
              refine ⟨(by show m' + 1 + 1 + 1 + 1 ≤ 1000000000; omega), rfl, ringL.map spD, rfl, by decide, by decide, fun d hd => ?_⟩
              obtain ⟨sp, hsp, rfl⟩ := List.mem_map.mp hd
              refine wg_name ?_
              exact ⟨sp, m' + 1 + 1 + 1 + 1, rfl, (ring_ok sp hsp).1, (ring_ok sp hsp).2, by omega⟩
            · exact ws_next (done _ (by omega))
          · refine ⟨(fun z => by cases z), fun _ => ws_next (done _ (by omega))⟩
    · rintro ρ1 ⟨sp, m'', rfl, g1, g2, g3⟩
      have stay : (0 < i + 1 → 1 ≤ fs.length) → ∃ (fs' : List Spot) (m3 : Nat) (s6 s7 : SD), [SD.pot m'', .d (.int m1), .d (.int w1), .d (.int way), .ow (fs.map spD ++ []), .d ringD, .d (.int i), .d (spD sp)] = [SD.pot m3, .d (.int m1), .d (.int w1), .d (.int way), .ow (fs'.map spD), .d ringD, s6, s7] ∧ (0 < i + 1 → 1 ≤ fs'.length) ∧ fs'.length ≤ m1 ∧ fs'.Nodup ∧ (∀ p ∈ fs', p.1.natAbs ≤ 9000 ∧ p.2.natAbs ≤ 9000) ∧ m3 ≤ m + 1 + 4 * (i + 1) := fun h =>
        ⟨fs, m'', _, _, by rw [List.append_nil], h, e2, e3, e4, by omega⟩
      have small : fs.length + 1 ≤ sizeLine := Nat.le_trans (by omega : fs.length + 1 ≤ 100) (by decide)
      refine ws_drop (we_extend (i := 4) rfl ?_)
      refine we_if (wt_and (wt_test (we_opR (we_var rfl ⟨_, _, rfl, .inl rfl, opd_notIn (.inr (.inl ⟨_, rfl, rfl, pl_spots, ?_⟩))⟩))))
      rw [any_spots]
      refine ⟨rfl, ?_⟩
      walk_at "x1"
      refine ⟨fun h => ?_, fun h => ?_⟩
      · refine wt_test (we_cmp (we_lenO (i := 4) rfl (.inl rfl) ?_))
        walk_at "ge"
        rw [List.length_map]
        refine ⟨fun h5 => ?_, fun h5 => ?_⟩
        · walk_at "ge"
          refine ⟨_, _, rfl, rfl, (by rw [List.length_map]; exact small), ?_⟩
          have nm : sp ∉ fs := by simpa using h
          refine ⟨fs ++ [sp], m'', _, _, (by rw [List.map_append]; rfl), (fun _ => by rw [List.length_append]; exact Nat.le_add_left 1 _), (by have := of_decide_eq_true h5; rw [List.length_append]; show fs.length + 1 ≤ m1; omega), ?_, (fun r hr => ?_), by omega⟩
          · rw [List.nodup_append]
            refine ⟨e3, by simp, fun a ha b hb e => ?_⟩
            rw [List.mem_singleton] at hb
            subst hb
            subst e
            exact nm ha
          · rcases List.mem_append.mp hr with hr | hr
            · exact e4 r hr
            · rw [List.mem_singleton.mp hr]
              exact ⟨g1, g2⟩
        · walk_at "ge"
          refine ⟨_, _, rfl, rfl, (by rw [List.length_map]; exact Nat.le_of_succ_le small), ?_⟩
          exact stay fun _ => by have := of_decide_eq_false h5; omega
      · refine ⟨(fun z => by cases z), fun _ => ?_⟩
        walk_at "ge"
        refine ⟨_, _, rfl, rfl, (by rw [List.length_map]; exact Nat.le_of_succ_le small), ?_⟩
        have mem : sp ∈ fs := by simpa using h
        exact stay fun _ => List.length_pos_of_mem mem
  · rw [rangeD_len] at e1 e5
    subst hρ
    refine ws_ret (we_still (i := 4) rfl ?_)
    exact ⟨hG fs ⟨e1 (by omega), e2, e3, e4⟩, _, rfl, by omega⟩
theorem sc__law_some : FnScope ["pot", "pool", "amount", "rest", "found", "lap"] ["pot", "pool", "amount"] (defScope s_law_some) := ⟨rfl, rfl, rfl, by decide +kernel, rfl, by decide +kernel, by decide +kernel⟩
theorem c__law_some (T : Tx K mg) : Lw.Cal P w K mg base "_law_some" 2 ["pot", "pool", "amount"] (potSp K 2 40 Ssm) := by
  obtain ⟨fd, F⟩ := Lh.def_of T.d 28 (d := ds_law_some)
  refine ⟨_, fd, T.glo "_law_some" 28, F.kp, F.bindsN (fun _ _ _ _ _ _ us hl => by
      match us, hl with
      | [_, _, _], _ => rfl), Lw.kbn_of F (fun _ _ _ _ _ _ j us ws hj h1 h2 => by
      match j, us, ws, hj, h1, h2 with
      | 0, [], [_, _, _], _, _, _ => rfl
      | 1, [_], [_, _], _, _, _ => rfl
      | 2, [_, _], [_], _, _, _ => rfl
      | 3, [_, _, _], [], _, _, _ => rfl), ?_⟩
  have nd := sc__law_some.nd
  refine Lw.fn_pot F sc__law_some rfl (by decide) fun cdv A outer s H E hr => ?_
  have hr65 := Lw.room65 hr
  refine ⟨_, (pss_cons (ps_par (i := 3) (j := 4) (by rfl) nd rfl rfl (by decide) rfl rfl (pa_cons (pe_callTy (call_listK K) (by rfl) (T.free "list" 60) (by decide +kernel) (pa_cons (pv 1) pa_nil)) (pa_cons (pe_lst pa_nil) pa_nil)) (by rfl))
      (pss_cons (ps_for PassesOwn.never rfl (pi_range1 rfl (T.free "range" 64) (pa_cons (pv 2) pa_nil)) (pg_name (i := 5) nd rfl (.inl rfl)) (pss_one (ps_expr (pe_bm PySem.F.plainAttrs_list PySem.F.slot_list_append PySem.F.type_list_append mt_append (pv 4) (pa_cons (pe_bm PySem.F.plainAttrs_list PySem.F.slot_list_pop PySem.F.type_list_pop mt_popAt (pv 3) (pa_cons (pe_callF (c__law_take (P := P) (w := w) (K := K) (mg := mg) (base := base) T) (hr.mono (by decide)) (pa_cons (pv 0) (pa_cons (pe_callB (call_lenK K) (by rfl) (T.free "len" 59) (by decide +kernel) (pa_cons (pv 3) pa_nil)) pa_nil))) pa_nil)) pa_nil)))))
      (pss_one (ps_ret (pv 4))))), ?_⟩
  rintro m ds G hm hl ⟨xs, a, rfl, h1, h2, h3, hG⟩
  have hm' : m + 40 ≤ 1000000000 := hm
  refine ws_seq (ws_parNN (by decide) (wn_list ?_))
  walk_at "ge"
  walk_at "cx"
  refine ws_seq (ws_for (wi_range1 ?_))
  walk_at "ge"
  refine ⟨by omega, by omega, fun i ρ => ∃ ys rest m' s, ρ = [SD.pot m', .d (.lst (xs.map D.str)), .d (.int a), .ow (rest.map D.str), .ow (ys.map D.str), s] ∧ ys.length = i ∧ (ys ++ rest).Perm xs ∧ m' ≤ m + i, ⟨[], xs, m, _, rfl, rfl, List.Perm.refl _, Nat.le_refl _⟩, fun i ρi x hx ⟨ys, rest, m', s, hρ, e1, e2, e3⟩ => ?_, fun ρ' ⟨ys, rest, m', s, hρ, e1, e2, e3⟩ => ?_⟩
  · have hi : i < a := by
      obtain ⟨hi, -⟩ := List.getElem?_eq_some_iff.mp hx
      rw [rangeD_len] at hi
      omega
    have hl3 := e2.length_eq
    rw [List.length_append] at hl3
    subst hρ
    refine wg_name ?_
    refine ws_drop (we_append (i := 4) rfl (we_popAt (i := 3) rfl (we_callP (i := 0) rfl (wa_cons (we_lenO (i := 3) rfl (.inl rfl) (wa_nil ?_))))))
    refine ⟨m', rfl, (by show m' + 1 ≤ 1000000000; omega), rfl, _, rfl, (by rw [List.length_map]; omega), (by rw [List.length_map]; omega), fun d h0 h4 => ?_⟩
    rw [List.length_map] at h4
    have hd : d.toNat < rest.length := by omega
    refine ⟨_, d.toNat, .str rest[d.toNat], (by rw [Int.toNat_of_nonneg h0]), rfl, (by rw [List.getElem?_map, List.getElem?_eq_getElem hd]; rfl), (by omega), ?_⟩
    refine ⟨_, rfl, (by rw [List.length_map]; exact Nat.lt_of_le_of_lt (by omega : ys.length ≤ 100) (by decide)), ?_⟩
    refine ⟨ys ++ [rest[d.toNat]], rest.eraseIdx d.toNat, m' + 1, _, (by rw [List.map_append, erase_map]; rfl), (by rw [List.length_append, e1]; rfl), ?_, by omega⟩
    rw [List.append_assoc]
    exact ((erase_perm hd).append_left ys).trans e2
  · rw [rangeD_len] at e1 e3
    subst hρ
    refine ws_ret (we_still (i := 4) rfl ?_)
    exact ⟨hG ys rest (by omega) e2, _, rfl, by omega⟩
theorem sc__law_names : FnScope ["pot", "many", "signs", "names", "at", "word", "lap"] ["pot", "many"] (defScope s_law_names) := ⟨rfl, rfl, rfl, by decide +kernel, rfl, by decide +kernel, by decide +kernel⟩
theorem c__law_names (T : Tx K mg) : Lw.Cal P w K mg base "_law_names" 3 ["pot", "many"] (potSp K 1 50 Snms) := by
  obtain ⟨fd, F⟩ := Lh.def_of T.d 29 (d := ds_law_names)
  refine ⟨_, fd, T.glo "_law_names" 29, F.kp, F.bindsN (fun _ _ _ _ _ _ us hl => by
      match us, hl with
      | [_, _], _ => rfl), Lw.kbn_of F (fun _ _ _ _ _ _ j us ws hj h1 h2 => by
      match j, us, ws, hj, h1, h2 with
      | 0, [], [_, _], _, _, _ => rfl
      | 1, [_], [_], _, _, _ => rfl
      | 2, [_, _], [], _, _, _ => rfl), ?_⟩
  have nd := sc__law_names.nd
  refine Lw.fn_pot F sc__law_names rfl (by decide) fun cdv A outer s H E hr => ?_
  have hr65 := Lw.room65 hr
  refine ⟨_, (pss_cons (ps_set (i := 2) nd rfl (Or.inr rfl) pe_str)
      (pss_cons (ps_set (i := 3) nd rfl (Or.inl rfl) (pe_callF (c__law_some (P := P) (w := w) (K := K) (mg := mg) (base := base) T) (hr.mono (by decide)) (pa_cons (pv 0) (pa_cons (pe_op (op_addK K) (pe_lst (pa_cons pe_str (pa_cons pe_str (pa_cons pe_str (pa_cons pe_str (pa_cons pe_str (pa_cons pe_str pa_nil))))))) (pe_lc (own := [("at", 4)]) (by rfl) nd (pi_range1 rfl (T.free "range" 64) (pa_cons pe_int pa_nil)) (blkOk_by (N := ["pot", "many", "signs", "names", "at", "word", "lap"]) (sc := defScope s_law_names) (by decide +kernel)) (fun _ _ _ _ _ => (pg_name (i := 4) nd rfl (.inl rfl))) (fun _ _ _ _ _ => pts_nil) (fun _ _ _ _ _ => (pe_op (op_addK K) pe_str (pe_callTy call_str_int (by rfl) (T.free "str" 67) (by decide +kernel) (pa_cons (pv 4) pa_nil)))))) (pa_cons (pv 1) pa_nil)))))
      (pss_cons (ps_set (i := 5) nd rfl (Or.inl rfl) (pe_op (op_addK K) pe_str (pe_joinK K pe_str (pe_lc (own := [("lap", 6)]) (by rfl) nd (pi_range1 rfl (T.free "range" 64) (pa_cons (pe_callF (c__law_take (P := P) (w := w) (K := K) (mg := mg) (base := base) T) (hr.mono (by decide)) (pa_cons (pv 0) (pa_cons pe_int pa_nil))) pa_nil)) (blkOk_by (N := ["pot", "many", "signs", "names", "at", "word", "lap"]) (sc := defScope s_law_names) (by decide +kernel)) (fun _ _ _ _ _ => (pg_name (i := 6) nd rfl (.inl rfl))) (fun _ _ _ _ _ => pts_nil) (fun _ _ _ _ _ => (pe_ix (ix_K K (hu_of hr)) (pv 2) (pe_callF (c__law_take (P := P) (w := w) (K := K) (mg := mg) (base := base) T) (hr.mono (by decide)) (pa_cons (pv 0) (pa_cons pe_int pa_nil))) (fun _ _ => rfl)))))))
      (pss_one (ps_ret (pe_ifExp (PW.pt (pw_or (pt_cmpR op_gt (pe_callF (c__law_take (P := P) (w := w) (K := K) (mg := mg) (base := base) T) (hr.mono (by decide)) (pa_cons (pv 0) (pa_cons pe_int pa_nil))) pe_int (nomark _)) (pw_or1 (pt_cmpR (op_inK K w hr65) (pv 5) (pv 3) (by rfl))))) (pv 3) (pe_op (op_addK K) (pe_slice (sl_K K) (pv 3) po_none (po_some (pe_un un_neg pe_int))) (pe_lst (pa_cons (pv 5) pa_nil))))))))), ?_⟩
  rintro m ds G hm hl ⟨m1, rfl, h1, h2, hG⟩
  have hm' : m + 50 ≤ 1000000000 := hm
  walk_at "go"
  walk_at "lc"
  refine wi_range1 ?_
  walk_at "go"
  refine ⟨by decide, by decide, by rw [rangeD_len]; decide, lcI_map (ws := List.range 44) (enc := fun (i : Nat) => .int (0 + (i : Int))) (res := fun (i : Nat) => .str (("n" : Str) ++ numS (0 + (i : Int)))) rfl (fun i hi => ?_) ?_⟩
  · have hi4 : i < 44 := List.mem_range.mp hi
    have k1 : (Str.ofString "n").length = 1 := by decide +kernel
    have k3 : (Str.ofString (toString (0 + (i : Int)))).length ≤ 3 := by rw [len_tl, tl_numS]; exact numC_len (by decide : 0 < 2) (by omega)
    walk_at "go"
    refine q_str (log_small (k := 6) (by omega) (by decide) (by decide)) ?_
    refine q_addS (Nat.le_trans (m := 100) (by omega) (by decide)) ?_
    exact ⟨rfl, rfl⟩
  refine q_addL (by rw [List.length_map, List.length_range]; exact Nat.le_trans (m := 100) (by show 6 + 44 ≤ 100; decide) (by decide)) ?_
  walk_at "go"
  refine ⟨(by show m + 40 ≤ 1000000000; omega), rfl, poolS, m1, ?_, by show m1 ≤ 50; omega, h2, by show 50 ≤ 100; decide, fun ys zs hy hp => ?_⟩
  · unfold poolS
    rw [List.map_append, List.map_map]
    rfl
  have nd0 : ys.Nodup := (List.nodup_append.mp (hp.nodup_iff.mpr pool_nodup)).1
  have nm0 : ∀ n ∈ ys, nameB n = true := fun n hn => List.all_eq_true.mp pool_names n (hp.subset (List.mem_append_left _ hn))
  have fin0 : G (.lst (ys.map D.str)) := hG ys hy nd0 nm0
  walk_at "go"
  walk_at "lc"
  refine wi_range1 ?_
  walk_at "go"
  refine ⟨(by show m + 40 + 1 ≤ 1000000000; omega), rfl, 7, rfl, by decide, by decide, fun k k0 k7 => ?_⟩
  walk_at "x1"
  refine ⟨by omega, by omega, by rw [rangeD_len]; exact Nat.lt_of_le_of_lt (by omega : k.toNat ≤ 100) (by decide), ?_⟩
  refine ⟨fun i acc ρ' => ∃ (ws : List Str) (m' : Nat), ρ' = [SD.pot m', .d (.int m1), .d (.str (Str.ofString "abcdefghijklmnopqrstuvwxyz0123456789")), .d (.lst (ys.map D.str)), .un, .un, .un] ∧ acc = ws.map D.str ∧ ws.length = i ∧ (∀ w ∈ ws, ∃ c, w = ⟨#[c]⟩ ∧ c ∈ signC) ∧ m' ≤ m + 41 + i, ?_, ?_, ?_, ?_⟩
  · exact ⟨[], m + 41, rfl, rfl, rfl, (fun w hw => nomatch hw), Nat.le_refl _⟩
  · rintro i acc ρ' ⟨ws, m', rfl, _⟩
    exact ⟨rfl, rfl⟩
  · rintro i acc ρi x hx hl2 ⟨ws, m', rfl, rfl, w1, w2, w3⟩
    have hi : i < 7 := by
      obtain ⟨hi, -⟩ := List.getElem?_eq_some_iff.mp hx
      rw [rangeD_len] at hi
      omega
    refine wg_name ?_
    refine wt_yes ⟨fun _ => ?_, (fun z => by cases z)⟩
    walk_at "go"
    refine ⟨(by show m' + 1 ≤ 1000000000; omega), rfl, 36, rfl, by decide, by decide, fun d d0 d36 => ?_⟩
    obtain ⟨c, hc1, hc2⟩ := sign_at d0 d36
    refine q_ixS (Nat.le_trans (by decide +kernel : _ ≤ 36) (by decide)) hc1 ?_
    refine ⟨ws ++ [⟨#[c]⟩], m' + 1, rfl, by rw [List.map_append]; rfl, by rw [List.length_append, w1]; rfl, fun w hw => ?_, by omega⟩
    rcases List.mem_append.mp hw with hw | hw
    · exact w2 w hw
    · exact ⟨c, List.mem_singleton.mp hw, hc2⟩
  · rintro acc ρ' ⟨ws, m', rfl, rfl, w1, w2, w3⟩
    rw [rangeD_len] at w1 w3
    obtain ⟨n1, n2, n3⟩ := word_ok (ys := ws) (by omega) w2
    refine ⟨ws, .inl rfl, ?_, ?_⟩
    · have z : (Str.ofString "").length = 0 := by decide +kernel
      rw [z]
      omega
    · have z : (Str.ofString "of").length = 2 := by decide +kernel
      refine q_addS (Nat.le_trans (m := 100) (by rw [z]; exact Nat.le_trans (Nat.add_le_add_left n2 2) (by decide)) (by decide)) ?_
      generalize hW : (Str.ofString "of" ++ Txt.join (Str.ofString "") ws) = W at n1
      walk_at "go"
      refine ⟨(by show m' + 1 ≤ 1000000000; omega), rfl, 3, rfl, by decide, by decide, fun d d0 d3 => ?_⟩
      walk_at "go"
      refine ⟨fun h5 => ?_, fun h5 => ?_⟩
      · walk_at "go"
        refine .inl ⟨_, rfl, rfl, flat_strs (f := fun v : Str => v), ?_⟩
        rw [inF_str]
        walk_at "x1"
        refine ⟨fun h6 => ?_, fun h6 => ?_⟩
        · walk_at "go"
          exact ⟨fin0, _, rfl, by omega⟩
        · have h7 := of_decide_eq_false h6
          walk_at "go"
          have dl : ys.dropLast.length + 1 = m1 := by rw [List.length_dropLast]; omega
          rw [cut_last (by rw [List.length_map]; omega), ← List.map_dropLast]
          refine q_addL (by rw [List.length_map]; exact Nat.le_trans (m := 100) (by show ys.dropLast.length + 1 ≤ 100; omega) (by decide)) ?_
          rw [show ys.dropLast.map D.str ++ [D.str W] = (ys.dropLast ++ [W]).map D.str by rw [List.map_append]; rfl]
          refine ⟨hG _ (by rw [List.length_append]; exact dl) ?_ (fun n hn => ?_), _, rfl, by omega⟩
          · rw [List.nodup_append]
            refine ⟨nd0.sublist (List.dropLast_sublist ys), by simp, fun a ha b hb e => ?_⟩
            rw [List.mem_singleton] at hb
            subst hb
            subst e
            exact h7 ((List.dropLast_sublist ys).subset ha)
          · rcases List.mem_append.mp hn with hn | hn
            · exact nm0 n ((List.dropLast_sublist ys).subset hn)
            · rw [List.mem_singleton.mp hn]
              exact n1
      · refine ⟨fun h6 => ?_, (fun z => by cases z)⟩
        walk_at "go"
        exact ⟨fin0, _, rfl, by omega⟩
theorem sc__law_field : FnScope ["pot", "many", "wide", "spots", "name", "x", "y"] ["pot", "many", "wide"] (defScope s_law_field) := ⟨rfl, rfl, rfl, by decide +kernel, rfl, by decide +kernel, by decide +kernel⟩
theorem c__law_field (T : Tx K mg) : Lw.Cal P w K mg base "_law_field" 4 ["pot", "many", "wide"] (potSp K 2 1550 Sfd) := by
  obtain ⟨fd, F⟩ := Lh.def_of T.d 31 (d := ds_law_field)
  refine ⟨_, fd, T.glo "_law_field" 31, F.kp, F.bindsN (fun _ _ _ _ _ _ us hl => by
      match us, hl with
      | [_, _, _], _ => rfl), Lw.kbn_of F (fun _ _ _ _ _ _ j us ws hj h1 h2 => by
      match j, us, ws, hj, h1, h2 with
      | 0, [], [_, _, _], _, _, _ => rfl
      | 1, [_], [_, _], _, _, _ => rfl
      | 2, [_, _], [_], _, _, _ => rfl
      | 3, [_, _, _], [], _, _, _ => rfl), ?_⟩
  have nd := sc__law_field.nd
  refine Lw.fn_pot F sc__law_field rfl (by decide) fun cdv A outer s H E hr => ?_
  have hr65 := Lw.room65 hr
  refine ⟨_, (pss_cons (ps_set (i := 3) nd rfl (Or.inl rfl) (pe_callF (c__law_spots (P := P) (w := w) (K := K) (mg := mg) (base := base) T) (hr.mono (by decide)) (pa_cons (pv 0) (pa_cons (pv 1) (pa_cons (pv 2) pa_nil)))))
      (pss_one (ps_ret (pe_lc (own := [("name", 4), ("x", 5), ("y", 6)]) (by rfl) nd (pi_zipK K (by rfl) (T.free "zip" 70) (pa_cons (pe_callF (c__law_names (P := P) (w := w) (K := K) (mg := mg) (base := base) T) (hr.mono (by decide)) (pa_cons (pv 0) (pa_cons (pe_callB (call_lenK K) (by rfl) (T.free "len" 59) (by decide +kernel) (pa_cons (pv 3) pa_nil)) pa_nil))) (pa_cons (pv 3) pa_nil))) (blkOk_by (N := ["pot", "many", "wide", "spots", "name", "x", "y"]) (sc := defScope s_law_field) (by decide +kernel)) (fun _ _ _ _ _ => (pg_seqK (n := 2) K rfl (pgs_cons (pg_name (i := 4) nd rfl (.inl rfl)) (pgs_cons (pg_seqK (n := 2) K rfl (pgs_cons (pg_name (i := 5) nd rfl (.inl rfl)) (pgs_cons (pg_name (i := 6) nd rfl (.inl rfl)) pgs_nil))) pgs_nil)))) (fun _ _ _ _ _ => pts_nil) (fun _ _ _ _ _ => (pe_tup (pa_cons (pv 4) (pa_cons (pv 5) (pa_cons (pv 6) pa_nil))))))))), ?_⟩
  rintro m ds G hm hl ⟨m1, w1, rfl, h1, h2, h3, h4, hG⟩
  have hm' : m + 1550 ≤ 1000000000 := hm
  walk_at "go"
  refine ⟨(by show m + 1500 ≤ 1000000000; omega), rfl, m1, w1, rfl, h1, h2, h3, h4, fun ss hs => ?_⟩
  obtain ⟨s1, s2, s3, s4⟩ := hs
  walk_at "go"
  walk_at "lc"
  refine wi_zip ?_
  walk_at "go"
  refine ⟨(by show m + 1500 + 50 ≤ 1000000000; omega), rfl, ss.length, by rw [List.length_map], s1, by omega, fun ns n1 n2 n3 => ?_⟩
  walk_at "go"
  refine ⟨_, _, .inl ⟨rfl, rfl⟩, ?_⟩
  have ez : zipD (ns.map D.str) (ss.map spD) = (ns.zip ss).map fun p => .tup [.str p.1, spD p.2] := by
    unfold zipD
    rw [List.zip_map, List.map_map]
    rfl
  have m1' : (ns.zip ss).map (·.1) = ns := List.map_fst_zip (by omega)
  have m2' : (ns.zip ss).map (·.2) = ss := List.map_snd_zip (by omega)
  have ln : (ns.zip ss).length = ss.length := by rw [List.length_zip]; omega
  have ok : ∀ v ∈ ns.zip ss, v.1 ∈ ns ∧ v.2 ∈ ss := fun v hv => List.of_mem_zip hv
  rw [ez]
  refine ⟨by rw [List.length_map, ln]; exact Nat.lt_of_le_of_lt (by omega : ss.length ≤ 40) (by decide), lcI_map (ws := ns.zip ss) (enc := fun p => .tup [.str p.1, spD p.2]) (res := wellD) rfl (fun u hu => ?_) ?_⟩
  · walk_at "seq"
    walk_at "go"
    walk_at "seq"
    walk_at "go"
    exact rfl
  · refine ⟨hG _ ⟨fun e => ?_, by omega, fun v hv => ⟨n3 _ (ok v hv).1, Nat.le_trans (s4 _ (ok v hv).2).1 (by decide), Nat.le_trans (s4 _ (ok v hv).2).2 (by decide)⟩, by rw [m1']; exact n2, by rw [m2']; exact s3⟩ (by omega) (fun v hv => s4 _ (ok v hv).2), _, rfl, Nat.le_refl _⟩
    rw [e] at ln
    simp only [List.length_nil] at ln
    omega
theorem sc__law_lies : FnScope ["p", "q", "r"] ["p", "q", "r"] (defScope s_law_lies) := ⟨rfl, rfl, rfl, by decide +kernel, rfl, by decide +kernel, by decide +kernel⟩
theorem c__law_lies (T : Tx K mg) : Lw.Cal P w K mg base "_law_lies" 2 ["p", "q", "r"] (pureSp K 3 (S3 fun a b c => .bl (liesB a b c))) := by
  obtain ⟨fd, F⟩ := Lh.def_of T.d 36 (d := ds_law_lies)
  refine ⟨_, fd, T.glo "_law_lies" 36, F.kp, F.bindsN (fun _ _ _ _ _ _ us hl => by
      match us, hl with
      | [_, _, _], _ => rfl), Lw.kbn_of F (fun _ _ _ _ _ _ j us ws hj h1 h2 => by
      match j, us, ws, hj, h1, h2 with
      | 0, [], [_, _, _], _, _, _ => rfl
      | 1, [_], [_, _], _, _, _ => rfl
      | 2, [_, _], [_], _, _, _ => rfl
      | 3, [_, _, _], [], _, _, _ => rfl), ?_⟩
  have nd := sc__law_lies.nd
  refine Lw.fn_pure F sc__law_lies rfl (by decide) fun cdv A outer s H E hr => ?_
  have hr65 := Lw.room65 hr
  refine ⟨_, (pss_cons (ps_if (pt_cmpR (op_neK K hr.units) (pe_callF (c__law_bend (P := P) (w := w) (K := K) (mg := mg) (base := base) T) (hr.mono (by decide)) (pa_cons (pv 0) (pa_cons (pv 1) (pa_cons (pv 2) pa_nil)))) pe_int (nomark _)) (pss_one (ps_ret pe_bl)) pss_nil)
      (pss_one (ps_ret (pe_and (pe_chain op_le op_le (pe_callB (call_min2 rfl) (by rfl) (T.free "min" 62) (by decide +kernel) (pa_cons (pe_ix (ix_K K (hu_of hr)) (pv 0) pe_int (fun _ _ => rfl)) (pa_cons (pe_ix (ix_K K (hu_of hr)) (pv 1) pe_int (fun _ _ => rfl)) pa_nil))) (pe_ix (ix_K K (hu_of hr)) (pv 2) pe_int (fun _ _ => rfl)) (pe_callB (call_max2 rfl) (by rfl) (T.free "max" 61) (by decide +kernel) (pa_cons (pe_ix (ix_K K (hu_of hr)) (pv 0) pe_int (fun _ _ => rfl)) (pa_cons (pe_ix (ix_K K (hu_of hr)) (pv 1) pe_int (fun _ _ => rfl)) pa_nil)))) (pe_one (pe_chain op_le op_le (pe_callB (call_min2 rfl) (by rfl) (T.free "min" 62) (by decide +kernel) (pa_cons (pe_ix (ix_K K (hu_of hr)) (pv 0) pe_int (fun _ _ => rfl)) (pa_cons (pe_ix (ix_K K (hu_of hr)) (pv 1) pe_int (fun _ _ => rfl)) pa_nil))) (pe_ix (ix_K K (hu_of hr)) (pv 2) pe_int (fun _ _ => rfl)) (pe_callB (call_max2 rfl) (by rfl) (T.free "max" 61) (by decide +kernel) (pa_cons (pe_ix (ix_K K (hu_of hr)) (pv 0) pe_int (fun _ _ => rfl)) (pa_cons (pe_ix (ix_K K (hu_of hr)) (pv 1) pe_int (fun _ _ => rfl)) pa_nil))))))))), ?_⟩
  rintro ds G hl ⟨a, b, c, rfl, ha, hb, hc, hG⟩
  have fin : ∀ x : Bool, liesB a b c = x → G (.bl x) := fun x e => by
    rw [← e]
    exact hG
  walk_at "go"
  refine ⟨a, b, c, rfl, ha, hb, hc, ?_⟩
  walk_at "go"
  refine ⟨fun h => ?_, fun h => ?_⟩
  · have e : decide (bendI a b c = 0) = false := by simpa using h
    walk_at "go"
    exact fin _ (by unfold liesB; rw [e, Bool.false_and])
  · have e : decide (bendI a b c = 0) = true := by simpa using h
    walk_at "go"
    refine ⟨fun h1 => ?_, fun h1 => ?_⟩
    · walk_at "go"
      refine ⟨fun h2 => ?_, fun h2 => ?_⟩
      · walk_at "go"
        refine ⟨fun h3 => ?_, fun h3 => ?_⟩
        · walk_at "go"
          refine fin _ ?_
          unfold liesB btw
          rw [e, show decide ((if b.1 < a.1 then b.1 else a.1) ≤ c.1) = true from h1, show decide (c.1 ≤ (if b.1 > a.1 then b.1 else a.1)) = true from h2, show decide ((if b.2 < a.2 then b.2 else a.2) ≤ c.2) = true from h3]
          rfl
        · refine fin _ ?_
          unfold liesB btw
          rw [show decide ((if b.2 < a.2 then b.2 else a.2) ≤ c.2) = false from h3]
          simp
      · refine fin _ ?_
        unfold liesB btw
        rw [show decide (c.1 ≤ (if b.1 > a.1 then b.1 else a.1)) = false from h2]
        simp
    · walk_at "go"
      refine ⟨(fun z => by cases z), fun _ => ?_⟩
      refine fin _ ?_
      unfold liesB btw
      rw [show decide ((if b.1 < a.1 then b.1 else a.1) ≤ c.1) = false from h1]
      simp
theorem sc__law_meeting : FnScope ["p", "q", "r", "s", "ends", "spot", "first", "other"] ["p", "q", "r", "s"] (defScope s_law_meeting) := ⟨rfl, rfl, rfl, by decide +kernel, rfl, by decide +kernel, by decide +kernel⟩
theorem c__law_meeting (T : Tx K mg) : Lw.Cal P w K mg base "_law_meeting" 3 ["p", "q", "r", "s"] (pureSp K 4 Smet) := by
  obtain ⟨fd, F⟩ := Lh.def_of T.d 37 (d := ds_law_meeting)
  refine ⟨_, fd, T.glo "_law_meeting" 37, F.kp, F.bindsN (fun _ _ _ _ _ _ us hl => by
      match us, hl with
      | [_, _, _, _], _ => rfl), Lw.kbn_of F (fun _ _ _ _ _ _ j us ws hj h1 h2 => by
      match j, us, ws, hj, h1, h2 with
      | 0, [], [_, _, _, _], _, _, _ => rfl
      | 1, [_], [_, _, _], _, _, _ => rfl
      | 2, [_, _], [_, _], _, _, _ => rfl
      | 3, [_, _, _], [_], _, _, _ => rfl
      | 4, [_, _, _, _], [], _, _, _ => rfl), ?_⟩
  have nd := sc__law_meeting.nd
  refine Lw.fn_pure F sc__law_meeting rfl (by decide) fun cdv A outer s H E hr => ?_
  have hr65 := Lw.room65 hr
  refine ⟨_, (pss_cons (ps_set (i := 4) nd rfl (Or.inl rfl) (pe_op (op_addK K) (pe_lc (own := [("spot", 5)]) (by rfl) nd (pi_anyK K (pe_tup (pa_cons (pv 0) (pa_cons (pv 1) pa_nil)))) (blkOk_by (N := ["p", "q", "r", "s", "ends", "spot", "first", "other"]) (sc := defScope s_law_meeting) (by decide +kernel)) (fun _ _ _ _ _ => (pg_name (i := 5) nd rfl (.inl rfl))) (fun _ _ _ _ _ => (pts_one (pt_val (pe_callF (c__law_lies (P := P) (w := w) (K := K) (mg := mg) (base := base) T) (hr.mono (by decide)) (pa_cons (pv 2) (pa_cons (pv 3) (pa_cons (pv 5) pa_nil))))))) (fun _ _ _ _ _ => (pv 5))) (pe_lc (own := [("spot", 5)]) (by rfl) nd (pi_anyK K (pe_tup (pa_cons (pv 2) (pa_cons (pv 3) pa_nil)))) (blkOk_by (N := ["p", "q", "r", "s", "ends", "spot", "first", "other"]) (sc := defScope s_law_meeting) (by decide +kernel)) (fun _ _ _ _ _ => (pg_name (i := 5) nd rfl (.inl rfl))) (fun _ _ _ _ _ => (pts_one (pt_val (pe_callF (c__law_lies (P := P) (w := w) (K := K) (mg := mg) (base := base) T) (hr.mono (by decide)) (pa_cons (pv 0) (pa_cons (pv 1) (pa_cons (pv 5) pa_nil))))))) (fun _ _ _ _ _ => (pv 5)))))
      (pss_cons (ps_if (pt_cmpR (op_neK K hr.units) (pv 4) (pe_lst pa_nil) (nomark _)) (pss_one (ps_ret (pe_ifExp (pt_cmpR op_gt (pe_lenSetT rfl hr.units (T.free "len" 59) (T.free "set" 66) (pv 4)) pe_int (nomark _)) pe_str pe_str))) pss_nil)
      (pss_cons (ps_set (i := 6) nd rfl (Or.inl rfl) (pe_op op_mulA (pe_callF (c__law_sign (P := P) (w := w) (K := K) (mg := mg) (base := base) T) (hr.mono (by decide)) (pa_cons (pe_callF (c__law_bend (P := P) (w := w) (K := K) (mg := mg) (base := base) T) (hr.mono (by decide)) (pa_cons (pv 0) (pa_cons (pv 1) (pa_cons (pv 2) pa_nil)))) pa_nil)) (pe_callF (c__law_sign (P := P) (w := w) (K := K) (mg := mg) (base := base) T) (hr.mono (by decide)) (pa_cons (pe_callF (c__law_bend (P := P) (w := w) (K := K) (mg := mg) (base := base) T) (hr.mono (by decide)) (pa_cons (pv 0) (pa_cons (pv 1) (pa_cons (pv 3) pa_nil)))) pa_nil))))
      (pss_cons (ps_set (i := 7) nd rfl (Or.inl rfl) (pe_op op_mulA (pe_callF (c__law_sign (P := P) (w := w) (K := K) (mg := mg) (base := base) T) (hr.mono (by decide)) (pa_cons (pe_callF (c__law_bend (P := P) (w := w) (K := K) (mg := mg) (base := base) T) (hr.mono (by decide)) (pa_cons (pv 2) (pa_cons (pv 3) (pa_cons (pv 0) pa_nil)))) pa_nil)) (pe_callF (c__law_sign (P := P) (w := w) (K := K) (mg := mg) (base := base) T) (hr.mono (by decide)) (pa_cons (pe_callF (c__law_bend (P := P) (w := w) (K := K) (mg := mg) (base := base) T) (hr.mono (by decide)) (pa_cons (pv 2) (pa_cons (pv 3) (pa_cons (pv 1) pa_nil)))) pa_nil))))
      (pss_one (ps_ret (pe_ifExp (PW.pt (pw_and (pt_cmpR op_lt (pv 6) pe_int (nomark _)) (pw_and1 (pt_cmpR op_lt (pv 7) pe_int (nomark _))))) pe_str pe_str))))))), ?_⟩
  rintro ds G hl ⟨a, b, c, d, rfl, ha, hb, hc, hd, hG⟩
  have fin : ∀ x : Str, metS a b c d = x → G (.str x) := fun x e => by
    rw [← e]
    exact hG
  walk_at "go"
  walk_at "cx"
  walk_at "lc"
  refine wi_any ?_
  walk_at "go"
  refine lcI_typed (ws := [a, b]) (enc := spD) (res := spD) (p := fun s => liesB c d s) rfl (fun u hu => ?_) ?_
  · have hok : SpOk u := by
      simp only [List.mem_cons, List.not_mem_nil, or_false] at hu
      rcases hu with rfl | rfl
      · exact ha
      · exact hb
    walk_at "go"
    refine ⟨c, d, u, rfl, hc, hd, hok, ?_⟩
    walk_at "x1"
    refine ⟨rfl, fun z => ?_, fun z => rfl⟩
    walk_at "go"
    exact rfl
  walk_at "lc"
  refine wi_any ?_
  walk_at "go"
  refine lcI_typed (ws := [c, d]) (enc := spD) (res := spD) (p := fun s => liesB a b s) rfl (fun u hu => ?_) ?_
  · have hok : SpOk u := by
      simp only [List.mem_cons, List.not_mem_nil, or_false] at hu
      rcases hu with rfl | rfl
      · exact hc
      · exact hd
    walk_at "go"
    refine ⟨a, b, u, rfl, ha, hb, hok, ?_⟩
    walk_at "x1"
    refine ⟨rfl, fun z => ?_, fun z => rfl⟩
    walk_at "go"
    exact rfl
  have hL : (endsL a b c d).length ≤ 4 := ends_len
  refine q_addL (by rw [← List.length_append, ← List.map_append, List.length_map]; exact Nat.le_trans hL (by decide)) ?_
  rw [← List.map_append]
  change WG K (gName 4) (.lst ((endsL a b c d).map spD)) _ _
  walk_at "go"
  refine q_eqL pl_spots rfl ?_
  rw [eqb_nil]
  walk_at "x1"
  refine ⟨fun h => ?_, fun h => ?_⟩
  · have hne : endsL a b c d ≠ [] := by simpa using h
    have h0 : (commonS a b c d).length ≠ 0 := fun z => hne (common_nil.mp z)
    walk_at "go"
    refine ⟨(endsL a b c d).map fun p => [p.1, p.2], by rw [List.map_map]; rfl, by rw [List.length_map]; omega, fun n hn => ?_⟩
    rw [dist_len hn]
    walk_at "go"
    refine ⟨fun h2 => ?_, fun h2 => ?_⟩
    · walk_at "go"
      exact fin _ (by unfold metS; rw [if_pos (by have := of_decide_eq_true h2; omega)])
    · walk_at "go"
      exact fin _ (by unfold metS; rw [if_neg (by have := of_decide_eq_false h2; omega), if_pos (by have := of_decide_eq_false h2; omega)])
  · have he : endsL a b c d = [] := by simpa using h
    have h0 : (commonS a b c d).length = 0 := common_nil.mpr he
    have mm : metS a b c d = if crossB a b c d = true then ("cross" : Str) else ("apart" : Str) := by
      unfold metS
      rw [if_neg (by omega), if_neg (by omega)]
    have s1 := sg_le (x := bendI a b c)
    have s2 := sg_le (x := bendI a b d)
    have s3 := sg_le (x := bendI c d a)
    have s4 := sg_le (x := bendI c d b)
    walk_at "go"
    refine ⟨a, b, c, rfl, ha, hb, hc, ?_⟩
    walk_at "go"
    refine ⟨_, rfl, ?_⟩
    walk_at "go"
    refine ⟨a, b, d, rfl, ha, hb, hd, ?_⟩
    walk_at "go"
    refine ⟨_, rfl, ?_⟩
    walk_at "go"
    refine ⟨c, d, a, rfl, hc, hd, ha, ?_⟩
    walk_at "go"
    refine ⟨_, rfl, ?_⟩
    walk_at "go"
    refine ⟨c, d, b, rfl, hc, hd, hb, ?_⟩
    walk_at "go"
    refine ⟨_, rfl, ?_⟩
    walk_at "go"
    refine ⟨fun h4 => ?_, fun h4 => ?_⟩
    · rw [sg_mul] at h4
      walk_at "go"
      refine ⟨fun h5 => ?_, fun h5 => ?_⟩
      · rw [sg_mul] at h5
        walk_at "go"
        exact fin _ (by rw [mm, if_pos (by unfold crossB; rw [h4, h5]; rfl)])
      · rw [sg_mul] at h5
        walk_at "go"
        exact fin _ (by rw [mm, if_neg (by unfold crossB; rw [h4, h5]; decide)])
    · rw [sg_mul] at h4
      refine ⟨(fun z => by cases z), fun _ => ?_⟩
      walk_at "go"
      exact fin _ (by rw [mm, if_neg (by unfold crossB; rw [h4, Bool.false_and]; decide)])
theorem sc__law_right : FnScope ["pot", "own", "field", "places", "names", "name", "x", "y", "lap", "one", "other", "third", "fourth", "lap_of", "a", "b", "c", "d", "side", "far", "due", "right", "back", "about", "glass", "some"] ["pot"] (defScope s_law_right) := ⟨rfl, rfl, rfl, by decide +kernel, rfl, by decide +kernel, by decide +kernel⟩
theorem c__law_right (T : Tx K mg) : Lw.Cal P w K mg base "_law_right" 9 ["pot"] (potSp K 0 2200 Srt) := by
  obtain ⟨fd, F⟩ := Lh.def_of T.d 38 (d := ds_law_right)
  refine ⟨_, fd, T.glo "_law_right" 38, F.kp, F.bindsN (fun _ _ _ _ _ _ us hl => by
      match us, hl with
      | [_], _ => rfl), Lw.kbn_of F (fun _ _ _ _ _ _ j us ws hj h1 h2 => by
      match j, us, ws, hj, h1, h2 with
      | 0, [], [_], _, _, _ => rfl
      | 1, [_], [], _, _, _ => rfl), ?_⟩
  have nd := sc__law_right.nd
  refine Lw.fn_pot F sc__law_right rfl (by decide) fun cdv A outer s H E hr => ?_
  have hr65 := Lw.room65 hr
  refine ⟨_, (pss_cons (ps_set (i := 1) nd rfl (Or.inl rfl) (pe_callF (c__law_field (P := P) (w := w) (K := K) (mg := mg) (base := base) T) (hr.mono (by decide)) (pa_cons (pv 0) (pa_cons (pe_op (op_addK K) pe_int (pe_callF (c__law_take (P := P) (w := w) (K := K) (mg := mg) (base := base) T) (hr.mono (by decide)) (pa_cons (pv 0) (pa_cons pe_int pa_nil)))) (pa_cons (pe_callF (c__law_of (P := P) (w := w) (K := K) (mg := mg) (base := base) T) (hr.mono (by decide)) (pa_cons (pv 0) (pa_cons (pe_lst (pa_cons pe_int (pa_cons pe_int (pa_cons pe_int pa_nil)))) pa_nil))) pa_nil)))))
      (pss_cons (ps_asg (pe_tup (pa_cons (pe_makeF (m_Field (P := P) (w := w) (K := K) (mg := mg) (base := base) T) (hr.mono (by decide)) (pa_cons (pe_callF (c__law_text (P := P) (w := w) (K := K) (mg := mg) (base := base) T) (hr.mono (by decide)) (pa_cons (pv 1) pa_nil)) pa_nil)) (pa_cons (pe_callF (c__law_places (P := P) (w := w) (K := K) (mg := mg) (base := base) T) (hr.mono (by decide)) (pa_cons (pv 1) pa_nil)) (pa_cons (pe_lc (own := [("name", 5), ("x", 6), ("y", 7)]) (by rfl) nd (pi_anyK K (pv 1)) (blkOk_by (N := ["pot", "own", "field", "places", "names", "name", "x", "y", "lap", "one", "other", "third", "fourth", "lap_of", "a", "b", "c", "d", "side", "far", "due", "right", "back", "about", "glass", "some"]) (sc := defScope s_law_right) (by decide +kernel)) (fun _ _ _ _ _ => (pg_seqK (n := 3) K rfl (pgs_cons (pg_name (i := 5) nd rfl (.inl rfl)) (pgs_cons (pg_name (i := 6) nd rfl (.inl rfl)) (pgs_cons (pg_name (i := 7) nd rfl (.inl rfl)) pgs_nil))))) (fun _ _ _ _ _ => pts_nil) (fun _ _ _ _ _ => (pv 5))) pa_nil)))) (pg_seqK (n := 3) K rfl (pgs_cons (pg_name (i := 2) nd rfl (.inl rfl)) (pgs_cons (pg_name (i := 3) nd rfl (.inr rfl)) (pgs_cons (pg_name (i := 4) nd rfl (.inr rfl)) pgs_nil)))))
      (pss_cons (ps_for PassesOwn.never rfl (pi_range1 rfl (T.free "range" 64) (pa_cons pe_int pa_nil)) (pg_name (i := 8) nd rfl (.inl rfl)) (pss_cons (ps_asg (pe_lc (own := [("lap_of", 13)]) (by rfl) nd (pi_range1 rfl (T.free "range" 64) (pa_cons pe_int pa_nil)) (blkOk_by (N := ["pot", "own", "field", "places", "names", "name", "x", "y", "lap", "one", "other", "third", "fourth", "lap_of", "a", "b", "c", "d", "side", "far", "due", "right", "back", "about", "glass", "some"]) (sc := defScope s_law_right) (by decide +kernel)) (fun _ _ _ _ _ => (pg_name (i := 13) nd rfl (.inl rfl))) (fun _ _ _ _ _ => pts_nil) (fun _ _ _ _ _ => (pe_callF (c__law_of (P := P) (w := w) (K := K) (mg := mg) (base := base) T) (hr.mono (by decide)) (pa_cons (pv 0) (pa_cons (pv 4) pa_nil))))) (pg_seqK (n := 4) K rfl (pgs_cons (pg_name (i := 9) nd rfl (.inr rfl)) (pgs_cons (pg_name (i := 10) nd rfl (.inr rfl)) (pgs_cons (pg_name (i := 11) nd rfl (.inr rfl)) (pgs_cons (pg_name (i := 12) nd rfl (.inl rfl)) pgs_nil))))))
      (pss_cons (ps_asg (pe_lc (own := [("name", 5)]) (by rfl) nd (pi_anyK K (pe_tup (pa_cons (pv 9) (pa_cons (pv 10) (pa_cons (pv 11) (pa_cons (pv 12) pa_nil)))))) (blkOk_by (N := ["pot", "own", "field", "places", "names", "name", "x", "y", "lap", "one", "other", "third", "fourth", "lap_of", "a", "b", "c", "d", "side", "far", "due", "right", "back", "about", "glass", "some"]) (sc := defScope s_law_right) (by decide +kernel)) (fun _ _ _ _ _ => (pg_name (i := 5) nd rfl (.inl rfl))) (fun _ _ _ _ _ => pts_nil) (fun _ _ _ _ _ => (pe_ix (ix_K K (hu_of hr)) (pv 3) (pv 5) (fun _ _ => rfl)))) (pg_seqK (n := 4) K rfl (pgs_cons (pg_name (i := 14) nd rfl (.inl rfl)) (pgs_cons (pg_name (i := 15) nd rfl (.inl rfl)) (pgs_cons (pg_name (i := 16) nd rfl (.inl rfl)) (pgs_cons (pg_name (i := 17) nd rfl (.inl rfl)) pgs_nil))))))
      (pss_cons (ps_set (i := 18) nd rfl (Or.inl rfl) (pe_callF (c__law_sign (P := P) (w := w) (K := K) (mg := mg) (base := base) T) (hr.mono (by decide)) (pa_cons (pe_callF (c__law_bend (P := P) (w := w) (K := K) (mg := mg) (base := base) T) (hr.mono (by decide)) (pa_cons (pv 14) (pa_cons (pv 15) (pa_cons (pv 16) pa_nil)))) pa_nil)))
      (pss_cons (ps_if (pt_cmpR (op_neK K hr.units) (pe_callB call_reprF (by rfl) (T.free "repr" 65) (by decide +kernel) (pa_cons (pe_callFk0 (c_turn (P := P) (w := w) (K := K) (mg := mg) (base := base) T) (hr.mono (by decide)) (pk_cons (pv 2) (pk_cons (pv 9) (pk_cons (pv 10) (pk_cons (pv 11) pk_nil))))) pa_nil)) (pe_callB call_reprF (by rfl) (T.free "repr" 65) (by decide +kernel) (pa_cons (pv 18) pa_nil)) (nomark _)) (pss_one (ps_ret pe_bl)) pss_nil)
      (pss_cons (ps_if (PW.pt (pw_or (pt_cmpR (op_neK K hr.units) (pe_callF (c_turn (P := P) (w := w) (K := K) (mg := mg) (base := base) T) (hr.mono (by decide)) (pa_cons (pv 2) (pa_cons (pv 10) (pa_cons (pv 11) (pa_cons (pv 9) pa_nil))))) (pv 18) (nomark _)) (pw_or1 (pt_cmpR (op_neK K hr.units) (pe_callF (c_turn (P := P) (w := w) (K := K) (mg := mg) (base := base) T) (hr.mono (by decide)) (pa_cons (pv 2) (pa_cons (pv 10) (pa_cons (pv 9) (pa_cons (pv 11) pa_nil))))) (pe_op op_sub pe_int (pv 18)) (nomark _))))) (pss_one (ps_ret pe_bl)) pss_nil)
      (pss_cons (ps_set (i := 19) nd rfl (Or.inl rfl) (pe_op (op_addK K) (pe_op op_mulA (pe_op op_sub (pe_ix (ix_K K (hu_of hr)) (pv 14) pe_int (fun _ _ => rfl)) (pe_ix (ix_K K (hu_of hr)) (pv 15) pe_int (fun _ _ => rfl))) (pe_op op_sub (pe_ix (ix_K K (hu_of hr)) (pv 14) pe_int (fun _ _ => rfl)) (pe_ix (ix_K K (hu_of hr)) (pv 15) pe_int (fun _ _ => rfl)))) (pe_op op_mulA (pe_op op_sub (pe_ix (ix_K K (hu_of hr)) (pv 14) pe_int (fun _ _ => rfl)) (pe_ix (ix_K K (hu_of hr)) (pv 15) pe_int (fun _ _ => rfl))) (pe_op op_sub (pe_ix (ix_K K (hu_of hr)) (pv 14) pe_int (fun _ _ => rfl)) (pe_ix (ix_K K (hu_of hr)) (pv 15) pe_int (fun _ _ => rfl))))))
      (pss_cons (ps_if (PW.pt (pw_or (pt_cmpR (op_neK K hr.units) (pe_callB call_reprF (by rfl) (T.free "repr" 65) (by decide +kernel) (pa_cons (pe_callFk0 (c_apart (P := P) (w := w) (K := K) (mg := mg) (base := base) T) (hr.mono (by decide)) (pk_cons (pv 2) (pk_cons (pv 9) (pk_cons (pv 10) pk_nil)))) pa_nil)) (pe_callB call_reprF (by rfl) (T.free "repr" 65) (by decide +kernel) (pa_cons (pv 19) pa_nil)) (nomark _)) (pw_or1 (pt_cmpR (op_neK K hr.units) (pe_callF (c_apart (P := P) (w := w) (K := K) (mg := mg) (base := base) T) (hr.mono (by decide)) (pa_cons (pv 2) (pa_cons (pv 10) (pa_cons (pv 9) pa_nil)))) (pv 19) (nomark _))))) (pss_one (ps_ret pe_bl)) pss_nil)
      (pss_cons (ps_if (pt_cmpR (op_neK K hr.units) (pe_callB call_reprF (by rfl) (T.free "repr" 65) (by decide +kernel) (pa_cons (pe_callFk0 (c_on_side (P := P) (w := w) (K := K) (mg := mg) (base := base) T) (hr.mono (by decide)) (pk_cons (pv 2) (pk_cons (pv 9) (pk_cons (pv 10) (pk_cons (pv 11) pk_nil))))) pa_nil)) (pe_callB call_reprF (by rfl) (T.free "repr" 65) (by decide +kernel) (pa_cons (pe_callF (c__law_lies (P := P) (w := w) (K := K) (mg := mg) (base := base) T) (hr.mono (by decide)) (pa_cons (pv 14) (pa_cons (pv 15) (pa_cons (pv 16) pa_nil)))) pa_nil)) (nomark _)) (pss_one (ps_ret pe_bl)) pss_nil)
      (pss_cons (ps_set (i := 20) nd rfl (Or.inl rfl) (pe_callF (c__law_meeting (P := P) (w := w) (K := K) (mg := mg) (base := base) T) (hr.mono (by decide)) (pa_cons (pv 14) (pa_cons (pv 15) (pa_cons (pv 16) (pa_cons (pv 17) pa_nil))))))
      (pss_cons (ps_if (pt_cmpR (op_neK K hr.units) (pe_callB call_reprF (by rfl) (T.free "repr" 65) (by decide +kernel) (pa_cons (pe_callFk0 (c_meeting (P := P) (w := w) (K := K) (mg := mg) (base := base) T) (hr.mono (by decide)) (pk_cons (pv 2) (pk_cons (pv 9) (pk_cons (pv 10) (pk_cons (pv 11) (pk_cons (pv 12) pk_nil)))))) pa_nil)) (pe_callB call_reprF (by rfl) (T.free "repr" 65) (by decide +kernel) (pa_cons (pv 20) pa_nil)) (nomark _)) (pss_one (ps_ret pe_bl)) pss_nil)
      (pss_one (ps_if (pt_cmpR (op_neK K hr.units) (pe_callF (c_meeting (P := P) (w := w) (K := K) (mg := mg) (base := base) T) (hr.mono (by decide)) (pa_cons (pv 2) (pa_cons (pv 11) (pa_cons (pv 12) (pa_cons (pv 10) (pa_cons (pv 9) pa_nil)))))) (pv 20) (nomark _)) (pss_one (ps_ret pe_bl)) pss_nil)))))))))))))
      (pss_cons (ps_asg (pe_lc (own := [("lap", 8)]) (by rfl) nd (pi_range1 rfl (T.free "range" 64) (pa_cons pe_int pa_nil)) (blkOk_by (N := ["pot", "own", "field", "places", "names", "name", "x", "y", "lap", "one", "other", "third", "fourth", "lap_of", "a", "b", "c", "d", "side", "far", "due", "right", "back", "about", "glass", "some"]) (sc := defScope s_law_right) (by decide +kernel)) (fun _ _ _ _ _ => (pg_name (i := 8) nd rfl (.inl rfl))) (fun _ _ _ _ _ => pts_nil) (fun _ _ _ _ _ => (pe_callF (c__law_of (P := P) (w := w) (K := K) (mg := mg) (base := base) T) (hr.mono (by decide)) (pa_cons (pv 0) (pa_cons (pv 4) pa_nil))))) (pg_seqK (n := 3) K rfl (pgs_cons (pg_name (i := 9) nd rfl (.inr rfl)) (pgs_cons (pg_name (i := 10) nd rfl (.inr rfl)) (pgs_cons (pg_name (i := 11) nd rfl (.inr rfl)) pgs_nil)))))
      (pss_cons (ps_set (i := 21) nd rfl (Or.inr rfl) (pe_callTy call_intA (by rfl) (T.free "int" 57) (by decide +kernel) (pa_cons (pe_op op_sub (pe_callF (c__law_take (P := P) (w := w) (K := K) (mg := mg) (base := base) T) (hr.mono (by decide)) (pa_cons (pv 0) (pa_cons pe_int pa_nil))) pe_int) pa_nil)))
      (pss_cons (ps_set (i := 22) nd rfl (Or.inl rfl) (pe_callFk0 (c_moved (P := P) (w := w) (K := K) (mg := mg) (base := base) T) (hr.mono (by decide)) (pk_cons (pv 2) (pk_cons (pv 21) (pk_cons (pe_un un_neg pe_int) pk_nil)))))
      (pss_cons (ps_if (PW.pt (pw_or (pt_cmpR (op_neK K hr.units) (pe_propF (p_Field_spots_prop (P := P) (w := w) (K := K) (mg := mg) (base := base) T) (hr.mono (by decide)) (pv 22)) (pe_callTy (call_tupleK K) (by rfl) (T.free "tuple" 69) (by decide +kernel) (pa_cons (pe_lc (own := [("x", 6), ("y", 7)]) (by rfl) nd (pi_anyK K (pe_propF (p_Field_spots_prop (P := P) (w := w) (K := K) (mg := mg) (base := base) T) (hr.mono (by decide)) (pv 2))) (blkOk_by (N := ["pot", "own", "field", "places", "names", "name", "x", "y", "lap", "one", "other", "third", "fourth", "lap_of", "a", "b", "c", "d", "side", "far", "due", "right", "back", "about", "glass", "some"]) (sc := defScope s_law_right) (by decide +kernel)) (fun _ _ _ _ _ => (pg_seqK (n := 2) K rfl (pgs_cons (pg_name (i := 6) nd rfl (.inl rfl)) (pgs_cons (pg_name (i := 7) nd rfl (.inl rfl)) pgs_nil)))) (fun _ _ _ _ _ => pts_nil) (fun _ _ _ _ _ => (pe_tup (pa_cons (pe_op (op_addK K) (pv 6) (pv 21)) (pa_cons (pe_op op_sub (pv 7) pe_int) pa_nil))))) pa_nil)) (nomark _)) (pw_or1 (pt_cmpR (op_neK K hr.units) (pe_propF (p_Field_names_prop (P := P) (w := w) (K := K) (mg := mg) (base := base) T) (hr.mono (by decide)) (pv 22)) (pe_propF (p_Field_names_prop (P := P) (w := w) (K := K) (mg := mg) (base := base) T) (hr.mono (by decide)) (pv 2)) (nomark _))))) (pss_one (ps_ret pe_bl)) pss_nil)
      (pss_cons (ps_par (i := 23) (j := 24) (by rfl) nd rfl rfl (by decide) rfl rfl (pa_cons (pe_callFk0 (c_turned (P := P) (w := w) (K := K) (mg := mg) (base := base) T) (hr.mono (by decide)) (pk_cons (pv 2) pk_nil)) (pa_cons (pe_callFk0 (c_mirrored (P := P) (w := w) (K := K) (mg := mg) (base := base) T) (hr.mono (by decide)) (pk_cons (pv 2) pk_nil)) pa_nil)) (by rfl))
      (pss_cons (ps_if (pt_cmpR (op_neK K hr.units) (pe_propF (p_Field_spots_prop (P := P) (w := w) (K := K) (mg := mg) (base := base) T) (hr.mono (by decide)) (pv 23)) (pe_callTy (call_tupleK K) (by rfl) (T.free "tuple" 69) (by decide +kernel) (pa_cons (pe_lc (own := [("x", 6), ("y", 7)]) (by rfl) nd (pi_anyK K (pe_propF (p_Field_spots_prop (P := P) (w := w) (K := K) (mg := mg) (base := base) T) (hr.mono (by decide)) (pv 2))) (blkOk_by (N := ["pot", "own", "field", "places", "names", "name", "x", "y", "lap", "one", "other", "third", "fourth", "lap_of", "a", "b", "c", "d", "side", "far", "due", "right", "back", "about", "glass", "some"]) (sc := defScope s_law_right) (by decide +kernel)) (fun _ _ _ _ _ => (pg_seqK (n := 2) K rfl (pgs_cons (pg_name (i := 6) nd rfl (.inl rfl)) (pgs_cons (pg_name (i := 7) nd rfl (.inl rfl)) pgs_nil)))) (fun _ _ _ _ _ => pts_nil) (fun _ _ _ _ _ => (pe_tup (pa_cons (pe_op op_sub pe_int (pv 7)) (pa_cons (pv 6) pa_nil))))) pa_nil)) (nomark _)) (pss_one (ps_ret pe_bl)) pss_nil)
      (pss_cons (ps_if (pt_cmpR (op_neK K hr.units) (pe_propF (p_Field_spots_prop (P := P) (w := w) (K := K) (mg := mg) (base := base) T) (hr.mono (by decide)) (pv 24)) (pe_callTy (call_tupleK K) (by rfl) (T.free "tuple" 69) (by decide +kernel) (pa_cons (pe_lc (own := [("x", 6), ("y", 7)]) (by rfl) nd (pi_anyK K (pe_propF (p_Field_spots_prop (P := P) (w := w) (K := K) (mg := mg) (base := base) T) (hr.mono (by decide)) (pv 2))) (blkOk_by (N := ["pot", "own", "field", "places", "names", "name", "x", "y", "lap", "one", "other", "third", "fourth", "lap_of", "a", "b", "c", "d", "side", "far", "due", "right", "back", "about", "glass", "some"]) (sc := defScope s_law_right) (by decide +kernel)) (fun _ _ _ _ _ => (pg_seqK (n := 2) K rfl (pgs_cons (pg_name (i := 6) nd rfl (.inl rfl)) (pgs_cons (pg_name (i := 7) nd rfl (.inl rfl)) pgs_nil)))) (fun _ _ _ _ _ => pts_nil) (fun _ _ _ _ _ => (pe_tup (pa_cons (pe_op op_sub pe_int (pv 6)) (pa_cons (pv 7) pa_nil))))) pa_nil)) (nomark _)) (pss_one (ps_ret pe_bl)) pss_nil)
      (pss_cons (ps_set (i := 18) nd rfl (Or.inl rfl) (pe_callF (c_turn (P := P) (w := w) (K := K) (mg := mg) (base := base) T) (hr.mono (by decide)) (pa_cons (pv 2) (pa_cons (pv 9) (pa_cons (pv 10) (pa_cons (pv 11) pa_nil))))))
      (pss_cons (ps_if (pt_cmpR (op_neK K hr.units) (pe_lc (own := [("some", 25)]) (by rfl) nd (pi_anyK K (pe_tup (pa_cons (pv 22) (pa_cons (pv 23) (pa_cons (pv 24) pa_nil))))) (blkOk_by (N := ["pot", "own", "field", "places", "names", "name", "x", "y", "lap", "one", "other", "third", "fourth", "lap_of", "a", "b", "c", "d", "side", "far", "due", "right", "back", "about", "glass", "some"]) (sc := defScope s_law_right) (by decide +kernel)) (fun _ _ _ _ _ => (pg_name (i := 25) nd rfl (.inl rfl))) (fun _ _ _ _ _ => pts_nil) (fun _ _ _ _ _ => (pe_callF (c_turn (P := P) (w := w) (K := K) (mg := mg) (base := base) T) (hr.mono (by decide)) (pa_cons (pv 25) (pa_cons (pv 9) (pa_cons (pv 10) (pa_cons (pv 11) pa_nil))))))) (pe_lst (pa_cons (pv 18) (pa_cons (pv 18) (pa_cons (pe_op op_sub pe_int (pv 18)) pa_nil)))) (nomark _)) (pss_one (ps_ret pe_bl)) pss_nil)
      (pss_one (ps_ret (pe_and (pe_cmpR (op_eqI (m_Field___eq__ (P := P) (w := w) (K := K) (mg := mg) (base := base) T) (hr.mono (by decide))) (pe_callF (c_turned (P := P) (w := w) (K := K) (mg := mg) (base := base) T) (hr.mono (by decide)) (pa_cons (pe_callF (c_turned (P := P) (w := w) (K := K) (mg := mg) (base := base) T) (hr.mono (by decide)) (pa_cons (pe_callF (c_turned (P := P) (w := w) (K := K) (mg := mg) (base := base) T) (hr.mono (by decide)) (pa_cons (pv 23) pa_nil)) pa_nil)) pa_nil)) (pv 2) (nomark _)) (pe_and (pe_cmpR (op_eqI (m_Field___eq__ (P := P) (w := w) (K := K) (mg := mg) (base := base) T) (hr.mono (by decide))) (pe_callF (c_mirrored (P := P) (w := w) (K := K) (mg := mg) (base := base) T) (hr.mono (by decide)) (pa_cons (pv 24) pa_nil)) (pv 2) (nomark _)) (pe_one (pe_cmpR (op_eqI (m_Field___eq__ (P := P) (w := w) (K := K) (mg := mg) (base := base) T) (hr.mono (by decide))) (pe_callF (c_moved (P := P) (w := w) (K := K) (mg := mg) (base := base) T) (hr.mono (by decide)) (pa_cons (pv 22) (pa_cons (pe_op op_sub pe_int (pv 21)) (pa_cons pe_int pa_nil)))) (pv 2) (nomark _))))))))))))))))))), ?_⟩
  rintro m ds G hm hl ⟨rfl, hG⟩
  have hm' : m + 2200 ≤ 1000000000 := hm
  walk_at "cx"
  refine ws_seq (ws_asg (we_callP (i := 0) rfl ?_))
  walk_at "ge"
  refine ⟨(by show m + 1 ≤ 1000000000; omega), rfl, 12, rfl, by decide, by decide, fun d d0 d12 => ?_⟩
  walk_at "ge"
  refine ⟨(by show m + 1 + 1 ≤ 1000000000; omega), rfl, _, rfl, by decide, by decide, fun dw hdw => ?_⟩
  obtain ⟨wd, rfl, w3, w9⟩ : ∃ wd : Nat, dw = .int wd ∧ 3 ≤ wd ∧ wd ≤ 9000 := by
    simp only [List.mem_cons, List.not_mem_nil, or_false] at hdw
    rcases hdw with rfl | rfl | rfl
    · exact ⟨3, rfl, by decide, by decide⟩
    · exact ⟨9, rfl, by decide, by decide⟩
    · exact ⟨9000, rfl, by decide, by decide⟩
  walk_at "ge"
  refine ⟨(by show m + 1 + 1 + 1550 ≤ 1000000000; omega), rfl, (1 + d).toNat, wd, (by rw [Int.toNat_of_nonneg (by omega)]), by omega, by omega, w3, w9, fun ws hw hl2 hb => ?_⟩
  refine wg_name ?_
  refine ws_seq (ws_asg ?_)
  walk_at "ge"
  refine ⟨ws, rfl, hw, ?_⟩
  walk_at "ge"
  refine ⟨ws, rfl, hw, ?_⟩
  walk_at "ge"
  refine ⟨ws, rfl, hw, ?_⟩
  walk_at "ge"
  walk_at "lc"
  refine wi_any ?_
  walk_at "ge"
  refine ⟨wells_len hw.len, lcI_map (ws := ws) (enc := wellD) (res := fun v => .str v.1) rfl (fun u hu => ?_) ?_⟩
  · walk_at "seq"
    walk_at "ge"
    exact rfl
  walk_at "ge"
  walk_at "seq"
  walk_at "ge"
  refine ws_seq (ws_for (wi_range1 ?_))
  walk_at "ge"
  refine ⟨by decide, by decide, fun i ρ => ∃ (m' : Nat) (s8 s9 s10 s11 s12 s14 s15 s16 s17 s18 s19 s20 : SD), ρ = [SD.pot m', .d (.lst (ws.map wellD)), .d (fldD (FC K) ws), .d (sbD ws), .d (.lst (ws.map fun v => .str v.1)), .un, .un, .un, s8, s9, s10, s11, s12, .un, s14, s15, s16, s17, s18, s19, s20, .un, .un, .un, .un, .un] ∧ m' ≤ m + 1552 + 4 * i, ⟨m + 1552, _, _, _, _, _, _, _, _, _, _, _, _, rfl, Nat.le_refl _⟩, fun i ρi x hx ⟨m', s8, s9, s10, s11, s12, s14, s15, s16, s17, s18, s19, s20, hρ, e1⟩ => ?_, fun ρ' ⟨m', s8, s9, s10, s11, s12, s14, s15, s16, s17, s18, s19, s20, hρ, e1⟩ => ?_⟩
  · have hi := (rangeD_at hx).1
    subst hρ
    refine wg_name ?_
    refine ws_seq (ws_asg ?_)
    walk_at "lc"
    refine wi_range1 ?_
    walk_at "ge"
    refine ⟨by decide, by decide, by rw [rangeD_len]; decide, fun k acc ρ' => ∃ (us : List Well) (m2 : Nat), ρ' = [SD.pot m2, .d (.lst (ws.map wellD)), .d (fldD (FC K) ws), .d (sbD ws), .d (.lst (ws.map fun v => .str v.1)), .un, .un, .un, .d (.int (i : Nat)), s9, s10, s11, s12, .un, s14, s15, s16, s17, s18, s19, s20, .un, .un, .un, .un, .un] ∧ acc = us.map (fun v => .str v.1) ∧ us.length = k ∧ (∀ u ∈ us, u ∈ ws) ∧ m2 ≤ m' + k, ?_, ?_, ?_, ?_⟩
    · exact ⟨[], m', by rw [(rangeD_at hx).2]; rfl, rfl, rfl, (fun u hu => nomatch hu), Nat.le_refl _⟩
    · rintro k acc ρ' ⟨us, m2, rfl, _⟩
      exact ⟨rfl, rfl⟩
    · rintro k acc ρi x2 hx2 hl3 ⟨us, m2, rfl, rfl, u1, u2, u3⟩
      have hk := (rangeD_at hx2).1
      refine wg_name ?_
      refine wt_yes ⟨fun _ => ?_, (fun z => by cases z)⟩
      refine we_callP (i := 0) rfl (wa_cons (we_var rfl (wa_nil ?_)))
      refine ⟨m2, rfl, (by show m2 + 1 ≤ 1000000000; omega), rfl, _, rfl, (by rw [List.length_map]; exact List.length_pos_iff.mpr hw.ne), (by rw [List.length_map]; exact Nat.le_trans hw.len (by decide)), fun d3 hd3 => ?_⟩
      obtain ⟨u, hu, rfl⟩ := List.mem_map.mp hd3
      refine ⟨us ++ [u], m2 + 1, rfl, by rw [List.map_append]; rfl, by rw [List.length_append, u1]; rfl, fun v hv => ?_, by omega⟩
      rcases List.mem_append.mp hv with hv | hv
      · exact u2 v hv
      · rw [List.mem_singleton.mp hv]
        exact hu
    · rintro acc ρ' ⟨us, m2, rfl, rfl, u1, u2, u3⟩
      rw [rangeD_len] at u1 u3
      obtain ⟨a, b, c, d2, rfl⟩ : ∃ a b c d2, us = [a, b, c, d2] := four u1
      have ma := u2 a (by simp)
      have mb := u2 b (by simp)
      have mc := u2 c (by simp)
      have md := u2 d2 (by simp)
      refine wg_seq ⟨[.str a.1, .str b.1, .str c.1, .str d2.1], .inr rfl, rfl, ?_⟩
      walk_at "ge"
      walk_at "nm"
      refine ws_seq (ws_asg ?_)
      walk_at "lc"
      refine wi_any ?_
      walk_at "ge"
      refine lcI_map (ws := [a, b, c, d2]) (enc := fun v => .str v.1) (res := fun v => spD v.2) rfl (fun u hu => ?_) ?_
      · walk_at "ge"
        refine q_ixD (k := .inr u.1) rfl (look_sb hw.names (u2 u hu)) ?_
        exact ⟨rfl, rfl⟩
      refine wg_seq ⟨[spD a.2, spD b.2, spD c.2, spD d2.2], .inr rfl, rfl, ?_⟩
      walk_at "ge"
      have oa := hw.spot ma
      have ob := hw.spot mb
      have oc := hw.spot mc
      have od := hw.spot md
      walk_at "nm"
      refine ws_seq (ws_asg ?_)
      walk_at "ge"
      refine ⟨a.2, b.2, c.2, rfl, oa, ob, oc, ?_⟩
      walk_at "ge"
      refine ⟨_, rfl, ?_⟩
      walk_at "ge"
      walk_at "nm"
      refine ws_seq (ws_if (wt_test ?_))
      walk_at "ge"
      refine ⟨ws, a, b, c, rfl, hw, ma, mb, mc, ?_⟩
      have sl : ∀ x : Int, (sgI x).natAbs.log2 < 1920 := fun x => log_small (k := 2) (Nat.lt_of_le_of_lt sg_le (by decide)) (by decide) (by decide)
      walk_at "ge"
      refine q_rI (sl _) ?_
      walk_at "ge"
      refine q_rI (sl _) ?_
      walk_at "ge"
      refine ⟨(fun z => by simp at z), fun _ => ?_⟩
      refine ws_next ?_
      walk_at "nm"
      refine ws_seq (ws_if (wt_or (wt_test ?_)))
      walk_at "ge"
      refine ⟨ws, b, c, a, rfl, hw, mb, mc, ma, ?_⟩
      walk_at "ge"
      rw [bend_rot]
      refine ⟨fun _ => ?_, (fun z => by simp at z)⟩
      walk_at "ge"
      refine ⟨ws, b, a, c, rfl, hw, mb, ma, mc, ?_⟩
      walk_at "ge"
      rw [bend_swap, sg_opp]
      refine ⟨(fun z => by simp at z), fun _ => ?_⟩
      obtain ⟨oa1, oa2⟩ := id oa
      obtain ⟨ob1, ob2⟩ := id ob
      refine ws_next ?_
      walk_at "nm"
      refine ws_seq (ws_asg ?_)
      walk_at "ge"
      walk_at "nm"
      refine ws_seq (ws_if (wt_or (wt_test ?_)))
      walk_at "ge"
      refine ⟨ws, a, b, rfl, hw, ma, mb, ?_⟩
      walk_at "ge"
      refine q_rI (sq_small oa ob) ?_
      walk_at "ge"
      refine q_rI (sq_small oa ob) ?_
      walk_at "ge"
      refine ⟨fun _ => ?_, (fun z => by simp [sqI] at z)⟩
      walk_at "ge"
      refine ⟨ws, b, a, rfl, hw, mb, ma, ?_⟩
      walk_at "ge"
      rw [sq_comm]
      refine ⟨(fun z => by simp [sqI] at z), fun _ => ?_⟩
      refine ws_next ?_
      walk_at "nm"
      refine ws_seq (ws_if (wt_test ?_))
      walk_at "ge"
      refine ⟨ws, a, b, c, rfl, hw, ma, mb, mc, ?_⟩
      walk_at "ge"
      refine ⟨a.2, b.2, c.2, rfl, oa, ob, oc, ?_⟩
      walk_at "ge"
      refine ⟨(fun z => by simp at z), fun _ => ?_⟩
      refine ws_next ?_
      walk_at "nm"
      refine ws_seq (ws_asg ?_)
      walk_at "ge"
      refine ⟨a.2, b.2, c.2, d2.2, rfl, oa, ob, oc, od, ?_⟩
      walk_at "ge"
      walk_at "nm"
      refine ws_seq (ws_if (wt_test ?_))
      walk_at "ge"
      refine ⟨ws, a, b, c, d2, rfl, hw, ma, mb, mc, md, ?_⟩
      walk_at "ge"
      refine q_rS met_repr ?_
      walk_at "ge"
      refine q_rS met_repr ?_
      walk_at "ge"
      refine ⟨(fun z => by simp at z), fun _ => ?_⟩
      refine ws_next ?_
      walk_at "nm"
      refine ws_if (wt_test ?_)
      walk_at "ge"
      refine ⟨ws, c, d2, b, a, rfl, hw, mc, md, mb, ma, ?_⟩
      walk_at "ge"
      rw [met_comm]
      refine ⟨(fun z => by simp at z), fun _ => ?_⟩
      exact ws_next ⟨m2, _, _, _, _, _, _, _, _, _, _, _, _, rfl, by omega⟩
  · subst hρ
    rw [rangeD_len] at e1
    refine ws_seq (ws_asg ?_)
    walk_at "lc"
    refine wi_range1 ?_
    walk_at "ge"
    refine ⟨by decide, by decide, by rw [rangeD_len]; decide, fun k acc ρ' => ∃ (us : List Well) (m2 : Nat), ρ' = [SD.pot m2, .d (.lst (ws.map wellD)), .d (fldD (FC K) ws), .d (sbD ws), .d (.lst (ws.map fun v => .str v.1)), .un, .un, .un, .un, s9, s10, s11, s12, .un, s14, s15, s16, s17, s18, s19, s20, .un, .un, .un, .un, .un] ∧ acc = us.map (fun v => .str v.1) ∧ us.length = k ∧ (∀ u ∈ us, u ∈ ws) ∧ m2 ≤ m' + k, ?_, ?_, ?_, ?_⟩
    · exact ⟨[], m', rfl, rfl, rfl, (fun u hu => nomatch hu), Nat.le_refl _⟩
    · rintro k acc ρ' ⟨us, m2, rfl, _⟩
      exact ⟨rfl, rfl⟩
    · rintro k acc ρi x2 hx2 hl3 ⟨us, m2, rfl, rfl, u1, u2, u3⟩
      have hk := (rangeD_at hx2).1
      refine wg_name ?_
      refine wt_yes ⟨fun _ => ?_, (fun z => by cases z)⟩
      refine we_callP (i := 0) rfl (wa_cons (we_var rfl (wa_nil ?_)))
      refine ⟨m2, rfl, (by show m2 + 1 ≤ 1000000000; omega), rfl, _, rfl, (by rw [List.length_map]; exact List.length_pos_iff.mpr hw.ne), (by rw [List.length_map]; exact Nat.le_trans hw.len (by decide)), fun d3 hd3 => ?_⟩
      obtain ⟨u, hu, rfl⟩ := List.mem_map.mp hd3
      refine ⟨us ++ [u], m2 + 1, rfl, by rw [List.map_append]; rfl, by rw [List.length_append, u1]; rfl, fun v hv => ?_, by omega⟩
      rcases List.mem_append.mp hv with hv | hv
      · exact u2 v hv
      · rw [List.mem_singleton.mp hv]
        exact hu
    · rintro acc ρ' ⟨us, m2, rfl, rfl, u1, u2, u3⟩
      rw [rangeD_len] at u1 u3
      obtain ⟨a, b, c, rfl⟩ : ∃ a b c, us = [a, b, c] := three u1
      have ma := u2 a (by simp)
      have mb := u2 b (by simp)
      have mc := u2 c (by simp)
      have oa := hw.spot ma
      have ob := hw.spot mb
      have oc := hw.spot mc
      refine wg_seq ⟨[.str a.1, .str b.1, .str c.1], .inr rfl, rfl, ?_⟩
      walk_at "ge"
      walk_at "nm"
      refine ws_seq (ws_asg ?_)
      walk_at "ge"
      refine ⟨(by show m2 + 1 ≤ 1000000000; omega), rfl, 900, rfl, by decide, by decide, fun r r0 r9 => ?_⟩
      walk_at "ge"
      have hwm : WsOk (mapW (fun p => (p.1 + (r - 450), p.2 + -7)) ws) := hw.map (fun p q e => by
        have e1 := congrArg Prod.fst e
        have e2 := congrArg Prod.snd e
        simp only at e1 e2
        exact Prod.ext (by omega) (by omega)) fun v hv => by
        obtain ⟨g1, g2⟩ := hb v hv
        refine ⟨?_, ?_⟩ <;> (simp only; omega)
      walk_at "nm"
      refine ws_seq (ws_asg ?_)
      walk_at "ge"
      refine ⟨ws, r - 450, -7, rfl, hw, hwm, ?_⟩
      refine wg_name ?_
      walk_at "nm"
      refine ws_seq (ws_if (wt_or (wt_test ?_)))
      walk_at "ge"
      refine ⟨_, rfl, ?_⟩
      walk_at "ge"
      walk_at "lc"
      refine wi_any ?_
      walk_at "ge"
      refine ⟨ws, rfl, ?_⟩
      walk_at "ge"
      refine ⟨wells_len hw.len, lcI_map (ws := ws) (enc := fun v => spD v.2) (res := fun v => spD (v.2.1 + (r - 450), v.2.2 - 7)) rfl (fun u hu => ?_) ?_⟩
      · walk_at "seq"
        walk_at "ge"
        exact rfl
      refine ⟨_, rfl, ?_⟩
      refine q_mapped (f := fun p => (p.1 + (r - 450), p.2 + -7)) (g := fun p => (p.1 + (r - 450), p.2 - 7)) (fun p => rfl) ?_
      walk_at "x1"
      refine ⟨fun _ => ?_, (fun z => by simp at z)⟩
      refine wt_test ?_
      walk_at "ge"
      refine ⟨_, rfl, ?_⟩
      walk_at "ge"
      refine ⟨_, rfl, ?_⟩
      refine q_namesM hw ?_
      walk_at "x1"
      refine ⟨(fun z => by simp at z), fun _ => ?_⟩
      refine ws_next ?_
      walk_at "nm"
      refine ws_seq (ws_par ?_)
      walk_at "ge"
      refine ⟨ws, rfl, hw, ?_⟩
      walk_at "ge"
      refine ⟨ws, rfl, hw, ?_⟩
      walk_at "ge"
      walk_at "nm"
      refine ws_seq (ws_if (wt_test ?_))
      walk_at "ge"
      refine ⟨_, rfl, ?_⟩
      walk_at "ge"
      walk_at "lc"
      refine wi_any ?_
      walk_at "ge"
      refine ⟨ws, rfl, ?_⟩
      walk_at "ge"
      refine ⟨wells_len hw.len, lcI_map (ws := ws) (enc := fun v => spD v.2) (res := fun v => spD (0 - v.2.2, v.2.1)) rfl (fun u hu => ?_) ?_⟩
      · walk_at "seq"
        walk_at "ge"
        exact rfl
      refine ⟨_, rfl, ?_⟩
      refine q_mapped (f := fun p => (0 - p.2, p.1)) (g := fun p => (0 - p.2, p.1)) (fun p => rfl) ?_
      walk_at "x1"
      refine ⟨(fun z => by simp at z), fun _ => ?_⟩
      refine ws_next ?_
      walk_at "nm"
      refine ws_seq (ws_if (wt_test ?_))
      walk_at "ge"
      refine ⟨_, rfl, ?_⟩
      walk_at "ge"
      walk_at "lc"
      refine wi_any ?_
      walk_at "ge"
      refine ⟨ws, rfl, ?_⟩
      walk_at "ge"
      refine ⟨wells_len hw.len, lcI_map (ws := ws) (enc := fun v => spD v.2) (res := fun v => spD (0 - v.2.1, v.2.2)) rfl (fun u hu => ?_) ?_⟩
      · walk_at "seq"
        walk_at "ge"
        exact rfl
      refine ⟨_, rfl, ?_⟩
      refine q_mapped (f := fun p => (0 - p.1, p.2)) (g := fun p => (0 - p.1, p.2)) (fun p => rfl) ?_
      walk_at "x1"
      refine ⟨(fun z => by simp at z), fun _ => ?_⟩
      refine ws_next ?_
      walk_at "nm"
      refine ws_seq (ws_asg ?_)
      walk_at "ge"
      refine ⟨ws, a, b, c, rfl, hw, ma, mb, mc, ?_⟩
      walk_at "ge"
      walk_at "nm"
      refine ws_seq (ws_if (wt_test ?_))
      walk_at "ge"
      walk_at "lc"
      refine wi_any ?_
      walk_at "ge"
      have wt := wsOk_turned hw
      have wm := wsOk_mirrored hw
      refine lcI_map (ws := [(fun p : Spot => (p.1 + (r - 450), p.2 + -7)), (fun p => (0 - p.2, p.1)), (fun p => (0 - p.1, p.2))]) (enc := fun f => fldD (FC K) (mapW f ws)) (res := fun f => .int (sgI (bendI (f a.2) (f b.2) (f c.2)))) rfl (fun f hf => ?_) ?_
      · have ok : WsOk (mapW f ws) := by
          simp only [List.mem_cons, List.not_mem_nil, or_false] at hf
          rcases hf with rfl | rfl | rfl
          · exact hwm
          · exact wt
          · exact wm
        walk_at "ge"
        refine ⟨mapW f ws, (a.1, f a.2), (b.1, f b.2), (c.1, f c.2), rfl, ok, mem_mapW ma, mem_mapW mb, mem_mapW mc, ?_⟩
        exact ⟨rfl, rfl⟩
      have e3 : ([(fun p : Spot => (p.1 + (r - 450), p.2 + -7)), (fun p => (0 - p.2, p.1)), (fun p => (0 - p.1, p.2))].map fun f : Spot → Spot => D.int (sgI (bendI (f a.2) (f b.2) (f c.2)))) = [.int (sgI (bendI a.2 b.2 c.2)), .int (sgI (bendI a.2 b.2 c.2)), .int (0 - sgI (bendI a.2 b.2 c.2))] := by
        simp only [List.map_cons, List.map_nil, bend_move, bend_turn, bend_glass, sg_opp]
      rw [e3]
      walk_at "nm"
      walk_at "ge"
      have oki : (D.lst [.int (sgI (bendI a.2 b.2 c.2)), .int (sgI (bendI a.2 b.2 c.2)), .int (0 - sgI (bendI a.2 b.2 c.2))]).ok = true := rfl
      refine q_eqL oki oki ?_
      rw [eqb_refl oki]
      walk_at "x1"
      refine ⟨(fun z => by simp at z), fun _ => ?_⟩
      refine ws_next ?_
      walk_at "nm"
      refine ws_ret ?_
      walk_at "ge"
      refine we_eqI ?_
      walk_at "ge"
      have wt2 := wsOk_turned wt
      have wt3 := wsOk_turned wt2
      have wm2 : WsOk (mapW (fun p => (p.1 + (0 - (r - 450)), p.2 + 7)) (mapW (fun p => (p.1 + (r - 450), p.2 + -7)) ws)) := by
        rw [move2]
        exact hw
      refine ⟨_, rfl, wt, ?_⟩
      walk_at "ge"
      refine ⟨_, rfl, wt2, ?_⟩
      walk_at "ge"
      refine ⟨_, rfl, wt3, ?_⟩
      walk_at "ge"
      refine ⟨_, _, rfl, rfl, ⟨_, _, rfl, by rw [turn4], rfl⟩, ?_⟩
      walk_at "x1"
      refine ⟨fun _ => ?_, (fun z => by cases z)⟩
      walk_at "ge"
      refine we_eqI ?_
      walk_at "ge"
      refine ⟨_, rfl, wm, ?_⟩
      walk_at "ge"
      refine ⟨_, _, rfl, rfl, ⟨_, _, rfl, by rw [glass2], rfl⟩, ?_⟩
      walk_at "x1"
      refine ⟨fun _ => ?_, (fun z => by cases z)⟩
      refine we_eqI ?_
      walk_at "ge"
      refine ⟨_, 0 - (r - 450), 7, rfl, hwm, wm2, ?_⟩
      walk_at "ge"
      refine ⟨_, _, rfl, rfl, ⟨_, _, rfl, by rw [move2], rfl⟩, ?_⟩
      exact ⟨hG, _, rfl, by omega⟩
theorem sc_law : FnScope ["script", "place", "pot", "lap"] ["script"] (defScope slaw) := ⟨rfl, rfl, rfl, by decide +kernel, rfl, by decide +kernel, by decide +kernel⟩
theorem g_law (T : Tx K mg) : ∃ (f : Addr) (fd : FuncData), mg ("law" : Str) = some (.ref f) ∧ (∀ (s : Shared) (v : Value), BindsTo s fd ⟨[v], []⟩ [("script", v)]) ∧ ∀ base : Heap, FnOk P w K mg base CX0 10 f fd ["script"] (pureSp K 1 Slaw) := by
  obtain ⟨fd, F⟩ := Lh.def_of T.d 39 (d := dslaw)
  have b := FunD.bindsA (ps := ["script"]) F fun _ _ _ _ _ _ us hl => match us, hl with | [_], _ => rfl
  refine ⟨_, fd, T.glo "law" 39, fun s v => b s [v] rfl, fun base => ?_⟩
  have nd := sc_law.nd
  refine Lw.fn_pure F sc_law rfl (by decide) fun cdv A outer s H E hr => ?_
  have hr65 := Lw.room65 hr
  refine ⟨_, (pss_cons (ps_for PassesOwn.never rfl (pi_anyK K (pe_callF (c__law_cells (P := P) (w := w) (K := K) (mg := mg) (base := base) T) (hr.mono (by decide)) (pa_cons (pv 0) (pa_cons pe_int pa_nil)))) (pg_name (i := 1) nd rfl (.inl rfl)) (pss_cons (ps_set (i := 2) nd rfl (Or.inr rfl) (pe_callF (c__law_pot (P := P) (w := w) (K := K) (mg := mg) (base := base) T) (hr.mono (by decide)) (pa_cons (pv 0) (pa_cons (pv 1) pa_nil))))
      (pss_one (ps_if (pt_not (pt_val (pe_callB (cr_allK K rfl) (by rfl) (T.free "all" 52) (by decide +kernel) (pa_cons (pe_lc (own := [("lap", 3)]) (by rfl) nd (pi_range1 rfl (T.free "range" 64) (pa_cons pe_int pa_nil)) (blkOk_by (N := ["script", "place", "pot", "lap"]) (sc := defScope slaw) (by decide +kernel)) (fun _ _ _ _ _ => (pg_name (i := 3) nd rfl (.inl rfl))) (fun _ _ _ _ _ => pts_nil) (fun _ _ _ _ _ => (pe_callF (c__law_right (P := P) (w := w) (K := K) (mg := mg) (base := base) T) (hr.mono (by decide)) (pa_cons (pv 2) pa_nil)))) pa_nil)))) (pss_one (ps_ret pe_bl)) pss_nil))))
      (pss_one (ps_ret pe_bl))), ?_⟩
  rintro ds G hl ⟨sc, rfl, hG⟩
  walk_at "cx"
  refine ws_seq (ws_for (wi_any ?_))
  walk_at "ge"
  refine ⟨sc.map D.int, rfl, fun n n1 n3 => ?_⟩
  refine ⟨_, rfl, fun i ρ => ∃ s1 s2 s3, ρ = [SD.d (.frl (sc.map D.int)), s1, s2, s3], ⟨_, _, _, rfl⟩, fun i ρi x hx ⟨s1, s2, s3, hρ⟩ => ?_, fun ρ' ⟨s1, s2, s3, hρ⟩ => ?_⟩
  · obtain ⟨hi, rfl⟩ := rangeD_at (a := n) hx
    subst hρ
    refine wg_name ?_
    refine ws_seq (ws_own (wn_call ?_))
    walk_at "ge"
    refine ⟨sc, i, rfl, by omega, fun a b a0 b0 b1 => ?_⟩
    refine ws_if (wt_not (wt_B (we_all ?_)))
    walk_at "lc"
    refine wi_range1 ?_
    walk_at "ge"
    refine ⟨by decide, by decide, by rw [rangeD_len]; decide, fun k acc ρ' => ∃ a b c, PotI a b c (2200 * k) ∧ ρ' = [SD.d (.frl (sc.map D.int)), .d (.int i), .ow [.int a, .int b, .int c], .un] ∧ acc = List.replicate k (.bl true), ?_, ?_, ?_, ?_⟩
    · exact ⟨a, b, 0, ⟨a0, b0, b1, by decide, by decide⟩, rfl, rfl⟩
    · rintro k acc ρ' ⟨a, b, c, p, rfl, _⟩
      exact ⟨rfl, rfl⟩
    · rintro k acc ρi x hx hl2 ⟨a, b, c, p, rfl, rfl⟩
      have hk := (rangeD_at hx).1
      refine wg_name ?_
      refine wt_yes ⟨fun _ => ?_, (fun z => by cases z)⟩
      refine we_callPO (i := 2) rfl (wa_nil ?_)
      refine ⟨a, b, c, 2200 * k, rfl, p, (by show 2200 * k + 2200 ≤ 1000000000; omega), rfl, rfl, fun a' b' c' p' => ?_⟩
      exact ⟨a', b', c', p', rfl, by rw [List.replicate_succ']⟩
    · rintro acc ρ' ⟨a, b, c, p, rfl, rfl⟩
      refine q_bools (bs := [true, true]) rfl ?_
      walk_at "x1"
      refine ⟨(fun z => by cases z), fun _ => ?_⟩
      exact ws_next ⟨_, _, _, rfl⟩
  · subst hρ
    walk_at "go"
    exact hG
end
end Law
open PySem PySem.W PySem.Calls PyProof.Rows
theorem PySem.Challenge.cw_whosewell_k01_whole_turns_and_meetings_holds : PySem.Challenge.rw_whosewell_k01_whole_turns_and_meetings.Holds := by
  w_on; o_law
  refine HandSHeadRun.head_any (r := Law.Rw) (q := view Law.Rw.prog [60]) (H := Law.hk) (ob := Law.ob) (M := 6000) (loose := Law.looseL) (d := HandSHeadRun.topDef Law.Rw.prog 60) (kwd := []) Law.ob_eq
    (by kernel_rfl) (fun s => by kernel_rfl) Law.run (by kernel_rfl) (by kernel_rfl) (by kernel_rfl) (by rfl) (by first | assumption | decide +kernel) (by decide +kernel) ⟨rfl, rfl, rfl, rfl, rfl, by decide +kernel⟩ ?hw ?hc
  case hw => w_witness2
  case hc =>
    refine L2.walk_ofE (l := PySem.Challenge.rw_whosewell_k01_whole_turns_and_meetings) (n := 63) (k := 10) (x := "script") (CX := L2.CX0) rfl (by decide) (by kernel_rfl) ⟨rfl, by decide, by decide⟩ ?F (fun _ _ _ _ z => z)
    intro w mg fa h Y G hmg0
    obtain ⟨K, KX, c⟩ := Y
    have hmg : mg ("law" : PySem.Str) = some (.ref fa) := by
      have e : (HandSHeadRun.topDef Law.Rw.prog 60).name = ("law" : PySem.Str) := by kernel_rfl
      rw [← e]
      exact hmg0
    obtain ⟨f, fd, e, hb, hF⟩ := Law.g_law (P := (PySem.Challenge.rw_whosewell_k01_whole_turns_and_meetings).prog) (w := w) ⟨⟨h, KX, G⟩, c⟩
    have e2 := hmg.symm.trans e
    cases e2
    refine ⟨K, fd, _, KX, hb, fun H a ns hl _ hS => ⟨H, _, _, L2.Same.refl H, .cons (.frl hS (Law.ints_ra ns)) .nil, rfl, ⟨ns, rfl, rfl⟩, fun v d B' H' hd _ hr => ?_⟩, fun base _ _ => hF base⟩
    subst hd
    exact Lw.rbl hr
